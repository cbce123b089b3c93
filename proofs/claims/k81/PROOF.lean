import PyProof.Rows.All
import HandS.ForMost
import HandS.ForExc
import HandS.Conv
import HandS.TupAny
import KE.KIndexOf
import HandS.Deep
import HandS.WordsDict
import HandS.SortInts
import HandS.More
import KE.DataMinMax
import KE.SortData
import HandS.Small
import KE.GoesEnum
import HandS.IsInst
import HandS.Style
import HandS.SetFor
import HandS.Strs
import KE.GoesMore
import PyProof.AutoSeq1
import HandS.TupMul
import HandS.NoneIn
import PyProof.TupleOfSeq
import HandS.Dict
import KE.KDictList
import PyProof.DictValues
import HandS.ClsMeth
import HandS.ExcInit
import HandS.ExcField
import HandS.ExcIs
import HandS.TryOnly
import KE.KExcIs
import HandS.HotCalls
import PyProof.Rows.IntBool
import PyProof.SumWalkG
import PyProof.WalksMore
import PyProof.DictUpdate
import HandS.Text
import HandS.TupSets
import HandS.OwnEq
import PySem.Challenge.RW_rimasks_k81_lines_of_webs
import KE.IntTextLaws
import PyProof.Rows.StrMul
set_option Elab.async false
set_option linter.all false
set_option maxRecDepth 100000
set_option maxHeartbeats 4000000
/-! Tuples of which is known that they have no dict: all that this layer makes are such. -/
namespace DL
open PySem PySem.Spec L2
def TupR (K : PySem.W.Frag) (H : Hp) (a : Addr) (vs : List V) : Prop := (∃ o, H a = some (.frz o (.tup vs)) ∧ o.dict = none) ∨
  ∃ (o : Obj) (its : Array Value) (n : Nat), K.lookup a = some o ∧ o.dict = none ∧ o.cls = .type "tuple" ∧ o.data = .seq its n ∧ its.size ≤ sizeLine ∧ Vals vs its.toList
theorem TupR.sq {K : PySem.W.Frag} {H : Hp} {a : Addr} {vs : List V} (h : TupR K H a vs) : SqT K H a vs := by
  rcases h with ⟨o, h, _⟩ | ⟨o, its, n, h1, _, h2, h3, h4, h5⟩
  · exact .inl (.inr ⟨o, h⟩)
  · exact .inr ⟨o, its, n, h1, h2, h3, h4, h5⟩
/-- a new tuple that may be anywhere -/
def newT (H : Hp) (vs : List V) (Q : VK) : Prop := ∀ p o, H p = none → o.dict = none → Q (.ref p) (upd H p (.frz o (.tup vs)))
abbrev tupObj (its : List Value) : Obj := { cls := .type "tuple", data := .seq its.toArray }
section
variable {X : Cx} {pins : List (Addr × Obj)} {σ : L2.St} {H : Hp} {s : Shared}
theorem laidT {its : List Value} {vs : List V} {t' : Nat} (I : Inv X pins σ H s) (r : Vals vs its) (hz : vs.length ≤ sizeLine) :
    Inv X pins σ (upd H s.heap.objs.size (.frz (tupObj its) (.tup vs))) { s with heap := s.heap.push (tupObj its), toks := t' } :=
  I.laid (fun b u e => Heap.get?_push_of_some _ e) (Nat.le_refl _)
    ⟨Heap.get?_push_size _ rfl, show ObjOk X.prog X.w _ _ _ (.tup vs) from ⟨hz, its, r, PyProof.Rows.IsTup.new _ _⟩⟩
theorem newT_fin {its : List Value} {vs : List V} {t' : Nat} {Q : VK} (I : Inv X pins σ H s) (r : Vals vs its) (hz : vs.length ≤ sizeLine) (q : newT H vs Q) :
    EP X pins σ Q (.ref s.heap.objs.size) { s with heap := s.heap.push (tupObj its), toks := t' } :=
  ⟨.ref s.heap.objs.size, _, laidT I r hz, rfl, q _ _ (I.hok.fresh (Nat.le_refl _)) rfl⟩
theorem tuple_dict {a : Addr} {vs : List V} (I : Inv X pins σ H s) (h : TupR X.K H a vs) :
    ∃ its : List Value, Vals vs its ∧ PyProof.Rows.IsTup s.heap a its.toArray ∧ vs.length ≤ sizeLine ∧ ∃ ob, s.heap.get? a = some ob ∧ ob.dict = none := by
  obtain ⟨its, r, p, hz⟩ := I.tuple h.sq
  refine ⟨its, r, p, hz, ?_⟩
  rcases h with ⟨o, h, d⟩ | ⟨o, _, _, h1, d, _⟩
  · exact ⟨o, (I.hok _ _ h).1, d⟩
  · exact ⟨o, I.kIn a o h1, d⟩
end
section
variable {X : Cx} {es : List Expr} {t : TA} {pos : Pos}
def tTupF (t : TA) : TE := fun σ H Q => t σ H fun xs H1 => xs.length ≤ sizeLine ∧ newT H1 xs Q
theorem pe_tupF {k : Nat} (h : PA X es t) : PE X (.Tuple es k pos) (tTupF t) :=
  ⟨fun pins s σ H Q I hq => wpAny_Tuple_spliced (thn (h.run pos pins s σ H _ I hq)
    fun us s1 ⟨xs, H1, I1, r, z, q⟩ => ⟨by rw [← r.length]; exact z, newT_fin (t' := s1.toks) I1 r z q⟩)⟩
/-- t + u -/
def rCatF (K : PySem.W.Frag) : R2 := fun x y H Q => ∃ a b xs ys, x = .ref a ∧ y = .ref b ∧ SqT K H a xs ∧ SqT K H b ys ∧ xs.length + ys.length ≤ sizeLine ∧
  (xs = [] → Q (.ref b) H) ∧ (xs ≠ [] → ys = [] → Q (.ref a) H) ∧ (xs ≠ [] → ys ≠ [] → newT H (xs ++ ys) Q)
theorem op_catF : OpR X (binaryOp .Add) (rCatF X.K) := fun pins s σ H _ _ v u Q I rx ry ⟨a, b, xs, ys, ex, ey, ha, hb, hz, q0, q1, q2⟩ => by
  rcases Decidable.em (xs = [] ∨ ys = []) with void | full
  · -- one of them is void: the other one itself
    exact op_catA pins s σ H _ _ v u Q I rx ry ⟨a, b, xs, ys, ex, ey, ha, hb, hz, q0, q1, fun n1 n2 => (void.elim n1 n2).elim⟩
  · obtain ⟨n1, n2⟩ := not_or.mp full
    subst ex ey
    cases rx
    cases ry
    have ⟨us, ru, tu, _⟩ := I.tuple ha
    have ⟨ws, rw', tw, _⟩ := I.tuple hb
    apply HT.cat_tup tu tw
    · exact fun z => n1 (ru.nil_iff.mp z)
    · exact fun z => (n2 (rw'.nil_iff.mp z)).elim
    · exact fun _ => newT_fin I (ru.append rw') (List.length_append ▸ hz) (q2 n1 n2)
    · exact ru.length ▸ rw'.length ▸ hz
/-- t[lo:hi] -/
def whole (n : Nat) (lo hi : Option Int) : Prop := HT.sIx n 0 lo = 0 ∧ HT.sIx n n hi = n
def rSlF (K : PySem.W.Frag) : V → Option Int → Option Int → Hp → VK → Prop := fun x lo hi H Q =>
  ∃ a xs, x = .ref a ∧ SqT K H a xs ∧ (whole xs.length lo hi → Q (.ref a) H) ∧ (¬ whole xs.length lo hi → newT H (cutV xs lo hi) Q)
theorem cutV_vals {xs : List V} {its : List Value} (r : Vals xs its) (lo hi : Option Int) :
    Vals (cutV xs lo hi) ((its.drop (HT.sIx its.length 0 lo)).take (HT.sIx its.length its.length hi - HT.sIx its.length 0 lo)) := by
  unfold cutV
  rw [r.length]
  exact (r.drop _).take _
theorem sl_tupF : SlR X (rSlF X.K) := fun pins s σ H _ v vl vu lo hi sl Q I rx hs pl pu ⟨a, xs, ex, hx, all, part⟩ => by
  by_cases hw : whole xs.length lo hi
  · exact sl_tupA pins s σ H _ v vl vu lo hi sl Q I rx hs pl pu ⟨a, xs, ex, hx, fun _ => all hw, fun n => (n hw).elim⟩
  · subst ex
    cases rx
    have ⟨us, ru, tu, small⟩ := I.tuple hx
    have size : us.toArray.size = xs.length := List.size_toArray.trans ru.length.symm
    have piece := newT_fin (t' := s.toks) I (cutV_vals ru lo hi) (Nat.le_trans (cutV_length ..) small) (part hw)
    exact ⟨"tuple", _, PyProof.Rows.slot_tuple_getitem.lookup, tu.typeIs, HT.getItem_tuple_cut tu hs pl pu (size ▸ hw) (by simpa using piece) (size ▸ small)⟩
/-- tuple(xs) -/
def rTupOf (K : PySem.W.Frag) : List V → Hp → VK → Prop := fun xs H Q => ∃ p ys, xs = [.ref p] ∧ ((SqL K H p ys ∧ newT H ys Q) ∨ (SqT K H p ys ∧ Q (.ref p) H))
theorem call_tupOf : CallR X (.type "tuple") (rTupOf X.K) := fun pins s σ H _ us Q I r ⟨p, ys, ex, h⟩ => by
  cases h with
  | inr own => exact call_tuple_of pins s σ H _ us Q I r ⟨p, ys, ex, .inr own⟩
  | inl new =>
    subst ex
    rw [Vals.ref1 r]
    have ⟨ws, rw', lw, small⟩ := I.list new.1
    have few : ws.toArray.size ≤ sizeLine := by simpa [← rw'.length] using small
    exact call_tuple_list lw.isList (fun g kept => newT_fin (s := { s with heap := g }) (I.kept (t' := s.toks) kept) rw' small new.2) few
end
/-! ### t.index(x) -/
section
variable {X : Cx} {o e : Expr} {to te : TE} {apos cpos : Pos} {rr : V → List V → Hp → VK → Prop} {name : Str} {id : String}
/-- a method of a tuple -/
def tTM (K : PySem.W.Frag) (r : V → List V → Hp → VK → Prop) (to : TE) (t : TA) : TE := fun σ H Q => to σ H fun x H1 => (∃ a vs, x = .ref a ∧ TupR K H1 a vs) ∧ t σ H1 fun xs H2 => r x xs H2 Q
/-- how a method's call is written: what the model looks at ahead of it -/
structure Written (X : Cx) (o e : Expr) (es : List Expr) (name : Str) (apos cpos : Pos) : Prop where
  base : attributeBase o name X.env (eval o X.env) = eval o X.env
  few : (((backTo cpos (starEach (e :: es) X.env)).all fun x => !x.1) && (backToKw cpos (keywordEach [] X.env)).all (fun x => x.1.isSome) && decide ((e :: es).length + 0 + 0 < 30)) = true
  line : (apos.endLine == cpos.line) = true
  first : starEach (e :: es) X.env = (false, eval e X.env) :: starEach es X.env
  plain : (backTo cpos (starEach es X.env)).any (·.1) = false
theorem pe_tm {es : List Expr} {t : TA} (slot : Slot "tuple" name id) (hty : typeOf (.builtin id) = pure (.type "method_descriptor")) (hm : MtR X id rr) (ho : PE X o to) (ha : PA X (e :: es) t)
    (W : Written X o e es name apos cpos := by exact ⟨rfl, rfl, rfl, rfl, rfl⟩) : PE X (.Call (.Attribute o name apos) (e :: es) [] cpos) (tTM X.K rr to t) where
  run pins s σ H Q I h := wpAny_Call_method_late W.base W.few W.line rfl <| thn (ho.run pins s σ H _ I h) <| by
    rintro _ s1 ⟨_, H1, I1, told1, ⟨a, vs, rfl, tr⟩, args⟩
    cases told1
    have ⟨_, _, tup, _, bare⟩ := tuple_dict I1 tr
    refine ⟨"tuple", id, PySem.F.plainAttrs_tuple, slot, hty, tup.typeIs, fun _ eb => by cases eb; exact bare, ?_⟩
    have told := ha.run cpos pins s1 σ H1 _ I1 args
    rw [W.first] at told ⊢
    exact Calls.callWith_builtin (by simpa [backTo] using W.plain) (Calls.evalArgs_plain (thn told fun us s2 ⟨ws, H2, I2, r2, q2⟩ => hm pins s2 σ H2 (.ref a) ws _ us Q I2 rfl r2 q2))
/-- its first place, of ints -/
def rTIdx (K : PySem.W.Frag) : V → List V → Hp → VK → Prop := fun x xs H Q => ∃ (a : Addr) (ns : List Int) (k : Int), x = .ref a ∧ xs = [.int k] ∧ SqT K H a (ns.map V.int) ∧ k ∈ ns ∧ Q (.int (ns.idxOf k : Nat)) H
theorem mt_tidx : MtR X "tuple.index" (rTIdx X.K) := by
  rintro pins s σ H _ _ _ us Q I at1 args ⟨a, ns, k, rfl, rfl, ht, mem, q⟩
  cases at1
  cases args with
  | cons one rest =>
    cases rest
    obtain ⟨t, rfl⟩ := one
    obtain ⟨_, nums, tup, _⟩ := I.tuple ht
    exact PySem.SeqAt.tuple_index_ints tup nums.ints mem ⟨.int _, H, I.tok _, ⟨_, rfl⟩, q⟩
end
end DL
/-! Data by value over the hand layer: what stands in a frame's slots, and what it owns. -/
namespace DL
open PySem PySem.Spec L2
inductive D where
  | non | bl (b : Bool) | int (i : Int) | str (x : Str)
  | tup (ds : List D) | lst (ds : List D) | flst (ds : List D) | dic (kvs : List (Key × D)) | fdic (kvs : List (Key × D))
  | exc (a : Addr) (c : Str) (dd : Addr) (kvs : List (Key × D))
mutual
/-- holds nothing that may be changed -/
def imm : D → Bool
  | .non => true | .bl _ => true | .int _ => true | .str _ => true
  | .tup ds => immL ds
  | .lst _ => false
  | .flst ds => immL ds
  | .dic _ => false
  | .fdic kvs => immK kvs
  | .exc _ _ _ kvs => immK kvs
def immL : List D → Bool
  | [] => true
  | d :: ds => imm d && immL ds
def immK : List (Key × D) → Bool
  | [] => true
  | (_, d) :: r => imm d && immK r
end
/-- a list that nobody changes any more -/
def SqF (K : PySem.W.Frag) (H : Hp) (a : Addr) (vs : List V) : Prop := (∃ o, H a = some (.frz o (.lst vs))) ∨ SqL K (fun _ => none) a vs
/-- the fields of a caught exception -/
def fldOf : Key → Str
  | .inr x => x
  | .inl _ => ""
def xdOf (ws : List (Key × V)) : List (Str × V) := ws.map fun kv => (fldOf kv.1, kv.2)
mutual
/-- the value v is d, by the heap H; what it owns: f -/
def Rep (K : PySem.W.Frag) (H : Hp) : D → V → List Addr → Prop
  | .non, v, f => v = .non ∧ f = []
  | .bl b, v, f => v = .bl b ∧ f = []
  | .int i, v, f => v = .int i ∧ f = []
  | .str x, v, f => v = .str x ∧ f = []
  | .tup ds, v, f => ∃ a vs, v = .ref a ∧ TupR K H a vs ∧ RepL K H ds vs f
  | .lst ds, v, f => ∃ a vs g, v = .ref a ∧ H a = some (.lst vs) ∧ f = a :: g ∧ RepL K H ds vs g
  | .flst ds, v, f => ∃ a vs, v = .ref a ∧ SqF K H a vs ∧ RepL K H ds vs f
  | .dic kvs, v, f => ∃ a ws g, v = .ref a ∧ H a = some (.dK ws) ∧ f = a :: g ∧ RepK K H kvs ws g
  | .fdic kvs, v, f => ∃ a ws, v = .ref a ∧ (∃ o, H a = some (.frz o (.dK ws))) ∧ RepK K H kvs ws f
  | .exc a _ dd kvs, v, f => ∃ ws, v = .ref a ∧ H dd = some (.xd (xdOf ws)) ∧ RepK K H kvs ws f
def RepL (K : PySem.W.Frag) (H : Hp) : List D → List V → List Addr → Prop
  | [], vs, f => vs = [] ∧ f = []
  | d :: ds, vs, f => ∃ v vs' f1 f2, vs = v :: vs' ∧ f = f1 ++ f2 ∧ Rep K H d v f1 ∧ RepL K H ds vs' f2
def RepK (K : PySem.W.Frag) (H : Hp) : List (Key × D) → List (Key × V) → List Addr → Prop
  | [], ws, f => ws = [] ∧ f = []
  | (k, d) :: r, ws, f => ∃ v ws' f1 f2, ws = (k, v) :: ws' ∧ f = f1 ++ f2 ∧ Rep K H d v f1 ∧ RepK K H r ws' f2
end
def MutO : Option HO → Prop
  | some (.lst _) => True
  | some (.dK _) => True
  | some (.ins _ _ _) => True
  | some (.own _) => True
  | _ => False
theorem MutO.some_ {o : Option HO} (h : MutO o) : ∃ u, o = some u := by
  cases o with
  | none => exact h.elim
  | some u => exact ⟨u, rfl⟩
section
variable {K : PySem.W.Frag} {H H' : Hp}
mutual
theorem Rep.mut : ∀ (d : D) (v : V) (f : List Addr), Rep K H d v f → ∀ a ∈ f, MutO (H a)
  | .non, v, f, h => by obtain ⟨_, rfl⟩ := h; intro a ha; cases ha
  | .bl _, v, f, h => by obtain ⟨_, rfl⟩ := h; intro a ha; cases ha
  | .int _, v, f, h => by obtain ⟨_, rfl⟩ := h; intro a ha; cases ha
  | .str _, v, f, h => by obtain ⟨_, rfl⟩ := h; intro a ha; cases ha
  | .tup ds, v, f, h => by obtain ⟨_, vs, _, _, h⟩ := h; exact RepL.mut ds vs f h
  | .lst ds, v, f, h => by
    obtain ⟨p, vs, g, _, e, rfl, h⟩ := h
    intro a ha
    rcases List.mem_cons.mp ha with rfl | ha
    · rw [e]; trivial
    · exact RepL.mut ds vs g h a ha
  | .flst ds, v, f, h => by obtain ⟨_, vs, _, _, h⟩ := h; exact RepL.mut ds vs f h
  | .dic kvs, v, f, h => by
    obtain ⟨p, ws, g, _, e, rfl, h⟩ := h
    intro a ha
    rcases List.mem_cons.mp ha with rfl | ha
    · rw [e]; trivial
    · exact RepK.mut kvs ws g h a ha
  | .fdic kvs, v, f, h => by obtain ⟨_, ws, _, _, h⟩ := h; exact RepK.mut kvs ws f h
  | .exc _ _ _ kvs, v, f, h => by obtain ⟨ws, _, _, h⟩ := h; exact RepK.mut kvs ws f h
theorem RepL.mut : ∀ (ds : List D) (vs : List V) (f : List Addr), RepL K H ds vs f → ∀ a ∈ f, MutO (H a)
  | [], vs, f, h => by obtain ⟨_, rfl⟩ := h; intro a ha; cases ha
  | d :: ds, vs, f, h => by
    obtain ⟨v, vs', f1, f2, _, rfl, h1, h2⟩ := h
    intro a ha
    rcases List.mem_append.mp ha with ha | ha
    · exact Rep.mut d v f1 h1 a ha
    · exact RepL.mut ds vs' f2 h2 a ha
theorem RepK.mut : ∀ (kvs : List (Key × D)) (ws : List (Key × V)) (f : List Addr), RepK K H kvs ws f → ∀ a ∈ f, MutO (H a)
  | [], ws, f, h => by obtain ⟨_, rfl⟩ := h; intro a ha; cases ha
  | (k, d) :: r, ws, f, h => by
    obtain ⟨v, ws', f1, f2, _, rfl, h1, h2⟩ := h
    intro a ha
    rcases List.mem_append.mp ha with ha | ha
    · exact Rep.mut d v f1 h1 a ha
    · exact RepK.mut r ws' f2 h2 a ha
end
/-- nothing but what may be changed, and nothing of f, is otherwise -/
def Keep (H : Hp) (f : List Addr) (H' : Hp) : Prop := ∀ a u, H a = some u → (¬ MutO (H a) ∨ a ∈ f) → H' a = some u
theorem Keep.sub {f g : List Addr} (k : Keep H f H') (h : ∀ a ∈ g, a ∈ f) : Keep H g H' := fun a u e q => k a u e (q.imp id (h a))
theorem tupR_keep {a : Addr} {vs : List V} {f : List Addr} (h : TupR K H a vs) (k : Keep H f H') : TupR K H' a vs := by
  rcases h with ⟨o, h, d⟩ | h
  · exact .inl ⟨o, k a _ h (.inl (by rw [h]; exact id)), d⟩
  · exact .inr h
theorem SqF.keep {a : Addr} {vs : List V} {f : List Addr} (h : SqF K H a vs) (k : Keep H f H') : SqF K H' a vs := by
  rcases h with ⟨o, h⟩ | h
  · exact .inl ⟨o, k a _ h (.inl (by rw [h]; exact id))⟩
  · exact .inr h
theorem SqF.seq {a : Addr} {vs : List V} (h : SqF K H a vs) : SqL K H a vs := by
  rcases h with ⟨o, h⟩ | h
  · exact .inl (.inr ⟨o, h⟩)
  · rcases h with (h | ⟨o, h⟩) | h
    · cases h
    · cases h
    · exact .inr h
mutual
theorem Rep.keep : ∀ (d : D) (v : V) (f : List Addr), Rep K H d v f → Keep H f H' → Rep K H' d v f
  | .non, v, f, h, _ => h
  | .bl _, v, f, h, _ => h
  | .int _, v, f, h, _ => h
  | .str _, v, f, h, _ => h
  | .tup ds, v, f, h, k => by
    obtain ⟨a, vs, e, q, h⟩ := h
    exact ⟨a, vs, e, tupR_keep q k, RepL.keep ds vs f h k⟩
  | .lst ds, v, f, h, k => by
    obtain ⟨p, vs, g, e1, e, rfl, h⟩ := h
    exact ⟨p, vs, g, e1, k p _ e (.inr List.mem_cons_self), rfl, RepL.keep ds vs g h (k.sub fun a ha => List.mem_cons_of_mem _ ha)⟩
  | .flst ds, v, f, h, k => by
    obtain ⟨a, vs, e, q, h⟩ := h
    exact ⟨a, vs, e, SqF.keep q k, RepL.keep ds vs f h k⟩
  | .dic kvs, v, f, h, k => by
    obtain ⟨p, ws, g, e1, e, rfl, h⟩ := h
    exact ⟨p, ws, g, e1, k p _ e (.inr List.mem_cons_self), rfl, RepK.keep kvs ws g h (k.sub fun a ha => List.mem_cons_of_mem _ ha)⟩
  | .fdic kvs, v, f, h, k => by
    obtain ⟨a, ws, e, ⟨o, q⟩, h⟩ := h
    exact ⟨a, ws, e, ⟨o, k a _ q (.inl (by rw [q]; exact id))⟩, RepK.keep kvs ws f h k⟩
  | .exc a C dd kvs, v, f, h, k => by
    obtain ⟨ws, e, q, h⟩ := h
    exact ⟨ws, e, k dd _ q (.inl (by rw [q]; exact id)), RepK.keep kvs ws f h k⟩
theorem RepL.keep : ∀ (ds : List D) (vs : List V) (f : List Addr), RepL K H ds vs f → Keep H f H' → RepL K H' ds vs f
  | [], vs, f, h, _ => h
  | d :: ds, vs, f, h, k => by
    obtain ⟨v, vs', f1, f2, e, rfl, h1, h2⟩ := h
    exact ⟨v, vs', f1, f2, e, rfl, Rep.keep d v f1 h1 (k.sub fun a ha => List.mem_append_left _ ha), RepL.keep ds vs' f2 h2 (k.sub fun a ha => List.mem_append_right _ ha)⟩
theorem RepK.keep : ∀ (kvs : List (Key × D)) (ws : List (Key × V)) (f : List Addr), RepK K H kvs ws f → Keep H f H' → RepK K H' kvs ws f
  | [], ws, f, h, _ => h
  | (kk, d) :: r, ws, f, h, k => by
    obtain ⟨v, ws', f1, f2, e, rfl, h1, h2⟩ := h
    exact ⟨v, ws', f1, f2, e, rfl, Rep.keep d v f1 h1 (k.sub fun a ha => List.mem_append_left _ ha), RepK.keep r ws' f2 h2 (k.sub fun a ha => List.mem_append_right _ ha)⟩
end
mutual
theorem Rep.imm : ∀ (d : D) (v : V) (f : List Addr), Rep K H d v f → imm d = true → f = []
  | .non, v, f, h, _ => h.2
  | .bl _, v, f, h, _ => h.2
  | .int _, v, f, h, _ => h.2
  | .str _, v, f, h, _ => h.2
  | .tup ds, v, f, h, k => by
    obtain ⟨a, vs, e, q, h⟩ := h
    exact RepL.imm ds vs f h k
  | .lst ds, v, f, h, k => by cases k
  | .flst ds, v, f, h, k => by
    obtain ⟨a, vs, e, q, h⟩ := h
    exact RepL.imm ds vs f h k
  | .dic kvs, v, f, h, k => by cases k
  | .fdic kvs, v, f, h, k => by
    obtain ⟨a, ws, e, q, h⟩ := h
    exact RepK.imm kvs ws f h k
  | .exc _ _ _ kvs, v, f, h, k => by
    obtain ⟨ws, e, q, h⟩ := h
    exact RepK.imm kvs ws f h k
theorem RepL.imm : ∀ (ds : List D) (vs : List V) (f : List Addr), RepL K H ds vs f → immL ds = true → f = []
  | [], vs, f, h, _ => h.2
  | d :: ds, vs, f, h, k => by
    obtain ⟨v, vs', f1, f2, e, rfl, h1, h2⟩ := h
    have k' : (DL.imm d && immL ds) = true := k
    rw [Bool.and_eq_true] at k'
    rw [Rep.imm d v f1 h1 k'.1, RepL.imm ds vs' f2 h2 k'.2]
    rfl
theorem RepK.imm : ∀ (kvs : List (Key × D)) (ws : List (Key × V)) (f : List Addr), RepK K H kvs ws f → immK kvs = true → f = []
  | [], ws, f, h, _ => h.2
  | (kk, d) :: r, ws, f, h, k => by
    obtain ⟨v, ws', f1, f2, e, rfl, h1, h2⟩ := h
    have k' : (DL.imm d && immK r) = true := k
    rw [Bool.and_eq_true] at k'
    rw [Rep.imm d v f1 h1 k'.1, RepK.imm r ws' f2 h2 k'.2]
    rfl
end
theorem RepL.length : ∀ {ds : List D} {vs : List V} {f : List Addr}, RepL K H ds vs f → vs.length = ds.length
  | [], vs, f, h => by rw [h.1]; rfl
  | d :: ds, vs, f, h => by
    obtain ⟨v, vs', f1, f2, e, _, _, h2⟩ := h
    rw [e, List.length_cons, List.length_cons, RepL.length h2]
theorem RepL.append : ∀ {ds es : List D} {vs ws : List V} {f g : List Addr}, RepL K H ds vs f → RepL K H es ws g → RepL K H (ds ++ es) (vs ++ ws) (f ++ g)
  | [], es, vs, ws, f, g, h, h' => by obtain ⟨rfl, rfl⟩ := h; exact h'
  | d :: ds, es, vs, ws, f, g, h, h' => by
    obtain ⟨v, vs', f1, f2, rfl, rfl, h1, h2⟩ := h
    exact ⟨v, vs' ++ ws, f1, f2 ++ g, rfl, List.append_assoc .., h1, RepL.append h2 h'⟩
theorem RepL.split : ∀ {ds es : List D} {vs : List V} {f : List Addr}, RepL K H (ds ++ es) vs f → ∃ v1 v2 f1 f2, vs = v1 ++ v2 ∧ f = f1 ++ f2 ∧ RepL K H ds v1 f1 ∧ RepL K H es v2 f2
  | [], es, vs, f, h => ⟨[], vs, [], f, rfl, rfl, ⟨rfl, rfl⟩, h⟩
  | d :: ds, es, vs, f, h => by
    obtain ⟨v, vs', f1, f2, rfl, rfl, h1, h2⟩ := h
    obtain ⟨v1, v2, g1, g2, rfl, rfl, q1, q2⟩ := RepL.split h2
    exact ⟨v :: v1, v2, f1 ++ g1, g2, rfl, (List.append_assoc ..).symm, ⟨v, v1, f1, g1, rfl, rfl, h1, q1⟩, q2⟩
/-- an item, and the rest -/
theorem RepL.at {ds : List D} {vs : List V} {f : List Addr} {i : Nat} {d : D} (h : RepL K H ds vs f) (e : ds[i]? = some d) :
    ∃ v f1 f2 f3, vs[i]? = some v ∧ f = f1 ++ (f2 ++ f3) ∧ Rep K H d v f2 ∧
      (∀ d' v' g, Rep K H d' v' g → RepL K H (ds.set i d') (vs.set i v') (f1 ++ (g ++ f3))) ∧ RepL K H (ds.eraseIdx i) (vs.eraseIdx i) (f1 ++ f3) := by
  induction ds generalizing vs f i with
  | nil => simp at e
  | cons d0 ds ih =>
    obtain ⟨v, vs', f1, f2, rfl, rfl, h1, h2⟩ := h
    cases i with
    | zero =>
      simp at e
      subst e
      exact ⟨v, [], f1, f2, rfl, rfl, h1, fun d' v' g r => ⟨v', vs', g, f2, rfl, rfl, r, h2⟩, h2⟩
    | succ i =>
      obtain ⟨v1, g1, g2, g3, e1, rfl, r1, r2, r3⟩ := ih h2 (by simpa using e)
      refine ⟨v1, f1 ++ g1, g2, g3, by simpa using e1, by simp, r1, fun d' v' g r => ?_, ?_⟩
      · exact ⟨v, vs'.set i v', f1, g1 ++ (g ++ g3), rfl, by simp, h1, r2 d' v' g r⟩
      · exact ⟨v, vs'.eraseIdx i, f1, g1 ++ g3, rfl, by simp, h1, r3⟩
/-- every single item of things that own nothing -/
theorem RepL.each {ds : List D} {vs : List V} {f : List Addr} (h : RepL K H ds vs f) (k : immL ds = true) : ∀ (i : Nat) (v : V), vs[i]? = some v → ∃ d, ds[i]? = some d ∧ Rep K H d v [] := by
  induction ds generalizing vs f with
  | nil => intro i v e; rw [h.1] at e; simp at e
  | cons d ds ih =>
    obtain ⟨v, vs', f1, f2, rfl, rfl, h1, h2⟩ := h
    have k' : (DL.imm d && immL ds) = true := k
    rw [Bool.and_eq_true] at k'
    intro i w e
    cases i with
    | zero => simp at e; subst e; have := Rep.imm _ _ _ h1 k'.1; subst this; exact ⟨d, rfl, h1⟩
    | succ i => exact ih h2 k'.2 i w (by simpa using e)
/-- things that own nothing, each by itself -/
theorem RepL.of_each : ∀ {ds : List D} {vs : List V}, vs.length = ds.length → (∀ (i : Nat) (d : D) (v : V), ds[i]? = some d → vs[i]? = some v → Rep K H d v []) → RepL K H ds vs []
  | [], vs, hl, _ => ⟨List.eq_nil_of_length_eq_zero hl, rfl⟩
  | d :: ds, [], hl, _ => by simp at hl
  | d :: ds, v :: vs, hl, h => ⟨v, vs, [], [], rfl, rfl, h 0 d v rfl rfl, RepL.of_each (by simpa using hl) fun i d' v' e1 e2 => h (i + 1) d' v' (by simpa using e1) (by simpa using e2)⟩
end
/-! ### a frame -/
abbrev Fm := List (Option D)
/-- the frame's slots -/
def EnvR (K : PySem.W.Frag) (H : Hp) : Fm → L2.St → List Addr → Prop
  | [], σ, F => σ = [] ∧ F = []
  | none :: ρ, σ, F => ∃ o σ', σ = o :: σ' ∧ EnvR K H ρ σ' F
  | some d :: ρ, σ, F => ∃ v σ' f g, σ = some v :: σ' ∧ F = f ++ g ∧ Rep K H d v f ∧ EnvR K H ρ σ' g
/-- what stood outside of F stands as it stood, outside of F' -/
def Step (H : Hp) (F : List Addr) (H' : Hp) (F' : List Addr) : Prop := ∀ a u, H a = some u → a ∉ F → H' a = some u ∧ a ∉ F'
section
variable {K : PySem.W.Frag} {H H' H2 : Hp} {F F' F2 f g : List Addr} {ρ : Fm} {σ : L2.St}
theorem Step.refl : Step H F H F := fun _ _ e n => ⟨e, n⟩
theorem Step.trans (a : Step H F H' F') (b : Step H' F' H2 F2) : Step H F H2 F2 := fun p u e n => let ⟨e1, n1⟩ := a p u e n; b p u e1 n1
theorem Step.to (a : Step H F H' F') (h : ∀ p ∈ F2, p ∈ F' ∨ H p = none) : Step H F H' F2 := fun p u e n => let ⟨e1, n1⟩ := a p u e n; ⟨e1, fun q => (h p q).elim n1 fun z => by rw [e] at z; cases z⟩
/-- .. with a part that isn't touched -/
theorem Step.keep (a : Step H F H' F') (mu : ∀ p ∈ F, MutO (H p)) (hd : ∀ p ∈ f, p ∉ F) : Keep H f H' := fun p u e q => by
  refine (a p u e ?_).1
  intro hp
  rcases q with q | q
  · exact q (mu p hp)
  · exact hd p q hp
theorem Step.apart (a : Step H F H' F') (mu : ∀ p ∈ f, MutO (H p)) (hd : ∀ p ∈ f, p ∉ F) : ∀ p ∈ f, p ∉ F' := fun p hp => by
  obtain ⟨u, e⟩ := (mu p hp).some_
  exact (a p u e (hd p hp)).2
theorem EnvR.mut : ∀ {ρ : Fm} {σ : L2.St} {F : List Addr}, EnvR K H ρ σ F → ∀ a ∈ F, MutO (H a)
  | [], σ, F, h => by intro a ha; rw [h.2] at ha; cases ha
  | none :: ρ, σ, F, h => by obtain ⟨_, _, _, h⟩ := h; exact EnvR.mut h
  | some d :: ρ, σ, F, h => by
    obtain ⟨v, σ', f, g, _, rfl, h1, h2⟩ := h
    intro a ha
    rcases List.mem_append.mp ha with ha | ha
    · exact Rep.mut _ _ _ h1 a ha
    · exact EnvR.mut h2 a ha
theorem EnvR.keep : ∀ {ρ : Fm} {σ : L2.St} {F : List Addr}, EnvR K H ρ σ F → Keep H F H' → EnvR K H' ρ σ F
  | [], σ, F, h, _ => h
  | none :: ρ, σ, F, h, k => by obtain ⟨o, σ', e, h⟩ := h; exact ⟨o, σ', e, EnvR.keep h k⟩
  | some d :: ρ, σ, F, h, k => by
    obtain ⟨v, σ', f, g, e, rfl, h1, h2⟩ := h
    exact ⟨v, σ', f, g, e, rfl, Rep.keep _ _ _ h1 (k.sub fun a ha => List.mem_append_left _ ha), EnvR.keep h2 (k.sub fun a ha => List.mem_append_right _ ha)⟩
theorem EnvR.length : ∀ {ρ : Fm} {σ : L2.St} {F : List Addr}, EnvR K H ρ σ F → σ.length = ρ.length
  | [], σ, F, h => by rw [h.1]; rfl
  | none :: ρ, σ, F, h => by obtain ⟨_, _, e, h⟩ := h; rw [e, List.length_cons, List.length_cons, EnvR.length h]
  | some d :: ρ, σ, F, h => by obtain ⟨_, _, _, _, e, _, _, h⟩ := h; rw [e, List.length_cons, List.length_cons, EnvR.length h]
/-- a slot, and the others -/
theorem EnvR.at {i : Nat} {d : D} (h : EnvR K H ρ σ F) (e : ρ[i]? = some (some d)) :
    ∃ v F1 f F3, σ[i]? = some (some v) ∧ F = F1 ++ (f ++ F3) ∧ Rep K H d v f ∧ EnvR K H (ρ.set i none) σ (F1 ++ F3) := by
  induction ρ generalizing σ F i with
  | nil => simp at e
  | cons o ρ ih =>
    cases i with
    | zero =>
      simp at e
      subst e
      obtain ⟨v, σ', f, g, rfl, rfl, h1, h2⟩ := h
      exact ⟨v, [], f, g, rfl, rfl, h1, ⟨some v, σ', rfl, h2⟩⟩
    | succ i =>
      cases o with
      | none =>
        obtain ⟨o', σ', rfl, h⟩ := h
        obtain ⟨v, F1, f, F3, e1, rfl, r, h'⟩ := ih h (by simpa using e)
        exact ⟨v, F1, f, F3, by simpa using e1, rfl, r, ⟨o', σ', rfl, h'⟩⟩
      | some d0 =>
        obtain ⟨v0, σ', f0, g0, rfl, rfl, h1, h2⟩ := h
        obtain ⟨v, F1, f, F3, e1, rfl, r, h'⟩ := ih h2 (by simpa using e)
        exact ⟨v, f0 ++ F1, f, F3, by simpa using e1, by simp, r, ⟨v0, σ', f0, F1 ++ F3, rfl, by simp, h1, h'⟩⟩
/-- a slot is forgotten -/
theorem EnvR.drop {i : Nat} (h : EnvR K H ρ σ F) : ∃ F1 f F3, F = F1 ++ (f ++ F3) ∧ EnvR K H (ρ.set i none) σ (F1 ++ F3) := by
  cases e : ρ[i]? with
  | none =>
    have hi : ρ.length ≤ i := List.getElem?_eq_none_iff.mp e
    rw [List.set_eq_of_length_le hi]
    exact ⟨F, [], [], by simp, by simpa using h⟩
  | some o =>
    cases o with
    | none =>
      have : ρ.set i none = ρ := by
        apply List.ext_getElem?
        intro j
        rw [List.getElem?_set]
        split
        · subst_vars
          split
          · rw [e]
          · rw [List.getElem?_eq_none (by omega)]
        · rfl
      rw [this]
      exact ⟨F, [], [], by simp, by simpa using h⟩
    | some d =>
      obtain ⟨v, F1, f, F3, e1, e2, r, h'⟩ := h.at e
      exact ⟨F1, f, F3, e2, h'⟩
/-- a slot that holds nothing known is filled -/
theorem EnvR.put {i : Nat} {d : D} {v : V} (h : EnvR K H (ρ.set i none) σ F) (hi : i < ρ.length) (e : σ[i]? = some (some v)) (r : Rep K H d v f) : ∃ F1 F3, F = F1 ++ F3 ∧ EnvR K H (ρ.set i (some d)) σ (F1 ++ (f ++ F3)) := by
  induction ρ generalizing σ F i with
  | nil => simp at hi
  | cons o ρ ih =>
    cases i with
    | zero =>
      obtain ⟨o', σ', rfl, h'⟩ := h
      simp at e
      subst e
      exact ⟨[], F, rfl, ⟨v, σ', f, F, rfl, rfl, r, h'⟩⟩
    | succ i =>
      cases o with
      | none =>
        obtain ⟨o', σ', rfl, h⟩ := h
        obtain ⟨F1, F3, rfl, h'⟩ := ih h (by simpa using hi) (by simpa using e)
        exact ⟨F1, F3, rfl, ⟨o', σ', rfl, h'⟩⟩
      | some d0 =>
        obtain ⟨v0, σ', f0, g0, rfl, rfl, h1, h2⟩ := h
        obtain ⟨F1, F3, rfl, h'⟩ := ih h2 (by simpa using hi) (by simpa using e)
        exact ⟨f0 ++ F1, F3, by simp, ⟨v0, σ', f0, F1 ++ (f ++ F3), rfl, by simp, h1, h'⟩⟩
/-- the value of a slot of which nothing is known -/
theorem EnvR.other {i : Nat} {o : Option V} (h : EnvR K H (ρ.set i none) σ F) : EnvR K H (ρ.set i none) (σ.set i o) F := by
  induction ρ generalizing σ F i with
  | nil => obtain ⟨rfl, rfl⟩ := h; exact ⟨rfl, rfl⟩
  | cons p ρ ih =>
    cases i with
    | zero => obtain ⟨o', σ', rfl, h'⟩ := h; exact ⟨o, σ', rfl, h'⟩
    | succ i =>
      cases p with
      | none => obtain ⟨o', σ', rfl, h⟩ := h; exact ⟨o', σ'.set i o, rfl, ih h⟩
      | some d0 => obtain ⟨v0, σ', f0, g0, rfl, rfl, h1, h2⟩ := h; exact ⟨v0, σ'.set i o, f0, g0, rfl, rfl, h1, ih h2⟩
end
end DL
/-! Expressions, tests, argument lists as partial functions of a frame. -/
namespace DL
open PySem PySem.Spec L2
/-- what an expression tells: a thing of its own, or what stands in a slot -/
inductive R where
  | val (d : D) | var (i : Nat)
def slot (ρ : Fm) (i : Nat) : Option D := match ρ[i]? with
  | some (some d) => some d
  | _ => none
def cont (ρ : Fm) : R → Option D
  | .val d => some d
  | .var i => slot ρ i
/-- it is kept somewhere else from now on: what may be changed is the slot's no more -/
def take1 (ρ : Fm) : R → Option (D × Fm)
  | .val d => some (d, ρ)
  | .var i => (slot ρ i).map fun d => (d, if imm d then ρ else ρ.set i none)
def RepR (K : PySem.W.Frag) (H : Hp) (σ : L2.St) : R → V → List Addr → Prop
  | .val d, v, g => Rep K H d v g
  | .var i, v, g => σ[i]? = some (some v) ∧ g = []
def RepRs (K : PySem.W.Frag) (H : Hp) (σ : L2.St) : List R → List V → List Addr → Prop
  | [], vs, g => vs = [] ∧ g = []
  | r :: rs, vs, g => ∃ v vs' g1 g2, vs = v :: vs' ∧ g = g1 ++ g2 ∧ RepR K H σ r v g1 ∧ RepRs K H σ rs vs' g2
def conts (ρ : Fm) : List R → Option (List D)
  | [] => some []
  | r :: rs => (cont ρ r).bind fun d => (conts ρ rs).map fun ds => d :: ds
def takes (ρ : Fm) : List R → Option (List D × Fm)
  | [] => some ([], ρ)
  | r :: rs => (take1 ρ r).bind fun (d, ρ1) => (takes ρ1 rs).map fun (ds, ρ2) => (d :: ds, ρ2)
section
variable {K : PySem.W.Frag} {H H' H2 : Hp} {F F' F2 G f g h : List Addr} {ρ ρ' : Fm} {σ : L2.St}
theorem nodup3 {a b : List Addr} (h : (a ++ b).Nodup) : a.Nodup ∧ b.Nodup ∧ ∀ x ∈ a, x ∉ b := by
  obtain ⟨h1, h2, h3⟩ := List.nodup_append.mp h
  exact ⟨h1, h2, fun x hx hy => h3 x hx x hy rfl⟩
theorem nodup_of {a b : List Addr} (h1 : a.Nodup) (h2 : b.Nodup) (h3 : ∀ x ∈ a, x ∉ b) : (a ++ b).Nodup :=
  List.nodup_append.mpr ⟨h1, h2, fun x hx y hy e => h3 x hx (e ▸ hy)⟩
theorem nodup_mid {a b c : List Addr} (h : (a ++ (b ++ c)).Nodup) : (b ++ (a ++ c)).Nodup := by
  obtain ⟨h1, h2, h3⟩ := nodup3 h
  obtain ⟨h4, h5, h6⟩ := nodup3 h2
  refine nodup_of h4 (nodup_of h1 h5 fun x hx hy => h3 x hx (List.mem_append_right _ hy)) fun x hx hy => ?_
  rcases List.mem_append.mp hy with hy | hy
  · exact h3 x hy (List.mem_append_left _ hx)
  · exact h6 x hx hy
theorem slot_some {i : Nat} {d : D} (e : slot ρ i = some d) : ρ[i]? = some (some d) := by
  unfold slot at e
  split at e
  · rename_i x q; cases e; exact q
  · cases e
theorem slot_lt {i : Nat} {d : D} (e : slot ρ i = some d) : i < ρ.length := (List.getElem?_eq_some_iff.mp (slot_some e)).1
theorem RepR.mut {r : R} {v : V} (h : RepR K H σ r v g) : ∀ a ∈ g, MutO (H a) := by
  cases r with
  | val d => exact Rep.mut _ _ _ h
  | var i => rw [h.2]; intro a ha; cases ha
theorem RepR.keep {r : R} {v : V} (h : RepR K H σ r v g) (k : Keep H g H') : RepR K H' σ r v g := by
  cases r with
  | val d => exact Rep.keep _ _ _ h k
  | var i => exact h
theorem RepRs.mut : ∀ {rs : List R} {vs : List V} {g : List Addr}, RepRs K H σ rs vs g → ∀ a ∈ g, MutO (H a)
  | [], vs, g, h => by rw [h.2]; intro a ha; cases ha
  | r :: rs, vs, g, h => by
    obtain ⟨v, vs', g1, g2, rfl, rfl, h1, h2⟩ := h
    intro a ha
    rcases List.mem_append.mp ha with ha | ha
    · exact h1.mut a ha
    · exact RepRs.mut h2 a ha
theorem RepRs.keep : ∀ {rs : List R} {vs : List V} {g : List Addr}, RepRs K H σ rs vs g → Keep H g H' → RepRs K H' σ rs vs g
  | [], vs, g, h, k => h
  | r :: rs, vs, g, h, k => by
    obtain ⟨v, vs', g1, g2, rfl, rfl, h1, h2⟩ := h
    exact ⟨v, vs', g1, g2, rfl, rfl, h1.keep (k.sub fun a ha => List.mem_append_left _ ha), RepRs.keep h2 (k.sub fun a ha => List.mem_append_right _ ha)⟩
/-- what is there now -/
theorem RepR.cont {r : R} {v : V} {d : D} (h : RepR K H σ r v g) (E : EnvR K H ρ σ F) (e : cont ρ r = some d) : ∃ p, Rep K H d v p ∧ ∀ a ∈ p, a ∈ g ++ F := by
  cases r with
  | val d' => cases e; exact ⟨g, h, fun a ha => List.mem_append_left _ ha⟩
  | var i =>
    obtain ⟨w, F1, f, F3, e1, rfl, r1, _⟩ := E.at (slot_some e)
    obtain ⟨h1, rfl⟩ := h
    rw [e1] at h1
    cases h1
    exact ⟨f, r1, fun a ha => by simp [ha]⟩
theorem RepRs.conts : ∀ {rs : List R} {vs : List V} {g : List Addr} {ds : List D}, RepRs K H σ rs vs g → EnvR K H ρ σ F → DL.conts ρ rs = some ds →
    vs.length = ds.length ∧ ∀ (i : Nat) (d : D) (v : V), ds[i]? = some d → vs[i]? = some v → ∃ p, Rep K H d v p ∧ ∀ a ∈ p, a ∈ g ++ F
  | [], vs, g, ds, h, E, e => by cases e; rw [h.1]; exact ⟨rfl, fun i d v e => by simp at e⟩
  | r :: rs, vs, g, ds, h, E, e => by
    obtain ⟨v, vs', g1, g2, rfl, rfl, h1, h2⟩ := h
    unfold DL.conts at e
    obtain ⟨d, ed, e⟩ := Option.bind_eq_some_iff.mp e
    obtain ⟨ds', es, e⟩ := Option.map_eq_some_iff.mp e
    subst e
    obtain ⟨hl, hi⟩ := RepRs.conts h2 E es
    refine ⟨by simp [hl], fun i d' v' e1 e2 => ?_⟩
    cases i with
    | zero =>
      simp at e1 e2
      subst e1; subst e2
      obtain ⟨p, r1, r2⟩ := h1.cont E ed
      exact ⟨p, r1, fun a ha => by have := r2 a ha; simp at this ⊢; rcases this with z | z <;> simp [z]⟩
    | succ i =>
      obtain ⟨p, r1, r2⟩ := hi i d' v' (by simpa using e1) (by simpa using e2)
      exact ⟨p, r1, fun a ha => by have := r2 a ha; simp at this ⊢; rcases this with z | z <;> simp [z]⟩
theorem RepR.take {r : R} {v : V} {d : D} (h : RepR K H σ r v g) (E : EnvR K H ρ σ F) (nd : (g ++ F).Nodup) (e : take1 ρ r = some (d, ρ')) :
    ∃ p F', Rep K H d v p ∧ EnvR K H ρ' σ F' ∧ (p ++ F').Nodup ∧ ∀ a, a ∈ p ++ F' → a ∈ g ++ F := by
  cases r with
  | val d' => cases e; exact ⟨g, F, h, E, nd, fun a ha => ha⟩
  | var i =>
    obtain ⟨d', es, e3⟩ := Option.map_eq_some_iff.mp (show (slot ρ i).map (fun d => (d, if DL.imm d then ρ else ρ.set i none)) = some (d, ρ') from e)
    obtain ⟨w, F1, f, F3, e1, rfl, r1, E1⟩ := E.at (slot_some es)
    obtain ⟨h1, rfl⟩ := h
    rw [e1] at h1
    cases h1
    simp only [Prod.mk.injEq] at e3
    obtain ⟨rfl, e3⟩ := e3
    by_cases hi : DL.imm d' = true
    · rw [if_pos hi] at e3
      subst e3
      have := Rep.imm _ _ _ r1 hi
      subst this
      exact ⟨[], F1 ++ ([] ++ F3), r1, E, nd, fun a ha => ha⟩
    · rw [if_neg hi] at e3
      subst e3
      exact ⟨f, F1 ++ F3, r1, E1, nodup_mid (by simpa using nd), fun a ha => by simp at ha ⊢; rcases ha with z | z | z <;> simp [z]⟩
theorem RepRs.takes : ∀ {rs : List R} {vs : List V} {g F : List Addr} {ds : List D} {ρ : Fm}, RepRs K H σ rs vs g → EnvR K H ρ σ F → (g ++ F).Nodup → DL.takes ρ rs = some (ds, ρ') →
    ∃ p F', RepL K H ds vs p ∧ EnvR K H ρ' σ F' ∧ (p ++ F').Nodup ∧ ∀ a, a ∈ p ++ F' → a ∈ g ++ F
  | [], vs, g, F, ds, ρ, h, E, nd, e => by cases e; obtain ⟨rfl, rfl⟩ := h; exact ⟨[], F, ⟨rfl, rfl⟩, E, nd, fun a ha => ha⟩
  | r :: rs, vs, g, F, ds, ρ, h, E, nd, e => by
    obtain ⟨v, vs', g1, g2, rfl, rfl, h1, h2⟩ := h
    unfold DL.takes at e
    obtain ⟨⟨d, ρ1⟩, ed, e⟩ := Option.bind_eq_some_iff.mp e
    obtain ⟨⟨ds', ρ2⟩, es, e⟩ := Option.map_eq_some_iff.mp e
    cases e
    obtain ⟨n1, n2, n3⟩ := nodup3 nd
    obtain ⟨n4, n5, n6⟩ := nodup3 n1
    have nd1 : (g1 ++ F).Nodup := nodup_of n4 n2 fun x hx => n3 x (List.mem_append_left _ hx)
    obtain ⟨p, F1, r1, E1, nd2, s1⟩ := h1.take E nd1 ed
    obtain ⟨m1, m2, m3⟩ := nodup3 nd2
    have s1' : ∀ a ∈ g2, a ∉ p ++ F1 := fun a ha q => by
      rcases List.mem_append.mp (s1 a q) with z | z
      · exact n6 a z ha
      · exact n3 a (List.mem_append_right _ ha) z
    have nd3 : (g2 ++ F1).Nodup := nodup_of n5 m2 fun x hx hy => s1' x hx (List.mem_append_right _ hy)
    obtain ⟨q, F2, r2, E2, nd4, s2⟩ := RepRs.takes h2 E1 nd3 es
    refine ⟨p ++ q, F2, ⟨v, vs', p, q, rfl, rfl, r1, r2⟩, E2, ?_, fun a ha => ?_⟩
    · rw [List.append_assoc]
      refine nodup_of m1 nd4 fun x hx hy => ?_
      rcases List.mem_append.mp (s2 x hy) with z | z
      · exact s1' x z (List.mem_append_left _ hx)
      · exact m3 x hx z
    · have key : ∀ b, b ∈ p ++ F1 → b ∈ g1 ++ (g2 ++ F) := fun b hb => by have := s1 b hb; simp at this ⊢; rcases this with z | z <;> simp [z]
      rw [List.append_assoc] at ha ⊢
      rcases List.mem_append.mp ha with ha | ha
      · exact key a (List.mem_append_left _ ha)
      · rcases List.mem_append.mp (s2 a ha) with z | z
        · simp [z]
        · exact key a (List.mem_append_right _ z)
/-- fresh things, all else as it was -/
theorem Step.fresh (S : Step H F H2 G) (sm : Same H2 H') (fr : ∀ a ∈ h, H2 a = none) (sub : ∀ a ∈ F2, a ∈ G) : Step H F H' (h ++ F2) := fun p u e n => by
  obtain ⟨e1, n1⟩ := S p u e n
  refine ⟨sm p u e1, fun q => ?_⟩
  rcases List.mem_append.mp q with q | q
  · rw [fr p q] at e1; cases e1
  · exact n1 (sub p q)
theorem nodup_fresh (E : EnvR K H2 ρ σ F2) (nd : F2.Nodup) (nh : h.Nodup) (fr : ∀ a ∈ h, H2 a = none) : (h ++ F2).Nodup := nodup_of nh nd fun x hx hy => by
  obtain ⟨u, e⟩ := (E.mut x hy).some_
  rw [fr x hx] at e
  cases e
theorem Same.keep {l : List Addr} (s : Same H H') : Keep H l H' := fun a u e _ => s a u e
end
/-! ### the judgements -/
abbrev FE := Fm → Option (R × Fm)
abbrev FT := Fm → Option (Bool × Fm)
abbrev FA := Fm → Option (List R × Fm)
def rdE (K : PySem.W.Frag) (f : FE) : TE := fun σ H Q => ∃ ρ F r ρ', EnvR K H ρ σ F ∧ F.Nodup ∧ f ρ = some (r, ρ') ∧
  ∀ v H' g F', RepR K H' σ r v g → EnvR K H' ρ' σ F' → (g ++ F').Nodup → Step H F H' (g ++ F') → Q v H'
def rdT (K : PySem.W.Frag) (f : FT) : TT := fun σ H Q => ∃ ρ F b ρ', EnvR K H ρ σ F ∧ F.Nodup ∧ f ρ = some (b, ρ') ∧
  ∀ H' F', EnvR K H' ρ' σ F' → F'.Nodup → Step H F H' F' → Q b H'
def rdA (K : PySem.W.Frag) (f : FA) : TA := fun σ H Q => ∃ ρ F rs ρ', EnvR K H ρ σ F ∧ F.Nodup ∧ f ρ = some (rs, ρ') ∧
  ∀ vs H' g F', RepRs K H' σ rs vs g → EnvR K H' ρ' σ F' → (g ++ F').Nodup → Step H F H' (g ++ F') → Q vs H'
structure DE (X : Cx) (e : Expr) (f : FE) : Prop where
  pe : PE X e (rdE X.K f)
structure DT (X : Cx) (e : Expr) (f : FT) : Prop where
  pt : PT X e (rdT X.K f)
structure DW (X : Cx) (e : Expr) (f : FT) : Prop where
  pw : PW X e (rdT X.K f)
structure DA (X : Cx) (es : List Expr) (f : FA) : Prop where
  pa : PA X es (rdA X.K f)
theorem pe_weak {X : Cx} {e : Expr} {t t' : TE} (h : PE X e t) (w : ∀ σ H Q, t' σ H Q → t σ H Q) : PE X e t' := ⟨fun pins s σ H Q I q => h.run pins s σ H Q I (w _ _ _ q)⟩
theorem pt_weak {X : Cx} {e : Expr} {t t' : TT} (h : PT X e t) (w : ∀ σ H Q, t' σ H Q → t σ H Q) : PT X e t' := ⟨fun pins s σ H Q I q => h.run pins s σ H Q I (w _ _ _ q)⟩
theorem pw_weak {X : Cx} {e : Expr} {t t' : TT} (h : PW X e t) (w : ∀ σ H Q, t' σ H Q → t σ H Q) : PW X e t' := ⟨fun wh pins s σ H Q I q => h.run wh pins s σ H Q I (w _ _ _ q)⟩
theorem pa_weak {X : Cx} {es : List Expr} {t t' : TA} (h : PA X es t) (w : ∀ σ H Q, t' σ H Q → t σ H Q) : PA X es t' := ⟨fun pos pins s σ H Q I q => h.run pos pins s σ H Q I (w _ _ _ q)⟩
theorem ps_weak {X : Cx} {st : Stmt} {t t' : TS} (h : PS X st t) (w : ∀ D σ H, t' D σ H → t D σ H) : PS X st t' := ⟨fun pins s σ H D I q => h.run pins s σ H D I (w _ _ _ q)⟩
theorem pss_weak {X : Cx} {st : List Stmt} {t t' : TS} (h : PSs X st t) (w : ∀ D σ H, t' D σ H → t D σ H) : PSs X st t' := ⟨fun pins s σ H D I q => h.run pins s σ H D I (w _ _ _ q)⟩
section
variable {K : PySem.W.Frag} {H : Hp} {F : List Addr} {ρ ρ1 ρ2 : Fm} {σ : L2.St} {fa fb : FE} {x y : R}
/-- one after another -/
theorem two (E : EnvR K H ρ σ F) (nd : F.Nodup) (ea : fa ρ = some (x, ρ1)) (eb : fb ρ1 = some (y, ρ2)) {T : V → V → Hp → Prop}
    (k : ∀ v w H2 gx gy F2, RepR K H2 σ x v gx → RepR K H2 σ y w gy → EnvR K H2 ρ2 σ F2 → (gx ++ (gy ++ F2)).Nodup → Step H F H2 (gx ++ (gy ++ F2)) → T v w H2) :
    rdE K fa σ H fun v H1 => rdE K fb σ H1 fun w H2 => T v w H2 := by
  refine ⟨ρ, F, x, ρ1, E, nd, ea, fun v H1 g F1 r1 E1 N1 S1 => ⟨ρ1, F1, y, ρ2, E1, (nodup3 N1).2.1, eb, fun w H2 g2 F2 r2 E2 N2 S2 => ?_⟩⟩
  obtain ⟨n1, n2, n3⟩ := nodup3 N1
  refine k v w H2 g g2 F2 (r1.keep (S2.keep E1.mut n3)) r2 E2 (nodup_of n1 N2 (S2.apart r1.mut n3)) fun p u e n => ?_
  obtain ⟨e1, q1⟩ := S1 p u e n
  obtain ⟨e2, q2⟩ := S2 p u e1 fun z => q1 (List.mem_append_right _ z)
  exact ⟨e2, fun z => (List.mem_append.mp z).elim (fun z => q1 (List.mem_append_left _ z)) q2⟩
/-- an expression, then arguments -/
theorem oneA {fr : FA} {rs : List R} (E : EnvR K H ρ σ F) (nd : F.Nodup) (ea : fa ρ = some (x, ρ1)) (eb : fr ρ1 = some (rs, ρ2)) {T : V → List V → Hp → Prop}
    (k : ∀ v ws H2 gx gy F2, RepR K H2 σ x v gx → RepRs K H2 σ rs ws gy → EnvR K H2 ρ2 σ F2 → (gx ++ (gy ++ F2)).Nodup → Step H F H2 (gx ++ (gy ++ F2)) → T v ws H2) :
    rdE K fa σ H fun v H1 => rdA K fr σ H1 fun ws H2 => T v ws H2 := by
  refine ⟨ρ, F, x, ρ1, E, nd, ea, fun v H1 g F1 r1 E1 N1 S1 => ⟨ρ1, F1, rs, ρ2, E1, (nodup3 N1).2.1, eb, fun w H2 g2 F2 r2 E2 N2 S2 => ?_⟩⟩
  obtain ⟨n1, n2, n3⟩ := nodup3 N1
  refine k v w H2 g g2 F2 (r1.keep (S2.keep E1.mut n3)) r2 E2 (nodup_of n1 N2 (S2.apart r1.mut n3)) fun p u e n => ?_
  obtain ⟨e1, q1⟩ := S1 p u e n
  obtain ⟨e2, q2⟩ := S2 p u e1 fun z => q1 (List.mem_append_right _ z)
  exact ⟨e2, fun z => (List.mem_append.mp z).elim (fun z => q1 (List.mem_append_left _ z)) q2⟩
end
/-! ### names, constants -/
def fVar (i : Nat) : FE := fun ρ => match slot ρ i with
  | some _ => some (.var i, ρ)
  | none => none
def fC (d : D) : FE := fun ρ => some (.val d, ρ)
section
variable {X : Cx} {e a b c : Expr} {es : List Expr} {pos : Pos} {fa fb fc : FE} {ft fu : FT}
theorem de_var {i : Nat} (h : PE X e (tVar i)) : DE X e (fVar i) := ⟨pe_weak h fun σ H Q ⟨ρ, F, r, ρ', E, nd, ef, k⟩ => by
  unfold fVar at ef
  split at ef
  · rename_i d es
    cases ef
    obtain ⟨v, F1, f, F3, e1, _⟩ := E.at (slot_some es)
    exact ⟨v, e1, k v H [] F ⟨e1, rfl⟩ E nd Step.refl⟩
  · cases ef⟩
theorem de_c {v : V} {d : D} (h : PE X e (tC v)) (r : ∀ K H, Rep K H d v []) : DE X e (fC d) := ⟨pe_weak h fun σ H Q ⟨ρ, F, x, ρ', E, nd, ef, k⟩ => by
  cases ef
  exact k v H [] F (r _ _) E nd Step.refl⟩
theorem de_int {i : Int} {j} : DE X (.Constant (.int i) j pos) (fC (.int i)) := de_c pe_int fun _ _ => ⟨rfl, rfl⟩
theorem de_bl {k : Bool} {j} : DE X (.Constant (.bool k) j pos) (fC (.bl k)) := de_c pe_bl fun _ _ => ⟨rfl, rfl⟩
theorem de_non {j} : DE X (.Constant .none j pos) (fC .non) := de_c pe_non fun _ _ => ⟨rfl, rfl⟩
theorem de_str {x : Str} {j} : DE X (.Constant (.str x) j pos) (fC (.str x)) := de_c pe_str fun _ _ => ⟨rfl, rfl⟩
/-! ### operators -/
/-- what a rule on values does to data: something new, or nothing of its own -/
def Op2 (K : PySem.W.Frag) (r : R2) (g : D → D → Option D) : Prop := ∀ (H : Hp) (x y : D) (v w : V) (p q : List Addr) (z : D) (Q : VK), Rep K H x v p → Rep K H y w q → g x y = some z →
  (∀ u H' h, Rep K H' z u h → h.Nodup → (∀ a ∈ h, H a = none) → Same H H' → Q u H') → r v w H Q
def fOp (g : D → D → Option D) (fa fb : FE) : FE := fun ρ =>
  (fa ρ).bind fun (x, ρ1) => (fb ρ1).bind fun (y, ρ2) => (cont ρ2 x).bind fun dx => (cont ρ2 y).bind fun dy => (g dx dy).map fun z => (.val z, ρ2)
theorem fOp_some {g : D → D → Option D} {ρ ρ' : Fm} {r : R} (e : fOp g fa fb ρ = some (r, ρ')) : ∃ x ρ1 y dx dy z, fa ρ = some (x, ρ1) ∧ fb ρ1 = some (y, ρ') ∧ cont ρ' x = some dx ∧ cont ρ' y = some dy ∧ g dx dy = some z ∧ r = .val z := by
  unfold fOp at e
  obtain ⟨⟨x, ρ1⟩, e1, e⟩ := Option.bind_eq_some_iff.mp e
  obtain ⟨⟨y, ρ2⟩, e2, e⟩ := Option.bind_eq_some_iff.mp e
  obtain ⟨dx, e3, e⟩ := Option.bind_eq_some_iff.mp e
  obtain ⟨dy, e4, e⟩ := Option.bind_eq_some_iff.mp e
  obtain ⟨z, e5, e⟩ := Option.map_eq_some_iff.mp e
  cases e
  exact ⟨x, ρ1, y, dx, dy, z, e1, e2, e3, e4, e5, rfl⟩
theorem tOp_of {r : R2} {g : D → D → Option D} {K : PySem.W.Frag} (hg : Op2 K r g) {σ : L2.St} {H : Hp} {Q : VK} (h : rdE K (fOp g fa fb) σ H Q) : tOp r (rdE K fa) (rdE K fb) σ H Q := by
  obtain ⟨ρ, F, x0, ρ2, E, nd, ef, k⟩ := h
  obtain ⟨x, ρ1, y, dx, dy, z, e1, e2, e3, e4, e5, rfl⟩ := fOp_some ef
  refine two E nd e1 e2 fun v w H2 gx gy F2 r1 r2 E2 N2 S2 => ?_
  obtain ⟨p, q1, _⟩ := r1.cont E2 e3
  obtain ⟨q, q2, _⟩ := r2.cont E2 e4
  obtain ⟨_, N3, _⟩ := nodup3 N2
  refine hg H2 dx dy v w p q z Q q1 q2 e5 fun u H' h ru nh fr sm => ?_
  exact k u H' h F2 ru (E2.keep (Same.keep sm)) (nodup_fresh E2 (nodup3 N3).2.1 nh fr) (S2.fresh sm fr fun a ha => by simp [ha])
theorem de_op {op : Operator} {r : R2} {g : D → D → Option D} (ho : OpR X (binaryOp op) r) (hg : Op2 X.K r g) (ha : DE X a fa) (hb : DE X b fb) : DE X (.BinOp a op b pos) (fOp g fa fb) :=
  ⟨pe_weak (pe_op ho ha.pe hb.pe) fun σ H Q h => tOp_of hg h⟩
theorem de_cmp {op : CmpOp} {r : R2} {g : D → D → Option D} (ho : OpR X (compareOp op) r) (hg : Op2 X.K r g) (ha : DE X a fa) (hb : DE X b fb) (hm : behindInMarks op b = false) : DE X (.Compare a [op] [b] pos) (fOp g fa fb) :=
  ⟨pe_weak (pe_cmpR ho ha.pe hb.pe hm) fun σ H Q h => tOp_of hg h⟩
/-- as a test -/
def fTest (f : FE) : FT := fun ρ => (f ρ).bind fun (x, ρ1) => (cont ρ1 x).bind fun d => match d with
  | .bl k => some (k, ρ1)
  | _ => none
theorem fTest_some {ρ ρ' : Fm} {k : Bool} (e : fTest fa ρ = some (k, ρ')) : ∃ x, fa ρ = some (x, ρ') ∧ cont ρ' x = some (.bl k) := by
  unfold fTest at e
  obtain ⟨⟨x, ρ1⟩, e1, e⟩ := Option.bind_eq_some_iff.mp e
  obtain ⟨d, e2, e⟩ := Option.bind_eq_some_iff.mp e
  cases d <;> cases e
  exact ⟨x, e1, e2⟩
theorem tTest_of {K : PySem.W.Frag} {t : TE} {f : FE} (ht : ∀ σ H Q, rdE K f σ H Q → t σ H Q) {σ : L2.St} {H : Hp} {Q : Bool → Hp → Prop} (h : rdT K (fTest f) σ H Q) : t σ H fun x H' => ∃ k, x = .bl k ∧ Q k H' := by
  obtain ⟨ρ, F, k0, ρ2, E, nd, ef, k⟩ := h
  obtain ⟨x, e1, e2⟩ := fTest_some ef
  refine ht _ _ _ ⟨ρ, F, x, ρ2, E, nd, e1, fun v H' g F' r1 E1 N1 S1 => ?_⟩
  obtain ⟨p, q1, _⟩ := r1.cont E1 e2
  exact ⟨k0, q1.1, k H' F' E1 (nodup3 N1).2.1 (S1.to fun a ha => .inl (List.mem_append_right _ ha))⟩
theorem dt_cmp {op : CmpOp} {r : R2} {g : D → D → Option D} (ho : OpR X (compareOp op) r) (hg : Op2 X.K r g) (ha : DE X a fa) (hb : DE X b fb) (hm : behindInMarks op b = false) : DT X (.Compare a [op] [b] pos) (fTest (fOp g fa fb)) :=
  ⟨pt_weak (pt_cmpR ho ha.pe hb.pe hm) fun σ H Q h => tTest_of (fun _ _ _ q => tOp_of hg q) h⟩
theorem dt_val (ha : DE X a fa) (he : ∀ whole, isTrue a X.env whole = (do let v ← whole; standAt a.pos; holding [v] (truthy v)) := by intro _; rfl) : DT X a (fTest fa) :=
  ⟨pt_weak (pt_val ha.pe he) fun σ H Q h => tTest_of (fun _ _ _ q => q) h⟩
/-! ### and, or, not -/
def fAnd (f g : FT) : FT := fun ρ => (f ρ).bind fun (k, ρ1) => if k then g ρ1 else some (false, ρ1)
def fOr (f g : FT) : FT := fun ρ => (f ρ).bind fun (k, ρ1) => if k then some (true, ρ1) else g ρ1
def fNot (f : FT) : FT := fun ρ => (f ρ).map fun (k, ρ1) => (!k, ρ1)
def fBl (f : FT) : FE := fun ρ => (f ρ).map fun (k, ρ1) => (.val (.bl k), ρ1)
theorem tAnd_of {K : PySem.W.Frag} {σ : L2.St} {H : Hp} {Q : Bool → Hp → Prop} (h : rdT K (fAnd ft fu) σ H Q) : tAnd (rdT K ft) (rdT K fu) σ H Q := by
  obtain ⟨ρ, F, k0, ρ2, E, nd, ef, k⟩ := h
  obtain ⟨⟨k1, ρ1⟩, e1, e⟩ := Option.bind_eq_some_iff.mp ef
  refine ⟨ρ, F, k1, ρ1, E, nd, e1, fun H' F' E1 N1 S1 => ?_⟩
  cases k1 with
  | true =>
    rw [if_pos rfl]
    exact ⟨ρ1, F', k0, ρ2, E1, N1, e, fun H2 F2 E2 N2 S2 => k H2 F2 E2 N2 (S1.trans S2)⟩
  | false =>
    cases e
    rw [if_neg Bool.false_ne_true]
    exact k H' F' E1 N1 S1
theorem tOr_of {K : PySem.W.Frag} {σ : L2.St} {H : Hp} {Q : Bool → Hp → Prop} (h : rdT K (fOr ft fu) σ H Q) : tOr (rdT K ft) (rdT K fu) σ H Q := by
  obtain ⟨ρ, F, k0, ρ2, E, nd, ef, k⟩ := h
  obtain ⟨⟨k1, ρ1⟩, e1, e⟩ := Option.bind_eq_some_iff.mp ef
  refine ⟨ρ, F, k1, ρ1, E, nd, e1, fun H' F' E1 N1 S1 => ?_⟩
  cases k1 with
  | false =>
    rw [if_neg Bool.false_ne_true]
    exact ⟨ρ1, F', k0, ρ2, E1, N1, e, fun H2 F2 E2 N2 S2 => k H2 F2 E2 N2 (S1.trans S2)⟩
  | true =>
    cases e
    rw [if_pos rfl]
    exact k H' F' E1 N1 S1
theorem dw_and1 (ha : DT X a ft) : DW X (.BoolOp .And [a] pos) ft := ⟨pw_and1 ha.pt⟩
theorem dw_or1 (ha : DT X a ft) : DW X (.BoolOp .Or [a] pos) ft := ⟨pw_or1 ha.pt⟩
theorem dw_and (ha : DT X a ft) (hb : DW X (.BoolOp .And (b :: es) pos) fu) : DW X (.BoolOp .And (a :: b :: es) pos) (fAnd ft fu) := ⟨pw_weak (pw_and ha.pt hb.pw) fun _ _ _ h => tAnd_of h⟩
theorem dw_or (ha : DT X a ft) (hb : DW X (.BoolOp .Or (b :: es) pos) fu) : DW X (.BoolOp .Or (a :: b :: es) pos) (fOr ft fu) := ⟨pw_weak (pw_or ha.pt hb.pw) fun _ _ _ h => tOr_of h⟩
theorem DW.dt (h : DW X a ft) : DT X a ft := ⟨PW.pt h.pw⟩
theorem dt_not (ha : DT X a ft) : DT X (.UnaryOp .Not a pos) (fNot ft) := ⟨pt_weak (pt_not ha.pt) fun σ H Q ⟨ρ, F, k0, ρ2, E, nd, ef, k⟩ => by
  obtain ⟨⟨k1, ρ1⟩, e1, e⟩ := Option.map_eq_some_iff.mp ef
  cases e
  exact ⟨ρ, F, k1, ρ2, E, nd, e1, fun H' F' E1 N1 S1 => k H' F' E1 N1 S1⟩⟩
/-- a if t else b -/
def fIf (f : FT) (fa fb : FE) : FE := fun ρ => (f ρ).bind fun (k, ρ1) => if k then fa ρ1 else fb ρ1
theorem de_ifx (hc : DT X c ft) (ha : DE X a fa) (hb : DE X b fb) : DE X (.IfExp c a b pos) (fIf ft fa fb) := ⟨pe_weak (pe_ifExp hc.pt ha.pe hb.pe) fun σ H Q ⟨ρ, F, r, ρ2, E, nd, ef, k⟩ => by
  obtain ⟨⟨k1, ρ1⟩, e1, e⟩ := Option.bind_eq_some_iff.mp ef
  refine ⟨ρ, F, k1, ρ1, E, nd, e1, fun H' F' E1 N1 S1 => ?_⟩
  cases k1 with
  | true =>
    rw [if_pos rfl]
    exact ⟨ρ1, F', r, ρ2, E1, N1, e, fun v H2 g2 F2 r2 E2 N2 S2 => k v H2 g2 F2 r2 E2 N2 (S1.trans S2)⟩
  | false =>
    rw [if_neg Bool.false_ne_true]
    exact ⟨ρ1, F', r, ρ2, E1, N1, e, fun v H2 g2 F2 r2 E2 N2 S2 => k v H2 g2 F2 r2 E2 N2 (S1.trans S2)⟩⟩
/-! ### arguments, displays -/
def fNil : FA := fun ρ => some ([], ρ)
def fCons (f : FE) (fr : FA) : FA := fun ρ => (f ρ).bind fun (x, ρ1) => (fr ρ1).map fun (rs, ρ2) => (x :: rs, ρ2)
variable {fr : FA}
theorem da_nil : DA X [] fNil := ⟨pa_weak pa_nil fun σ H Q ⟨ρ, F, r, ρ2, E, nd, ef, k⟩ => by
  cases ef
  exact k [] H [] F ⟨rfl, rfl⟩ E nd Step.refl⟩
theorem da_cons (ha : DE X e fa) (hr : DA X es fr) (hs : starEach (e :: es) X.env = (false, eval e X.env) :: starEach es X.env := by rfl) : DA X (e :: es) (fCons fa fr) :=
  ⟨pa_weak (pa_cons ha.pe hr.pa hs) fun σ H Q ⟨ρ, F, r, ρ2, E, nd, ef, k⟩ => by
    obtain ⟨⟨x, ρ1⟩, e1, e⟩ := Option.bind_eq_some_iff.mp ef
    obtain ⟨⟨rs, ρ3⟩, e2, e⟩ := Option.map_eq_some_iff.mp e
    cases e
    refine oneA E nd e1 e2 fun v ws H2 gx gy F2 r1 r2 E2 N2 S2 => k (v :: ws) H2 (gx ++ gy) F2 ⟨v, ws, gx, gy, rfl, rfl, r1, r2⟩ E2 (by rw [List.append_assoc]; exact N2) (by rw [List.append_assoc]; exact S2)⟩
def fTup (fr : FA) : FE := fun ρ => (fr ρ).bind fun (rs, ρ1) => (takes ρ1 rs).bind fun (ds, ρ2) => if ds.length ≤ sizeLine then some (.val (.tup ds), ρ2) else none
def fLst (fr : FA) : FE := fun ρ => (fr ρ).bind fun (rs, ρ1) => (takes ρ1 rs).bind fun (ds, ρ2) => if ds.length ≤ sizeLine then some (.val (.lst ds), ρ2) else none
theorem upd_same_of {H : Hp} {p : Addr} {o : HO} (hp : H p = none) : Same H (upd H p o) := fun b u e => by rw [upd_ne (ne_of_none e hp)]; exact e
theorem de_tup {k : Nat} (h : DA X es fr) : DE X (.Tuple es k pos) (fTup fr) := ⟨pe_weak (pe_tupF h.pa) fun σ H Q ⟨ρ, F, r, ρ2, E, nd, ef, k⟩ => by
  obtain ⟨⟨rs, ρ1⟩, e1, e⟩ := Option.bind_eq_some_iff.mp ef
  obtain ⟨⟨ds, ρ3⟩, e2, e⟩ := Option.bind_eq_some_iff.mp e
  simp only at e
  split at e
  · rename_i hl
    cases e
    refine ⟨ρ, F, rs, ρ1, E, nd, e1, fun vs H' g F' r1 E1 N1 S1 => ?_⟩
    obtain ⟨p, F2, r2, E2, N2, s2⟩ := r1.takes E1 N1 e2
    refine ⟨by rw [r2.length]; exact hl, fun t o ht hd => ?_⟩
    have sm := upd_same_of (o := .frz o (.tup vs)) ht
    refine k _ _ p F2 ⟨t, vs, rfl, .inl ⟨o, upd_same, hd⟩, RepL.keep _ _ _ r2 (Same.keep sm)⟩ (E2.keep (Same.keep sm)) N2 fun b u eb nb => ?_
    obtain ⟨q1, q2⟩ := S1 b u eb nb
    exact ⟨sm b u q1, fun z => q2 (s2 b z)⟩
  · cases e⟩
theorem de_lst (h : DA X es fr) : DE X (.List es pos) (fLst fr) := ⟨pe_weak (pe_lst h.pa) fun σ H Q ⟨ρ, F, r, ρ2, E, nd, ef, k⟩ => by
  obtain ⟨⟨rs, ρ1⟩, e1, e⟩ := Option.bind_eq_some_iff.mp ef
  obtain ⟨⟨ds, ρ3⟩, e2, e⟩ := Option.bind_eq_some_iff.mp e
  simp only at e
  split at e
  · rename_i hl
    cases e
    refine ⟨ρ, F, rs, ρ1, E, nd, e1, fun vs H' g F' r1 E1 N1 S1 => ?_⟩
    obtain ⟨p, F2, r2, E2, N2, s2⟩ := r1.takes E1 N1 e2
    refine ⟨by rw [r2.length]; exact hl, fun t ht => ?_⟩
    have sm := upd_same_of (o := .lst vs) ht
    have nt : ∀ a ∈ p ++ F2, a ≠ t := fun a ha q => by
      obtain ⟨u, eu⟩ := (List.mem_append.mp (s2 a ha)).elim (fun z => (r1.mut a z).some_) (fun z => (E1.mut a z).some_)
      rw [q, ht] at eu
      cases eu
    refine k _ _ (t :: p) F2 ⟨t, vs, p, rfl, upd_same, rfl, RepL.keep _ _ _ r2 (Same.keep sm)⟩ (E2.keep (Same.keep sm)) (List.nodup_cons.mpr ⟨fun z => nt t z rfl, N2⟩) fun b u eb nb => ?_
    obtain ⟨q1, q2⟩ := S1 b u eb nb
    refine ⟨sm b u q1, fun z => ?_⟩
    rcases List.mem_cons.mp z with rfl | z
    · rw [ht] at q1; cases q1
    · exact q2 (s2 b z)
  · cases e⟩
end
end DL
/-! Operators on data. -/
namespace DL
open PySem PySem.Spec L2
theorem pe_or' {X : Cx} {e : Expr} {t1 t2 : TE} (h1 : PE X e t1) (h2 : PE X e t2) : PE X e (fun σ H Q => t1 σ H Q ∨ t2 σ H Q) :=
  ⟨fun pins s σ H Q I h => h.elim (h1.run pins s σ H Q I) (h2.run pins s σ H Q I)⟩
def lstOf : D → Option (List D)
  | .lst ds => some ds
  | .flst ds => some ds
  | _ => none
def seqOf : D → Option (List D)
  | .lst ds => some ds
  | .flst ds => some ds
  | .tup ds => some ds
  | _ => none
mutual
def toP : D → PyData
  | .non => .none | .bl b => .bool b | .int i => .int i | .str x => .str x
  | .tup ds => .tuple (toPL ds)
  | .lst ds => .list (toPL ds)
  | .flst ds => .list (toPL ds)
  | .dic kvs => .dict (toPK kvs)
  | .fdic kvs => .dict (toPK kvs)
  | .exc _ _ _ _ => .none
def toPL : List D → List PyData
  | [] => []
  | d :: ds => toP d :: toPL ds
def toPK : List (Key × D) → List (PyData × PyData)
  | [] => []
  | (k, d) :: r => ((match k with | .inl i => .int i | .inr x => .str x), toP d) :: toPK r
end
mutual
/-- no dict within -/
def noDic : D → Bool
  | .non => true | .bl _ => true | .int _ => true | .str _ => true
  | .tup ds => noDicL ds
  | .lst ds => noDicL ds
  | .flst ds => noDicL ds
  | .dic _ => false
  | .fdic _ => false
  | .exc _ _ _ _ => false
def noDicL : List D → Bool
  | [] => true
  | d :: ds => noDic d && noDicL ds
end
section
variable {K : PySem.W.Frag} {H : Hp}
theorem Rep.sqL {d : D} {v : V} {p : List Addr} {ds : List D} (h : Rep K H d v p) (e : lstOf d = some ds) : ∃ a vs g, v = .ref a ∧ SqL K H a vs ∧ RepL K H ds vs g ∧ ∀ b ∈ g, b ∈ p := by
  cases d with
  | lst es =>
    cases e
    obtain ⟨a, vs, g, e1, e2, rfl, r⟩ := h
    exact ⟨a, vs, g, e1, SqL.of e2, r, fun b hb => List.mem_cons_of_mem _ hb⟩
  | flst es =>
    cases e
    obtain ⟨a, vs, e1, e2, r⟩ := h
    exact ⟨a, vs, p, e1, e2.seq, r, fun b hb => hb⟩
  | _ => cases e
theorem Rep.seq {d : D} {v : V} {p : List Addr} {ds : List D} (h : Rep K H d v p) (e : seqOf d = some ds) : ∃ a vs g, v = .ref a ∧ (SqL K H a vs ∨ SqT K H a vs) ∧ RepL K H ds vs g ∧ ∀ b ∈ g, b ∈ p := by
  cases d with
  | lst es =>
    obtain ⟨a, vs, g, e1, e2, r⟩ := Rep.sqL h (show lstOf (.lst es) = some ds from e)
    exact ⟨a, vs, g, e1, .inl e2, r⟩
  | flst es =>
    obtain ⟨a, vs, g, e1, e2, r⟩ := Rep.sqL h (show lstOf (.flst es) = some ds from e)
    exact ⟨a, vs, g, e1, .inl e2, r⟩
  | tup es =>
    cases e
    obtain ⟨a, vs, e1, e2, r⟩ := h
    exact ⟨a, vs, p, e1, .inr e2.sq, r, fun b hb => hb⟩
  | _ => cases e
mutual
theorem Rep.dp : ∀ (d : D) (v : V) (p : List Addr), Rep K H d v p → noDic d = true → Dp K H v (toP d)
  | .non, v, p, h, _ => by rw [h.1]; exact .non
  | .bl _, v, p, h, _ => by rw [h.1]; exact .bl _
  | .int _, v, p, h, _ => by rw [h.1]; exact .int _
  | .str _, v, p, h, _ => by rw [h.1]; exact .str _
  | .tup ds, v, p, h, k => by
    obtain ⟨a, vs, rfl, q, h⟩ := h
    exact .tup q.sq (RepL.dp ds vs p h k)
  | .lst ds, v, p, h, k => by
    obtain ⟨a, vs, g, rfl, q, _, h⟩ := h
    exact .lst (SqL.of q) (RepL.dp ds vs g h k)
  | .flst ds, v, p, h, k => by
    obtain ⟨a, vs, rfl, q, h⟩ := h
    exact .lst q.seq (RepL.dp ds vs p h k)
  | .dic kvs, v, p, h, k => by cases k
  | .fdic kvs, v, p, h, k => by cases k
  | .exc _ _ _ kvs, v, p, h, k => by cases k
theorem RepL.dp : ∀ (ds : List D) (vs : List V) (p : List Addr), RepL K H ds vs p → noDicL ds = true → DpAll K H vs (toPL ds)
  | [], vs, p, h, _ => by rw [h.1]; exact .nil
  | d :: ds, vs, p, h, k => by
    obtain ⟨v, vs', f1, f2, rfl, rfl, h1, h2⟩ := h
    have k' : (noDic d && noDicL ds) = true := k
    rw [Bool.and_eq_true] at k'
    exact .cons (Rep.dp d v f1 h1 k'.1) (RepL.dp ds vs' f2 h2 k'.2)
end
end
/-! ### numbers -/
def dAddI : D → D → Option D
  | .int i, .int j => some (.int (i + j))
  | _, _ => none
def dSub : D → D → Option D
  | .int i, .int j => some (.int (i - j))
  | _, _ => none
def mulOk (i j : Int) : Bool := decide (i.natAbs < 2 ^ 64) || decide (j.natAbs < 2 ^ 64)
def dMulI : D → D → Option D
  | .int i, .int j => if mulOk i j then some (.int (i * j)) else none
  | _, _ => none
def dDiv : D → D → Option D
  | .int i, .int j => if j ≠ 0 ∧ j.natAbs < 1073741824 then some (.int (i.fdiv j)) else none
  | _, _ => none
def dMod : D → D → Option D
  | .int i, .int j => if j ≠ 0 then some (.int (i.fmod j)) else none
  | _, _ => none
def dPow : D → D → Option D
  | .int i, .int j => if 0 ≤ j ∧ j ≤ 1000000 ∧ i.natAbs < 2 ^ 64 then some (.int (i ^ j.toNat)) else none
  | _, _ => none
def dCmp (p : Int → Int → Bool) : D → D → Option D
  | .int i, .int j => some (.bl (p i j))
  | _, _ => none
section
variable {K : PySem.W.Frag} {X : Cx}
theorem op2_I0 {g : Int → Int → V} {f : D → D → Option D} {k : Int → Int → D} (hf : ∀ x y z, f x y = some z → ∃ i j, x = .int i ∧ y = .int j ∧ z = k i j) (hk : ∀ K H i j, Rep K H (k i j) (g i j) []) : Op2 K (rI0 g) f := by
  intro H x y v w p q z Q r1 r2 e h
  obtain ⟨i, j, rfl, rfl, rfl⟩ := hf x y z e
  exact ⟨i, j, r1.1, r2.1, h _ H [] (hk _ _ _ _) List.nodup_nil (by simp) (Same.refl H)⟩
theorem op2_I {C : Int → Int → Prop} {g : Int → Int → V} {f : D → D → Option D} {k : Int → Int → D} (hf : ∀ x y z, f x y = some z → ∃ i j, x = .int i ∧ y = .int j ∧ C i j ∧ z = k i j) (hk : ∀ K H i j, Rep K H (k i j) (g i j) []) : Op2 K (rI C g) f := by
  intro H x y v w p q z Q r1 r2 e h
  obtain ⟨i, j, rfl, rfl, c, rfl⟩ := hf x y z e
  exact ⟨i, j, r1.1, r2.1, c, h _ H [] (hk _ _ _ _) List.nodup_nil (by simp) (Same.refl H)⟩
theorem Op2.or {r r' : R2} {f f' : D → D → Option D} (h : Op2 K r f) (h' : Op2 K r' f') : Op2 K (fun x y H Q => r x y H Q ∨ r' x y H Q) (fun x y => (f x y).orElse fun _ => f' x y) := by
  intro H x y v w p q z Q r1 r2 e k
  have e : (f x y).orElse (fun _ => f' x y) = some z := e
  cases e1 : f x y with
  | some z' =>
    rw [e1] at e
    cases e
    exact .inl (h H x y v w p q z Q r1 r2 e1 k)
  | none =>
    rw [e1] at e
    exact .inr (h' H x y v w p q z Q r1 r2 e k)
theorem o2_addI : Op2 K (rI0 fun i j => .int (i + j)) dAddI := op2_I0 (k := fun i j => .int (i + j)) (fun x y z e => by
  cases x <;> cases y <;> cases e; exact ⟨_, _, rfl, rfl, rfl⟩) fun _ _ _ _ => ⟨rfl, rfl⟩
theorem o2_sub : Op2 K (rI0 fun i j => .int (i - j)) dSub := op2_I0 (k := fun i j => .int (i - j)) (fun x y z e => by
  cases x <;> cases y <;> cases e; exact ⟨_, _, rfl, rfl, rfl⟩) fun _ _ _ _ => ⟨rfl, rfl⟩
theorem o2_cmp (p : Int → Int → Bool) : Op2 K (rI0 fun i j => .bl (p i j)) (dCmp p) := op2_I0 (k := fun i j => .bl (p i j)) (fun x y z e => by
  cases x <;> cases y <;> cases e; exact ⟨_, _, rfl, rfl, rfl⟩) fun _ _ _ _ => ⟨rfl, rfl⟩
theorem if_some {α : Type} {c : Prop} [Decidable c] {x z : α} (e : (if c then some x else none) = some z) : c ∧ x = z := by
  by_cases h : c
  · rw [if_pos h] at e; cases e; exact ⟨h, rfl⟩
  · rw [if_neg h] at e; cases e
theorem by_cases_if {α : Type} {c : Prop} [Decidable c] {x : Option α} {z : α} (e : (if c then x else none) = some z) : c ∧ x = some z := by
  by_cases h : c
  · rw [if_pos h] at e; exact ⟨h, e⟩
  · rw [if_neg h] at e; cases e
theorem o2_mulI : Op2 K (rI CMul fun i j => .int (i * j)) dMulI := op2_I (k := fun i j => .int (i * j)) (fun x y z e => by
  cases x <;> cases y <;> try cases e
  obtain ⟨c, e⟩ := if_some e
  refine ⟨_, _, rfl, rfl, ?_, e.symm⟩
  unfold mulOk at c
  simp only [Bool.or_eq_true, decide_eq_true_eq] at c
  rcases c with c | c
  · exact .inl ⟨by omega, by omega⟩
  · exact .inr ⟨by omega, by omega⟩) fun _ _ _ _ => ⟨rfl, rfl⟩
theorem o2_div : Op2 K (rI CDivN fun i j => .int (i.fdiv j)) dDiv := op2_I (k := fun i j => .int (i.fdiv j)) (fun x y z e => by
  cases x <;> cases y <;> try cases e
  obtain ⟨c, e⟩ := if_some e
  exact ⟨_, _, rfl, rfl, c, e.symm⟩) fun _ _ _ _ => ⟨rfl, rfl⟩
theorem o2_mod : Op2 K (rI (fun _ j => j ≠ 0) fun i j => .int (i.fmod j)) dMod := op2_I (k := fun i j => .int (i.fmod j)) (fun x y z e => by
  cases x <;> cases y <;> try cases e
  obtain ⟨c, e⟩ := if_some e
  exact ⟨_, _, rfl, rfl, c, e.symm⟩) fun _ _ _ _ => ⟨rfl, rfl⟩
theorem o2_pow : Op2 K (rI CPow fun i j => .int (i ^ j.toNat)) dPow := op2_I (k := fun i j => .int (i ^ j.toNat)) (fun x y z e => by
  cases x <;> cases y <;> try cases e
  obtain ⟨c, e⟩ := if_some e
  exact ⟨_, _, rfl, rfl, c, e.symm⟩) fun _ _ _ _ => ⟨rfl, rfl⟩
/-! ### + and * of texts, lists, tuples -/
def dAddS : D → D → Option D
  | .str x, .str y => if x.length + y.length ≤ sizeLine then some (.str (x ++ y)) else none
  | _, _ => none
def dCatL : D → D → Option D
  | .lst a, .lst b => if (immL a && immL b) = true ∧ a.length + b.length ≤ sizeLine then some (.lst (a ++ b)) else none
  | _, _ => none
def dCatT : D → D → Option D
  | .tup a, .tup b => if (immL a && immL b) = true ∧ a.length + b.length ≤ sizeLine then some (.tup (a ++ b)) else none
  | _, _ => none
theorem immL_append : ∀ (a b : List D), immL (a ++ b) = (immL a && immL b)
  | [], b => by simp [immL]
  | d :: a, b => by show (imm d && immL (a ++ b)) = _; rw [immL_append a b]; simp [immL, Bool.and_assoc]
theorem RepL.nil_of {K : PySem.W.Frag} {H : Hp} {ds : List D} {vs : List V} {p : List Addr} (h : RepL K H ds vs p) (k : immL ds = true) : RepL K H ds vs [] := by
  have := RepL.imm _ _ _ h k
  subst this
  exact h
theorem o2_addS : Op2 K (fun x y H Q => ∃ i j, x = .str i ∧ y = .str j ∧ i.length + j.length ≤ sizeLine ∧ Q (.str (i ++ j)) H) dAddS := by
  intro H x y v w p q z Q r1 r2 e h
  cases x <;> cases y <;> try cases e
  obtain ⟨c, rfl⟩ := if_some e
  exact ⟨_, _, r1.1, r2.1, c, h _ H [] ⟨rfl, rfl⟩ List.nodup_nil (by simp) (Same.refl H)⟩
theorem o2_catL : Op2 K rCat dCatL := by
  intro H x y v w p q z Q r1 r2 e h
  cases x <;> cases y <;> try cases e
  rename_i a b
  obtain ⟨⟨c, hl⟩, rfl⟩ := if_some e
  rw [Bool.and_eq_true] at c
  obtain ⟨pa, va, ga, rfl, ea, _, ra⟩ := r1
  obtain ⟨pb, vb, gb, rfl, eb, _, rb⟩ := r2
  refine ⟨pa, pb, va, vb, rfl, rfl, ea, eb, by rw [ra.length, rb.length]; exact hl, fun t ht => ?_⟩
  have sm := upd_same_of (o := .lst (va ++ vb)) ht
  refine h _ _ [t] ⟨t, va ++ vb, [], rfl, upd_same, rfl, ?_⟩ (by simp) (by simpa using ht) sm
  exact (RepL.keep _ _ _ (ra.nil_of c.1) (Same.keep sm)).append (RepL.keep _ _ _ (rb.nil_of c.2) (Same.keep sm))
theorem o2_catT : Op2 K (rCatF K) dCatT := by
  intro H x y v w p q z Q r1 r2 e h
  cases x <;> cases y <;> try cases e
  rename_i a b
  obtain ⟨⟨c, hl⟩, rfl⟩ := if_some e
  rw [Bool.and_eq_true] at c
  obtain ⟨pa, va, rfl, ea, ra⟩ := r1
  obtain ⟨pb, vb, rfl, eb, rb⟩ := r2
  have la := ra.length
  have lb := rb.length
  refine ⟨pa, pb, va, vb, rfl, rfl, ea.sq, eb.sq, by rw [la, lb]; exact hl, fun h0 => ?_, fun h0 h1 => ?_, fun h0 h1 t o ht hd => ?_⟩
  · subst h0
    have : a = [] := List.eq_nil_of_length_eq_zero la.symm
    subst this
    exact h _ H [] ⟨pb, vb, rfl, eb, rb.nil_of c.2⟩ List.nodup_nil (by simp) (Same.refl H)
  · subst h1
    have : b = [] := List.eq_nil_of_length_eq_zero lb.symm
    subst this
    exact h _ H [] ⟨pa, va, rfl, ea, by rw [List.append_nil]; exact ra.nil_of c.1⟩ List.nodup_nil (by simp) (Same.refl H)
  · have sm := upd_same_of (o := .frz o (.tup (va ++ vb))) ht
    refine h _ _ [] ⟨t, va ++ vb, rfl, .inl ⟨o, upd_same, hd⟩, ?_⟩ List.nodup_nil (by simp) sm
    exact (RepL.keep _ _ _ (ra.nil_of c.1) (Same.keep sm)).append (RepL.keep _ _ _ (rb.nil_of c.2) (Same.keep sm))
def dAdd (x y : D) : Option D := (dAddI x y).orElse fun _ => (dAddS x y).orElse fun _ => (dCatL x y).orElse fun _ => dCatT x y
theorem o2_add : Op2 K (fun x y H Q => rI0 (fun i j => .int (i + j)) x y H Q ∨ (∃ i j, x = .str i ∧ y = .str j ∧ i.length + j.length ≤ sizeLine ∧ Q (.str (i ++ j)) H) ∨ rCat x y H Q ∨ rCatF K x y H Q) dAdd :=
  o2_addI.or (o2_addS.or (o2_catL.or o2_catT))
theorem ox_add : OpR X (binaryOp .Add) (fun x y H Q => rI0 (fun i j => .int (i + j)) x y H Q ∨ (∃ i j, x = .str i ∧ y = .str j ∧ i.length + j.length ≤ sizeLine ∧ Q (.str (i ++ j)) H) ∨ rCat x y H Q ∨ rCatF X.K x y H Q) :=
  op_add.or (op_add_str.or (op_cat.or op_catF))
def dRepL : D → D → Option D
  | .lst a, .int k => if immL a = true ∧ k.natAbs < 2 ^ 63 ∧ a.length * k.toNat ≤ sizeLine then some (.lst (List.replicate k.toNat a).flatten) else none
  | _, _ => none
theorem RepL.rep {K : PySem.W.Frag} {H : Hp} {ds : List D} {vs : List V} (h : RepL K H ds vs []) : ∀ k : Nat, RepL K H (List.replicate k ds).flatten (List.replicate k vs).flatten []
  | 0 => ⟨rfl, rfl⟩
  | k + 1 => by rw [List.replicate_succ, List.replicate_succ, List.flatten_cons, List.flatten_cons]; exact h.append (RepL.rep h k)
theorem o2_repL : Op2 K rRep dRepL := by
  intro H x y v w p q z Q r1 r2 e h
  cases x <;> cases y <;> try cases e
  rename_i a k
  obtain ⟨⟨c, h0, h3⟩, rfl⟩ := if_some e
  have h1 : -(2 ^ 63) ≤ k := by omega
  have h2 : k < 2 ^ 63 := by omega
  obtain ⟨pa, va, ga, rfl, ea, _, ra⟩ := r1
  refine ⟨pa, k, va, rfl, r2.1, ea, h1, h2, by rw [ra.length]; exact h3, fun t ht => ?_⟩
  have sm := upd_same_of (o := .lst (List.replicate k.toNat va).flatten) ht
  exact h _ _ [t] ⟨t, _, [], rfl, upd_same, rfl, RepL.keep _ _ _ ((ra.nil_of c).rep _) (Same.keep sm)⟩ (by simp) (by simpa using ht) sm
def dMul (x y : D) : Option D := (dMulI x y).orElse fun _ => dRepL x y
theorem o2_mul : Op2 K (fun x y H Q => rI CMul (fun i j => .int (i * j)) x y H Q ∨ rRep x y H Q) dMul := o2_mulI.or o2_repL
theorem ox_mul : OpR X (binaryOp .Mult) (fun x y H Q => rI CMul (fun i j => .int (i * j)) x y H Q ∨ rRep x y H Q) := op_mul.or op_rep
/-! ### ==, != -/
def toV : D → Option V
  | .non => some .non | .bl b => some (.bl b) | .int i => some (.int i) | .str x => some (.str x)
  | _ => none
theorem Rep.toV {K : PySem.W.Frag} {H : Hp} {d : D} {v w : V} {p : List Addr} (h : Rep K H d v p) (e : toV d = some w) : v = w := by
  cases d <;> cases e <;> exact h.1
/-- plain things compared -/
def dEqS (x y : D) : Option Bool := (toV x).bind fun v => (toV y).bind fun w => if scal v w = true then some (decide (v = w)) else none
def dEqD (x y : D) : Option Bool := if noDic x = true ∧ noDic y = true ∧ SeqAt.shaped (toP x) = true ∧ SeqAt.shaped (toP y) = true then some (PyData.eqv (toP x) (toP y)) else none
def dEqB (x y : D) : Option Bool := (dEqS x y).orElse fun _ => dEqD x y
def dEq (x y : D) : Option D := (dEqB x y).map .bl
def dNe (x y : D) : Option D := (dEqB x y).map fun b => .bl (!b)
theorem dEqS_some {x y : D} {b : Bool} (e : dEqS x y = some b) : ∃ v w, toV x = some v ∧ toV y = some w ∧ scal v w = true ∧ b = decide (v = w) := by
  unfold dEqS at e
  obtain ⟨v, e1, e⟩ := Option.bind_eq_some_iff.mp e
  obtain ⟨w, e2, e⟩ := Option.bind_eq_some_iff.mp e
  obtain ⟨c, e⟩ := if_some e
  exact ⟨v, w, e1, e2, c, e.symm⟩
theorem o2_eq : Op2 K (fun x y H Q => rEq x y H Q ∨ rEqD K x y H Q) dEq := by
  intro H x y v w p q z Q r1 r2 e0 h
  obtain ⟨b, e, rfl⟩ := Option.map_eq_some_iff.mp e0
  have fin := h (.bl b) H [] ⟨rfl, rfl⟩ List.nodup_nil (by simp) (Same.refl H)
  unfold dEqB at e
  cases e1 : dEqS x y with
  | some b' =>
    rw [e1] at e; cases e
    obtain ⟨v', w', e2, e3, e4, rfl⟩ := dEqS_some e1
    obtain rfl := r1.toV e2
    obtain rfl := r2.toV e3
    exact .inl ⟨e4, fin⟩
  | none =>
    rw [e1] at e
    obtain ⟨⟨n1, n2, s1, s2⟩, rfl⟩ := if_some (show (if noDic x = true ∧ noDic y = true ∧ SeqAt.shaped (toP x) = true ∧ SeqAt.shaped (toP y) = true then some (PyData.eqv (toP x) (toP y)) else none) = some b from e)
    exact .inr ⟨_, _, Rep.dp _ _ _ r1 n1, Rep.dp _ _ _ r2 n2, s1, s2, fin⟩
theorem o2_ne : Op2 K (fun x y H Q => rNe x y H Q ∨ rNeD K x y H Q) dNe := by
  intro H x y v w p q z Q r1 r2 e0 h
  obtain ⟨b, e, rfl⟩ := Option.map_eq_some_iff.mp e0
  have fin := h (.bl (!b)) H [] ⟨rfl, rfl⟩ List.nodup_nil (by simp) (Same.refl H)
  unfold dEqB at e
  cases e1 : dEqS x y with
  | some b' =>
    rw [e1] at e; cases e
    obtain ⟨v', w', e2, e3, e4, rfl⟩ := dEqS_some e1
    obtain rfl := r1.toV e2
    obtain rfl := r2.toV e3
    exact .inl ⟨e4, fin⟩
  | none =>
    rw [e1] at e
    obtain ⟨⟨n1, n2, s1, s2⟩, rfl⟩ := if_some (show (if noDic x = true ∧ noDic y = true ∧ SeqAt.shaped (toP x) = true ∧ SeqAt.shaped (toP y) = true then some (PyData.eqv (toP x) (toP y)) else none) = some b from e)
    exact .inr ⟨_, _, Rep.dp _ _ _ r1 n1, Rep.dp _ _ _ r2 n2, s1, s2, fin⟩
theorem ox_eq (hu : X.A.units + 64 < cLine) : OpR X (compareOp .Eq) (fun x y H Q => rEq x y H Q ∨ rEqD X.K x y H Q) := op_eq.or (op_eqD hu)
theorem ox_ne (hu : X.A.units + 64 < cLine) : OpR X (compareOp .NotEq) (fun x y H Q => rNe x y H Q ∨ rNeD X.K x y H Q) := op_ne.or (op_neD hu)
/-! ### in, not in -/
def keyOf : D → Option Key
  | .int i => some (.inl i)
  | .str x => some (.inr x)
  | _ => none
def kvGet (kvs : List (Key × D)) (k : Key) : Option D := (kvs.find? fun kv => decide (kv.1 = k)).map (·.2)
def kvPut (kvs : List (Key × D)) (k : Key) (v : D) : List (Key × D) := if kvs.any (fun kv => decide (kv.1 = k)) then kvs.map fun kv => if kv.1 = k then (kv.1, v) else kv else kvs ++ [(k, v)]
def inS (x : D) : List D → Option Bool
  | [] => some false
  | y :: ys => (toV x).bind fun v => (toV y).bind fun w => (inS x ys).map fun b => eqV w v || b
/-- in a list, a tuple of plain things; in a list of any data; in a dict; in a text -/
def dInB (x y : D) : Option Bool := match y with
  | .dic kvs => (keyOf x).map fun k => (kvGet kvs k).isSome
  | .fdic kvs => (keyOf x).map fun k => (kvGet kvs k).isSome
  | .str z => match x with
    | .str c => some (!(Builtin.Str.occurrences z c 0 z.length 1).isEmpty)
    | _ => none
  | _ => (seqOf y).bind fun ys => ((toV x).bind fun _ => inS x ys).orElse fun _ =>
    (lstOf y).bind fun ys => if noDic x = true ∧ noDicL ys = true ∧ SeqAt.shaped (toP x) = true ∧ SeqAt.shaped (.list (toPL ys)) = true then some ((toPL ys).any fun z => PyData.eqv z (toP x)) else none
def dIn (x y : D) : Option D := (dInB x y).map .bl
def dNotIn (x y : D) : Option D := (dInB x y).map fun b => .bl (!b)
theorem flat_toV {d : D} {v : V} (e : toV d = some v) : flatV v = true := by cases d <;> cases e <;> rfl
theorem inS_all {K : PySem.W.Frag} {H : Hp} {x : D} {v : V} (ex : toV x = some v) : ∀ {ys : List D} {ws : List V} {p : List Addr} {b : Bool}, RepL K H ys ws p → inS x ys = some b → ws.all flatV = true ∧ inV v ws = b
  | [], ws, p, b, r, e => by cases e; rw [r.1]; exact ⟨rfl, rfl⟩
  | y :: ys, ws, p, b, r, e => by
    obtain ⟨w, ws', f1, f2, rfl, rfl, r1, r2⟩ := r
    unfold inS at e
    rw [ex] at e
    obtain ⟨w', e1, e⟩ := Option.bind_eq_some_iff.mp (show ((toV y).bind fun w => (inS x ys).map fun b => eqV w v || b) = some b from e)
    obtain ⟨b', e2, e⟩ := Option.map_eq_some_iff.mp e
    subst e
    obtain rfl := r1.toV e1
    obtain ⟨q1, q2⟩ := inS_all ex r2 e2
    refine ⟨by simp [flat_toV e1, q1], ?_⟩
    show ((w :: ws').any fun y => eqV y v) = _
    rw [List.any_cons]
    show (eqV w v || inV v ws') = _
    rw [q2]
theorem RepK.get {K : PySem.W.Frag} {H : Hp} {k : Key} : ∀ {kvs : List (Key × D)} {ws : List (Key × V)} {p : List Addr}, RepK K H kvs ws p →
    (kvGet kvs k = none ∧ valV ws k = none) ∨ ∃ d v f, kvGet kvs k = some d ∧ valV ws k = some v ∧ Rep K H d v f
  | [], ws, p, r => by rw [r.1]; exact .inl ⟨rfl, rfl⟩
  | (k0, d0) :: kvs, ws, p, r => by
    obtain ⟨v, ws', f1, f2, rfl, rfl, r1, r2⟩ := r
    by_cases e : k0 = k
    · refine .inr ⟨d0, v, f1, by simp [kvGet, List.find?_cons, e], valV_pos e, r1⟩
    · have e1 : kvGet ((k0, d0) :: kvs) k = kvGet kvs k := by simp [kvGet, List.find?_cons, e]
      rw [e1, valV_neg e]
      exact RepK.get r2
theorem keyOf_kV {K : PySem.W.Frag} {H : Hp} {x : D} {v : V} {p : List Addr} {k : Key} (r : Rep K H x v p) (e : keyOf x = some k) : v = kV k := by
  cases x <;> cases e <;> exact r.1
def rInDic : R2 := fun y x H Q => ∃ a o, x = .ref a ∧ DGet H a y o ∧ Q (.bl o.isSome) H
def rNotInDic : R2 := fun y x H Q => ∃ a o, x = .ref a ∧ DGet H a y o ∧ Q (.bl (!o.isSome)) H
theorem op_inDic (hu : X.A.units + 1 < cLine) : OpR X (compareOp .In) rInDic := fun _ _ _ H _ _ _ _ _ I rx ry ⟨_, o, ex, get, q⟩ => by
  subst ex; cases ry
  exact d_in hu I get rx fun _ J => ⟨.bl o.isSome, H, J, rfl, q⟩
theorem op_notInDic (hu : X.A.units + 1 < cLine) : OpR X (compareOp .NotIn) rNotInDic := fun _ _ _ H _ _ _ _ _ I rx ry ⟨_, o, ex, get, q⟩ => by
  subst ex; cases ry
  exact d_notIn hu I get rx fun _ J => ⟨.bl (!o.isSome), H, J, rfl, q⟩
def rInAll (K : PySem.W.Frag) : R2 := fun x y H Q => rInDic x y H Q ∨ (∃ i j, x = .str i ∧ y = .str j ∧ Q (.bl (!(Builtin.Str.occurrences j i 0 j.length 1).isEmpty)) H) ∨ rIn K false x y H Q ∨ rInD K x y H Q
def rNotInAll (K : PySem.W.Frag) : R2 := fun x y H Q => rNotInDic x y H Q ∨ (∃ i j, x = .str i ∧ y = .str j ∧ Q (.bl (!(!(Builtin.Str.occurrences j i 0 j.length 1).isEmpty))) H) ∨ rIn K true x y H Q ∨ rNotInD K x y H Q
theorem ox_in (hu : X.A.units + 65 < cLine) : OpR X (compareOp .In) (rInAll X.K) := (op_inDic (by omega)).or (op_in_str.or (op_in_seq.or (op_inD hu)))
theorem ox_notIn (hu : X.A.units + 65 < cLine) : OpR X (compareOp .NotIn) (rNotInAll X.K) := (op_notInDic (by omega)).or (op_notin_str.or (op_notIn_seq.or (op_notInD hu)))
/-- both at once: n tells 'not' -/
theorem dget_frz {H : Hp} {a : Addr} {kvs : List (Key × V)} {k : Key} {o : Obj} (e : H a = some (.frz o (.dK kvs))) : DGet H a (kV k) (valV kvs k) := .inl ⟨kvs, k, .inr ⟨o, e⟩, rfl, rfl⟩
theorem in_core {K : PySem.W.Frag} {H : Hp} {x y : D} {v w : V} {p q : List Addr} {b : Bool} (r1 : Rep K H x v p) (r2 : Rep K H y w q) (e : dInB x y = some b) :
    (∃ a o, w = .ref a ∧ DGet H a v o ∧ o.isSome = b) ∨ (∃ i j, v = .str i ∧ w = .str j ∧ (!(Builtin.Str.occurrences j i 0 j.length 1).isEmpty) = b) ∨
      (∃ p xs, w = .ref p ∧ (SqL K H p xs ∨ SqT K H p xs) ∧ flatV v = true ∧ xs.all flatV = true ∧ inV v xs = b) ∨
      (∃ d ds, Dp K H v d ∧ Dp K H w (.list ds) ∧ SeqAt.shaped d = true ∧ SeqAt.shaped (.list ds) = true ∧ (ds.any fun z => PyData.eqv z d) = b) := by
  have seqCase : ∀ ys, seqOf y = some ys → (((toV x).bind fun _ => inS x ys).orElse fun _ => (lstOf y).bind fun ys => if noDic x = true ∧ noDicL ys = true ∧ SeqAt.shaped (toP x) = true ∧ SeqAt.shaped (.list (toPL ys)) = true then some ((toPL ys).any fun z => PyData.eqv z (toP x)) else none) = some b →
      (∃ p xs, w = .ref p ∧ (SqL K H p xs ∨ SqT K H p xs) ∧ flatV v = true ∧ xs.all flatV = true ∧ inV v xs = b) ∨ (∃ d ds, Dp K H v d ∧ Dp K H w (.list ds) ∧ SeqAt.shaped d = true ∧ SeqAt.shaped (.list ds) = true ∧ (ds.any fun z => PyData.eqv z d) = b) := by
    intro ys hy e
    cases e1 : ((toV x).bind fun _ => inS x ys) with
    | some b' =>
      rw [e1] at e
      cases e
      obtain ⟨v', e2, e3⟩ := Option.bind_eq_some_iff.mp e1
      obtain rfl := r1.toV e2
      obtain ⟨a, ws, g, rfl, hs, rl, _⟩ := r2.seq hy
      obtain ⟨q1, q2⟩ := inS_all e2 rl e3
      exact .inl ⟨a, ws, rfl, hs, flat_toV e2, q1, q2⟩
    | none =>
      rw [e1] at e
      obtain ⟨zs, e2, e3⟩ := Option.bind_eq_some_iff.mp (show ((lstOf y).bind fun ys => if noDic x = true ∧ noDicL ys = true ∧ SeqAt.shaped (toP x) = true ∧ SeqAt.shaped (.list (toPL ys)) = true then some ((toPL ys).any fun z => PyData.eqv z (toP x)) else none) = some b from e)
      obtain ⟨⟨n1, n2, s1, s2⟩, e4⟩ := if_some e3
      obtain ⟨a, ws, g, rfl, hs, rl, _⟩ := r2.sqL e2
      exact .inr ⟨toP x, toPL zs, Rep.dp _ _ _ r1 n1, .lst hs (RepL.dp _ _ _ rl n2), s1, s2, e4⟩
  cases y with
  | dic kvs =>
    obtain ⟨k, e1, e⟩ := Option.map_eq_some_iff.mp e
    obtain rfl := keyOf_kV r1 e1
    obtain ⟨a, ws, g, rfl, ea, _, rk⟩ := r2
    refine .inl ⟨a, _, rfl, DGet.k ea, ?_⟩
    rw [← e]
    rcases rk.get (k := k) with ⟨q1, q2⟩ | ⟨d, v, f, q1, q2, _⟩ <;> rw [q1, q2] <;> rfl
  | fdic kvs =>
    obtain ⟨k, e1, e⟩ := Option.map_eq_some_iff.mp e
    obtain rfl := keyOf_kV r1 e1
    obtain ⟨a, ws, rfl, ⟨o, ea⟩, rk⟩ := r2
    refine .inl ⟨a, _, rfl, dget_frz ea, ?_⟩
    rw [← e]
    rcases rk.get (k := k) with ⟨q1, q2⟩ | ⟨d, v, f, q1, q2, _⟩ <;> rw [q1, q2] <;> rfl
  | str z =>
    cases x <;> cases e
    exact .inr (.inl ⟨_, _, r1.1, r2.1, rfl⟩)
  | lst ds => exact .inr (.inr (seqCase ds rfl e))
  | flst ds => exact .inr (.inr (seqCase ds rfl e))
  | tup ds => exact .inr (.inr (seqCase ds rfl e))
  | _ => cases e
theorem o2_in : Op2 K (rInAll K) dIn := by
  intro H x y v w p q z Q r1 r2 e0 h
  obtain ⟨b, e, rfl⟩ := Option.map_eq_some_iff.mp e0
  have fin := h (.bl b) H [] ⟨rfl, rfl⟩ List.nodup_nil (by simp) (Same.refl H)
  rcases in_core r1 r2 e with ⟨a, o, e1, g, rfl⟩ | ⟨i, j, e1, e2, rfl⟩ | ⟨a, xs, e1, hs, f1, f2, rfl⟩ | ⟨d, ds, d1, d2, s1, s2, rfl⟩
  · exact .inl ⟨a, o, e1, g, fin⟩
  · exact .inr (.inl ⟨i, j, e1, e2, fin⟩)
  · exact .inr (.inr (.inl ⟨a, xs, e1, hs, f1, f2, fin⟩))
  · exact .inr (.inr (.inr ⟨d, ds, d1, d2, s1, s2, fin⟩))
theorem o2_notIn : Op2 K (rNotInAll K) dNotIn := by
  intro H x y v w p q z Q r1 r2 e0 h
  obtain ⟨b, e, rfl⟩ := Option.map_eq_some_iff.mp e0
  have fin := h (.bl (!b)) H [] ⟨rfl, rfl⟩ List.nodup_nil (by simp) (Same.refl H)
  rcases in_core r1 r2 e with ⟨a, o, e1, g, rfl⟩ | ⟨i, j, e1, e2, rfl⟩ | ⟨a, xs, e1, hs, f1, f2, rfl⟩ | ⟨d, ds, d1, d2, s1, s2, rfl⟩
  · exact .inl ⟨a, o, e1, g, fin⟩
  · exact .inr (.inl ⟨i, j, e1, e2, fin⟩)
  · exact .inr (.inr (.inl ⟨a, xs, e1, hs, f1, f2, fin⟩))
  · exact .inr (.inr (.inr ⟨d, ds, d1, d2, s1, s2, fin⟩))
/-! ### items -/
def dIxS : D → D → Option D
  | .str z, .int i => if z.length ≤ sizeLine then (atI z.cps.toList i).map fun c => .str ⟨#[c]⟩ else none
  | _, _ => none
def dIxQ (x y : D) : Option D := match y with
  | .int i => (seqOf x).bind fun ds => (atI ds i).bind fun d => if imm d = true then some d else none
  | _ => none
def dIxD (x y : D) : Option D := match x with
  | .dic kvs => (keyOf y).bind fun k => (kvGet kvs k).bind fun d => if imm d = true then some d else none
  | .fdic kvs => (keyOf y).bind fun k => (kvGet kvs k).bind fun d => if imm d = true then some d else none
  | _ => none
theorem RepL.atI {K : PySem.W.Frag} {H : Hp} {ds : List D} {vs : List V} {p : List Addr} {i : Int} {d : D} (r : RepL K H ds vs p) (e : L2.atI ds i = some d) : ∃ v f, L2.atI vs i = some v ∧ Rep K H d v f := by
  unfold L2.atI at e ⊢
  obtain ⟨j, e1, e2⟩ := Option.bind_eq_some_iff.mp e
  obtain ⟨v, f1, f2, f3, e3, _, r1, _⟩ := r.at e2
  exact ⟨v, f2, by rw [r.length, e1]; exact e3, r1⟩
theorem rep_nil {K : PySem.W.Frag} {H : Hp} {d : D} {v : V} {p : List Addr} (r : Rep K H d v p) (k : imm d = true) : Rep K H d v [] := by
  have := Rep.imm _ _ _ r k
  subst this
  exact r
theorem o2_ixS : Op2 K rIxS dIxS := by
  intro H x y v w p q z Q r1 r2 e h
  cases x <;> cases y <;> try cases e
  obtain ⟨c, e⟩ := by_cases_if e
  obtain ⟨u, e1, e⟩ := Option.map_eq_some_iff.mp e
  subst e
  exact ⟨_, _, u, r1.1, r2.1, c, e1, h _ H [] ⟨rfl, rfl⟩ List.nodup_nil (by simp) (Same.refl H)⟩
theorem o2_ixQ : Op2 K (fun x y H Q => rIxL K x y H Q ∨ rIxT K x y H Q) dIxQ := by
  intro H x y v w p q z Q r1 r2 e h
  cases y <;> try cases e
  rename_i i
  obtain ⟨ds, e1, e⟩ := Option.bind_eq_some_iff.mp (show ((seqOf x).bind fun ds => (L2.atI ds i).bind fun d => if imm d = true then some d else none) = some z from e)
  obtain ⟨d, e2, e⟩ := Option.bind_eq_some_iff.mp e
  obtain ⟨c, rfl⟩ := if_some e
  obtain ⟨a, ws, g, rfl, hs, rl, _⟩ := r1.seq e1
  obtain ⟨u, f, e3, r3⟩ := rl.atI e2
  have fin := h u H [] (rep_nil r3 c) List.nodup_nil (by simp) (Same.refl H)
  rcases hs with hs | hs
  · exact .inl ⟨a, ws, i, u, rfl, r2.1, hs, e3, fin⟩
  · exact .inr ⟨a, ws, i, u, rfl, r2.1, hs, e3, fin⟩
def dIx (x y : D) : Option D := (dIxS x y).orElse fun _ => dIxQ x y
theorem o2_ix : Op2 K (fun x y H Q => rIxS x y H Q ∨ rIxL K x y H Q ∨ rIxT K x y H Q) dIx := o2_ixS.or o2_ixQ
theorem ox_ix : IxR X (fun x y H Q => rIxS x y H Q ∨ rIxL X.K x y H Q ∨ rIxT X.K x y H Q) := ix_str.or (ix_list.or ix_tup)
end
/-- x[i], of a list, a tuple, a text, a dict -/
def dSubs (x y : D) : Option D := (dIx x y).orElse fun _ => dIxD x y
def rDicGet : R2 := fun x y H Q => ∃ a v, x = .ref a ∧ DGet H a y (some v) ∧ Q v H
theorem o2_ixD {K : PySem.W.Frag} : Op2 K rDicGet dIxD := by
  intro H x y v w p q z Q r1 r2 e h
  cases x <;> try cases e
  · rename_i kvs
    obtain ⟨k, e1, e⟩ := Option.bind_eq_some_iff.mp (show ((keyOf y).bind fun k => (kvGet kvs k).bind fun d => if imm d = true then some d else none) = some z from e)
    obtain ⟨d, e2, e⟩ := Option.bind_eq_some_iff.mp e
    obtain ⟨c, rfl⟩ := if_some e
    obtain rfl := keyOf_kV r2 e1
    obtain ⟨a, ws, g, rfl, ea, _, rk⟩ := r1
    rcases rk.get (k := k) with ⟨q1, q2⟩ | ⟨d', u, f, q1, q2, r3⟩
    · rw [e2] at q1; cases q1
    · rw [e2] at q1
      cases q1
      exact ⟨a, u, rfl, by have := DGet.k (k := k) ea; rw [q2] at this; exact this, h u H [] (rep_nil r3 c) List.nodup_nil (by simp) (Same.refl H)⟩
  · rename_i kvs
    obtain ⟨k, e1, e⟩ := Option.bind_eq_some_iff.mp (show ((keyOf y).bind fun k => (kvGet kvs k).bind fun d => if imm d = true then some d else none) = some z from e)
    obtain ⟨d, e2, e⟩ := Option.bind_eq_some_iff.mp e
    obtain ⟨c, rfl⟩ := if_some e
    obtain rfl := keyOf_kV r2 e1
    obtain ⟨a, ws, rfl, ⟨o, ea⟩, rk⟩ := r1
    rcases rk.get (k := k) with ⟨q1, q2⟩ | ⟨d', u, f, q1, q2, r3⟩
    · rw [e2] at q1; cases q1
    · rw [e2] at q1
      cases q1
      exact ⟨a, u, rfl, by have := dget_frz (k := k) ea; rw [q2] at this; exact this, h u H [] (rep_nil r3 c) List.nodup_nil (by simp) (Same.refl H)⟩
theorem de_sub {X : Cx} {a b : Expr} {pos : Pos} {fa fb : FE} (hu : X.A.units + 1 < cLine) (ha : DE X a fa) (hb : DE X b fb) (hs : PlainIx b) : DE X (.Subscript a b pos) (fOp dSubs fa fb) :=
  ⟨pe_weak (pe_or' (pe_ix ox_ix ha.pe hb.pe hs) (pe_dget (td := rdE X.K fa) (ty := rdE X.K fb) hu ha.pe hb.pe hs)) fun σ H Q h => by
    obtain ⟨ρ, F, x0, ρ2, E, nd, ef, k⟩ := h
    obtain ⟨x, ρ1, y, dx, dy, z, e1, e2, e3, e4, e5, rfl⟩ := fOp_some ef
    unfold dSubs at e5
    cases e6 : dIx dx dy with
    | some z' =>
      rw [e6] at e5
      cases e5
      refine .inl (tOp_of (g := dIx) o2_ix ⟨ρ, F, .val z, ρ2, E, nd, ?_, k⟩)
      unfold fOp
      simp [e1, e2, e3, e4, e6]
    | none =>
      rw [e6] at e5
      refine .inr (tOp_of (g := dIxD) (r := rDicGet) o2_ixD ⟨ρ, F, .val z, ρ2, E, nd, ?_, k⟩)
      unfold fOp
      have e5' : dIxD dx dy = some z := e5
      simp [e1, e2, e3, e4, e5']⟩
end DL
/-! Calls of built-ins, methods. -/
namespace DL
open PySem PySem.Spec L2
/-- the arguments as they stand -/
def Args (K : PySem.W.Frag) (H : Hp) (ds : List D) (vs : List V) : Prop := vs.length = ds.length ∧ ∀ (i : Nat) (d : D) (v : V), ds[i]? = some d → vs[i]? = some v → ∃ p, Rep K H d v p
theorem Args.one {K : PySem.W.Frag} {H : Hp} {d : D} {vs : List V} (h : Args K H [d] vs) : ∃ v p, vs = [v] ∧ Rep K H d v p := by
  obtain ⟨hl, h⟩ := h
  match vs, hl with
  | [v], _ => obtain ⟨p, r⟩ := h 0 d v rfl rfl; exact ⟨v, p, rfl, r⟩
theorem Args.two {K : PySem.W.Frag} {H : Hp} {d e : D} {vs : List V} (h : Args K H [d, e] vs) : ∃ v w p q, vs = [v, w] ∧ Rep K H d v p ∧ Rep K H e w q := by
  obtain ⟨hl, h⟩ := h
  match vs, hl with
  | [v, w], _ => obtain ⟨p, r⟩ := h 0 d v rfl rfl; obtain ⟨q, r'⟩ := h 1 e w rfl rfl; exact ⟨v, w, p, q, rfl, r, r'⟩
/-- something new comes, or a thing that owns nothing -/
def Tells (K : PySem.W.Frag) (H : Hp) (z : D) (Q : VK) : Prop := ∀ u H' h, Rep K H' z u h → h.Nodup → (∀ a ∈ h, H a = none) → Same H H' → Q u H'
theorem Tells.flat {K : PySem.W.Frag} {H : Hp} {z : D} {Q : VK} (t : Tells K H z Q) {u : V} (r : Rep K H z u []) : Q u H := t u H [] r List.nodup_nil (by simp) (Same.refl H)
theorem Tells.list {K : PySem.W.Frag} {H : Hp} {ds : List D} {Q : VK} (t : Tells K H (.lst ds) Q) {vs : List V} (r : RepL K H ds vs []) {p : Addr} (hp : H p = none) : Q (.ref p) (upd H p (.lst vs)) := by
  have sm := upd_same_of (o := .lst vs) hp
  exact t _ _ [p] ⟨p, vs, [], rfl, upd_same, rfl, RepL.keep _ _ _ r (Same.keep sm)⟩ (by simp) (by simpa using hp) sm
theorem Tells.tup {K : PySem.W.Frag} {H : Hp} {ds : List D} {Q : VK} (t : Tells K H (.tup ds) Q) {vs : List V} (r : RepL K H ds vs []) : newT H vs Q := fun p o hp hd => by
  have sm := upd_same_of (o := .frz o (.tup vs)) hp
  exact t _ _ [] ⟨p, vs, rfl, .inl ⟨o, upd_same, hd⟩, RepL.keep _ _ _ r (Same.keep sm)⟩ List.nodup_nil (by simp) sm
def CallS (K : PySem.W.Frag) (r : List V → Hp → VK → Prop) (g : List D → Option D) : Prop := ∀ (H : Hp) (ds : List D) (vs : List V) (z : D) (Q : VK), Args K H ds vs → g ds = some z → Tells K H z Q → r vs H Q
def fCall (g : List D → Option D) (fr : FA) : FE := fun ρ => (fr ρ).bind fun (rs, ρ1) => (conts ρ1 rs).bind fun ds => (g ds).map fun z => (.val z, ρ1)
section
variable {X : Cx} {e o : Expr} {es : List Expr} {pos p : Pos} {x : Str} {id T : String} {r : List V → Hp → VK → Prop} {g : List D → Option D} {fr : FA} {fo : FE}
theorem tCB_of {K : PySem.W.Frag} (hg : CallS K r g) {σ : L2.St} {H : Hp} {Q : VK} (h : rdE K (fCall g fr) σ H Q) : tCB r (rdA K fr) σ H Q := by
  obtain ⟨ρ, F, x0, ρ2, E, nd, ef, k⟩ := h
  obtain ⟨⟨rs, ρ1⟩, e1, ef⟩ := Option.bind_eq_some_iff.mp ef
  obtain ⟨ds, e2, ef⟩ := Option.bind_eq_some_iff.mp ef
  obtain ⟨z, e3, ef⟩ := Option.map_eq_some_iff.mp ef
  cases ef
  refine ⟨ρ, F, rs, ρ2, E, nd, e1, fun vs H' g' F' r1 E1 N1 S1 => ?_⟩
  obtain ⟨hl, hi⟩ := r1.conts E1 e2
  refine hg H' ds vs z Q ⟨hl, fun i d v a b => let ⟨p, q, _⟩ := hi i d v a b; ⟨p, q⟩⟩ e3 fun u H2 h ru nh fr' sm => ?_
  exact k u H2 h F' ru (E1.keep (Same.keep sm)) (nodup_fresh E1 (nodup3 N1).2.1 nh fr') (S1.fresh sm fr' fun a ha => List.mem_append_right _ ha)
theorem de_callB (hc : CallR X (.builtin id) r) (hs : CallS X.K r g) (hg : Gl X x) (hm : X.mg x = none) (hv : bootBuiltins x = some (.builtin id)) (ha : DA X (e :: es) fr) (hn : x ≠ "__name__" := by decide) (hdb : (x == ("__debug__" : Str)) = false := by decide)
    (he : starEach (e :: es) X.env = (false, eval e X.env) :: starEach es X.env := by rfl) (hpl : (backTo pos (starEach es X.env)).any (·.1) = false := by rfl) : DE X (.Call (.Name x p) (e :: es) [] pos) (fCall g fr) :=
  ⟨pe_weak (pe_callB hc hg hm hv ha.pa hn hdb he hpl) fun _ _ _ h => tCB_of hs h⟩
theorem de_callTy (hc : CallR X (.type T) r) (hs : CallS X.K r g) (hg : Gl X x) (hm : X.mg x = none) (hv : bootBuiltins x = some (.type T)) (ha : DA X (e :: es) fr) (hn : x ≠ "__name__" := by decide) (hdb : (x == ("__debug__" : Str)) = false := by decide)
    (he : starEach (e :: es) X.env = (false, eval e X.env) :: starEach es X.env := by rfl) (hpl : (backTo pos (starEach es X.env)).any (·.1) = false := by rfl) : DE X (.Call (.Name x p) (e :: es) [] pos) (fCall g fr) :=
  ⟨pe_weak (pe_callTy hc hg hm hv ha.pa hn hdb he hpl) fun _ _ _ h => tCB_of hs h⟩
end
theorem CallS.or {K : PySem.W.Frag} {r r' : List V → Hp → VK → Prop} {f f' : List D → Option D} (h : CallS K r f) (h' : CallS K r' f') : CallS K (fun xs H Q => r xs H Q ∨ r' xs H Q) (fun xs => (f xs).orElse fun _ => f' xs) := by
  intro H ds vs z Q a e k
  have e : (f ds).orElse (fun _ => f' ds) = some z := e
  cases e1 : f ds with
  | some z' =>
    rw [e1] at e
    cases e
    exact .inl (h H ds vs z Q a e1 k)
  | none =>
    rw [e1] at e
    exact .inr (h' H ds vs z Q a e k)
/-! ### len -/
def dLenQ : List D → Option D
  | [.str z] => if z.length ≤ sizeLine then some (.int z.length) else none
  | [x] => (seqOf x).map fun ds => .int ds.length
  | _ => none
def dLenD : List D → Option D
  | [.dic kvs] => some (.int kvs.length)
  | _ => none
def dLen (xs : List D) : Option D := (dLenQ xs).orElse fun _ => dLenD xs
section
variable {K : PySem.W.Frag} {X : Cx}
theorem cs_lenQ : CallS K (fun xs H Q => ∃ x n, xs = [x] ∧ LenV K x H n ∧ Q (.int n) H) dLenQ := by
  intro H ds vs z Q a e k
  unfold dLenQ at e
  split at e
  · obtain ⟨v, p, rfl, r⟩ := a.one
    obtain ⟨c, rfl⟩ := if_some e
    obtain ⟨rfl, _⟩ := r
    exact ⟨_, _, rfl, ⟨c, rfl⟩, k.flat ⟨rfl, rfl⟩⟩
  · obtain ⟨v, p, rfl, r⟩ := a.one
    obtain ⟨ys, e1, rfl⟩ := Option.map_eq_some_iff.mp e
    obtain ⟨b, ws, g, rfl, hs, rl, _⟩ := r.seq e1
    refine ⟨_, ws.length, rfl, ?_, by rw [rl.length]; exact k.flat ⟨rfl, rfl⟩⟩
    rcases hs with hs | hs
    · exact .inl ⟨ws, hs, rfl⟩
    · exact .inr ⟨ws, hs, rfl⟩
  · cases e
theorem RepK.length {H : Hp} : ∀ {kvs : List (Key × D)} {ws : List (Key × V)} {p : List Addr}, RepK K H kvs ws p → ws.length = kvs.length
  | [], ws, p, r => by rw [r.1]; rfl
  | (k0, d0) :: kvs, ws, p, r => by
    obtain ⟨v, ws', f1, f2, rfl, rfl, r1, r2⟩ := r
    rw [List.length_cons, List.length_cons, RepK.length r2]
theorem cs_lenD : CallS K (fun xs H Q => ∃ a kvs, xs = [V.ref a] ∧ H a = some (.dK kvs) ∧ Q (.int kvs.length) H) dLenD := by
  intro H ds vs z Q a e k
  unfold dLenD at e
  split at e
  · obtain ⟨v, p, rfl, r⟩ := a.one
    cases e
    obtain ⟨b, ws, g, rfl, hb, _, rk⟩ := r
    exact ⟨b, ws, rfl, hb, by rw [rk.length]; exact k.flat ⟨rfl, rfl⟩⟩
  · cases e
theorem cs_len : CallS K (fun xs H Q => (∃ x n, xs = [x] ∧ LenV K x H n ∧ Q (.int n) H) ∨ ∃ a kvs, xs = [V.ref a] ∧ H a = some (.dK kvs) ∧ Q (.int kvs.length) H) dLen := cs_lenQ.or cs_lenD
theorem cx_len : CallR X (.builtin "len") (fun xs H Q => (∃ x n, xs = [x] ∧ LenV X.K x H n ∧ Q (.int n) H) ∨ ∃ a kvs, xs = [V.ref a] ∧ H a = some (.dK kvs) ∧ Q (.int kvs.length) H) := call_len.or call_lenD
/-! ### list, tuple, int, str, abs, sum -/
def dList : List D → Option D
  | [x] => (seqOf x).bind fun ds => if immL ds = true then some (.lst ds) else none
  | _ => none
theorem cs_list : CallS K (fun xs H Q => ∃ p ys, xs = [.ref p] ∧ (SqL K H p ys ∨ SqT K H p ys) ∧ ∀ l, H l = none → Q (.ref l) (upd H l (.lst ys))) dList := by
  intro H ds vs z Q a e k
  unfold dList at e
  split at e
  · obtain ⟨v, p, rfl, r⟩ := a.one
    obtain ⟨ys, e1, e⟩ := Option.bind_eq_some_iff.mp e
    obtain ⟨c, rfl⟩ := if_some e
    obtain ⟨b, ws, g, rfl, hs, rl, _⟩ := r.seq e1
    exact ⟨b, ws, rfl, hs, fun l hl => k.list (rl.nil_of c) hl⟩
  · cases e
def dTuple : List D → Option D
  | [x] => (seqOf x).bind fun ds => if immL ds = true then some (.tup ds) else none
  | _ => none
theorem cs_tuple : CallS K (rTupOf K) dTuple := by
  intro H ds vs z Q a e k
  unfold dTuple at e
  split at e
  · rename_i x
    obtain ⟨v, p, rfl, r⟩ := a.one
    obtain ⟨ys, e1, e⟩ := Option.bind_eq_some_iff.mp e
    obtain ⟨c, rfl⟩ := if_some e
    cases x with
    | tup es =>
      cases e1
      obtain ⟨b, ws, rfl, hs, rl⟩ := r
      exact ⟨b, ws, rfl, .inr ⟨hs.sq, k.flat ⟨b, ws, rfl, hs, rl.nil_of c⟩⟩⟩
    | lst es =>
      obtain ⟨b, ws, g, rfl, hs, rl, _⟩ := r.sqL (show lstOf (.lst es) = some ys from e1)
      exact ⟨b, ws, rfl, .inl ⟨hs, k.tup (rl.nil_of c)⟩⟩
    | flst es =>
      obtain ⟨b, ws, g, rfl, hs, rl, _⟩ := r.sqL (show lstOf (.flst es) = some ys from e1)
      exact ⟨b, ws, rfl, .inl ⟨hs, k.tup (rl.nil_of c)⟩⟩
    | _ => cases e1
  · cases e
def dInt : List D → Option D
  | [.int i] => some (.int i)
  | [.bl b] => some (.int (if b then 1 else 0))
  | _ => none
theorem cs_int : CallS K (fun xs H Q => (∃ i, xs = [.int i] ∧ Q (.int i) H) ∨ ∃ k, xs = [.bl k] ∧ Q (.int (if k then 1 else 0)) H) dInt := by
  intro H ds vs z Q a e k
  unfold dInt at e
  split at e
  · obtain ⟨v, p, rfl, r⟩ := a.one
    cases e
    exact .inl ⟨_, by rw [r.1], k.flat ⟨rfl, rfl⟩⟩
  · obtain ⟨v, p, rfl, r⟩ := a.one
    cases e
    exact .inr ⟨_, by rw [r.1], k.flat ⟨rfl, rfl⟩⟩
  · cases e
def dStr : List D → Option D
  | [.int i] => if i.natAbs.log2 < 1920 then some (.str (toString i)) else none
  | _ => none
theorem cs_str : CallS K (fun xs H Q => ∃ i, xs = [.int i] ∧ i.natAbs.log2 < 1920 ∧ Q (.str (toString i)) H) dStr := by
  intro H ds vs z Q a e k
  unfold dStr at e
  split at e
  · obtain ⟨v, p, rfl, r⟩ := a.one
    obtain ⟨c, rfl⟩ := if_some e
    exact ⟨_, by rw [r.1], c, k.flat ⟨rfl, rfl⟩⟩
  · cases e
/-- all whole numbers -/
def intsOf : List D → Option (List Int)
  | [] => some []
  | .int i :: ds => (intsOf ds).map fun is => i :: is
  | _ :: _ => none
theorem RepL.ints {H : Hp} : ∀ {ds : List D} {vs : List V} {p : List Addr} {ns : List Int}, RepL K H ds vs p → intsOf ds = some ns → vs = ns.map V.int ∧ ds = ns.map D.int
  | [], vs, p, ns, r, e => by cases e; exact ⟨r.1, rfl⟩
  | d :: ds, vs, p, ns, r, e => by
    obtain ⟨v, vs', f1, f2, rfl, rfl, r1, r2⟩ := r
    cases d <;> try cases e
    obtain ⟨is, e1, rfl⟩ := Option.map_eq_some_iff.mp e
    obtain ⟨rfl, rfl⟩ := RepL.ints r2 e1
    exact ⟨by rw [r1.1]; rfl, rfl⟩
def dSum : List D → Option D
  | [x] => (lstOf x).bind fun ds => (intsOf ds).map fun ns => .int ns.sum
  | _ => none
def blsOf : List D → Option (List Bool)
  | [] => some []
  | .bl i :: ds => (blsOf ds).map fun is => i :: is
  | _ :: _ => none
theorem RepL.bls {H : Hp} : ∀ {ds : List D} {vs : List V} {p : List Addr} {ns : List Bool}, RepL K H ds vs p → blsOf ds = some ns → vs = ns.map V.bl
  | [], vs, p, ns, r, e => by cases e; exact r.1
  | d :: ds, vs, p, ns, r, e => by
    obtain ⟨v, vs', f1, f2, rfl, rfl, r1, r2⟩ := r
    cases d <;> try cases e
    obtain ⟨is, e1, rfl⟩ := Option.map_eq_some_iff.mp e
    obtain rfl := RepL.bls r2 e1
    rw [r1.1]; rfl
def dAll : List D → Option D
  | [x] => (lstOf x).bind fun ds => (blsOf ds).map fun ns => .bl (ns.all id)
  | _ => none
theorem cs_all : CallS K (rAll K) dAll := by
  intro H ds vs z Q a e k
  unfold dAll at e
  split at e
  · obtain ⟨v, p, rfl, r⟩ := a.one
    obtain ⟨ys, e1, e⟩ := Option.bind_eq_some_iff.mp e
    obtain ⟨ns, e2, rfl⟩ := Option.map_eq_some_iff.mp e
    obtain ⟨b, ws, g, rfl, hs, rl, _⟩ := r.sqL e1
    obtain rfl := rl.bls e2
    exact ⟨b, ns, rfl, hs, k.flat ⟨rfl, rfl⟩⟩
  · cases e
def dAny : List D → Option D
  | [x] => (lstOf x).bind fun ds => (blsOf ds).map fun ns => .bl (ns.any id)
  | _ => none
theorem cs_any : CallS K (rAny K) dAny := by
  intro H ds vs z Q a e k
  unfold dAny at e
  split at e
  · obtain ⟨v, p, rfl, r⟩ := a.one
    obtain ⟨ys, e1, e⟩ := Option.bind_eq_some_iff.mp e
    obtain ⟨ns, e2, rfl⟩ := Option.map_eq_some_iff.mp e
    obtain ⟨b, ws, g, rfl, hs, rl, _⟩ := r.sqL e1
    obtain rfl := rl.bls e2
    exact ⟨b, ns, rfl, hs, k.flat ⟨rfl, rfl⟩⟩
  · cases e
/-! ### min, max of whole numbers -/
def rMm (K : PySem.W.Frag) (f : Int → Int → Int) : List V → Hp → VK → Prop := fun vs H Q => ∃ (a : Addr) (n : Int) (ns : List Int), vs = [.ref a] ∧ (SqL K H a ((n :: ns).map V.int) ∨ SqT K H a ((n :: ns).map V.int)) ∧ Q (.int (ns.foldl f n)) H
theorem reads_ints {h : Heap} : ∀ {us : List Value} {ns : List Int}, PyProof.Rows.IntsAre us ns → ∃ as, ReadsAll h us (ns.map PyData.int) as
  | _, _, .nil => ⟨_, .nil⟩
  | _, _, .cons n t r => let ⟨as, q⟩ := reads_ints r; ⟨_, .cons (.int n t) q⟩
theorem alike_ints' (ns : List Int) : PySem.W.AlikeAll (ns.map PyData.int) := by
  constructor
  · intro x hx y hy
    obtain ⟨a, _, rfl⟩ := List.mem_map.mp hx
    obtain ⟨b, _, rfl⟩ := List.mem_map.mp hy
    simp [PySem.W.alike]
  · intro x hx
    obtain ⟨a, _, rfl⟩ := List.mem_map.mp hx
    exact fun q => nomatch q
theorem depth_ints' (ns : List Int) : PyData.depthAll (ns.map PyData.int) = 0 := by
  induction ns <;> simp_all [PyData.depthAll, PyData.depth]
/-- the whole numbers of a list, a tuple, as data -/
theorem nums_at {pins : List (Addr × Obj)} {σ : L2.St} {H : Hp} {st : Shared} {a : Addr} {ns : List Int} (I : Inv X pins σ H st) (h : SqL X.K H a (ns.map V.int) ∨ SqT X.K H a (ns.map V.int)) :
    ∃ (zs : List Value) (as : List Addr), ReadsAll st.heap zs (ns.map .int) as ∧ (st.heap.IsList a zs.toArray ∨ st.heap.IsTuple a zs.toArray) :=
  h.elim (fun l => let ⟨zs, rv, p, _⟩ := I.list l; let ⟨as, rd⟩ := reads_ints rv.ints; ⟨zs, as, rd, .inl p.isList⟩)
    fun t => let ⟨zs, rv, p, _⟩ := I.tuple t; let ⟨as, rd⟩ := reads_ints rv.ints; ⟨zs, as, rd, .inr p⟩
theorem mm_end {pins : List (Addr × Obj)} {σ : L2.St} {H : Hp} {st : Shared} {Q : VK} {m : Int} (I : Inv X pins σ H st) (q : Q (.int m) H) {v : Value} {g : Heap} {tk : Nat} {bs : List Addr} (rd : Reads g v (.int m) bs)
    (kp : ∀ b o, st.heap.get? b = some o → g.get? b = some o) : EP X pins σ Q v { st with heap := g, toks := tk } := by
  cases rd
  exact ⟨.int m, H, I.kept kp, ⟨_, rfl⟩, q⟩
theorem shallow {u : Nat} (ns : List Int) (h : u + 1 < cLine) : u + 1 + PyData.depthAll (ns.map .int) < cLine := by rw [depth_ints']; exact h
theorem cx_min (calm : X.calm = true) (hu : X.A.units + 1 < cLine) : CallR X (.builtin "min") (rMm X.K min) := fun pins st σ H _ us Q I r ⟨a, n, ns, ex, at_, q⟩ => by
  subst ex
  rw [Vals.ref1 r]
  obtain ⟨zs, as, rd, p | p⟩ := nums_at I at_
  · exact PySem.W.min_list_data (I.ok.hd calm) p rd (alike_ints' (n :: ns)) (shallow (n :: ns) hu) fun _ _ _ _ _ _ rv kp => mm_end I q (PySem.W.minD_ints n ns ▸ rv) kp
  · exact PySem.W.min_tuple_data (I.ok.hd calm) p rd (alike_ints' (n :: ns)) (shallow (n :: ns) hu) fun _ _ _ _ _ _ rv kp => mm_end I q (PySem.W.minD_ints n ns ▸ rv) kp
theorem cx_max (calm : X.calm = true) (hu : X.A.units + 1 < cLine) : CallR X (.builtin "max") (rMm X.K max) := fun pins st σ H _ us Q I r ⟨a, n, ns, ex, at_, q⟩ => by
  subst ex
  rw [Vals.ref1 r]
  obtain ⟨zs, as, rd, p | p⟩ := nums_at I at_
  · exact PySem.W.max_list_data (I.ok.hd calm) p rd (alike_ints' (n :: ns)) (shallow (n :: ns) hu) fun _ _ _ _ _ _ rv kp => mm_end I q (PySem.W.maxD_ints n ns ▸ rv) kp
  · exact PySem.W.max_tuple_data (I.ok.hd calm) p rd (alike_ints' (n :: ns)) (shallow (n :: ns) hu) fun _ _ _ _ _ _ rv kp => mm_end I q (PySem.W.maxD_ints n ns ▸ rv) kp
def dMm (f : Int → Int → Int) : List D → Option D
  | [x] => (seqOf x).bind fun ds => (intsOf ds).bind fun ns => match ns with
    | [] => none
    | n :: ns => some (.int (ns.foldl f n))
  | _ => none
theorem cs_mm (f : Int → Int → Int) : CallS K (rMm K f) (dMm f) := by
  intro H ds vs z Q a e k
  unfold dMm at e
  split at e
  · obtain ⟨v, p, rfl, r⟩ := a.one
    obtain ⟨ys, e1, e⟩ := Option.bind_eq_some_iff.mp e
    obtain ⟨ns, e2, e⟩ := Option.bind_eq_some_iff.mp e
    obtain ⟨b, ws, g, rfl, hs, rl, _⟩ := r.seq e1
    obtain ⟨rfl, _⟩ := rl.ints e2
    cases ns with
    | nil => cases e
    | cons n ns =>
      cases e
      exact ⟨b, n, ns, rfl, hs, k.flat ⟨rfl, rfl⟩⟩
  · cases e
/-! ### sorted -/
def sortable (ds : List PyData) : Bool := (ds.all fun d => match d with | .tuple (_ :: _) => true | _ => false) || ds.all fun d => match d with | .none => false | .tuple _ => false | _ => true
def allAlike (ds : List PyData) : Bool := ds.all fun d => ds.all fun e => PySem.W.alike d e
theorem sortable_ok {ds : List PyData} (h : sortable ds = true) : PySem.W.Sortable ds := by
  unfold sortable at h
  rw [Bool.or_eq_true, List.all_eq_true, List.all_eq_true] at h
  rcases h with h | h
  · refine .inl fun d hd => ?_
    have q := h d hd
    split at q
    · exact ⟨_, _, rfl⟩
    · cases q
  · refine .inr fun d hd => ?_
    have q := h d hd
    split at q
    · cases q
    · cases q
    · rename_i h1 h2
      exact ⟨h1, fun xs => h2 xs⟩
def rSortedD (K : PySem.W.Frag) : List V → Hp → VK → Prop := fun vs H Q => ∃ (a : Addr) (ds : List D) (ws : List V), vs = [.ref a] ∧ SqL K H a ws ∧ RepL K H ds ws [] ∧ noDicL ds = true ∧ immL ds = true ∧
  sortable (ds.map toP) = true ∧ allAlike (ds.map toP) = true ∧ (∀ d ∈ ds, (toP d).depth ≤ 32) ∧
  ∀ (p : Addr) (xs : List V), H p = none → RepL K H (ds.mergeSort (PySem.W.dataLe false toP)) xs [] → Q (.ref p) (upd H p (.lst xs))
theorem each_of {H : Hp} {R : Value → D → Prop} : ∀ {ds : List D} {vs : List V} {us : List Value}, RepL K H ds vs [] → immL ds = true → Vals vs us → (∀ d v u, d ∈ ds → Rep K H d v [] → RelV v u → R u d) → PySem.W.EachIs R us ds
  | [], vs, us, r, _, rv, _ => by obtain ⟨rfl, _⟩ := r; cases rv; exact .nil
  | d :: ds, vs, us, r, hi, rv, f => by
    obtain ⟨v, vs', f1, f2, rfl, e, r1, r2⟩ := r
    obtain ⟨rfl, rfl⟩ := List.nil_eq_append_iff.mp e
    have hi' : (imm d && immL ds) = true := hi
    rw [Bool.and_eq_true] at hi'
    cases rv with
    | cons a b => exact .cons (f d v _ List.mem_cons_self r1 a) (each_of r2 hi'.2 b fun d' v' u hd => f d' v' u (List.mem_cons_of_mem _ hd))
theorem of_each {H : Hp} : ∀ {us : List Value} {ds : List D}, PySem.W.EachIs (fun u d => ∃ v, RelV v u ∧ Rep K H d v []) us ds → ∃ vs, Vals vs us ∧ RepL K H ds vs []
  | _, _, .nil => ⟨[], .nil, rfl, rfl⟩
  | _, _, .cons h t => by
    obtain ⟨v, r, q⟩ := h
    obtain ⟨vs, r2, q2⟩ := of_each t
    exact ⟨v :: vs, .cons r r2, v, vs, [], [], rfl, rfl, q, q2⟩
theorem noDicL_mem : ∀ {ds : List D} {d : D}, noDicL ds = true → d ∈ ds → noDic d = true
  | x :: ds, d, h, hd => by
    have h' : (noDic x && noDicL ds) = true := h
    rw [Bool.and_eq_true] at h'
    rcases List.mem_cons.mp hd with rfl | hd
    · exact h'.1
    · exact noDicL_mem h'.2 hd
/-- a list's items as they read, and as they are told -/
theorem items_at {pins : List (Addr × Obj)} {σ : L2.St} {H : Hp} {st : Shared} {zs : List Value} {ds : List D} {ws : List V} (I : Inv X pins σ H st) (rl : RepL X.K H ds ws []) (flat : noDicL ds = true) (still : immL ds = true) (rv : Vals ws zs) :
    PySem.W.EachIs (fun v b => ∃ as, Reads st.heap v (toP b) as) zs ds ∧ PySem.W.EachIs (fun u d => ∃ v, RelV v u ∧ Rep X.K H d v []) zs ds :=
  ⟨each_of rl still rv fun d v u hd r1 r2 => Dp.reads I (toP d) v u (Rep.dp d v [] r1 (noDicL_mem flat hd)) r2, each_of rl still rv fun d v u _ r1 r2 => ⟨v, r2, r1⟩⟩
theorem cx_sorted (hu : X.A.units + 40 < cLine) : CallR X (.builtin "sorted") (rSortedD X.K) := fun pins st σ H _ us Q I r ⟨a, ds, ws, ex, at_, rl, flat, still, so, al, dp, q⟩ => by
  subst ex
  rw [Vals.ref1 r]
  have ⟨zs, rv, p, small⟩ := I.list at_
  have count : ws.length = ds.length := rl.length
  have ⟨reads, told⟩ := items_at I rl flat still rv
  apply PySem.W.sorted_data p.isList told reads (fun x hx y hy => List.all_eq_true.mp (List.all_eq_true.mp al x hx) y hy) (sortable_ok so) (count ▸ small)
  · intro b hb
    have := dp b hb
    omega
  · intro out same each
    have ⟨xs, rx, rxl⟩ := of_each each
    have ⟨_, new⟩ := PyProof.Rows.sortedAll_at st.heap zs out.toArray
    have fits : xs.length ≤ sizeLine := by rw [rx.length, same, ← count]; exact small
    exact ⟨.ref _, _, I.laid (t' := st.toks) (o := .lst xs) (fun _ _ => PyProof.Rows.sortedAll_old) (Nat.le_succ _) ⟨fits, out, _, rx, new⟩, rfl, q _ xs (I.hok.fresh (Nat.le_succ _)) rxl⟩
def dSorted : List D → Option D
  | [x] => (lstOf x).bind fun ds => if noDicL ds = true ∧ immL ds = true ∧ sortable (ds.map toP) = true ∧ allAlike (ds.map toP) = true ∧ (∀ d ∈ ds, (toP d).depth ≤ 32) then some (.lst (ds.mergeSort (PySem.W.dataLe false toP))) else none
  | _ => none
theorem cs_sorted : CallS K (rSortedD K) dSorted := by
  intro H ds vs z Q a e k
  unfold dSorted at e
  split at e
  · obtain ⟨v, p, rfl, r⟩ := a.one
    obtain ⟨ys, e1, e⟩ := Option.bind_eq_some_iff.mp e
    obtain ⟨⟨c1, c2, c3, c4, c5⟩, rfl⟩ := if_some e
    obtain ⟨b, ws, g, rfl, hs, rl, _⟩ := r.sqL e1
    exact ⟨b, ys, ws, rfl, hs, rl.nil_of c2, c1, c2, c3, c4, c5, fun p xs hp rx => k.list rx hp⟩
  · cases e
end
end DL
/-! Methods: such as read, such as change what a slot holds. -/
namespace DL
open PySem PySem.Spec L2
/-! ### read -/
def MethS (K : PySem.W.Frag) (r : V → List V → Hp → VK → Prop) (g : D → List D → Option D) : Prop :=
  ∀ (H : Hp) (d : D) (v : V) (p : List Addr) (ds : List D) (vs : List V) (z : D) (Q : VK), Rep K H d v p → Args K H ds vs → g d ds = some z → Tells K H z Q → r v vs H Q
def fMethR (g : D → List D → Option D) (fo : FE) (fr : FA) : FE := fun ρ =>
  (fo ρ).bind fun (x, ρ1) => (cont ρ1 x).bind fun d0 => (fr ρ1).bind fun (rs, ρ2) => (cont ρ2 x).bind fun d => (conts ρ2 rs).bind fun ds => (g d ds).map fun z => (.val z, ρ2)
theorem fMethR_some {g : D → List D → Option D} {fo : FE} {fr : FA} {ρ ρ' : Fm} {r : R} (e : fMethR g fo fr ρ = some (r, ρ')) :
    ∃ x ρ1 d0 rs d ds z, fo ρ = some (x, ρ1) ∧ cont ρ1 x = some d0 ∧ fr ρ1 = some (rs, ρ') ∧ cont ρ' x = some d ∧ conts ρ' rs = some ds ∧ g d ds = some z ∧ r = .val z := by
  unfold fMethR at e
  obtain ⟨⟨x, ρ1⟩, e1, e⟩ := Option.bind_eq_some_iff.mp e
  obtain ⟨d0, e0, e⟩ := Option.bind_eq_some_iff.mp e
  obtain ⟨⟨rs, ρ2⟩, e2, e⟩ := Option.bind_eq_some_iff.mp e
  obtain ⟨d, e3, e⟩ := Option.bind_eq_some_iff.mp e
  obtain ⟨ds, e4, e⟩ := Option.bind_eq_some_iff.mp e
  obtain ⟨z, e5, e⟩ := Option.map_eq_some_iff.mp e
  cases e
  exact ⟨x, ρ1, d0, rs, d, ds, z, e1, e0, e2, e3, e4, e5, rfl⟩
section
variable {K : PySem.W.Frag} {r : V → List V → Hp → VK → Prop} {g : D → List D → Option D} {fo : FE} {fr : FA}
/-- the common part: T what is asked of the receiver as soon as it stands -/
theorem meth_of (hg : MethS K r g) {T : V → Hp → Prop} {σ : L2.St} {H : Hp} {Q : VK} {ρ ρ2 : Fm} {F : List Addr} {x : R} {ρ1 : Fm} {rs : List R} {d0 d : D} {ds : List D} {z : D} (E : EnvR K H ρ σ F) (nd : F.Nodup) (e1 : fo ρ = some (x, ρ1)) (e0 : cont ρ1 x = some d0) (e2 : fr ρ1 = some (rs, ρ2))
    (e3 : cont ρ2 x = some d) (e4 : conts ρ2 rs = some ds) (e5 : g d ds = some z) (hT : ∀ v H p, Rep K H d0 v p → T v H)
    (k : ∀ v H' g F', RepR K H' σ (.val z) v g → EnvR K H' ρ2 σ F' → (g ++ F').Nodup → Step H F H' (g ++ F') → Q v H') :
    rdE K fo σ H fun v H1 => T v H1 ∧ rdA K fr σ H1 fun vs H2 => r v vs H2 Q := by
  refine ⟨ρ, F, x, ρ1, E, nd, e1, fun v H1 g1 F1 r1 E1 N1 S1 => ?_⟩
  obtain ⟨p0, q0, _⟩ := r1.cont E1 e0
  obtain ⟨n1, n2, n3⟩ := nodup3 N1
  refine ⟨hT v H1 p0 q0, ρ1, F1, rs, ρ2, E1, n2, e2, fun vs H2 g2 F2 r2 E2 N2 S2 => ?_⟩
  have r1' := r1.keep (S2.keep E1.mut n3)
  obtain ⟨p, q, _⟩ := r1'.cont E2 e3
  obtain ⟨hl, hi⟩ := r2.conts E2 e4
  refine hg H2 d v p ds vs z Q q ⟨hl, fun i d v a b => let ⟨p, q, _⟩ := hi i d v a b; ⟨p, q⟩⟩ e5 fun u H3 h ru nh fr' sm => ?_
  have S3 : Step H F H2 (g1 ++ (g2 ++ F2)) := fun p u e n => by
    obtain ⟨a1, b1⟩ := S1 p u e n
    obtain ⟨a2, b2⟩ := S2 p u a1 fun z => b1 (List.mem_append_right _ z)
    exact ⟨a2, fun z => (List.mem_append.mp z).elim (fun z => b1 (List.mem_append_left _ z)) b2⟩
  exact k u H3 h F2 ru (E2.keep (Same.keep sm)) (nodup_fresh E2 (nodup3 N2).2.1 nh fr') (S3.fresh sm fr' fun a ha => by simp [ha])
end
/-! ### .index -/
def idxD (ds : List PyData) (y : PyData) : Option Nat := ds.findIdx? fun z => PyData.eqv z y
def dIndexL : D → List D → Option D
  | x, [y] => (lstOf x).bind fun ds => if noDicL ds = true ∧ noDic y = true ∧ SeqAt.shaped (.list (toPL ds)) = true ∧ SeqAt.shaped (toP y) = true then (idxD (toPL ds) (toP y)).map fun j => .int (j : Nat) else none
  | _, _ => none
def dIndexT : D → List D → Option D
  | .tup ds, [.int k] => (intsOf ds).bind fun ns => if k ∈ ns then some (.int (ns.idxOf k : Nat)) else none
  | _, _ => none
/-- .index of a tuple, of a list -/
def fIndex (fo : FE) (fr : FA) : FE := fun ρ => match ((fo ρ).bind fun (x, ρ1) => cont ρ1 x) with
  | some (.tup _) => fMethR dIndexT fo fr ρ
  | some (.lst _) => fMethR dIndexL fo fr ρ
  | some (.flst _) => fMethR dIndexL fo fr ρ
  | _ => none
theorem tyV_lst {K : PySem.W.Frag} {d : D} {ds : List D} (e : lstOf d = some ds) : ∀ v H p, Rep K H d v p → tyV K "list" v H := fun v H p r => by
  obtain ⟨a, vs, g, rfl, hs, _⟩ := r.sqL e
  exact .inl ⟨rfl, vs, hs⟩
section
variable {K : PySem.W.Frag} {X : Cx}
theorem ms_indexL : MethS K (rIndexD K) dIndexL := by
  intro H d v p ds vs z Q r a e k
  unfold dIndexL at e
  split at e
  · obtain ⟨w, q, rfl, r2⟩ := a.one
    obtain ⟨ys, e1, e⟩ := Option.bind_eq_some_iff.mp e
    obtain ⟨⟨c1, c2, c3, c4⟩, e⟩ := by_cases_if e
    obtain ⟨j, e2, rfl⟩ := Option.map_eq_some_iff.mp e
    obtain ⟨b, ws, g, rfl, hs, rl, _⟩ := r.sqL e1
    unfold idxD at e2
    rw [List.findIdx?_eq_some_iff_getElem] at e2
    obtain ⟨hj, e3, e4⟩ := e2
    refine ⟨b, w, _, _, j, _, rfl, rfl, .lst hs (RepL.dp _ _ _ rl c1), Rep.dp _ _ _ r2 c2, c3, c4, List.getElem?_eq_getElem hj, e3, fun m z' hm e5 => ?_, k.flat ⟨rfl, rfl⟩⟩
    obtain ⟨hm2, e6⟩ := List.getElem?_eq_some_iff.mp e5
    have := e4 m hm
    rw [e6] at this
    simpa using this
  · cases e
theorem ms_indexT : MethS K (rTIdx K) dIndexT := by
  intro H d v p ds vs z Q r a e k
  unfold dIndexT at e
  split at e
  · obtain ⟨w, q, rfl, r2⟩ := a.one
    obtain ⟨ns, e1, e⟩ := Option.bind_eq_some_iff.mp e
    obtain ⟨c, rfl⟩ := if_some e
    obtain ⟨b, ws, rfl, hs, rl⟩ := r
    obtain ⟨rfl, _⟩ := rl.ints e1
    exact ⟨b, ns, _, rfl, by rw [r2.1], hs.sq, c, k.flat ⟨rfl, rfl⟩⟩
  · cases e
theorem de_index {E : Expr} {fo : FE} {fr : FA} (hl : PE X E (tBM X.K "list" (rIndexD X.K) (rdE X.K fo) (rdA X.K fr))) (ht : PE X E (tTM X.K (rTIdx X.K) (rdE X.K fo) (rdA X.K fr))) : DE X E (fIndex fo fr) :=
  ⟨pe_weak (pe_or' hl ht) fun σ H Q h => by
    obtain ⟨ρ, F, r, ρ2, E, nd, ef, k⟩ := h
    have fL : ∀ d0 ds0, lstOf d0 = some ds0 → ((fo ρ).bind fun (x, ρ1) => cont ρ1 x) = some d0 → fMethR dIndexL fo fr ρ = some (r, ρ2) →
        tBM X.K "list" (rIndexD X.K) (rdE X.K fo) (rdA X.K fr) σ H Q := by
      intro d0 ds0 hl e6 ef
      obtain ⟨x, ρ1, d0', rs, d, ds, z, e1, e0, e2, e3, e4, e5, rfl⟩ := fMethR_some ef
      rw [e1] at e6
      have e6 : cont ρ1 x = some d0 := e6
      exact meth_of (T := fun v H => tyV X.K "list" v H) ms_indexL E nd e1 e6 e2 e3 e4 e5 (tyV_lst hl) k
    unfold fIndex at ef
    split at ef
    · rename_i t0 e6
      obtain ⟨x, ρ1, d0', rs, d, ds, z, e1, e0, e2, e3, e4, e5, rfl⟩ := fMethR_some ef
      rw [e1] at e6
      have e6 : cont ρ1 x = some (.tup t0) := e6
      refine .inr (meth_of (T := fun v H => ∃ a vs, v = .ref a ∧ TupR X.K H a vs) ms_indexT E nd e1 e6 e2 e3 e4 e5 (fun v H p r => ?_) k)
      obtain ⟨a, vs, e, q, _⟩ := r
      exact ⟨a, vs, e, q⟩
    · rename_i t0 e6; exact .inl (fL _ t0 rfl e6 ef)
    · rename_i t0 e6; exact .inl (fL _ t0 rfl e6 ef)
    · cases ef⟩
end
/-! ### such as change what a slot holds -/
inductive Pth where
  | sl (i : Nat) | ix (i j : Nat) | key (i : Nat) (k : Key)
def getP (ρ : Fm) : Pth → Option D
  | .sl i => slot ρ i
  | .ix i j => match slot ρ i with
    | some (.lst ds) => ds[j]?
    | _ => none
  | .key i k => match slot ρ i with
    | some (.dic kvs) => kvGet kvs k
    | _ => none
def kvSet (kvs : List (Key × D)) (k : Key) (d : D) : List (Key × D) := match kvs with
  | [] => []
  | (k0, d0) :: r => if k0 = k then (k0, d) :: r else (k0, d0) :: kvSet r k d
def setP (ρ : Fm) (d : D) : Pth → Fm
  | .sl i => ρ.set i (some d)
  | .ix i j => match slot ρ i with
    | some (.lst ds) => ρ.set i (some (.lst (ds.set j d)))
    | _ => ρ
  | .key i k => match slot ρ i with
    | some (.dic kvs) => ρ.set i (some (.dic (kvSet kvs k d)))
    | _ => ρ
/-- the value that stands there -/
def valP (H : Hp) (σ : L2.St) : Pth → V → Prop
  | .sl i, v => σ[i]? = some (some v)
  | .ix i j, v => ∃ a vs, σ[i]? = some (some (.ref a)) ∧ H a = some (.lst vs) ∧ vs[j]? = some v
  | .key i k, v => ∃ a ws, σ[i]? = some (some (.ref a)) ∧ H a = some (.dK ws) ∧ valV ws k = some v
section
variable {K : PySem.W.Frag} {H H' : Hp} {F : List Addr} {ρ : Fm} {σ : L2.St}
theorem RepL.hole {d : D} : ∀ {ds : List D} {vs : List V} {f : List Addr} {j : Nat}, RepL K H ds vs f → ds[j]? = some d →
    ∃ v f1 f2 f3, vs[j]? = some v ∧ f = f1 ++ (f2 ++ f3) ∧ Rep K H d v f2 ∧ ∀ (H' : Hp) (d' : D) (g : List Addr), Keep H (f1 ++ f3) H' → Rep K H' d' v g → RepL K H' (ds.set j d') vs (f1 ++ (g ++ f3))
  | [], vs, f, j, r, e => by simp at e
  | d0 :: ds, vs, f, j, r, e => by
    obtain ⟨v, vs', f1, f2, rfl, rfl, r1, r2⟩ := r
    cases j with
    | zero =>
      simp at e
      subst e
      exact ⟨v, [], f1, f2, rfl, rfl, r1, fun H' d' g kp r' => ⟨v, vs', g, f2, rfl, rfl, r', RepL.keep _ _ _ r2 kp⟩⟩
    | succ j =>
      obtain ⟨v2, g1, g2, g3, e2, rfl, q1, q2⟩ := RepL.hole r2 (show ds[j]? = some d by simpa using e)
      refine ⟨v2, f1 ++ g1, g2, g3, by simpa using e2, by simp, q1, fun H' d' g kp r' => ?_⟩
      exact ⟨v, vs', f1, g1 ++ (g ++ g3), rfl, by simp, Rep.keep _ _ _ r1 (kp.sub fun a ha => by simp [ha]), q2 H' d' g (kp.sub fun a ha => by simp at ha ⊢; rcases ha with z | z <;> simp [z]) r'⟩
theorem RepK.hole {k : Key} {d : D} : ∀ {kvs : List (Key × D)} {ws : List (Key × V)} {f : List Addr}, RepK K H kvs ws f → kvGet kvs k = some d →
    ∃ v f1 f2 f3, valV ws k = some v ∧ f = f1 ++ (f2 ++ f3) ∧ Rep K H d v f2 ∧ ∀ (H' : Hp) (d' : D) (g : List Addr), Keep H (f1 ++ f3) H' → Rep K H' d' v g → RepK K H' (kvSet kvs k d') ws (f1 ++ (g ++ f3))
  | [], ws, f, r, e => by cases e
  | (k0, d0) :: kvs, ws, f, r, e => by
    obtain ⟨v, ws', f1, f2, rfl, rfl, r1, r2⟩ := r
    by_cases h : k0 = k
    · have e1 : kvGet ((k0, d0) :: kvs) k = some d0 := by simp [kvGet, List.find?_cons, h]
      rw [e1] at e
      cases e
      refine ⟨v, [], f1, f2, valV_pos h, rfl, r1, fun H' d' g kp r' => ?_⟩
      show RepK K H' (if k0 = k then _ else _) _ _
      rw [if_pos h]
      exact ⟨v, ws', g, f2, rfl, rfl, r', RepK.keep _ _ _ r2 kp⟩
    · have e1 : kvGet ((k0, d0) :: kvs) k = kvGet kvs k := by simp [kvGet, List.find?_cons, h]
      rw [e1] at e
      obtain ⟨v2, g1, g2, g3, e2, rfl, q1, q2⟩ := RepK.hole r2 e
      refine ⟨v2, f1 ++ g1, g2, g3, by rw [valV_neg h]; exact e2, by simp, q1, fun H' d' g kp r' => ?_⟩
      show RepK K H' (if k0 = k then _ else _) _ _
      rw [if_neg h]
      exact ⟨v, ws', f1, g1 ++ (g ++ g3), rfl, by simp, Rep.keep _ _ _ r1 (kp.sub fun a ha => by simp [ha]), q2 H' d' g (kp.sub fun a ha => by simp at ha ⊢; rcases ha with z | z <;> simp [z]) r'⟩
theorem getP_ix {i j : Nat} {d : D} (e : getP ρ (.ix i j) = some d) : ∃ ds, slot ρ i = some (.lst ds) ∧ ds[j]? = some d := by
  have e : (match slot ρ i with | some (.lst ds) => ds[j]? | _ => none) = some d := e
  split at e
  · exact ⟨_, by assumption, e⟩
  · cases e
theorem getP_key {i : Nat} {k : Key} {d : D} (e : getP ρ (.key i k) = some d) : ∃ kvs, slot ρ i = some (.dic kvs) ∧ kvGet kvs k = some d := by
  have e : (match slot ρ i with | some (.dic kvs) => kvGet kvs k | _ => none) = some d := e
  split at e
  · exact ⟨_, by assumption, e⟩
  · cases e
theorem setP_ix {i j : Nat} {ds : List D} {d : D} (e : slot ρ i = some (.lst ds)) : setP ρ d (.ix i j) = ρ.set i (some (.lst (ds.set j d))) := by
  show (match slot ρ i with | some (.lst ds) => ρ.set i (some (.lst (ds.set j d))) | _ => ρ) = _
  rw [e]
theorem setP_key {i : Nat} {k : Key} {kvs : List (Key × D)} {d : D} (e : slot ρ i = some (.dic kvs)) : setP ρ d (.key i k) = ρ.set i (some (.dic (kvSet kvs k d))) := by
  show (match slot ρ i with | some (.dic kvs) => ρ.set i (some (.dic (kvSet kvs k d))) | _ => ρ) = _
  rw [e]
theorem ref_inj {a b : Addr} (h : V.ref a = V.ref b) : a = b := by injection h
/-- the lens of a part f2 of what a slot's thing owns, a0 :: (f1 ++ (f2 ++ f3)) -/
theorem lens_part {i : Nat} {d : D} {v w : V} {F1 F3 f1 f2 f3 : List Addr} {a0 : Addr} {up : D → D} (hi : i < ρ.length) (e1 : σ[i]? = some (some w)) (E1 : EnvR K H (ρ.set i none) σ (F1 ++ F3)) (nd : (F1 ++ ((a0 :: (f1 ++ (f2 ++ f3))) ++ F3)).Nodup)
    (r2 : Rep K H d v f2) (upR : ∀ (H' : Hp) (d' : D) (g : List Addr), Keep H (a0 :: (f1 ++ f3)) H' → Rep K H' d' v g → Rep K H' (up d') w (a0 :: (f1 ++ (g ++ f3)))) :
    ∃ (f G : List Addr), Rep K H d v f ∧ f.Nodup ∧ (∀ a ∈ f, a ∉ G) ∧ (∀ a, a ∈ F1 ++ ((a0 :: (f1 ++ (f2 ++ f3))) ++ F3) ↔ a ∈ f ∨ a ∈ G) ∧
      ∀ (H' : Hp) (d' : D) (f' : List Addr), Rep K H' d' v f' → f'.Nodup → (∀ a ∈ f', a ∉ G) → (∀ a o, H a = some o → a ∉ f → H' a = some o) →
        ∃ F', EnvR K H' (ρ.set i (some (up d'))) σ F' ∧ F'.Nodup ∧ ∀ a, a ∈ F' ↔ a ∈ f' ∨ a ∈ G := by
  have nd' := nodup_mid nd
  obtain ⟨n1, n2, n3⟩ := nodup3 nd'
  obtain ⟨m0, m1⟩ := List.nodup_cons.mp n1
  have m1' := nodup_mid m1
  obtain ⟨k1, k2, k3⟩ := nodup3 m1'
  have dis : ∀ a ∈ f2, a ∉ (a0 :: (f1 ++ f3)) ++ (F1 ++ F3) := fun a hz z => by
    simp only [List.mem_append, List.mem_cons] at z
    rcases z with (rfl | z) | z
    · exact m0 (by simp [hz])
    · exact k3 a hz (by simp; exact z)
    · exact n3 a (by simp [hz]) (by simp; exact z)
  have nd1 : (a0 :: (f1 ++ f3)).Nodup := List.nodup_cons.mpr ⟨fun z => m0 (by simp only [List.mem_append] at z ⊢; rcases z with z | z <;> simp [z]), k2⟩
  have dis1 : ∀ a ∈ a0 :: (f1 ++ f3), a ∉ F1 ++ F3 := fun a ha => n3 a (by simp only [List.mem_append, List.mem_cons] at ha ⊢; rcases ha with z | z | z <;> simp [z])
  refine ⟨f2, (a0 :: (f1 ++ f3)) ++ (F1 ++ F3), r2, k1, dis, fun a => ?_, fun H' d' f' r' x1 x2 kp => ?_⟩
  · simp only [List.mem_append, List.mem_cons]
    constructor
    · rintro (h | (rfl | h | h | h) | h) <;> simp [*]
    · rintro (h | (rfl | h | h) | h | h) <;> simp [*]
  · have kk : ∀ {l : List Addr}, (∀ a ∈ l, a ∈ (a0 :: (f1 ++ f3)) ++ (F1 ++ F3)) → Keep H l H' := fun hl a u ea q => kp a u ea fun z => by
      rcases q with q | q
      · exact q (Rep.mut _ _ _ r2 a z)
      · exact dis a z (hl a q)
    have E2 : EnvR K H' (ρ.set i none) σ (F1 ++ F3) := E1.keep (kk fun a ha => List.mem_append_right _ ha)
    have rw' := upR H' d' f' (kk fun a ha => List.mem_append_left _ ha) r'
    obtain ⟨G1, G3, eg, E3⟩ := E2.put hi e1 rw'
    have s1 : ∀ a ∈ f', a ∉ a0 :: (f1 ++ f3) := fun a ha z => x2 a ha (List.mem_append_left _ z)
    have s2 : ∀ a ∈ f', a ∉ F1 ++ F3 := fun a ha z => x2 a ha (List.mem_append_right _ z)
    have nw : (a0 :: (f1 ++ (f' ++ f3))).Nodup := by
      obtain ⟨q0, q1⟩ := List.nodup_cons.mp nd1
      refine List.nodup_cons.mpr ⟨fun z => ?_, nodup_mid (nodup_of x1 q1 fun a ha z => s1 a ha (List.mem_cons_of_mem _ z))⟩
      simp only [List.mem_append] at z q0
      rcases z with z | z | z
      · exact q0 (.inl z)
      · exact s1 _ z List.mem_cons_self
      · exact q0 (.inr z)
    have nd3 : ((a0 :: (f1 ++ (f' ++ f3))) ++ (G1 ++ G3)).Nodup := by
      rw [← eg]
      refine nodup_of nw n2 fun x hx hy => ?_
      simp only [List.mem_cons, List.mem_append] at hx
      rcases hx with rfl | hx | hx | hx
      · exact dis1 _ List.mem_cons_self hy
      · exact dis1 x (by simp [hx]) hy
      · exact s2 x hx hy
      · exact dis1 x (by simp [hx]) hy
    refine ⟨_, E3, nodup_mid nd3, fun a => ?_⟩
    rw [eg]
    simp only [List.mem_append, List.mem_cons]
    constructor
    · rintro (h | (rfl | h | h | h) | h) <;> simp [*]
    · rintro (h | (rfl | h | h) | h | h) <;> simp [*]
/-- what stands at a path, and the rest of the frame -/
theorem EnvR.lens {p : Pth} {d : D} {v : V} (E : EnvR K H ρ σ F) (nd : F.Nodup) (e : getP ρ p = some d) (hv : valP H σ p v) :
    ∃ (f G : List Addr), Rep K H d v f ∧ f.Nodup ∧ (∀ a ∈ f, a ∉ G) ∧ (∀ a, a ∈ F ↔ a ∈ f ∨ a ∈ G) ∧
      ∀ (H' : Hp) (d' : D) (f' : List Addr), Rep K H' d' v f' → f'.Nodup → (∀ a ∈ f', a ∉ G) → (∀ a o, H a = some o → a ∉ f → H' a = some o) →
        ∃ F', EnvR K H' (setP ρ d' p) σ F' ∧ F'.Nodup ∧ ∀ a, a ∈ F' ↔ a ∈ f' ∨ a ∈ G := by
  cases p with
  | sl i =>
    obtain ⟨w, F1, f, F3, e1, rfl, r1, E1⟩ := E.at (slot_some e)
    have hv : σ[i]? = some (some v) := hv
    rw [e1] at hv
    cases hv
    have nd' := nodup_mid nd
    obtain ⟨n1, n2, n3⟩ := nodup3 nd'
    refine ⟨f, F1 ++ F3, r1, n1, n3, fun a => by simp only [List.mem_append]; constructor <;> (intro h; rcases h with h | h | h <;> simp [h]), fun H' d' f' r' m1 m2 kp => ?_⟩
    have E2 : EnvR K H' (ρ.set i none) σ (F1 ++ F3) := E1.keep fun a u ea q => kp a u ea fun z => by
      rcases q with q | q
      · exact q (Rep.mut _ _ _ r1 a z)
      · exact n3 a z q
    obtain ⟨G1, G3, eg, E3⟩ := E2.put (slot_lt e) e1 r'
    have nd3 : (f' ++ (G1 ++ G3)).Nodup := nodup_of m1 (by rw [← eg]; exact n2) (by rw [← eg]; exact m2)
    exact ⟨_, E3, nodup_mid nd3, fun a => by rw [eg]; simp only [List.mem_append]; constructor <;> (intro h; rcases h with h | h | h <;> simp [h])⟩
  | ix i j =>
    obtain ⟨ds, es, e⟩ := getP_ix e
    obtain ⟨w, F1, f, F3, e1, rfl, r1, E1⟩ := E.at (slot_some es)
    obtain ⟨a0, vs, g, rfl, ha, rfl, rl⟩ := r1
    obtain ⟨b0, ws, q1, q2, q3⟩ := hv
    rw [e1] at q1
    obtain rfl := ref_inj (Option.some.inj (Option.some.inj q1))
    rw [ha] at q2
    cases q2
    obtain ⟨w, f1, f2, f3, e2, rfl, r2, up⟩ := rl.hole e
    rw [e2] at q3
    cases q3
    have key := lens_part (up := fun d' => .lst (ds.set j d')) (slot_lt es) e1 E1 nd r2 fun H' d' g kp r' => ⟨_, _, _, rfl, kp _ _ ha (.inr List.mem_cons_self), rfl, up H' d' g (kp.sub fun a ha => List.mem_cons_of_mem _ ha) r'⟩
    simp only [setP_ix es]
    exact key
  | key i k =>
    obtain ⟨kvs, es, e⟩ := getP_key e
    obtain ⟨w, F1, f, F3, e1, rfl, r1, E1⟩ := E.at (slot_some es)
    obtain ⟨a0, vs, g, rfl, ha, rfl, rl⟩ := r1
    obtain ⟨b0, ws, q1, q2, q3⟩ := hv
    rw [e1] at q1
    obtain rfl := ref_inj (Option.some.inj (Option.some.inj q1))
    rw [ha] at q2
    cases q2
    obtain ⟨w, f1, f2, f3, e2, rfl, r2, up⟩ := rl.hole e
    rw [e2] at q3
    cases q3
    have key := lens_part (up := fun d' => .dic (kvSet kvs k d')) (slot_lt es) e1 E1 nd r2 fun H' d' g kp r' => ⟨_, _, _, rfl, kp _ _ ha (.inr List.mem_cons_self), rfl, up H' d' g (kp.sub fun a ha => List.mem_cons_of_mem _ ha) r'⟩
    simp only [setP_key es]
    exact key
end
end DL
/-! Methods that change what a slot holds; statements. -/
namespace DL
open PySem PySem.Spec L2
abbrev FP := Fm → Option (Pth × Fm)
def rdP (K : PySem.W.Frag) (f : FP) : TE := fun σ H Q => ∃ ρ F p ρ', EnvR K H ρ σ F ∧ F.Nodup ∧ f ρ = some (p, ρ') ∧
  ∀ v H' F', valP H' σ p v → EnvR K H' ρ' σ F' → F'.Nodup → Step H F H' F' → Q v H'
structure DP (X : Cx) (e : Expr) (f : FP) : Prop where
  pe : PE X e (rdP X.K f)
def fpVar (i : Nat) : FP := fun ρ => (slot ρ i).map fun _ => (.sl i, ρ)
section
variable {X : Cx} {e o b : Expr} {es : List Expr} {pos : Pos} {fb : FE} {fr : FA} {fp : FP}
theorem dp_var {i : Nat} (h : PE X e (tVar i)) : DP X e (fpVar i) := ⟨pe_weak h fun σ H Q ⟨ρ, F, p, ρ', E, nd, ef, k⟩ => by
  obtain ⟨d, es, e⟩ := Option.map_eq_some_iff.mp ef
  cases e
  obtain ⟨v, F1, f, F3, e1, _⟩ := E.at (slot_some es)
  exact ⟨v, e1, k v H F e1 E nd Step.refl⟩⟩
/-- rows[k], d[k] as a place -/
def fpIx (i : Nat) (fb : FE) : FP := fun ρ => (slot ρ i).bind fun d0 => (fb ρ).bind fun (y, ρ1) => (cont ρ1 y).bind fun dy => match d0, slot ρ1 i, dy with
  | .lst _, some (.lst ds), .int k => (ixN ds.length k).bind fun j => if j < ds.length then some (.ix i j, ρ1) else none
  | .dic _, some (.dic kvs), y => (keyOf y).bind fun k => (kvGet kvs k).map fun _ => (.key i k, ρ1)
  | _, _, _ => none
theorem dp_ix {i : Nat} (hu : X.A.units + 1 < cLine) (ho : PE X o (tVar i)) (hb : DE X b fb) (hs : PlainIx b) : DP X (.Subscript o b pos) (fpIx i fb) :=
  ⟨pe_weak (pe_or' (pe_ix ix_list ho hb.pe hs) (pe_dget (td := tVar i) hu ho hb.pe hs)) fun σ H Q ⟨ρ, F, p, ρ', E, nd, ef, k⟩ => by
    obtain ⟨d0, e0, ef⟩ := Option.bind_eq_some_iff.mp ef
    obtain ⟨⟨y, ρ1⟩, e1, ef⟩ := Option.bind_eq_some_iff.mp ef
    obtain ⟨dy, e2, ef⟩ := Option.bind_eq_some_iff.mp ef
    obtain ⟨v, ev⟩ : ∃ v, σ[i]? = some (some v) := let ⟨v, _, _, _, e, _⟩ := E.at (slot_some e0); ⟨v, e⟩
    have split3 : (∃ ds0 ds k0 j, d0 = .lst ds0 ∧ slot ρ1 i = some (.lst ds) ∧ dy = .int k0 ∧ ixN ds.length k0 = some j ∧ j < ds.length ∧ p = .ix i j ∧ ρ' = ρ1) ∨
        (∃ k0 kvs kk d, d0 = .dic k0 ∧ slot ρ1 i = some (.dic kvs) ∧ keyOf dy = some kk ∧ kvGet kvs kk = some d ∧ p = .key i kk ∧ ρ' = ρ1) := by
      split at ef
      · obtain ⟨j, e3, ef⟩ := Option.bind_eq_some_iff.mp ef
        obtain ⟨c, ef⟩ := if_some ef
        cases ef
        exact .inl ⟨_, _, _, j, rfl, by assumption, rfl, e3, c, rfl, rfl⟩
      · obtain ⟨kk, e3, ef⟩ := Option.bind_eq_some_iff.mp ef
        obtain ⟨d, e4, ef⟩ := Option.map_eq_some_iff.mp ef
        cases ef
        exact .inr ⟨_, _, kk, d, rfl, by assumption, e3, e4, rfl, rfl⟩
      · cases ef
    rcases split3 with ⟨ds0, ds, k0, j, rfl, h1, rfl, e3, c, rfl, rfl⟩ | ⟨k0, kvs, kk, d, rfl, h1, e3, e4, rfl, rfl⟩
    · refine .inl ⟨v, ev, ρ, F, y, ρ', E, nd, e1, fun w H2 g2 F2 r2 E2 N2 S2 => ?_⟩
      obtain ⟨p2, q2, _⟩ := r2.cont E2 e2
      obtain ⟨w', A1, a2, A3, ew, _, rw', _⟩ := E2.at (slot_some h1)
      rw [ev] at ew
      cases ew
      obtain ⟨a0, vs, gg, rfl, ha, _, rl⟩ := rw'
      have hl := rl.length
      have hj : vs[j]? = some (vs[j]'(by omega)) := List.getElem?_eq_getElem (by omega)
      refine ⟨a0, vs, k0, vs[j]'(by omega), rfl, q2.1, SqL.of ha, ?_, k _ H2 F2 ⟨a0, vs, ev, ha, hj⟩ E2 (nodup3 N2).2.1 (S2.to fun a ha => .inl (List.mem_append_right _ ha))⟩
      have e3' : ixN vs.length k0 = some j := by rw [hl]; exact e3
      unfold L2.atI
      rw [e3']
      exact hj
    · refine .inr ⟨v, ev, ρ, F, y, ρ', E, nd, e1, fun w H2 g2 F2 r2 E2 N2 S2 => ?_⟩
      obtain ⟨p2, q2, _⟩ := r2.cont E2 e2
      obtain ⟨w', A1, a2, A3, ew, _, rw', _⟩ := E2.at (slot_some h1)
      rw [ev] at ew
      cases ew
      obtain ⟨a0, vs, gg, rfl, ha, _, rk⟩ := rw'
      obtain rfl := keyOf_kV q2 e3
      rcases rk.get (k := kk) with ⟨z, _⟩ | ⟨d', u, f, z1, z2, _⟩
      · rw [e4] at z; cases z
      · refine ⟨a0, u, rfl, by have := DGet.k (k := kk) ha; rw [z2] at this; exact this, k u H2 F2 ⟨a0, vs, ev, ha, z2⟩ E2 (nodup3 N2).2.1 (S2.to fun a ha => .inl (List.mem_append_right _ ha))⟩⟩
end
/-- while what is below a slot's thing is held on to, the slot can't be asked -/
def hide (ρ : Fm) : Pth → Fm
  | .sl _ => ρ
  | .ix i _ => ρ.set i none
  | .key i _ => ρ.set i none
def unhide (ρ1 ρ3 : Fm) : Pth → Fm
  | .sl _ => ρ3
  | .ix i _ => (ρ3.set i none).set i (slot ρ1 i)
  | .key i _ => (ρ3.set i none).set i (slot ρ1 i)
section
variable {K : PySem.W.Frag} {H H2 : Hp} {F F2 G : List Addr} {ρ1 ρ2 ρ3 : Fm} {σ : L2.St}
/-- what is asked meanwhile is asked of the other slots -/
theorem hidden {p : Pth} {d0 : D} {v : V} (E : EnvR K H ρ1 σ F) (nd : F.Nodup) (e : getP ρ1 p = some d0) (hv : valP H σ p v) :
    ∃ Fh, EnvR K H (hide ρ1 p) σ Fh ∧ Fh.Nodup ∧ (∀ a ∈ Fh, a ∈ F) ∧ ∀ (E0 : List Addr), (∀ a ∈ E0, MutO (H a)) → (∀ a ∈ E0, a ∉ F) → ∀ (H2 : Hp) (ρ3 : Fm) (F3 G : List Addr), EnvR K H2 ρ3 σ F3 → (G ++ F3).Nodup → Step H (E0 ++ Fh) H2 (G ++ F3) →
      valP H2 σ p v ∧ ∃ F4, EnvR K H2 (unhide ρ1 ρ3 p) σ F4 ∧ (G ++ F4).Nodup ∧ Step H (E0 ++ F) H2 (G ++ F4) := by
  have gen : ∀ i d, slot ρ1 i = some d → (∀ w f, Rep K H d w f → ∃ a, w = .ref a ∧ a ∈ f) → ∃ Fh, EnvR K H (ρ1.set i none) σ Fh ∧ Fh.Nodup ∧ (∀ a ∈ Fh, a ∈ F) ∧ ∀ (E0 : List Addr), (∀ a ∈ E0, MutO (H a)) → (∀ a ∈ E0, a ∉ F) → ∀ (H2 : Hp) (ρ3 : Fm) (F3 G : List Addr), EnvR K H2 ρ3 σ F3 → (G ++ F3).Nodup → Step H (E0 ++ Fh) H2 (G ++ F3) →
      (∀ a, σ[i]? = some (some (.ref a)) → ∀ u, H a = some u → H2 a = some u) ∧ ∃ F4, EnvR K H2 ((ρ3.set i none).set i (slot ρ1 i)) σ F4 ∧ (G ++ F4).Nodup ∧ Step H (E0 ++ F) H2 (G ++ F4) := by
    intro i d es top
    obtain ⟨w, F1, f, F3', e1, rfl, r1, E1⟩ := E.at (slot_some es)
    have nd' := nodup_mid nd
    obtain ⟨n1, n2, n3⟩ := nodup3 nd'
    refine ⟨F1 ++ F3', E1, n2, fun a ha => by simp at ha ⊢; rcases ha with z | z <;> simp [z], fun E0 hE dE H2 ρ3 F3 G E3 nd3 S => ?_⟩
    have n3' : ∀ a ∈ f, a ∉ E0 ++ (F1 ++ F3') := fun a ha hb => by
      rcases List.mem_append.mp hb with z | z
      · exact dE a z (by simp [ha])
      · exact n3 a ha z
    have mu' : ∀ a ∈ E0 ++ (F1 ++ F3'), MutO (H a) := fun a ha => (List.mem_append.mp ha).elim (hE a) (E1.mut a)
    have kp : Keep H f H2 := S.keep mu' n3'
    have hl : ρ3.length = ρ1.length := E3.length.symm.trans E.length
    have ap : ∀ a ∈ f, a ∉ G ++ F3 := S.apart (Rep.mut _ _ _ r1) n3'
    obtain ⟨A1, a2, A3, rfl, E4⟩ := E3.drop (i := i)
    obtain ⟨B1, B3, eb, E5⟩ := E4.put (by rw [hl]; exact slot_lt es) e1 (Rep.keep _ _ _ r1 kp)
    refine ⟨fun a x1 u eu => ?_, B1 ++ (f ++ B3), by rw [es, List.set_set]; exact E5, ?_, fun a u ea na => ?_⟩
    · rw [e1] at x1
      obtain ⟨a', rfl, ha'⟩ := top _ _ r1
      cases x1
      exact kp a u eu (.inr ha')
    · obtain ⟨m1, m2, m3⟩ := nodup3 nd3
      have q2 : (f ++ (B1 ++ B3)).Nodup := nodup_of n1 (by
        rw [← eb]
        exact (nodup3 (nodup_mid m2)).2.1) fun a ha hb => ap a ha (by rw [← eb] at hb; simp at hb ⊢; rcases hb with z | z <;> simp [z])
      refine nodup_of m1 (nodup_mid q2) fun a ha hb => ?_
      simp only [List.mem_append] at hb
      rcases hb with z | z | z
      · exact m3 a ha (by have : a ∈ A1 ++ A3 := by rw [eb]; simp [z]
                          simp at this ⊢; rcases this with y | y <;> simp [y])
      · exact ap a z (by simp [ha])
      · exact m3 a ha (by have : a ∈ A1 ++ A3 := by rw [eb]; simp [z]
                          simp at this ⊢; rcases this with y | y <;> simp [y])
    · obtain ⟨x1, x2⟩ := S a u ea fun z => na (by simp at z ⊢; rcases z with z | z | z <;> simp [z])
      refine ⟨x1, fun z => ?_⟩
      simp only [List.mem_append] at z x2 na
      rcases z with z | z | z | z
      · exact x2 (.inl z)
      · have : a ∈ A1 ++ A3 := by rw [eb]; simp [z]
        simp at this
        rcases this with y | y <;> exact x2 (by simp [y])
      · exact na (.inr (.inr (.inl z)))
      · have : a ∈ A1 ++ A3 := by rw [eb]; simp [z]
        simp at this
        rcases this with y | y <;> exact x2 (by simp [y])
  cases p with
  | sl i => exact ⟨F, E, nd, fun a ha => ha, fun E0 _ _ H2 ρ3 F3 G E3 nd3 S => ⟨hv, F3, E3, nd3, S⟩⟩
  | ix i j =>
    obtain ⟨ds, es, e⟩ := getP_ix e
    obtain ⟨Fh, h1, h2, h3, h4⟩ := gen i _ es fun w f r => by obtain ⟨a, _, _, q1, _, q2, _⟩ := r; exact ⟨a, q1, by rw [q2]; exact List.mem_cons_self⟩
    refine ⟨Fh, h1, h2, h3, fun E0 hE dE H2 ρ3 F3 G E3 nd3 S => ?_⟩
    obtain ⟨k1, k2⟩ := h4 E0 hE dE H2 ρ3 F3 G E3 nd3 S
    refine ⟨?_, k2⟩
    obtain ⟨a, vs, q1, q2, q3⟩ := hv
    exact ⟨a, vs, q1, k1 a q1 _ q2, q3⟩
  | key i k =>
    obtain ⟨kvs, es, e⟩ := getP_key e
    obtain ⟨Fh, h1, h2, h3, h4⟩ := gen i _ es fun w f r => by obtain ⟨a, _, _, q1, _, q2, _⟩ := r; exact ⟨a, q1, by rw [q2]; exact List.mem_cons_self⟩
    refine ⟨Fh, h1, h2, h3, fun E0 hE dE H2 ρ3 F3 G E3 nd3 S => ?_⟩
    obtain ⟨k1, k2⟩ := h4 E0 hE dE H2 ρ3 F3 G E3 nd3 S
    refine ⟨?_, k2⟩
    obtain ⟨a, vs, q1, q2, q3⟩ := hv
    exact ⟨a, vs, q1, k1 a q1 _ q2, q3⟩
end
end DL
/-! Methods that change a thing, stores. -/
namespace DL
open PySem PySem.Spec L2
def MutS (K : PySem.W.Frag) (r : V → List V → Hp → VK → Prop) (g : D → List D → Option (D × D)) : Prop :=
  ∀ (H : Hp) (d : D) (v : V) (f : List Addr) (ds : List D) (vs : List V) (p : List Addr) (d' z : D) (Q : VK), Rep K H d v f → RepL K H ds vs p → (f ++ p).Nodup → g d ds = some (d', z) →
    (∀ u H' f' h, Rep K H' d' v f' → Rep K H' z u h → (h ++ f').Nodup → (∀ a, a ∈ h ++ f' → a ∈ f ++ p ∨ H a = none) → (∀ a o, H a = some o → a ∉ f → H' a = some o) → Q u H') → r v vs H Q
def fMut (ok : D → Bool) (g : D → List D → Option (D × D)) (fp : FP) (fr : FA) : FE := fun ρ =>
  (fp ρ).bind fun (p, ρ1) => (getP ρ1 p).bind fun d0 => if ok d0 then (fr (hide ρ1 p)).bind fun (rs, ρ2) => (takes ρ2 rs).bind fun (ds, ρ3) =>
    (getP (unhide ρ1 ρ3 p) p).bind fun d => (g d ds).map fun (d', z) => (.val z, setP (unhide ρ1 ρ3 p) d' p) else none
def isLst : D → Bool
  | .lst _ => true
  | _ => false
section
variable {K : PySem.W.Frag} {X : Cx} {r : V → List V → Hp → VK → Prop} {g : D → List D → Option (D × D)} {fp : FP} {fr : FA}
/-- a thing is changed where it stands -/
theorem change {H H2 : Hp} {F F4 p2 : List Addr} {ρ4 : Fm} {σ : L2.St} {p : Pth} {d d' z : D} {ds : List D} {v : V} {vs : List V} {Q : VK} (hg : MutS K r g) (S : Step H F H2 (p2 ++ F4)) (E4 : EnvR K H2 ρ4 σ F4) (N4 : (p2 ++ F4).Nodup) (rd : RepL K H2 ds vs p2)
    (hv : valP H2 σ p v) (e3 : getP ρ4 p = some d) (e4 : g d ds = some (d', z)) (k : ∀ u H' h F', Rep K H' z u h → EnvR K H' (setP ρ4 d' p) σ F' → (h ++ F').Nodup → Step H F H' (h ++ F') → Q u H') : r v vs H2 Q := by
  obtain ⟨n1, n2, n3⟩ := nodup3 N4
  obtain ⟨f, G', rf, nf, dis, mem, up⟩ := E4.lens n2 e3 hv
  have inF : ∀ a, a ∈ f → a ∈ F4 := fun a ha => (mem a).mpr (.inl ha)
  have inG : ∀ a, a ∈ G' → a ∈ F4 := fun a ha => (mem a).mpr (.inr ha)
  refine hg H2 d v f ds vs p2 d' z Q rf rd (nodup_of nf n1 fun a ha hb => n3 a hb (inF a ha)) e4 fun u H3 f' h r1 r2 nd mm kp => ?_
  obtain ⟨m1, m2, m3⟩ := nodup3 nd
  have notG : ∀ a, a ∈ h ++ f' → a ∉ G' := fun a ha hb => by
    rcases mm a ha with q | q
    · rcases List.mem_append.mp q with q | q
      · exact dis a q hb
      · exact n3 a q (inG a hb)
    · obtain ⟨u, eu⟩ := (E4.mut a (inG a hb)).some_
      rw [q] at eu
      cases eu
  obtain ⟨F', E', nd', mem'⟩ := up H3 d' f' r1 m2 (fun a ha => notG a (List.mem_append_right _ ha)) kp
  refine k u H3 h F' r2 E' (nodup_of m1 nd' fun a ha hb => ?_) fun a w ea na => ?_
  · rcases (mem' a).mp hb with q | q
    · exact m3 a ha q
    · exact notG a (List.mem_append_left _ ha) q
  · obtain ⟨x1, x2⟩ := S a w ea na
    have x3 : a ∉ F4 := fun q => x2 (List.mem_append_right _ q)
    refine ⟨kp a w x1 fun q => x3 (inF a q), fun q => ?_⟩
    have : a ∈ h ++ f' ∨ a ∈ G' := by
      rcases List.mem_append.mp q with q | q
      · exact .inl (List.mem_append_left _ q)
      · rcases (mem' a).mp q with q | q
        · exact .inl (List.mem_append_right _ q)
        · exact .inr q
    rcases this with q | q
    · rcases mm a q with y | y
      · rcases List.mem_append.mp y with y | y
        · exact x3 (inF a y)
        · exact x2 (List.mem_append_left _ y)
      · rw [y] at x1; cases x1
    · exact x3 (inG a q)
theorem mut_of {ok : D → Bool} {T : V → Hp → Prop} (hg : MutS K r g) (hT : ∀ d v H f, ok d = true → Rep K H d v f → T v H) {σ : L2.St} {H : Hp} {Q : VK} (h : rdE K (fMut ok g fp fr) σ H Q) :
    rdP K fp σ H fun v H1 => T v H1 ∧ rdA K fr σ H1 fun vs H2 => r v vs H2 Q := by
  obtain ⟨ρ, F, r0, ρ', E, nd, ef, k⟩ := h
  obtain ⟨⟨p, ρ1⟩, e1, ef⟩ := Option.bind_eq_some_iff.mp ef
  obtain ⟨d0, e0, ef⟩ := Option.bind_eq_some_iff.mp ef
  obtain ⟨c, ef⟩ := by_cases_if ef
  obtain ⟨⟨rs, ρ2⟩, e2, ef⟩ := Option.bind_eq_some_iff.mp ef
  obtain ⟨⟨ds, ρ3⟩, e5, ef⟩ := Option.bind_eq_some_iff.mp ef
  obtain ⟨d, e3, ef⟩ := Option.bind_eq_some_iff.mp ef
  obtain ⟨⟨d', z⟩, e4, ef⟩ := Option.map_eq_some_iff.mp ef
  cases ef
  refine ⟨ρ, F, p, ρ1, E, nd, e1, fun v H1 F1 hv E1 N1 S1 => ?_⟩
  obtain ⟨f0, _, r00, _⟩ := E1.lens N1 e0 hv
  refine ⟨hT d0 v H1 f0 c r00, ?_⟩
  obtain ⟨Fh, Eh, nh, sub, cont⟩ := hidden E1 N1 e0 hv
  refine ⟨hide ρ1 p, Fh, rs, ρ2, Eh, nh, e2, fun vs H2 g2 F2 r2 E2 N2 S2 => ?_⟩
  obtain ⟨p2, F3, rd, E3, N3, s3⟩ := r2.takes E2 N2 e5
  obtain ⟨hv2, F4, E4, N4, S4⟩ := cont [] (by simp) (by simp) H2 ρ3 F3 p2 E3 N3 (S2.to fun a ha => .inl (s3 a ha))
  exact change hg (S1.trans S4) E4 N4 rd hv2 e3 e4 fun u H' h F' r1 E' n' S' => k u H' h F' r1 E' n' S'
theorem ok_lst {d : D} {v : V} {H : Hp} {f : List Addr} (h : isLst d = true) (r : Rep K H d v f) : tyV K "list" v H := by
  cases d <;> try cases h
  obtain ⟨a, vs, g, rfl, ha, _⟩ := r
  exact .inl ⟨rfl, vs, SqL.of ha⟩
theorem de_mut {E : Expr} (h : PE X E (tBM X.K "list" r (rdP X.K fp) (rdA X.K fr))) (hg : MutS X.K r g) : DE X E (fMut isLst g fp fr) :=
  ⟨pe_weak h fun σ H Q q => mut_of hg (fun d v H f c r => ok_lst c r) q⟩
end
/-! ### append, pop, insert, extend -/
section
variable {K : PySem.W.Frag} {H : Hp}
theorem keep_upd {a : Addr} {o : HO} {l : List Addr} (mu : MutO (H a)) (hl : a ∉ l) : Keep H l (upd H a o) := fun b u e q => by
  rw [upd_ne (a := a) (b := b) ?_]
  · exact e
  · rintro rfl
    rcases q with q | q
    · exact q mu
    · exact hl q
theorem upd_other {a : Addr} {o : HO} {g : List Addr} : ∀ b u, H b = some u → b ∉ a :: g → upd H a o b = some u := fun b u e n => by
  rw [upd_ne fun z => n (by rw [z]; exact List.mem_cons_self)]; exact e
def mAppend : D → List D → Option (D × D)
  | .lst ds, [y] => if ds.length < sizeLine then some (.lst (ds ++ [y]), .non) else none
  | _, _ => none
theorem RepL.one {d : D} {vs : List V} {p : List Addr} (h : RepL K H [d] vs p) : ∃ v, vs = [v] ∧ Rep K H d v p := by
  obtain ⟨v, vs', f1, f2, rfl, rfl, r1, r2⟩ := h
  obtain ⟨rfl, rfl⟩ := r2
  exact ⟨v, rfl, by rw [List.append_nil]; exact r1⟩
theorem RepL.of_one {d : D} {v : V} {p : List Addr} (h : Rep K H d v p) : RepL K H [d] [v] p := ⟨v, [], p, [], rfl, by simp, h, rfl, rfl⟩
theorem mu_append : MutS K rAppend mAppend := by
  intro H d v f ds vs p d' z Q r ra nd e k
  unfold mAppend at e
  split at e
  · obtain ⟨c, e⟩ := if_some e
    cases e
    obtain ⟨w, rfl, rw'⟩ := ra.one
    obtain ⟨a, ws, g, rfl, ha, rfl, rl⟩ := r
    obtain ⟨n0, n1⟩ := List.nodup_cons.mp nd
    have mu : MutO (H a) := by rw [ha]; trivial
    refine ⟨a, ws, w, rfl, rfl, ha, by rw [rl.length]; exact c, k .non _ (a :: (g ++ p)) [] ⟨a, _, _, rfl, upd_same, rfl, ?_⟩ ⟨rfl, rfl⟩ nd (fun b hb => .inl hb) upd_other⟩
    exact RepL.keep _ _ _ (rl.append (RepL.of_one rw')) (keep_upd mu n0)
  · cases e
def mPopAt : D → List D → Option (D × D)
  | .lst ds, [.int i] => if i.natAbs < 2 ^ 63 then (ixN ds.length i).bind fun j => (ds[j]?).map fun y => (.lst (ds.eraseIdx j), y) else none
  | _, _ => none
theorem pop_core {H : Hp} {a : Addr} {ws : List V} {ds : List D} {g : List Addr} {j : Nat} {y : D} {Q : VK} (ha : H a = some (.lst ws)) (rl : RepL K H ds ws g) (nd : (a :: g).Nodup) (e : ds[j]? = some y)
    (k : ∀ u H' f' h, Rep K H' (.lst (ds.eraseIdx j)) (.ref a) f' → Rep K H' y u h → (h ++ f').Nodup → (∀ b, b ∈ h ++ f' → b ∈ a :: g ∨ H b = none) → (∀ b o, H b = some o → b ∉ a :: g → H' b = some o) → Q u H') :
    ∃ w, ws[j]? = some w ∧ Q w (upd H a (.lst (ws.eraseIdx j))) := by
  obtain ⟨w, f1, f2, f3, e2, rfl, r2, _, re⟩ := rl.at e
  obtain ⟨n0, n1⟩ := List.nodup_cons.mp nd
  have mu : MutO (H a) := by rw [ha]; trivial
  have n2 := nodup_mid n1
  obtain ⟨q1, q2, q3⟩ := nodup3 n2
  have na2 : a ∉ f2 := fun z => n0 (by simp [z])
  have na13 : a ∉ f1 ++ f3 := fun z => n0 (by simp at z ⊢; rcases z with z | z <;> simp [z])
  refine ⟨w, e2, k w _ (a :: (f1 ++ f3)) f2 ⟨a, _, _, rfl, upd_same, rfl, RepL.keep _ _ _ re (keep_upd mu na13)⟩ (Rep.keep _ _ _ r2 (keep_upd mu na2)) (nodup_of q1 (List.nodup_cons.mpr ⟨na13, q2⟩) fun b hb hc => ?_) (fun b hb => .inl ?_) upd_other⟩
  · rcases List.mem_cons.mp hc with rfl | hc
    · exact na2 hb
    · exact q3 b hb hc
  · simp only [List.mem_append, List.mem_cons] at hb ⊢
    rcases hb with h | rfl | h | h <;> simp [*]
theorem mu_popAt : MutS K rPopAt mPopAt := by
  intro H d v f ds vs p d' z Q r ra nd e k
  unfold mPopAt at e
  split at e
  · rename_i i
    obtain ⟨c0, e⟩ := by_cases_if e
    have c1 : -(2 ^ 63) ≤ i := by omega
    have c2 : i < 2 ^ 63 := by omega
    obtain ⟨j, ej, e⟩ := Option.bind_eq_some_iff.mp e
    obtain ⟨y, e1, e⟩ := Option.map_eq_some_iff.mp e
    cases e
    obtain ⟨w0, rfl, rw'⟩ := ra.one
    obtain ⟨rfl, rfl⟩ := rw'
    obtain ⟨a, ws, g, rfl, ha, rfl, rl⟩ := r
    rw [List.append_nil] at nd
    obtain ⟨w, e2, q⟩ := pop_core ha rl nd e1 fun u H' f' h r1 r2 nd' mm kp => k u H' f' h r1 r2 nd' (fun b hb => (mm b hb).imp (fun z => by simpa using z) id) kp
    exact ⟨a, ws, _, j, w, rfl, rfl, ha, c1, c2, (ixN_seq (by rw [rl.length]; exact ej)).1, e2, q⟩
  · cases e
def mInsert : D → List D → Option (D × D)
  | .lst ds, [.int i, y] => if ds.length < sizeLine ∧ 0 ≤ i ∧ i < 2 ^ 63 then some (.lst (ds.take i.toNat ++ [y] ++ ds.drop i.toNat), .non) else none
  | _, _ => none
def rInsert : V → List V → Hp → VK → Prop := fun x vs H Q => ∃ (l : Addr) (xs : List V) (i : Int) (y : V), x = .ref l ∧ vs = [.int i, y] ∧ H l = some (.lst xs) ∧ xs.length < sizeLine ∧ 0 ≤ i ∧ i < 2 ^ 63 ∧
    Q .non (upd H l (.lst (xs.take i.toNat ++ [y] ++ xs.drop i.toNat)))
theorem mu_insert : MutS K rInsert mInsert := by
  intro H d v f ds vs p d' z Q r ra nd e k
  unfold mInsert at e
  split at e
  · rename_i ds i y
    obtain ⟨⟨c, c0, c1⟩, e⟩ := if_some e
    cases e
    obtain ⟨w0, vs', f1, f2, rfl, rfl, r1, r2⟩ := ra
    obtain ⟨rfl, rfl⟩ := r1
    obtain ⟨w, rfl, rw'⟩ := r2.one
    obtain ⟨a, ws, g, rfl, ha, rfl, rl⟩ := r
    rw [List.nil_append] at nd
    obtain ⟨n0, n1⟩ := List.nodup_cons.mp nd
    have mu : MutO (H a) := by rw [ha]; trivial
    have hs : ds = ds.take i.toNat ++ ds.drop i.toNat := (List.take_append_drop ..).symm
    rw [hs] at rl
    obtain ⟨v1, v2, g1, g2, rfl, rfl, q1, q2⟩ := rl.split
    have l1 : (v1 ++ v2).take i.toNat = v1 ∧ (v1 ++ v2).drop i.toNat = v2 := by
      have h1 := q1.length
      rw [List.length_take] at h1
      have h2 := q2.length
      rw [List.length_drop] at h2
      constructor
      · by_cases hi : i.toNat ≤ ds.length
        · rw [List.take_append_of_le_length (by omega), List.take_of_length_le (by omega)]
        · have : v2 = [] := List.eq_nil_of_length_eq_zero (by omega)
          rw [this, List.append_nil, List.take_of_length_le (by omega)]
      · by_cases hi : i.toNat ≤ ds.length
        · rw [List.drop_append_of_le_length (by omega), List.drop_of_length_le (by omega), List.nil_append]
        · have : v2 = [] := List.eq_nil_of_length_eq_zero (by omega)
          rw [this, List.append_nil, List.drop_of_length_le (by omega)]
    have hl : (v1 ++ v2).length = ds.length := by
      have h1 := q1.length
      have h2 := q2.length
      rw [List.length_append, h1, h2, ← List.length_append, ← hs]
    have nd2 : (a :: (g1 ++ (f2 ++ g2))).Nodup := by
      refine List.nodup_cons.mpr ⟨fun z => n0 ?_, ?_⟩
      · simp only [List.mem_append] at z ⊢; rcases z with z | z | z <;> simp [z]
      · have n1 : (g1 ++ (g2 ++ f2)).Nodup := by rw [← List.append_assoc]; exact n1
        obtain ⟨y1, y2, y3⟩ := nodup3 n1
        obtain ⟨y4, y5, y6⟩ := nodup3 y2
        refine nodup_of y1 (nodup_of y5 y4 fun b hb hc => y6 b hc hb) fun b hb hc => y3 b hb ?_
        simp only [List.mem_append] at hc ⊢; rcases hc with z | z <;> simp [z]
    refine ⟨a, _, i, w, rfl, rfl, ha, by rw [hl]; exact c, c0, c1, k .non _ (a :: (g1 ++ (f2 ++ g2))) [] ⟨a, _, _, rfl, upd_same, rfl, ?_⟩ ⟨rfl, rfl⟩ nd2 (fun b hb => .inl ?_) upd_other⟩
    · rw [l1.1, l1.2, List.append_assoc, List.append_assoc]
      refine RepL.keep _ _ _ (q1.append ((RepL.of_one rw').append q2)) (keep_upd mu (List.nodup_cons.mp nd2).1)
    · simp only [List.mem_append, List.mem_cons, List.nil_append] at hb ⊢
      rcases hb with rfl | h | h | h <;> simp [*]
  · cases e
def mExtend : D → List D → Option (D × D)
  | .lst ds, [.lst es] => if ds.length + es.length ≤ sizeLine then some (.lst (ds ++ es), .non) else none
  | _, _ => none
theorem mu_extend : MutS K rExtend mExtend := by
  intro H d v f ds vs p d' z Q r ra nd e k
  unfold mExtend at e
  split at e
  · obtain ⟨c, e⟩ := if_some e
    cases e
    obtain ⟨w, rfl, rw'⟩ := ra.one
    obtain ⟨b, us, gb, rfl, hb, rfl, rb⟩ := rw'
    obtain ⟨a, ws, g, rfl, ha, rfl, rl⟩ := r
    obtain ⟨n0, n1⟩ := List.nodup_cons.mp nd
    have mu : MutO (H a) := by rw [ha]; trivial
    obtain ⟨y1, y2, y3⟩ := nodup3 n1
    obtain ⟨y4, y5⟩ := List.nodup_cons.mp y2
    have na : a ∉ g ++ gb := fun z => n0 (by simp at z ⊢; rcases z with z | z <;> simp [z])
    refine ⟨a, b, ws, us, rfl, rfl, ha, hb, by rw [rl.length, rb.length]; exact c, k .non _ (a :: (g ++ gb)) [] ⟨a, _, _, rfl, upd_same, rfl, ?_⟩ ⟨rfl, rfl⟩ (List.nodup_cons.mpr ⟨na, nodup_of y1 y5 fun x hx hy => y3 x hx (List.mem_cons_of_mem _ hy)⟩) (fun x hx => .inl ?_) upd_other⟩
    · exact RepL.keep _ _ _ (rl.append rb) (keep_upd mu na)
    · simp only [List.mem_append, List.mem_cons, List.nil_append] at hx ⊢
      rcases hx with rfl | h | h <;> simp [*]
  · cases e
/-! ### stores -/
def dStore (c key dv : D) : Option D := match c, key with
  | .lst ds, .int k => (ixN ds.length k).bind fun j => if j < ds.length then some (.lst (ds.set j dv)) else none
  | .dic kvs, key => (keyOf key).bind fun k => if imm dv = true ∧ kvs.length < sizeLine then some (.dic (kvPut kvs k dv)) else none
  | _, _ => none
theorem RepK.put {k : Key} {d : D} {v : V} (r : Rep K H d v []) : ∀ {kvs : List (Key × D)} {ws : List (Key × V)} {f : List Addr}, RepK K H kvs ws f → f.Nodup → ∃ g, RepK K H (kvPut kvs k d) (putK ws k v) g ∧ g.Nodup ∧ ∀ a ∈ g, a ∈ f := by
  intro kvs ws f h nd
  have hm : ∀ {kvs : List (Key × D)} {ws : List (Key × V)} {f : List Addr}, RepK K H kvs ws f → f.Nodup →
      ∃ g, RepK K H (kvs.map fun kv => if kv.1 = k then (kv.1, d) else kv) (ws.map fun kv => if kv.1 = k then (kv.1, v) else kv) g ∧ g.Nodup ∧ ∀ a ∈ g, a ∈ f := by
    intro kvs
    induction kvs with
    | nil => intro ws f h nd; obtain ⟨rfl, rfl⟩ := h; exact ⟨[], ⟨rfl, rfl⟩, nd, fun a ha => ha⟩
    | cons x kvs ih =>
      intro ws f h nd
      obtain ⟨k0, d0⟩ := x
      obtain ⟨v0, ws', f1, f2, rfl, rfl, r1, r2⟩ := h
      obtain ⟨n1, n2, n3⟩ := nodup3 nd
      obtain ⟨g, q1, q2, q3⟩ := ih r2 n2
      by_cases e : k0 = k
      · refine ⟨g, ?_, q2, fun a ha => List.mem_append_right _ (q3 a ha)⟩
        simp only [List.map_cons, e, if_true]
        exact ⟨v, _, [], g, rfl, rfl, r, q1⟩
      · refine ⟨f1 ++ g, ?_, nodup_of n1 q2 fun a ha hb => n3 a ha (q3 a hb), fun a ha => ?_⟩
        · simp only [List.map_cons, e, if_false]
          exact ⟨v0, _, f1, g, rfl, rfl, r1, q1⟩
        · rcases List.mem_append.mp ha with ha | ha
          · exact List.mem_append_left _ ha
          · exact List.mem_append_right _ (q3 a ha)
  have ha : ∀ {kvs : List (Key × D)} {ws : List (Key × V)} {f : List Addr}, RepK K H kvs ws f → RepK K H (kvs ++ [(k, d)]) (ws ++ [(k, v)]) f ∧ (kvs.any fun kv => decide (kv.1 = k)) = ws.any fun kv => decide (kv.1 = k) := by
    intro kvs
    induction kvs with
    | nil => intro ws f h; obtain ⟨rfl, rfl⟩ := h; exact ⟨⟨v, [], [], [], rfl, rfl, r, rfl, rfl⟩, rfl⟩
    | cons x kvs ih =>
      intro ws f h
      obtain ⟨k0, d0⟩ := x
      obtain ⟨v0, ws', f1, f2, rfl, rfl, r1, r2⟩ := h
      obtain ⟨q1, q2⟩ := ih r2
      exact ⟨⟨v0, _, f1, f2, rfl, rfl, r1, q1⟩, by rw [List.any_cons, List.any_cons, q2]⟩
  obtain ⟨q1, q2⟩ := ha h
  unfold kvPut putK
  rw [q2]
  split
  · exact hm h nd
  · exact ⟨f, q1, nd, fun a ha => ha⟩
end
end DL
/-! Statements, loops. -/
namespace DL
open PySem PySem.Spec L2
inductive Fl where
  | nx | bk | ct | ret (d : D)
abbrev FS := Fm → Option (Fl × Fm)
/-- what is to be shown at a statement's end: W the slots that it may store -/
def Post (K : PySem.W.Frag) (W : List Nat) (Dn : Ends) (σ : L2.St) (H : Hp) (F : List Addr) (o : Fl) (ρ' : Fm) : Prop := match o with
  | .nx => ∀ σ' H' F', EnvR K H' ρ' σ' F' → F'.Nodup → Step H F H' F' → (∀ j, j ∉ W → σ'[j]? = σ[j]?) → Dn.nx σ' H'
  | .bk => ∀ σ' H' F', EnvR K H' ρ' σ' F' → F'.Nodup → Step H F H' F' → (∀ j, j ∉ W → σ'[j]? = σ[j]?) → Dn.bk σ' H'
  | .ct => ∀ σ' H' F', EnvR K H' ρ' σ' F' → F'.Nodup → Step H F H' F' → (∀ j, j ∉ W → σ'[j]? = σ[j]?) → Dn.ct σ' H'
  | .ret d => ∀ v σ' H' g F', Rep K H' d v g → EnvR K H' ρ' σ' F' → (g ++ F').Nodup → Step H F H' (g ++ F') → (∀ j, j ∉ W → σ'[j]? = σ[j]?) → Dn.rt v H'
def rdS (K : PySem.W.Frag) (W : List Nat) (f : FS) : TS := fun Dn σ H => ∃ ρ F o ρ', EnvR K H ρ σ F ∧ F.Nodup ∧ f ρ = some (o, ρ') ∧ Post K W Dn σ H F o ρ'
structure DS (X : Cx) (W : List Nat) (st : Stmt) (f : FS) : Prop where
  ps : PS X st (rdS X.K W f)
structure DSs (X : Cx) (W : List Nat) (st : List Stmt) (f : FS) : Prop where
  pss : PSs X st (rdS X.K W f)
theorem Post.mono {K : PySem.W.Frag} {W W' : List Nat} {Dn : Ends} {σ : L2.St} {H : Hp} {F : List Addr} {o : Fl} {ρ' : Fm} (h : Post K W' Dn σ H F o ρ') (hs : ∀ j, j ∈ W → j ∈ W') : Post K W Dn σ H F o ρ' := by
  cases o with
  | nx => exact fun σ' H' F' a b c d => h σ' H' F' a b c fun j hj => d j fun z => hj (hs j z)
  | bk => exact fun σ' H' F' a b c d => h σ' H' F' a b c fun j hj => d j fun z => hj (hs j z)
  | ct => exact fun σ' H' F' a b c d => h σ' H' F' a b c fun j hj => d j fun z => hj (hs j z)
  | ret x => exact fun v σ' H' g F' a b c d e => h v σ' H' g F' a b c d fun j hj => e j fun z => hj (hs j z)
/-- behind a first part that ended plainly -/
theorem Post.after {K : PySem.W.Frag} {W1 W2 : List Nat} {Dn : Ends} {σ σ1 : L2.St} {H H1 : Hp} {F F1 : List Addr} {o : Fl} {ρ' : Fm} (h : Post K (W1 ++ W2) Dn σ H F o ρ') (S : Step H F H1 F1) (hw : ∀ j, j ∉ W1 → σ1[j]? = σ[j]?) : Post K W2 Dn σ1 H1 F1 o ρ' := by
  have key : ∀ {σ' : L2.St}, (∀ j, j ∉ W2 → σ'[j]? = σ1[j]?) → ∀ j, j ∉ W1 ++ W2 → σ'[j]? = σ[j]? := fun h2 j hj => by
    rw [List.mem_append, not_or] at hj
    rw [h2 j hj.2, hw j hj.1]
  cases o with
  | nx => exact fun σ' H' F' a b c d => h σ' H' F' a b (S.trans c) (key d)
  | bk => exact fun σ' H' F' a b c d => h σ' H' F' a b (S.trans c) (key d)
  | ct => exact fun σ' H' F' a b c d => h σ' H' F' a b (S.trans c) (key d)
  | ret x => exact fun v σ' H' g F' a b c d e => h v σ' H' g F' a b c (S.trans d) (key e)
theorem Post.step {K : PySem.W.Frag} {W : List Nat} {Dn : Ends} {σ : L2.St} {H H1 : Hp} {F F1 : List Addr} {o : Fl} {ρ' : Fm} (h : Post K W Dn σ H F o ρ') (S : Step H F H1 F1) : Post K W Dn σ H1 F1 o ρ' :=
  Post.after (W1 := []) h S fun _ _ => rfl
def fSkip : FS := fun ρ => some (.nx, ρ)
def fSeq (f g : FS) : FS := fun ρ => (f ρ).bind fun (o, ρ1) => match o with
  | .nx => g ρ1
  | o => some (o, ρ1)
section
variable {X : Cx} {st : Stmt} {rest : List Stmt} {f g : FS} {W W1 W2 : List Nat} {e c : Expr} {fe : FE} {ft : FT} {pos : Pos}
theorem dss_nil : DSs X [] [] fSkip := ⟨pss_weak pss_nil fun Dn σ H ⟨ρ, F, o, ρ', E, nd, ef, k⟩ => by
  cases ef
  exact k σ H F E nd Step.refl fun _ _ => rfl⟩
theorem dss_one (h : DS X W st f) : DSs X W [st] f := ⟨pss_one h.ps⟩
theorem dss_cons (h1 : DS X W1 st f) (h2 : DSs X W2 rest g) : DSs X (W1 ++ W2) (st :: rest) (fSeq f g) := ⟨pss_weak (pss_cons h1.ps h2.pss) fun Dn σ H ⟨ρ, F, o, ρ', E, nd, ef, k⟩ => by
  obtain ⟨⟨o1, ρ1⟩, e1, ef⟩ := Option.bind_eq_some_iff.mp ef
  refine ⟨ρ, F, o1, ρ1, E, nd, e1, ?_⟩
  cases o1 with
  | nx => exact fun σ1 H1 F1 E1 N1 S1 w1 => ⟨ρ1, F1, o, ρ', E1, N1, ef, k.after S1 w1⟩
  | bk => cases ef; exact k.mono fun j hj => List.mem_append_left _ hj
  | ct => cases ef; exact k.mono fun j hj => List.mem_append_left _ hj
  | ret d => cases ef; exact k.mono fun j hj => List.mem_append_left _ hj⟩
/-- e alone in a row: only what it changes counts -/
def fDrop (fe : FE) : FS := fun ρ => (fe ρ).map fun (_, ρ1) => (.nx, ρ1)
theorem ds_expr (he : DE X e fe) (hs : swapsWith e none pos.line X.env = pure false := by rfl) : DS X [] (.Expr e pos) (fDrop fe) := ⟨ps_weak (ps_expr he.pe hs) fun Dn σ H ⟨ρ, F, o, ρ', E, nd, ef, k⟩ => by
  obtain ⟨⟨r, ρ1⟩, e1, ef⟩ := Option.map_eq_some_iff.mp ef
  cases ef
  exact ⟨ρ, F, r, ρ', E, nd, e1, fun v H' g F' r1 E1 N1 S1 => k σ H' F' E1 (nodup3 N1).2.1 (S1.to fun a ha => .inl (List.mem_append_right _ ha)) fun _ _ => rfl⟩⟩
def fRet (fe : FE) : FS := fun ρ => (fe ρ).bind fun (r, ρ1) => (take1 ρ1 r).map fun (d, ρ2) => (.ret d, ρ2)
theorem ds_ret (he : DE X e fe) : DS X [] (.Return (some e) pos) (fRet fe) := ⟨ps_weak (ps_ret he.pe) fun Dn σ H ⟨ρ, F, o, ρ', E, nd, ef, k⟩ => by
  obtain ⟨⟨r, ρ1⟩, e1, ef⟩ := Option.bind_eq_some_iff.mp ef
  obtain ⟨⟨d, ρ2⟩, e2, ef⟩ := Option.map_eq_some_iff.mp ef
  cases ef
  refine ⟨ρ, F, r, ρ1, E, nd, e1, fun v H' g F' r1 E1 N1 S1 => ?_⟩
  obtain ⟨p, F2, r2, E2, N2, s2⟩ := r1.take E1 N1 e2
  exact k v σ H' p F2 r2 E2 N2 (S1.to fun a ha => .inl (s2 a ha)) fun _ _ => rfl⟩
def fRetN : FS := fun ρ => some (.ret .non, ρ)
def fIfS (ft : FT) (f g : FS) : FS := fun ρ => (ft ρ).bind fun (k, ρ1) => if k then f ρ1 else g ρ1
theorem ds_if {a b : List Stmt} (hc : DT X c ft) (ha : DSs X W1 a f) (hb : DSs X W2 b g) : DS X (W1 ++ W2) (.If c a b pos) (fIfS ft f g) := ⟨ps_weak (ps_if hc.pt ha.pss hb.pss) fun Dn σ H ⟨ρ, F, o, ρ', E, nd, ef, k⟩ => by
  obtain ⟨⟨k1, ρ1⟩, e1, ef⟩ := Option.bind_eq_some_iff.mp ef
  refine ⟨ρ, F, k1, ρ1, E, nd, e1, fun H' F' E1 N1 S1 => ?_⟩
  cases k1 with
  | true =>
    rw [if_pos rfl]
    exact ⟨ρ1, F', o, ρ', E1, N1, ef, (k.mono fun j hj => List.mem_append_left _ hj).step S1⟩
  | false =>
    rw [if_neg Bool.false_ne_true]
    exact ⟨ρ1, F', o, ρ', E1, N1, ef, (k.mono fun j hj => List.mem_append_right _ hj).step S1⟩⟩
/-! ### targets -/
abbrev FG := D → Fm → Option Fm
def rdG (K : PySem.W.Frag) (W : List Nat) (fg : FG) : TG := fun v σ H Q => ∃ ρ F d g ρ', EnvR K H ρ σ F ∧ Rep K H d v g ∧ (g ++ F).Nodup ∧ fg d ρ = some ρ' ∧
  ∀ σ' F', EnvR K H ρ' σ' F' → F'.Nodup → (∀ a, a ∈ F' → a ∈ g ++ F) → (σ'.length = σ.length ∧ ∀ j, j ∉ W → σ'[j]? = σ[j]?) → Q σ' H
structure DG (X : Cx) (W : List Nat) (t : Expr) (fg : FG) : Prop where
  pg : PG X t (rdG X.K W fg)
theorem pg_weak {X : Cx} {t : Expr} {g g' : TG} (h : PG X t g) (w : ∀ v σ H Q, g' v σ H Q → g v σ H Q) : PG X t g' := ⟨fun pins s σ H v u Q I r q => h.run pins s σ H v u Q I r (w _ _ _ _ q)⟩
/-- a slot is filled anew -/
theorem EnvR.store {K : PySem.W.Frag} {H : Hp} {ρ : Fm} {σ : L2.St} {F g : List Addr} {i : Nat} {d : D} {v : V} (E : EnvR K H ρ σ F) (r : Rep K H d v g) (nd : (g ++ F).Nodup) (hi : i < ρ.length) :
    ∃ F', EnvR K H (ρ.set i (some d)) (σ.set i (some v)) F' ∧ F'.Nodup ∧ ∀ a, a ∈ F' → a ∈ g ++ F := by
  obtain ⟨F1, f, F3, rfl, E1⟩ := E.drop (i := i)
  obtain ⟨n1, n2, n3⟩ := nodup3 nd
  have E2 := E1.other (o := some v)
  have hl : (σ.set i (some v))[i]? = some (some v) := by rw [List.getElem?_set_self (by rw [E.length]; exact hi)]
  obtain ⟨G1, G3, eg, E3⟩ := E2.put hi hl r
  have n4 : (F1 ++ F3).Nodup := (nodup3 (nodup_mid n2)).2.1
  refine ⟨_, E3, nodup_mid (nodup_of n1 (by rw [← eg]; exact n4) fun a ha hb => n3 a ha ?_), fun a ha => ?_⟩
  · rw [← eg] at hb; simp at hb ⊢; rcases hb with z | z <;> simp [z]
  · simp only [List.mem_append] at ha ⊢
    rcases ha with z | z | z
    · have : a ∈ F1 ++ F3 := by rw [eg]; simp [z]
      simp at this; rcases this with y | y <;> simp [y]
    · simp [z]
    · have : a ∈ F1 ++ F3 := by rw [eg]; simp [z]
      simp at this; rcases this with y | y <;> simp [y]
def fgName (i : Nat) : FG := fun d ρ => if i < ρ.length then some (ρ.set i (some d)) else none
theorem dg_name {t : Expr} {i : Nat} (h : PG X t (gName i)) : DG X [i] t (fgName i) := ⟨pg_weak h fun v σ H Q ⟨ρ, F, d, g, ρ', E, r, nd, ef, k⟩ => by
  obtain ⟨c, rfl⟩ := if_some ef
  obtain ⟨F', E', N', s'⟩ := E.store r nd c
  exact k _ F' E' N' s' ⟨List.length_set .., fun j hj => by rw [List.getElem?_set_ne]; intro z; exact hj (by simp [z])⟩⟩
/-- (a, b, ..) = .. -/
abbrev FGs := List D → Fm → Option Fm
def rdGs (K : PySem.W.Frag) (W : List Nat) (fg : FGs) : TGs := fun vs σ H Q => ∃ ρ F ds g ρ', EnvR K H ρ σ F ∧ RepL K H ds vs g ∧ (g ++ F).Nodup ∧ fg ds ρ = some ρ' ∧
  ∀ σ' F', EnvR K H ρ' σ' F' → F'.Nodup → (∀ a, a ∈ F' → a ∈ g ++ F) → (σ'.length = σ.length ∧ ∀ j, j ∉ W → σ'[j]? = σ[j]?) → Q σ' H
structure DGs (X : Cx) (W : List Nat) (ts : List Expr) (fg : FGs) : Prop where
  pgs : PGs X ts (rdGs X.K W fg)
theorem pgs_weak {X : Cx} {t : List Expr} {g g' : TGs} (h : PGs X t g) (w : ∀ v σ H Q, g' v σ H Q → g v σ H Q) : PGs X t g' := ⟨fun pins s σ H v u Q I r q => h.run pins s σ H v u Q I r (w _ _ _ _ q)⟩
def fgNil : FGs := fun ds ρ => match ds with
  | [] => some ρ
  | _ => none
def fgCons (f : FG) (fs : FGs) : FGs := fun ds ρ => match ds with
  | d :: ds => (f d ρ).bind fun ρ1 => fs ds ρ1
  | [] => none
theorem dgs_nil : DGs X [] [] fgNil := ⟨pgs_weak pgs_nil fun v σ H Q ⟨ρ, F, ds, g, ρ', E, r, nd, ef, k⟩ => by
  cases ds with
  | nil => cases ef; exact ⟨r.1, k σ F E (nodup3 nd).2.1 (fun a ha => List.mem_append_right _ ha) ⟨rfl, fun _ _ => rfl⟩⟩
  | cons d ds => cases ef⟩
theorem dgs_cons {t : Expr} {ts : List Expr} {f : FG} {fs : FGs} (h1 : DG X W1 t f) (h2 : DGs X W2 ts fs)
    (hs : (assignEach (t :: ts) X.env).map (·.2) = assign t X.env :: (assignEach ts X.env).map (·.2) := by rfl) : DGs X (W1 ++ W2) (t :: ts) (fgCons f fs) :=
  ⟨pgs_weak (pgs_cons h1.pg h2.pgs hs) fun vs σ H Q ⟨ρ, F, ds, g, ρ', E, r, nd, ef, k⟩ => by
    cases ds with
    | nil => cases ef
    | cons d ds =>
      obtain ⟨v, vs', f1, f2, rfl, rfl, r1, r2⟩ := r
      obtain ⟨ρ1, e1, ef⟩ := Option.bind_eq_some_iff.mp (show ((f d ρ).bind fun ρ1 => fs ds ρ1) = some ρ' from ef)
      obtain ⟨n1, n2, n3⟩ := nodup3 nd
      obtain ⟨n4, n5, n6⟩ := nodup3 n1
      refine ⟨v, vs', rfl, ρ, F, d, f1, ρ1, E, r1, nodup_of n4 n2 fun a ha => n3 a (List.mem_append_left _ ha), e1, fun σ1 F1 E1 N1 s1 w1 => ?_⟩
      refine ⟨ρ1, F1, ds, f2, ρ', E1, r2, nodup_of n5 N1 fun a ha hb => ?_, ef, fun σ2 F2 E2 N2 s2 w2 => k σ2 F2 E2 N2 (fun a ha => ?_) ⟨w2.1.trans w1.1, fun j hj => ?_⟩⟩
      · rcases List.mem_append.mp (s1 a hb) with z | z
        · exact n6 a z ha
        · exact n3 a (List.mem_append_right _ ha) z
      · rcases List.mem_append.mp (s2 a ha) with z | z
        · simp [z]
        · rcases List.mem_append.mp (s1 a z) with y | y <;> simp [y]
      · rw [List.mem_append, not_or] at hj
        rw [w2.2 j hj.2, w1.2 j hj.1]⟩
def fgTup (n : Nat) (fs : FGs) : FG := fun d ρ => match d with
  | .tup ds => if ds.length = n then fs ds ρ else none
  | _ => none
/-- target = e -/
def fAsg (fe : FE) (fg : FG) : FS := fun ρ => (fe ρ).bind fun (r, ρ1) => (take1 ρ1 r).bind fun (d, ρ2) => (fg d ρ2).map fun ρ3 => (.nx, ρ3)
theorem asg_of {K : PySem.W.Frag} {fg : FG} {Dn : Ends} {σ : L2.St} {H : Hp} (h : rdS K W (fAsg fe fg) Dn σ H) : tAsg (rdE K fe) (rdG K W fg) Dn σ H := by
  obtain ⟨ρ, F, o, ρ', E, nd, ef, k⟩ := h
  obtain ⟨⟨r, ρ1⟩, e1, ef⟩ := Option.bind_eq_some_iff.mp ef
  obtain ⟨⟨d, ρ2⟩, e2, ef⟩ := Option.bind_eq_some_iff.mp ef
  obtain ⟨ρ3, e3, ef⟩ := Option.map_eq_some_iff.mp ef
  cases ef
  refine ⟨ρ, F, r, ρ1, E, nd, e1, fun v H' g F' r1 E1 N1 S1 => ?_⟩
  obtain ⟨p, F2, r2, E2, N2, s2⟩ := r1.take E1 N1 e2
  exact ⟨ρ2, F2, d, p, ρ', E2, r2, N2, e3, fun σ' F3 E3 N3 s3 w3 => k σ' H' F3 E3 N3 (S1.to fun a ha => .inl (s2 a (s3 a ha))) w3.2⟩
theorem ds_set {i : Nat} {x : Str} {pos' : Pos} (hN : X.N.Nodup) (hi : X.N[i]? = some x) (hx : Loc X.env.scope x) (he : DE X e fe) (hs : swapsWith e (some (.Name x pos')) pos.line X.env = pure false := by rfl)
    (hf : X.fn x = true ∨ X.env.scope.names.lookup x = some .local := by first | exact .inl rfl | exact .inr rfl | assumption) : DS X [i] (.Assign [.Name x pos'] e pos) (fAsg fe (fgName i)) :=
  ⟨ps_weak (ps_set hN hi hx he.pe hs hf) fun Dn σ H h => by
    obtain ⟨ρ, F, r, ρ', E, nd, ef, k⟩ := asg_of h
    refine ⟨ρ, F, r, ρ', E, nd, ef, fun v H' g F' r1 E1 N1 S1 => ?_⟩
    obtain ⟨ρ2, F2, d, p, ρ3, E2, r2, N2, e3, k2⟩ := k v H' g F' r1 E1 N1 S1
    obtain ⟨c, rfl⟩ := if_some e3
    obtain ⟨F3, E3, N3, s3⟩ := E2.store r2 N2 c
    exact k2 _ F3 E3 N3 s3 ⟨List.length_set .., fun j hj => by rw [List.getElem?_set_ne]; intro z; exact hj (by simp [z])⟩⟩
/-- a, b = x, y of two plain names -/
def fPar (i j : Nat) (fa : FA) : FS := fun ρ => (fa ρ).bind fun (rs, ρ1) => (takes ρ1 rs).bind fun (ds, ρ2) => match ds with
  | [d, e] => if i < ρ2.length ∧ j < ρ2.length then some (.nx, (ρ2.set i (some d)).set j (some e)) else none
  | _ => none
/-- o[i] = e -/
def fStore (fe : FE) (fp : FP) (fi : FE) : FS := fun ρ => (fe ρ).bind fun (r, ρ1) => (fp ρ1).bind fun (p, ρ2) => (getP ρ2 p).bind fun c0 => (fi (hide ρ2 p)).bind fun (x, ρ3) => (cont ρ3 x).bind fun key =>
  (take1 ρ3 r).bind fun (dv, ρ4) => (getP (unhide ρ2 ρ4 p) p).bind fun c => (dStore c key dv).map fun c' => (.nx, setP (unhide ρ2 ρ4 p) c' p)
def rSetAll : TSet := fun o i v H Q => rSetL o i v H Q ∨ rSetD o i v H Q
theorem set_all (hu : X.A.units + 1 < cLine) : PSet X rSetAll := fun pins s σ H o i v ov iv u Q I r1 r2 r3 h => h.elim (set_list pins s σ H o i v ov iv u Q I r1 r2 r3) (set_dict hu pins s σ H o i v ov iv u Q I r1 r2 r3)
def mStore : D → List D → Option (D × D)
  | c, [key, dv] => (dStore c key dv).map fun c' => (c', .non)
  | _, _ => none
def rStore : V → List V → Hp → VK → Prop := fun o vs H Q => ∃ i v, vs = [i, v] ∧ rSetAll o i v H fun H' => Q .non H'
theorem mu_store {K : PySem.W.Frag} : MutS K rStore mStore := by
  intro H d v f ds vs p d' z Q r ra nd e k
  unfold mStore at e
  split at e
  · rename_i key dv
    obtain ⟨c', e1, e⟩ := Option.map_eq_some_iff.mp e
    cases e
    obtain ⟨iv, vs', f1, f2, rfl, rfl, r1, r2⟩ := ra
    obtain ⟨w, rfl, rw'⟩ := r2.one
    refine ⟨iv, w, rfl, ?_⟩
    unfold dStore at e1
    split at e1
    · obtain ⟨j, e2, e1⟩ := Option.bind_eq_some_iff.mp e1
      obtain ⟨c, rfl⟩ := if_some e1
      obtain ⟨rfl, rfl⟩ := r1
      obtain ⟨a, ws, g, rfl, ha, rfl, rl⟩ := r
      have hj := List.getElem?_eq_getElem c
      obtain ⟨w0, g1, g2, g3, e3, rfl, r3, up, _⟩ := rl.at hj
      rw [List.nil_append] at nd
      obtain ⟨n0, n1⟩ := List.nodup_cons.mp nd
      have mu : MutO (H a) := by rw [ha]; trivial
      obtain ⟨y1, y2, y3⟩ := nodup3 n1
      have y4 := (nodup3 (nodup_mid y1)).2.1
      have nn : (g1 ++ (f2 ++ g3)).Nodup := nodup_mid (nodup_of y2 y4 fun b hb hc => y3 b (by simp at hc ⊢; rcases hc with z | z <;> simp [z]) hb)
      have na : a ∉ g1 ++ (f2 ++ g3) := fun z => n0 (by simp at z ⊢; rcases z with z | z | z <;> simp [z])
      refine .inl ⟨a, ws, _, j, rfl, rfl, ha, by rw [rl.length]; exact e2, k .non _ (a :: (g1 ++ (f2 ++ g3))) [] ⟨a, _, _, rfl, upd_same, rfl, RepL.keep _ _ _ (up dv w f2 rw') (keep_upd mu na)⟩ ⟨rfl, rfl⟩ (List.nodup_cons.mpr ⟨na, nn⟩) (fun b hb => .inl ?_) upd_other⟩
      simp only [List.mem_append, List.mem_cons, List.nil_append] at hb ⊢
      rcases hb with rfl | h | h | h <;> simp [*]
    · obtain ⟨kk, e2, e1⟩ := Option.bind_eq_some_iff.mp e1
      obtain ⟨⟨ci, c⟩, rfl⟩ := if_some e1
      obtain rfl := keyOf_kV r1 e2
      obtain ⟨a, ws, g, rfl, ha, rfl, rk⟩ := r
      have mu : MutO (H a) := by rw [ha]; trivial
      obtain ⟨n1, n2, n3⟩ := nodup3 nd
      obtain ⟨n4, n5⟩ := List.nodup_cons.mp n1
      obtain ⟨g', q1, q2, q3⟩ := RepK.put (k := kk) (rep_nil rw' ci) rk n5
      have na : a ∉ g' := fun z => n4 (q3 a z)
      refine .inr ⟨a, _, rfl, DPut.k ha (by rw [rk.length]; exact c), k .non _ (a :: g') [] ⟨a, _, _, rfl, upd_same, rfl, RepK.keep _ _ _ q1 (keep_upd mu na)⟩ ⟨rfl, rfl⟩ (List.nodup_cons.mpr ⟨na, q2⟩) (fun b hb => .inl ?_) upd_other⟩
      simp only [List.mem_append, List.mem_cons, List.nil_append] at hb ⊢
      rcases hb with rfl | h
      · simp
      · simp [q3 b h]
    · cases e1
  · cases e
theorem ds_store {S : Stmt} {fe : FE} {fp : FP} {fi : FE} (h : PS X S (tAsg (rdE X.K fe) (gSub (rdP X.K fp) (rdE X.K fi) rSetAll))) : DS X [] S (fStore fe fp fi) :=
  ⟨ps_weak h fun Dn σ H ⟨ρ, F, oo, ρ', E, nd, ef, k⟩ => by
    obtain ⟨⟨r, ρ1⟩, e1, ef⟩ := Option.bind_eq_some_iff.mp ef
    obtain ⟨⟨p, ρ2⟩, e2, ef⟩ := Option.bind_eq_some_iff.mp ef
    obtain ⟨c0, e3, ef⟩ := Option.bind_eq_some_iff.mp ef
    obtain ⟨⟨x, ρ3⟩, e4, ef⟩ := Option.bind_eq_some_iff.mp ef
    obtain ⟨key, e5, ef⟩ := Option.bind_eq_some_iff.mp ef
    obtain ⟨⟨dv, ρ4⟩, e6, ef⟩ := Option.bind_eq_some_iff.mp ef
    obtain ⟨c, e7, ef⟩ := Option.bind_eq_some_iff.mp ef
    obtain ⟨c', e8, ef⟩ := Option.map_eq_some_iff.mp ef
    cases ef
    refine ⟨ρ, F, r, ρ1, E, nd, e1, fun v H1 g1 F1 r1 E1 N1 S1 => ?_⟩
    obtain ⟨n1, n2, n3⟩ := nodup3 N1
    refine ⟨ρ1, F1, p, ρ2, E1, n2, e2, fun ov H2 F2 hv E2 N2 S2 => ?_⟩
    have r1' := r1.keep (S2.keep E1.mut n3)
    have d2 : ∀ a ∈ g1, a ∉ F2 := S2.apart r1.mut n3
    obtain ⟨Fh, Eh, nh, sub, cont⟩ := hidden E2 N2 e3 hv
    refine ⟨hide ρ2 p, Fh, x, ρ3, Eh, nh, e4, fun iv H3 g3 F3 r3 E3 N3 S3 => ?_⟩
    have dh : ∀ a ∈ g1, a ∉ Fh := fun a ha hb => d2 a ha (sub a hb)
    have r1'' := r1'.keep (S3.keep Eh.mut dh)
    have d3 : ∀ a ∈ g1, a ∉ g3 ++ F3 := S3.apart r1'.mut dh
    obtain ⟨pk, qk, _⟩ := r3.cont E3 e5
    obtain ⟨p2, F4, rv, E4, N4, s4⟩ := r1''.take E3 (nodup_of n1 (nodup3 N3).2.1 fun a ha hb => d3 a ha (List.mem_append_right _ hb)) e6
    obtain ⟨hv3, F5, E5, N5, S5⟩ := cont g1 (fun a ha => r1'.mut a ha) d2 H3 ρ4 F4 p2 E4 N4 fun a u ea na => by
      obtain ⟨x1, x2⟩ := S3 a u ea fun z => na (List.mem_append_right _ z)
      refine ⟨x1, fun z => ?_⟩
      rcases List.mem_append.mp (s4 a z) with y | y
      · exact na (List.mem_append_left _ y)
      · exact x2 (List.mem_append_right _ y)
    have S12 : Step H F H2 (g1 ++ F2) := fun a u ea na => by
      obtain ⟨x1, x2⟩ := S1 a u ea na
      obtain ⟨x3, x4⟩ := S2 a u x1 fun z => x2 (List.mem_append_right _ z)
      exact ⟨x3, fun z => (List.mem_append.mp z).elim (fun z => x2 (List.mem_append_left _ z)) x4⟩
    have hk : imm key = true := by
      unfold dStore at e8
      split at e8
      · rfl
      · obtain ⟨kk, e9, _⟩ := Option.bind_eq_some_iff.mp e8
        revert e9
        cases key <;> intro e9 <;> first | rfl | cases e9
      · cases e8
    obtain ⟨i', v', ev, q⟩ := change (ds := [key, dv]) (vs := [iv, v]) (p2 := p2) (z := .non) (Q := fun _ H' => Dn.nx σ H') mu_store (S12.trans S5) E5 N5 ⟨iv, [v], [], p2, rfl, rfl, rep_nil qk hk, RepL.of_one rv⟩ hv3 e7 (by show (dStore c key dv).map (fun c' => (c', D.non)) = _; rw [e8]; rfl)
      fun u H' h F' ru E' N' S' => k σ H' F' E' (nodup3 N').2.1 (S'.to fun a ha => .inl (List.mem_append_right _ ha)) fun _ _ => rfl
    cases ev
    exact q⟩
end
end DL
/-! Loops and comprehensions. -/
namespace DL
open PySem PySem.Spec L2
/-! ### a list that is not changed any more -/
mutual
def frzD : D → Option D
  | .lst ds => (frzL ds).map .flst
  | .flst ds => (frzL ds).map .flst
  | .tup ds => (frzL ds).map .tup
  | .dic kvs => if immK kvs = true then some (.fdic kvs) else none
  | .fdic kvs => if immK kvs = true then some (.fdic kvs) else none
  | .exc a C dd kvs => if immK kvs = true then some (.exc a C dd kvs) else none
  | .non => some .non
  | .bl b => some (.bl b)
  | .int i => some (.int i)
  | .str x => some (.str x)
def frzL : List D → Option (List D)
  | [] => some []
  | d :: ds => (frzD d).bind fun d' => (frzL ds).map fun ds' => d' :: ds'
end
mutual
theorem frz_id : ∀ (d : D), imm d = true → frzD d = some d
  | .non, _ => rfl
  | .bl _, _ => rfl
  | .int _, _ => rfl
  | .str _, _ => rfl
  | .tup ds, h => by show (frzL ds).map D.tup = _; rw [frzL_id ds h]; rfl
  | .flst ds, h => by show (frzL ds).map D.flst = _; rw [frzL_id ds h]; rfl
  | .lst _, h => by cases h
  | .dic _, h => by cases h
  | .fdic kvs, h => if_pos h
  | .exc _ _ _ kvs, h => if_pos h
theorem frzL_id : ∀ (ds : List D), immL ds = true → frzL ds = some ds
  | [], _ => rfl
  | d :: ds, h => by
    have h' : imm d = true ∧ immL ds = true := by simpa [immL] using h
    show (frzD d).bind _ = _
    rw [frz_id d h'.1]
    show (frzL ds).map _ = _
    rw [frzL_id ds h'.2]
    rfl
end
/-- a list or a dict that may be changed -/
def LD (H : Hp) (a : Addr) : Prop := (∃ xs, H a = some (.lst xs)) ∨ ∃ ws, H a = some (.dK ws)
/-- these stand still from now on -/
def Locked (H : Hp) (f : List Addr) (H' : Hp) : Prop := Keep H [] H' ∧ ∀ a ∈ f, ∀ u, H a = some u → LD H a → ∃ o, H' a = some (.frz o u)
section
variable {K : PySem.W.Frag} {H H' : Hp}
mutual
theorem Rep.frz : ∀ (d : D) (v : V) (f : List Addr) (d' : D), Rep K H d v f → frzD d = some d' → Locked H f H' → Rep K H' d' v []
  | .non, v, f, d', r, e, l => by cases e; exact ⟨r.1, rfl⟩
  | .bl _, v, f, d', r, e, l => by cases e; exact ⟨r.1, rfl⟩
  | .int _, v, f, d', r, e, l => by cases e; exact ⟨r.1, rfl⟩
  | .str _, v, f, d', r, e, l => by cases e; exact ⟨r.1, rfl⟩
  | .dic kvs, v, f, d', r, e, l => by
    obtain ⟨im, e⟩ := if_some (show (if immK kvs = true then some (D.fdic kvs) else none) = some d' from e)
    cases e
    obtain ⟨a, ws, g, rfl, ha, rfl, rk⟩ := r
    obtain ⟨o, ho⟩ := l.2 a List.mem_cons_self _ ha (.inr ⟨ws, ha⟩)
    have g0 := RepK.imm _ _ _ rk im
    subst g0
    exact ⟨a, ws, rfl, ⟨o, ho⟩, RepK.keep _ _ _ rk l.1⟩
  | .fdic kvs, v, f, d', r, e, l => by
    obtain ⟨im, e⟩ := if_some (show (if immK kvs = true then some (D.fdic kvs) else none) = some d' from e)
    cases e
    obtain ⟨a, ws, rfl, ⟨o, ho⟩, rk⟩ := r
    have g0 := RepK.imm _ _ _ rk im
    subst g0
    exact ⟨a, ws, rfl, ⟨o, l.1 a _ ho (.inl (by rw [ho]; exact id))⟩, RepK.keep _ _ _ rk l.1⟩
  | .exc a C dd kvs, v, f, d', r, e, l => by
    obtain ⟨im, e⟩ := if_some (show (if immK kvs = true then some (D.exc a C dd kvs) else none) = some d' from e)
    cases e
    obtain ⟨ws, rfl, ho, rk⟩ := r
    have g0 := RepK.imm _ _ _ rk im
    subst g0
    exact ⟨ws, rfl, l.1 dd _ ho (.inl (by rw [ho]; exact id)), RepK.keep _ _ _ rk l.1⟩
  | .tup ds, v, f, d', r, e, l => by
    obtain ⟨ds', e1, e2⟩ := Option.map_eq_some_iff.mp (show (frzL ds).map .tup = some d' from e)
    cases e2
    obtain ⟨a, vs, rfl, t, rl⟩ := r
    exact ⟨a, vs, rfl, tupR_keep t l.1, RepL.frz ds vs f ds' rl e1 l⟩
  | .flst ds, v, f, d', r, e, l => by
    obtain ⟨ds', e1, e2⟩ := Option.map_eq_some_iff.mp (show (frzL ds).map .flst = some d' from e)
    cases e2
    obtain ⟨a, vs, rfl, t, rl⟩ := r
    exact ⟨a, vs, rfl, SqF.keep t l.1, RepL.frz ds vs f ds' rl e1 l⟩
  | .lst ds, v, f, d', r, e, l => by
    obtain ⟨ds', e1, e2⟩ := Option.map_eq_some_iff.mp (show (frzL ds).map .flst = some d' from e)
    cases e2
    obtain ⟨a, vs, g, rfl, ha, rfl, rl⟩ := r
    obtain ⟨o, ho⟩ := l.2 a List.mem_cons_self _ ha (.inl ⟨vs, ha⟩)
    exact ⟨a, vs, rfl, .inl ⟨o, ho⟩, RepL.frz ds vs g ds' rl e1 ⟨l.1, fun b hb => l.2 b (List.mem_cons_of_mem _ hb)⟩⟩
theorem RepL.frz : ∀ (ds : List D) (vs : List V) (f : List Addr) (ds' : List D), RepL K H ds vs f → frzL ds = some ds' → Locked H f H' → RepL K H' ds' vs []
  | [], vs, f, ds', r, e, l => by cases e; exact ⟨r.1, rfl⟩
  | d :: ds, vs, f, ds', r, e, l => by
    obtain ⟨d', e1, e2⟩ := Option.bind_eq_some_iff.mp (show (frzD d).bind _ = some ds' from e)
    obtain ⟨es, e3, e4⟩ := Option.map_eq_some_iff.mp e2
    subst e4
    obtain ⟨v, vs', f1, f2, rfl, rfl, r1, r2⟩ := r
    exact ⟨v, vs', [], [], rfl, rfl, Rep.frz d v f1 d' r1 e1 ⟨l.1, fun a ha => l.2 a (List.mem_append_left _ ha)⟩, RepL.frz ds vs' f2 es r2 e3 ⟨l.1, fun a ha => l.2 a (List.mem_append_right _ ha)⟩⟩
end
mutual
theorem Rep.lsts : ∀ (d : D) (v : V) (f : List Addr) (d' : D), Rep K H d v f → frzD d = some d' → ∀ a ∈ f, LD H a
  | .non, v, f, d', r, e => by rw [r.2]; intro a ha; cases ha
  | .bl _, v, f, d', r, e => by rw [r.2]; intro a ha; cases ha
  | .int _, v, f, d', r, e => by rw [r.2]; intro a ha; cases ha
  | .str _, v, f, d', r, e => by rw [r.2]; intro a ha; cases ha
  | .dic kvs, v, f, d', r, e => by
    obtain ⟨im, e⟩ := if_some (show (if immK kvs = true then some (D.fdic kvs) else none) = some d' from e)
    obtain ⟨a, ws, g, rfl, ha, rfl, rk⟩ := r
    have g0 := RepK.imm _ _ _ rk im
    subst g0
    intro b hb
    rw [List.mem_singleton.1 hb]
    exact .inr ⟨ws, ha⟩
  | .fdic kvs, v, f, d', r, e => by
    obtain ⟨im, e⟩ := if_some (show (if immK kvs = true then some (D.fdic kvs) else none) = some d' from e)
    obtain ⟨a, ws, rfl, _, rk⟩ := r
    rw [RepK.imm _ _ _ rk im]
    intro b hb
    cases hb
  | .exc a C dd kvs, v, f, d', r, e => by
    obtain ⟨im, e⟩ := if_some (show (if immK kvs = true then some (D.exc a C dd kvs) else none) = some d' from e)
    obtain ⟨ws, rfl, _, rk⟩ := r
    rw [RepK.imm _ _ _ rk im]
    intro b hb
    cases hb
  | .tup ds, v, f, d', r, e => by
    obtain ⟨ds', e1, _⟩ := Option.map_eq_some_iff.mp (show (frzL ds).map .tup = some d' from e)
    obtain ⟨a, vs, rfl, t, rl⟩ := r
    exact RepL.lsts ds vs f ds' rl e1
  | .flst ds, v, f, d', r, e => by
    obtain ⟨ds', e1, _⟩ := Option.map_eq_some_iff.mp (show (frzL ds).map .flst = some d' from e)
    obtain ⟨a, vs, rfl, t, rl⟩ := r
    exact RepL.lsts ds vs f ds' rl e1
  | .lst ds, v, f, d', r, e => by
    obtain ⟨ds', e1, _⟩ := Option.map_eq_some_iff.mp (show (frzL ds).map .flst = some d' from e)
    obtain ⟨a, vs, g, rfl, ha, rfl, rl⟩ := r
    intro b hb
    rcases List.mem_cons.mp hb with rfl | hb
    · exact .inl ⟨vs, ha⟩
    · exact RepL.lsts ds vs g ds' rl e1 b hb
theorem RepL.lsts : ∀ (ds : List D) (vs : List V) (f : List Addr) (ds' : List D), RepL K H ds vs f → frzL ds = some ds' → ∀ a ∈ f, LD H a
  | [], vs, f, ds', r, e => by rw [r.2]; intro a ha; cases ha
  | d :: ds, vs, f, ds', r, e => by
    obtain ⟨d', e1, e2⟩ := Option.bind_eq_some_iff.mp (show (frzD d).bind _ = some ds' from e)
    obtain ⟨es, e3, e4⟩ := Option.map_eq_some_iff.mp e2
    obtain ⟨v, vs', f1, f2, rfl, rfl, r1, r2⟩ := r
    intro a ha
    rcases List.mem_append.mp ha with z | z
    · exact Rep.lsts d v f1 d' r1 e1 a z
    · exact RepL.lsts ds vs' f2 es r2 e3 a z
end
end
/-- locked, and nothing else -/
def LockTo (H : Hp) (f : List Addr) (H' : Hp) : Prop := (∀ b, b ∉ f → H' b = H b) ∧ ∀ a ∈ f, ∃ u o, H a = some u ∧ MutO (some u) ∧ H' a = some (.frz o u)
theorem LockTo.locked {H H' : Hp} {f : List Addr} (h : LockTo H f H') : Locked H f H' := by
  refine ⟨fun a u e hm => ?_, fun a ha xs e _ => ?_⟩
  · have : a ∉ f := fun z => by
      obtain ⟨xs, o, e1, m1, _⟩ := h.2 a z
      rcases hm with m | m
      · exact m (by rw [e1]; exact m1)
      · cases m
    rw [h.1 a this]
    exact e
  · obtain ⟨ys, o, e1, _, e2⟩ := h.2 a ha
    rw [e] at e1
    cases e1
    exact ⟨o, e2⟩
theorem LD.mut {H : Hp} {a : Addr} (h : LD H a) : ∃ u, H a = some u ∧ MutO (some u) ∧ Mut (some u) := by
  rcases h with ⟨xs, e⟩ | ⟨ws, e⟩
  · exact ⟨_, e, trivial, trivial⟩
  · exact ⟨_, e, trivial, trivial⟩
theorem lockAll {X : Cx} {pins : List (Addr × Obj)} {σ : L2.St} {s1 : Shared} : ∀ (f : List Addr) (H : Hp), f.Nodup → (∀ a ∈ f, LD H a) → Inv X pins σ H s1 → ∃ H', LockTo H f H' ∧ Inv X pins σ H' s1
  | [], H, _, _, I => ⟨H, ⟨fun _ _ => rfl, fun a ha => by cases ha⟩, I⟩
  | a :: f, H, nd, hl, I => by
    obtain ⟨na, nd'⟩ := List.nodup_cons.mp nd
    obtain ⟨u, ea, m0, m1⟩ := (hl a List.mem_cons_self).mut
    obtain ⟨H1, l1, I1⟩ := lockAll f H nd' (fun b hb => hl b (List.mem_cons_of_mem _ hb)) I
    have ea1 : H1 a = some u := by rw [l1.1 a na]; exact ea
    obtain ⟨od, I2⟩ := I1.lock ea1 m1
    refine ⟨_, ⟨fun b hb => ?_, fun b hb => ?_⟩, I2⟩
    · rw [upd_ne (fun z => hb (by simp [z]))]
      exact l1.1 b fun z => hb (List.mem_cons_of_mem _ z)
    · by_cases hba : b = a
      · subst hba
        exact ⟨u, od, ea, m0, upd_same⟩
      · have hb' : b ∈ f := by rcases List.mem_cons.mp hb with z | z; exact absurd z hba; exact z
        obtain ⟨ys, o, e1, mm, e2⟩ := l1.2 b hb'
        exact ⟨ys, o, e1, mm, by rw [upd_ne hba]; exact e2⟩
theorem pe_frz {X : Cx} {e : Expr} {te : TE} (h : PE X e te) : PE X e (fun σ H Q => te σ H fun x H1 => ∃ f : List Addr, f.Nodup ∧ (∀ a ∈ f, LD H1 a) ∧ ∀ H2, LockTo H1 f H2 → Q x H2) :=
  ⟨fun pins s σ H Q I hq => thn (h.run pins s σ H _ I hq) fun v s1 ⟨x, H1, I1, r1, f, nd, hl, q⟩ => by
    obtain ⟨H2, l2, I2⟩ := lockAll f H1 nd hl I1
    exact ⟨x, H2, I2, r1, q H2 l2⟩⟩
def fFrz (f : FE) : FE := fun ρ => (f ρ).bind fun (r, ρ1) => (cont ρ1 r).bind fun d => (frzD d).map fun d' => (.val d', match r with | .var i => ρ1.set i (some d') | .val _ => ρ1)
theorem de_frz {X : Cx} {e : Expr} {fe : FE} (h : DE X e fe) : DE X e (fFrz fe) := ⟨pe_weak (pe_frz h.pe) fun σ H Q ⟨ρ, F, r', ρ', E, nd, ef, k⟩ => by
  obtain ⟨⟨r, ρ1⟩, e1, ef⟩ := Option.bind_eq_some_iff.mp ef
  obtain ⟨d, e2, ef⟩ := Option.bind_eq_some_iff.mp ef
  obtain ⟨d', e3, ef⟩ := Option.map_eq_some_iff.mp ef
  cases ef
  refine ⟨ρ, F, r, ρ1, E, nd, e1, fun v H1 g F1 r1 E1 N1 S1 => ?_⟩
  obtain ⟨n1, n2, n3⟩ := nodup3 N1
  cases r with
  | val d0 =>
    cases e2
    refine ⟨g, n1, Rep.lsts _ _ _ _ r1 e3, fun H2 l2 => ?_⟩
    have lk := l2.locked
    refine k v H2 [] F1 (Rep.frz _ _ _ _ r1 e3 lk) (E1.keep fun a u ea hm => ?_) (by simpa using n2) fun b u eb nb => ?_
    · rw [l2.1 a fun z => ?_]
      · exact ea
      · rcases hm with m | m
        · obtain ⟨xs, o, e4, mm, _⟩ := l2.2 a z
          exact m (by rw [e4]; exact mm)
        · exact n3 a z m
    · obtain ⟨x1, x2⟩ := S1 b u eb nb
      exact ⟨by rw [l2.1 b fun z => x2 (List.mem_append_left _ z)]; exact x1, fun z => x2 (List.mem_append_right _ z)⟩
  | var i =>
    obtain ⟨h1, rfl⟩ := r1
    obtain ⟨w, A1, f, A3, e4, rfl, r2, E2⟩ := E1.at (slot_some e2)
    rw [e4] at h1
    cases h1
    have nd2 := nodup_mid n2
    obtain ⟨m1, m2, m3⟩ := nodup3 nd2
    refine ⟨f, m1, Rep.lsts _ _ _ _ r2 e3, fun H2 l2 => ?_⟩
    have lk := l2.locked
    have rf := Rep.frz _ _ _ _ r2 e3 lk
    have E2' : EnvR X.K H2 (ρ1.set i none) σ (A1 ++ A3) := E2.keep fun a u ea hm => by
      rw [l2.1 a fun z => ?_]
      · exact ea
      · rcases hm with m | m
        · obtain ⟨xs, o, e5, mm, _⟩ := l2.2 a z
          exact m (by rw [e5]; exact mm)
        · exact m3 a z m
    obtain ⟨B1, B3, eb, E3⟩ := E2'.put (slot_lt e2) e4 rf
    have m2' : (B1 ++ B3).Nodup := by rw [← eb]; exact m2
    refine k v H2 [] _ rf E3 (by simpa using m2') fun b u ebb nb => ?_
    obtain ⟨x1, x2⟩ := S1 b u ebb nb
    refine ⟨by rw [l2.1 b fun z => x2 (by simp [z])]; exact x1, fun z => x2 ?_⟩
    have : b ∈ A1 ++ A3 := by rw [eb]; simpa using z
    simp at this ⊢
    rcases this with y | y <;> simp [y]⟩
/-! ### what is walked -/
abbrev Yd := Hp → D → V → Prop
def Strong (K : PySem.W.Frag) : Yd := fun H d v => Rep K H d v []
def Weak (K : PySem.W.Frag) : Yd := fun H d v => ∃ es a xs, d = .tup es ∧ v = .ref a ∧ SqT K H a xs ∧ RepL K H es xs []
structure SrcOk (K : PySem.W.Frag) (Y : Yd) (J : It) (ds : List D) (Good : Hp → Prop) : Prop where
  keep : ∀ H H', Good H → Keep H [] H' → Good H'
  go : ∀ H n, Good H → n < ds.length → J.go n H
  stop : ∀ H n, Good H → ds.length ≤ n → J.stop n H
  yld : ∀ H n x H' d, Good H → J.yld n H x H' → ds[n]? = some d → Y H' d x ∧ Same H H'
abbrev FI := Fm → Option (List D × Fm)
def rdI (K : PySem.W.Frag) (Y : Yd) (f : FI) : TI := fun σ H R => ∃ ρ F ds ρ', EnvR K H ρ σ F ∧ F.Nodup ∧ f ρ = some (ds, ρ') ∧
  ∀ J H' F' Good, SrcOk K Y J ds Good → Good H' → EnvR K H' ρ' σ F' → F'.Nodup → Step H F H' F' → R J H'
structure DI (X : Cx) (Y : Yd) (tg e : Expr) (f : FI) : Prop where
  pi : PI X tg e (rdI X.K Y f)
theorem pi_weak {X : Cx} {tg e : Expr} {t t' : TI} (h : PI X tg e t) (w : ∀ σ H R, t' σ H R → t σ H R) : PI X tg e t' := ⟨fun pins s σ H R I q => h.run pins s σ H R I (w _ _ _ q)⟩
theorem pi_or {X : Cx} {tg e : Expr} {t1 t2 : TI} (h1 : PI X tg e t1) (h2 : PI X tg e t2) : PI X tg e (fun σ H R => t1 σ H R ∨ t2 σ H R) :=
  ⟨fun pins s σ H R I h => h.elim (h1.run pins s σ H R I) (h2.run pins s σ H R I)⟩
section
variable {X : Cx} {tg e : Expr} {fe : FE} {pos p : Pos} {fr : FA}
/-- over a tuple, a list that stands still -/
def fSeqI (fe : FE) : FI := fun ρ => (fe ρ).bind fun (r, ρ1) => (cont ρ1 r).bind fun d => match d with
  | .tup ds => if immL ds = true then some (ds, ρ1) else none
  | .flst ds => if immL ds = true then some (ds, ρ1) else none
  | _ => none
theorem di_seq (h : DE X e fe) : DI X (Strong X.K) tg e (fSeqI fe) := ⟨pi_weak (pi_or (pi_list h.pe) (pi_tup h.pe)) fun σ H R ⟨ρ, F, ds, ρ', E, nd, ef, k⟩ => by
  obtain ⟨⟨r, ρ1⟩, e1, ef⟩ := Option.bind_eq_some_iff.mp ef
  obtain ⟨d, e2, ef⟩ := Option.bind_eq_some_iff.mp ef
  cases d <;> try cases ef
  · obtain ⟨c, ef⟩ := if_some ef
    cases ef
    refine .inr ⟨ρ, F, r, ρ', E, nd, e1, fun v H1 g F1 r1 E1 N1 S1 => ?_⟩
    obtain ⟨p, q, _⟩ := r1.cont E1 e2
    obtain ⟨a, vs, rfl, ta, rl⟩ := q
    refine ⟨a, rfl, ⟨vs, ta.sq⟩, k _ H1 F1 (fun H => TupR X.K H a vs ∧ RepL X.K H ds vs []) ⟨fun H H' ⟨x, y⟩ kp => ⟨tupR_keep x kp, RepL.keep _ _ _ y kp⟩, fun H n ⟨x, y⟩ hn => ?_, fun H n ⟨x, y⟩ hn => ?_, fun H n w H' d ⟨x, y⟩ yl hd => ?_⟩ ⟨ta, rl.nil_of c⟩ E1 (nodup3 N1).2.1 (S1.to fun b hb => .inl (List.mem_append_right _ hb))⟩
    · have hl : n < vs.length := by rw [y.length]; exact hn
      exact ⟨vs, vs[n], x.sq, List.getElem?_eq_getElem hl⟩
    · exact ⟨vs, x.sq, by rw [y.length]; exact hn⟩
    · obtain ⟨rfl, yl⟩ := yl
      have e3 := yl vs x.sq
      obtain ⟨d', e4, r4⟩ := y.each c n w e3
      rw [hd] at e4
      cases e4
      exact ⟨r4, Same.refl _⟩
  · obtain ⟨c, ef⟩ := if_some ef
    cases ef
    refine .inl ⟨ρ, F, r, ρ', E, nd, e1, fun v H1 g F1 r1 E1 N1 S1 => ?_⟩
    obtain ⟨p, q, _⟩ := r1.cont E1 e2
    obtain ⟨a, vs, rfl, ta, rl⟩ := q
    refine ⟨a, rfl, ⟨vs, ta.seq⟩, k _ H1 F1 (fun H => SqF X.K H a vs ∧ RepL X.K H ds vs []) ⟨fun H H' ⟨x, y⟩ kp => ⟨SqF.keep x kp, RepL.keep _ _ _ y kp⟩, fun H n ⟨x, y⟩ hn => ?_, fun H n ⟨x, y⟩ hn => ?_, fun H n w H' d ⟨x, y⟩ yl hd => ?_⟩ ⟨ta, rl.nil_of c⟩ E1 (nodup3 N1).2.1 (S1.to fun b hb => .inl (List.mem_append_right _ hb))⟩
    · have hl : n < vs.length := by rw [y.length]; exact hn
      exact ⟨vs, vs[n], x.seq, List.getElem?_eq_getElem hl⟩
    · exact ⟨vs, x.seq, by rw [y.length]; exact hn⟩
    · obtain ⟨rfl, yl⟩ := yl
      have e3 := yl vs x.seq
      obtain ⟨d', e4, r4⟩ := y.each c n w e3
      rw [hd] at e4
      cases e4
      exact ⟨r4, Same.refl _⟩⟩
/-- the whole numbers from lo on, n of them -/
def iota (lo : Int) (n : Nat) : List D := (List.range n).map fun i => .int (lo + (i : Nat))
theorem iota_length (lo : Int) (n : Nat) : (iota lo n).length = n := by simp [iota]
theorem iota_get {lo : Int} {n i : Nat} {d : D} (e : (iota lo n)[i]? = some d) : d = .int (lo + (i : Nat)) := by
  unfold iota at e
  rw [List.getElem?_map] at e
  cases h : (List.range n)[i]? with
  | none => rw [h] at e; cases e
  | some j =>
    rw [h] at e
    cases e
    obtain ⟨hi, rfl⟩ := List.getElem?_eq_some_iff.mp h
    simp
theorem src_rng {K : PySem.W.Frag} (lo : Int) (n : Nat) : SrcOk K (Strong K) (Itr lo n) (iota lo n) fun _ => True where
  keep := fun _ _ _ _ => trivial
  go := fun _ i _ h => by rw [iota_length] at h; exact h
  stop := fun _ i _ h => by rw [iota_length] at h; exact h
  yld := fun H i x H' d _ y hd => by
    obtain ⟨rfl, rfl⟩ := y
    rw [iota_get hd]
    exact ⟨⟨rfl, rfl⟩, Same.refl _⟩
def okR (j : Int) : Bool := decide (j.natAbs < 2 ^ 62)
def fRng1 (fr : FA) : FI := fun ρ => (fr ρ).bind fun (rs, ρ1) => (conts ρ1 rs).bind fun ds => match ds with
  | [.int j] => if okR j = true then some (iota 0 j.toNat, ρ1) else none
  | _ => none
def fRng2 (fr : FA) : FI := fun ρ => (fr ρ).bind fun (rs, ρ1) => (conts ρ1 rs).bind fun ds => match ds with
  | [.int i, .int j] => if okR i = true ∧ okR j = true then some (iota i (j - i).toNat, ρ1) else none
  | _ => none
theorem okR_of {j : Int} (h : okR j = true) : -(2 ^ 62) ≤ j ∧ j < 2 ^ 62 := by
  have := of_decide_eq_true h
  omega
theorem di_rng1 {a : Expr} (hg : Gl X "range") (hm : X.mg "range" = none) (ha : DA X [a] fr) (hs : starEach [a] X.env = [(false, eval a X.env)] := by rfl) : DI X (Strong X.K) tg (.Call (.Name "range" p) [a] [] pos) (fRng1 fr) :=
  ⟨pi_weak (pi_range1 hg hm ha.pa hs) fun σ H R ⟨ρ, F, ds, ρ', E, nd, ef, k⟩ => by
    obtain ⟨⟨rs, ρ1⟩, e1, ef⟩ := Option.bind_eq_some_iff.mp ef
    obtain ⟨xs, e2, ef⟩ := Option.bind_eq_some_iff.mp ef
    split at ef
    · obtain ⟨c, ef⟩ := if_some ef
      cases ef
      refine ⟨ρ, F, rs, ρ', E, nd, e1, fun vs H' g F' r1 E1 N1 S1 => ?_⟩
      obtain ⟨hl, hi⟩ := r1.conts E1 e2
      match vs, hl with
      | [v], _ =>
        obtain ⟨q, r, _⟩ := hi 0 _ v rfl rfl
        obtain ⟨c1, c2⟩ := okR_of c
        exact ⟨_, by rw [r.1], c1, c2, k _ H' F' _ (src_rng 0 _) trivial E1 (nodup3 N1).2.1 (S1.to fun b hb => .inl (List.mem_append_right _ hb))⟩
    · cases ef⟩
end
/-! ### a loop's target -/
def rdY (K : PySem.W.Frag) (Y : Yd) (W : List Nat) (fg : FG) : TG := fun v σ H Q => ∃ ρ F d ρ', EnvR K H ρ σ F ∧ Y H d v ∧ F.Nodup ∧ fg d ρ = some ρ' ∧
  ∀ σ' F', EnvR K H ρ' σ' F' → F'.Nodup → (∀ a, a ∈ F' → a ∈ F) → (σ'.length = σ.length ∧ ∀ j, j ∉ W → σ'[j]? = σ[j]?) → Q σ' H
structure DY (X : Cx) (Y : Yd) (W : List Nat) (t : Expr) (fg : FG) : Prop where
  pg : PG X t (rdY X.K Y W fg)
section
variable {X : Cx} {W W1 W2 : List Nat} {t : Expr} {fg : FG} {pos : Pos}
theorem DG.dy (h : DG X W t fg) : DY X (Strong X.K) W t fg := ⟨pg_weak h.pg fun v σ H Q ⟨ρ, F, d, ρ', E, r, nd, ef, k⟩ =>
  ⟨ρ, F, d, [], ρ', E, r, by simpa using nd, ef, fun σ' F' a b c d => k σ' F' a b (fun x hx => by simpa using c x hx) d⟩⟩
theorem dy_tup {es : List Expr} {k0 : Nat} {fs : FGs} {n : Nat} (hc : X.calm = true) (h : DGs X W es fs)
    (hn : (assignEach es X.env).length = n := by rfl) (hst : (assignEach es X.env).findIdx? (·.1) = none := by rfl) : DY X (Weak X.K) W (.Tuple es k0 pos) (fgTup n fs) :=
  ⟨pg_weak (pg_tup hc h.pgs hn hst) fun v σ H Q ⟨ρ, F, d, ρ', E, r, nd, ef, k⟩ => by
    obtain ⟨ds, a, vs, rfl, rfl, ta, rl⟩ := r
    obtain ⟨c, ef⟩ := by_cases_if (show (if ds.length = n then fs ds ρ else none) = some ρ' from ef)
    exact ⟨a, vs, rfl, ta, by rw [rl.length]; exact c, ρ, F, ds, [], ρ', E, rl, by simpa using nd, ef, fun σ' F' a b c d => k σ' F' a b (fun x hx => by simpa using c x hx) d⟩⟩
/-! ### for -/
def forD (fg : FG) (fb : FS) : List D → FS
  | [], ρ => some (.nx, ρ)
  | d :: ds, ρ => (fg d ρ).bind fun ρ1 => (fb ρ1).bind fun (o, ρ2) => match o with
    | .nx => forD fg fb ds ρ2
    | .ct => forD fg fb ds ρ2
    | .bk => some (.nx, ρ2)
    | .ret d => some (.ret d, ρ2)
def fFor (fi : FI) (fg : FG) (fb : FS) : FS := fun ρ => (fi ρ).bind fun (ds, ρ1) => forD fg fb ds ρ1
theorem ds_for {Y : Yd} {tg iter : Expr} {body : List Stmt} {fi : FI} {fb : FS} (hp : PassesOwn (model X.prog X.w) X.A X.env X.xe) (hc : X.calm = true) (hi : DI X Y tg iter fi) (hg : DY X Y W1 tg fg) (hb : DSs X W2 body fb)
    (hs : ∀ x, foldedSetIterable iter X.env x = pure x := by intro _; rfl) : DS X (W1 ++ W2) (.For tg iter body [] pos) (fFor fi fg fb) :=
  ⟨ps_weak (ps_for hp hc hi.pi hg.pg hb.pss hs) fun Dn σ H ⟨ρ, F, o, ρ', E, nd, ef, k⟩ => by
    obtain ⟨⟨ds, ρ1⟩, e1, ef⟩ := Option.bind_eq_some_iff.mp ef
    refine ⟨ρ, F, ds, ρ1, E, nd, e1, fun J H1 F1 Good so gd E1 N1 S1 => ?_⟩
    refine ⟨fun i m σi Hi => m = ds.length - i ∧ i ≤ ds.length ∧ ∃ ρi Fi, EnvR X.K Hi ρi σi Fi ∧ Fi.Nodup ∧ forD fg fb (ds.drop i) ρi = some (o, ρ') ∧ Good Hi ∧ Step H F Hi Fi ∧ ∀ j, j ∉ W1 ++ W2 → σi[j]? = σ[j]?,
      ⟨ds.length, by simp, Nat.zero_le _, ρ1, F1, E1, N1, ef, gd, S1, fun _ _ => rfl⟩, ?_⟩
    rintro i m σi Hi ⟨rfl, hi, ρi, Fi, Ei, Ni, efi, gi, Si, wi⟩
    by_cases hlt : i < ds.length
    · have hd : ds[i]? = some ds[i] := List.getElem?_eq_getElem hlt
      have e3 : ds.drop i = ds[i] :: ds.drop (i + 1) := List.drop_eq_getElem_cons hlt
      rw [e3] at efi
      obtain ⟨ρ2, e4, efi⟩ := Option.bind_eq_some_iff.mp efi
      obtain ⟨⟨o1, ρ3⟩, e5, efi⟩ := Option.bind_eq_some_iff.mp efi
      refine .inr ⟨so.go Hi i gi hlt, fun σ' H' => (i + 1 ≤ ds.length ∧ ∃ ρi Fi, EnvR X.K H' ρi σ' Fi ∧ Fi.Nodup ∧ forD fg fb (ds.drop (i + 1)) ρi = some (o, ρ') ∧ Good H' ∧ Step H F H' Fi ∧ ∀ j, j ∉ W1 ++ W2 → σ'[j]? = σ[j]?), fun σ' H' h => ⟨ds.length - (i + 1), by omega, rfl, h⟩, fun x H' yl => ?_⟩
      obtain ⟨yr, sm⟩ := so.yld Hi i x H' _ gi yl hd
      have Ei' := Ei.keep (Same.keep (l := Fi) sm)
      have S' : Step H F H' Fi := fun a u ea na => by
        obtain ⟨x1, x2⟩ := Si a u ea na
        exact ⟨sm a u x1, x2⟩
      have gd' : Good H' := so.keep _ _ gi (Same.keep sm)
      refine ⟨ρi, Fi, _, ρ2, Ei', yr, Ni, e4, fun σ2 F2 E2 N2 s2 w2 => ?_⟩
      have S2 : Step H F H' F2 := S'.to fun a ha => .inl (s2 a ha)
      have wj : ∀ j, j ∉ W1 ++ W2 → σ2[j]? = σ[j]? := fun j hj => by
        rw [w2.2 j fun z => hj (List.mem_append_left _ z), wi j hj]
      have next : ∀ σ' H2 F3, EnvR X.K H2 ρ3 σ' F3 → F3.Nodup → Step H' F2 H2 F3 → (∀ j, j ∉ W2 → σ'[j]? = σ2[j]?) → forD fg fb (ds.drop (i + 1)) ρ3 = some (o, ρ') →
          (i + 1 ≤ ds.length ∧ ∃ ρi Fi, EnvR X.K H2 ρi σ' Fi ∧ Fi.Nodup ∧ forD fg fb (ds.drop (i + 1)) ρi = some (o, ρ') ∧ Good H2 ∧ Step H F H2 Fi ∧ ∀ j, j ∉ W1 ++ W2 → σ'[j]? = σ[j]?) := fun σ' H2 F3 E3 N3 S3 w3 e6 =>
        ⟨hlt, ρ3, F3, E3, N3, e6, so.keep _ _ gd' (S3.keep E2.mut (by simp)), S2.trans S3, fun j hj => by rw [w3 j fun z => hj (List.mem_append_right _ z), wj j hj]⟩
      refine ⟨ρ2, F2, o1, ρ3, E2, N2, e5, ?_⟩
      cases o1 with
      | nx => exact fun σ' H2 F3 E3 N3 S3 w3 => next σ' H2 F3 E3 N3 S3 w3 efi
      | ct => exact fun σ' H2 F3 E3 N3 S3 w3 => next σ' H2 F3 E3 N3 S3 w3 efi
      | bk =>
        cases efi
        exact fun σ' H2 F3 E3 N3 S3 w3 => k σ' H2 F3 E3 N3 (S2.trans S3) fun j hj => by rw [w3 j fun z => hj (List.mem_append_right _ z), wj j hj]
      | ret d =>
        cases efi
        exact fun v σ' H2 g F3 r3 E3 N3 S3 w3 => k v σ' H2 g F3 r3 E3 N3 (S2.trans S3) fun j hj => by rw [w3 j fun z => hj (List.mem_append_right _ z), wj j hj]
    · have e3 : i = ds.length := by omega
      subst e3
      rw [List.drop_length] at efi
      cases efi
      exact .inl ⟨so.stop Hi _ gi (Nat.le_refl _), k σi Hi Fi Ei Ni Si wi⟩⟩
/-! ### while -/
def whileD (ft : FT) (fb : FS) : Nat → FS
  | 0, _ => none
  | n + 1, ρ => (ft ρ).bind fun (k, ρ1) => if k then (fb ρ1).bind fun (o, ρ2) => match o with
      | .nx => whileD ft fb n ρ2
      | .ct => whileD ft fb n ρ2
      | .bk => some (.nx, ρ2)
      | .ret d => some (.ret d, ρ2)
    else some (.nx, ρ1)
theorem ds_while {c : Expr} {body : List Stmt} {ft : FT} {fb : FS} (n : Nat) (hp : PassesOwn (model X.prog X.w) X.A X.env X.xe) (hc : DT X c ft) (hb : DSs X W body fb) : DS X W (.While c body [] pos) (whileD ft fb n) :=
  ⟨ps_weak (ps_while hp hc.pt hb.pss) fun Dn σ H ⟨ρ, F, o, ρ', E, nd, ef, k⟩ => by
    refine ⟨fun m σi Hi => ∃ ρi Fi, EnvR X.K Hi ρi σi Fi ∧ Fi.Nodup ∧ whileD ft fb m ρi = some (o, ρ') ∧ Step H F Hi Fi ∧ ∀ j, j ∉ W → σi[j]? = σ[j]?, ⟨n, ρ, F, E, nd, ef, Step.refl, fun _ _ => rfl⟩, ?_⟩
    rintro m σi Hi ⟨ρi, Fi, Ei, Ni, efi, Si, wi⟩
    cases m with
    | zero => cases efi
    | succ m =>
      obtain ⟨⟨k1, ρ1⟩, e1, efi⟩ := Option.bind_eq_some_iff.mp efi
      refine ⟨ρi, Fi, k1, ρ1, Ei, Ni, e1, fun H1 F1 E1 N1 S1 => ?_⟩
      have S' := Si.trans S1
      cases k1 with
      | true =>
        refine iteT ?_
        obtain ⟨⟨o1, ρ2⟩, e2, efi⟩ := Option.bind_eq_some_iff.mp efi
        refine ⟨fun σ' H' => ∃ ρi Fi, EnvR X.K H' ρi σ' Fi ∧ Fi.Nodup ∧ whileD ft fb m ρi = some (o, ρ') ∧ Step H F H' Fi ∧ ∀ j, j ∉ W → σ'[j]? = σ[j]?, fun σ' H' h => ⟨m, Nat.lt_succ_self m, h⟩, ρ1, F1, o1, ρ2, E1, N1, e2, ?_⟩
        cases o1 with
        | nx => exact fun σ' H2 F3 E3 N3 S3 w3 => ⟨ρ2, F3, E3, N3, efi, S'.trans S3, fun j hj => by rw [w3 j hj, wi j hj]⟩
        | ct => exact fun σ' H2 F3 E3 N3 S3 w3 => ⟨ρ2, F3, E3, N3, efi, S'.trans S3, fun j hj => by rw [w3 j hj, wi j hj]⟩
        | bk =>
          cases efi
          exact fun σ' H2 F3 E3 N3 S3 w3 => k σ' H2 F3 E3 N3 (S'.trans S3) fun j hj => by rw [w3 j hj, wi j hj]
        | ret d =>
          cases efi
          exact fun v σ' H2 g F3 r3 E3 N3 S3 w3 => k v σ' H2 g F3 r3 E3 N3 (S'.trans S3) fun j hj => by rw [w3 j hj, wi j hj]
      | false =>
        refine iteF ?_
        cases efi
        exact k σi H1 F1 E1 N1 S' wi⟩
end
end DL
/-! Comprehensions, slices. -/
namespace DL
open PySem PySem.Spec L2
def wipeF (ρ : Fm) : List Nat → Fm
  | [] => ρ
  | v :: vs => (wipeF ρ vs).set v none
section
variable {K : PySem.W.Frag} {H : Hp}
theorem EnvR.congr : ∀ {ρ : Fm} {σ σ' : L2.St} {F : List Addr}, EnvR K H ρ σ F → σ'.length = σ.length → (∀ (i : Nat) (d : D), ρ[i]? = some (some d) → σ'[i]? = σ[i]?) → EnvR K H ρ σ' F
  | [], σ, σ', F, h, hl, _ => by
    obtain ⟨rfl, rfl⟩ := h
    exact ⟨List.eq_nil_of_length_eq_zero hl, rfl⟩
  | none :: ρ, σ, σ', F, h, hl, e => by
    obtain ⟨o, τ, rfl, h⟩ := h
    match σ', hl with
    | o' :: τ', hl => exact ⟨o', τ', rfl, EnvR.congr h (by simpa using hl) fun i d q => by simpa using e (i + 1) d (by simpa using q)⟩
  | some d :: ρ, σ, σ', F, h, hl, e => by
    obtain ⟨v, τ, f, g, rfl, rfl, r, h⟩ := h
    match σ', hl with
    | o' :: τ', hl =>
      have e0 := e 0 d rfl
      simp at e0
      subst e0
      exact ⟨v, τ', f, g, rfl, rfl, r, EnvR.congr h (by simpa using hl) fun i d q => by simpa using e (i + 1) d (by simpa using q)⟩
theorem EnvR.wiped {ρ : Fm} {σ : L2.St} {F : List Addr} (h : EnvR K H ρ σ F) (nd : F.Nodup) : ∀ vs : List Nat, ∃ F', EnvR K H (wipeF ρ vs) (wipe σ vs) F' ∧ F'.Nodup ∧ ∀ a, a ∈ F' → a ∈ F
  | [] => ⟨F, h, nd, fun a ha => ha⟩
  | v :: vs => by
    obtain ⟨F', h1, n1, s1⟩ := EnvR.wiped h nd vs
    obtain ⟨A, f, B, rfl, h2⟩ := h1.drop (i := v)
    exact ⟨A ++ B, h2.other, (nodup3 (nodup_mid n1)).2.1, fun a ha => s1 a (by simp at ha ⊢; rcases ha with z | z <;> simp [z])⟩
theorem wipeF_get {ρ : Fm} {i : Nat} {d : D} : ∀ {vs : List Nat}, (wipeF ρ vs)[i]? = some (some d) → ρ[i]? = some (some d) ∧ i ∉ vs
  | [], h => ⟨h, by simp⟩
  | v :: vs, h => by
    unfold wipeF at h
    rw [List.getElem?_set] at h
    split at h
    · split at h <;> cases h
    · rename_i hv
      obtain ⟨h1, h2⟩ := wipeF_get h
      exact ⟨h1, by simp only [List.mem_cons, not_or]; exact ⟨fun z => hv z.symm, h2⟩⟩
theorem wipe_get {σ : L2.St} {i : Nat} : ∀ {vs : List Nat}, i ∉ vs → (wipe σ vs)[i]? = σ[i]?
  | [], _ => rfl
  | v :: vs, h => by
    simp only [List.mem_cons, not_or] at h
    unfold wipe
    rw [List.getElem?_set_ne (fun z => h.1 z.symm), wipe_get h.2]
theorem EnvR.unwiped {ρ : Fm} {σ : L2.St} {F : List Addr} {vs : List Nat} (h : EnvR K H ρ (wipe σ vs) F) (e : wipeF ρ vs = ρ) : EnvR K H ρ σ F :=
  h.congr (by rw [wipe_length]) fun i d q => by
    rw [← e] at q
    rw [wipe_get (wipeF_get q).2]
theorem wipe_same {σ σ' : L2.St} {W vs : List Nat} (hl : σ'.length = σ.length) (hw : ∀ j, j ∉ W → σ'[j]? = (wipe σ vs)[j]?) (hs : ∀ j, j ∈ W → j ∈ vs) : wipe σ' vs = wipe σ vs := by
  apply List.ext_getElem?
  intro i
  by_cases hi : i ∈ vs
  · have key : ∀ (τ : L2.St), i < τ.length → ∀ ws : List Nat, i ∈ ws → (wipe τ ws)[i]? = some none := by
      intro τ hτ ws
      induction ws with
      | nil => intro h; cases h
      | cons w ws ih =>
        intro h
        unfold wipe
        by_cases hw : w = i
        · subst hw
          rw [List.getElem?_set_self (by rw [wipe_length]; exact hτ)]
        · rw [List.getElem?_set_ne hw]
          exact ih ((List.mem_cons.mp h).resolve_left fun z => hw z.symm)
    by_cases hb : i < σ.length
    · rw [key σ hb vs hi, key σ' (by rw [hl]; exact hb) vs hi]
    · rw [List.getElem?_eq_none (by rw [wipe_length, hl]; omega), List.getElem?_eq_none (by rw [wipe_length]; omega)]
  · rw [wipe_get hi, hw i fun z => hi (hs i z)]
theorem wipeF_idem (ρ : Fm) (vs : List Nat) : wipeF (wipeF ρ vs) vs = wipeF ρ vs := by
  apply List.ext_getElem?
  intro i
  have len : ∀ (τ : Fm) (ws : List Nat), (wipeF τ ws).length = τ.length := by
    intro τ ws
    induction ws with
    | nil => rfl
    | cons w ws ih => unfold wipeF; rw [List.length_set, ih]
  have inn : ∀ (τ : Fm), i < τ.length → ∀ ws : List Nat, i ∈ ws → (wipeF τ ws)[i]? = some none := by
    intro τ hτ ws
    induction ws with
    | nil => intro h; cases h
    | cons w ws ih =>
      intro h
      unfold wipeF
      by_cases hw : w = i
      · subst hw
        rw [List.getElem?_set_self (by rw [len]; exact hτ)]
      · rw [List.getElem?_set_ne hw]
        exact ih ((List.mem_cons.mp h).resolve_left fun z => hw z.symm)
  have out : ∀ (τ : Fm) (ws : List Nat), i ∉ ws → (wipeF τ ws)[i]? = τ[i]? := by
    intro τ ws
    induction ws with
    | nil => intro _; rfl
    | cons w ws ih =>
      intro h
      simp only [List.mem_cons, not_or] at h
      unfold wipeF
      rw [List.getElem?_set_ne (fun z => h.1 z.symm), ih h.2]
  by_cases hi : i ∈ vs
  · by_cases hb : i < ρ.length
    · rw [inn _ (by rw [len]; exact hb) vs hi, inn _ hb vs hi]
    · rw [List.getElem?_eq_none (by rw [len, len]; omega), List.getElem?_eq_none (by rw [len]; omega)]
  · rw [out _ _ hi]
end
/-! ### [e for t in it if c] -/
def lcD (vs : List Nat) (fg : FG) (ft : FT) (fe : FE) : List D → Fm → Option (List D × Fm)
  | [], ρ => some ([], ρ)
  | d :: ds, ρ => (fg d ρ).bind fun ρ1 => (ft ρ1).bind fun (k, ρ2) => if k then
      (fe ρ2).bind fun (r, ρ3) => (take1 ρ3 r).bind fun (z, ρ4) => (lcD vs fg ft fe ds (wipeF ρ4 vs)).map fun (zs, ρ5) => (z :: zs, ρ5)
    else lcD vs fg ft fe ds (wipeF ρ2 vs)
def fLc (vs : List Nat) (fi : FI) (fg : FG) (ft : FT) (fe : FE) : FE := fun ρ => (fi ρ).bind fun (ds, ρ1) => (lcD vs fg ft fe ds (wipeF ρ1 vs)).bind fun (zs, ρ2) =>
  if zs.length ≤ sizeLine then some (.val (.lst zs), ρ2) else none
def fYes : FT := fun ρ => some (true, ρ)
structure DTs (X : Cx) (ifs : List Expr) (f : FT) : Prop where
  pt : PTs X ifs (rdT X.K f)
theorem dts_nil {X : Cx} : DTs X [] fYes := ⟨⟨fun pins s σ H Q I ⟨ρ, F, k0, ρ2, E, nd, ef, k⟩ => by
  cases ef
  exact pts_nil.run pins s σ H Q I (k H F E nd Step.refl)⟩⟩
theorem dts_one {X : Cx} {c : Expr} {f : FT} (h : DT X c f) : DTs X [c] f := ⟨pts_one h.pt⟩
section
variable {X : Cx} {Y : Yd} {elt tg iter : Expr} {ifs : List Expr} {scope : Scope} {own : List (Str × Nat)} {pos : Pos} {fi : FI} {fg : FG} {ft : FT} {fe : FE} {W : List Nat}
theorem lc_of {K : PySem.W.Frag} {vs : List Nat} (hw : ∀ j, j ∈ W → j ∈ vs) {σ : L2.St} {H : Hp} {Q : VK} (h : rdE K (fLc vs fi fg ft fe) σ H Q) : tLc (rdI K Y fi) (rdY K Y W fg) (rdT K ft) (rdE K fe) vs σ H Q := by
  obtain ⟨ρ, F, r0, ρ', E, nd, ef, k⟩ := h
  obtain ⟨⟨ds, ρ1⟩, e1, ef⟩ := Option.bind_eq_some_iff.mp ef
  obtain ⟨⟨zs, ρ2⟩, e2, ef⟩ := Option.bind_eq_some_iff.mp ef
  obtain ⟨cl, ef⟩ := if_some ef
  cases ef
  refine ⟨ρ, F, ds, ρ1, E, nd, e1, fun J H1 F1 Good so gd E1 N1 S1 D hD => ?_⟩
  obtain ⟨Fb, Eb, Nb, sb⟩ := E1.wiped N1 vs
  have sm := upd_same_of (o := .lst []) hD
  have nD : D ∉ Fb := fun z => by
    obtain ⟨u, eu⟩ := (E1.mut D (sb D z)).some_
    rw [hD] at eu
    cases eu
  refine ⟨fun i m Hi => m = ds.length - i ∧ i ≤ ds.length ∧ ∃ ρi Fi acc ys rest g, EnvR K Hi ρi (wipe σ vs) Fi ∧ Hi D = some (.lst acc) ∧ RepL K Hi ys acc g ∧ ((D :: g) ++ Fi).Nodup ∧ wipeF ρi vs = ρi ∧
      lcD vs fg ft fe (ds.drop i) ρi = some (rest, ρ') ∧ ys ++ rest = zs ∧ Good Hi ∧ Step H F Hi ((D :: g) ++ Fi),
    ⟨ds.length, by simp, Nat.zero_le _, wipeF ρ1 vs, Fb, [], [], zs, [], Eb.keep (Same.keep sm), upd_same, ⟨rfl, rfl⟩, List.nodup_cons.mpr ⟨by simpa using nD, by simpa using Nb⟩, wipeF_idem _ _, e2, rfl, so.keep _ _ gd (Same.keep sm), fun a u ea na => ?_⟩, ?_⟩
  · obtain ⟨x1, x2⟩ := S1 a u ea na
    refine ⟨sm a u x1, fun z => ?_⟩
    rcases List.mem_cons.mp z with rfl | z
    · rw [hD] at x1; cases x1
    · exact x2 (sb a (by simpa using z))
  rintro i m Hi ⟨rfl, hi, ρi, Fi, acc, ys, rest, g, Ei, hacc, rl, ndi, wi, efi, es, gi, Si⟩
  obtain ⟨n1, n2, n3⟩ := nodup3 ndi
  have mu : MutO (Hi D) := by rw [hacc]; trivial
  have mg : ∀ a ∈ D :: g, MutO (Hi a) := fun a ha => (List.mem_cons.mp ha).elim (fun z => z ▸ mu) (RepL.mut _ _ _ rl a)
  by_cases hlt : i < ds.length
  · have hd : ds[i]? = some ds[i] := List.getElem?_eq_getElem hlt
    have e3 : ds.drop i = ds[i] :: ds.drop (i + 1) := List.drop_eq_getElem_cons hlt
    rw [e3] at efi
    obtain ⟨ρa, e4, efi⟩ := Option.bind_eq_some_iff.mp efi
    obtain ⟨⟨kt, ρb⟩, e5, efi⟩ := Option.bind_eq_some_iff.mp efi
    refine .inr ⟨so.go Hi i gi hlt, fun H' => (i + 1 ≤ ds.length ∧ ∃ ρi Fi acc ys rest g, EnvR K H' ρi (wipe σ vs) Fi ∧ H' D = some (.lst acc) ∧ RepL K H' ys acc g ∧ ((D :: g) ++ Fi).Nodup ∧ wipeF ρi vs = ρi ∧
        lcD vs fg ft fe (ds.drop (i + 1)) ρi = some (rest, ρ') ∧ ys ++ rest = zs ∧ Good H' ∧ Step H F H' ((D :: g) ++ Fi)), fun H' h => ⟨ds.length - (i + 1), by omega, rfl, h⟩, fun x H' yl => ?_⟩
    obtain ⟨yr, sm'⟩ := so.yld Hi i x H' _ gi yl hd
    have Ei' := Ei.keep (Same.keep (l := Fi) sm')
    have gd' : Good H' := so.keep _ _ gi (Same.keep sm')
    refine ⟨ρi, Fi, _, ρa, Ei', yr, n2, e4, fun σ2 F2 E2 N2 s2 w2 => ?_⟩
    refine ⟨wipe_same (by rw [w2.1, wipe_length]) w2.2 hw, ?_⟩
    -- what is made so far stands by itself
    have step1 : Step H F H' ((D :: g) ++ Fi) := fun a u ea na => by
      obtain ⟨x1, x2⟩ := Si a u ea na
      exact ⟨sm' a u x1, x2⟩
    have d2 : ∀ a ∈ D :: g, a ∉ F2 := fun a ha hb => n3 a ha (s2 a hb)
    have acc2 : H' D = some (.lst acc) := sm' _ _ hacc
    have rl2 : RepL K H' ys acc g := RepL.keep _ _ _ rl (Same.keep sm')
    have mg2 : ∀ a ∈ D :: g, MutO (H' a) := fun a ha => (List.mem_cons.mp ha).elim (fun z => by rw [z, acc2]; trivial) (RepL.mut _ _ _ rl2 a)
    refine ⟨ρa, F2, kt, ρb, E2, N2, e5, fun H3 F3 E3 N3 S3 => ?_⟩
    have kp3 : Keep H' (D :: g) H3 := S3.keep E2.mut d2
    have d3 : ∀ a ∈ D :: g, a ∉ F3 := S3.apart mg2 d2
    have acc3 : H3 D = some (.lst acc) := kp3 D _ acc2 (.inr List.mem_cons_self)
    have rl3 : RepL K H3 ys acc g := RepL.keep _ _ _ rl2 (kp3.sub fun a ha => List.mem_cons_of_mem _ ha)
    have gd3 : Good H3 := so.keep _ _ gd' (S3.keep E2.mut (by simp))
    have step3 : Step H F H3 ((D :: g) ++ F3) := fun a u ea na => by
      obtain ⟨x1, x2⟩ := step1 a u ea na
      obtain ⟨x3, x4⟩ := S3 a u x1 fun z => x2 (List.mem_append_right _ (s2 a z))
      exact ⟨x3, fun z => (List.mem_append.mp z).elim (fun z => x2 (List.mem_append_left _ z)) x4⟩
    have wlen : ∀ {Hx : Hp} {ρx : Fm} {Fx : List Addr}, EnvR K Hx ρx σ2 Fx → Fx.Nodup → ∃ F', EnvR K Hx (wipeF ρx vs) (wipe σ vs) F' ∧ F'.Nodup ∧ ∀ a, a ∈ F' → a ∈ Fx := fun {Hx ρx Fx} Ex Nx => by
      obtain ⟨F', q1, q2, q3⟩ := Ex.wiped Nx vs
      rw [wipe_same (by rw [w2.1, wipe_length]) w2.2 hw] at q1
      exact ⟨F', q1, q2, q3⟩
    cases kt with
    | true =>
      refine iteT ?_
      obtain ⟨⟨r, ρ3⟩, e6, efi⟩ := Option.bind_eq_some_iff.mp efi
      obtain ⟨⟨z, ρ4⟩, e7, efi⟩ := Option.bind_eq_some_iff.mp efi
      obtain ⟨⟨zs', ρ5⟩, e8, efi⟩ := Option.map_eq_some_iff.mp efi
      cases efi
      refine ⟨ρb, F3, r, ρ3, E3, N3, e6, fun y H4 g4 F4 r4 E4 N4 S4 => ?_⟩
      obtain ⟨p4, F5, r5, E5, N5, s5⟩ := r4.take E4 N4 e7
      have S4' : Step H3 F3 H4 (p4 ++ F5) := S4.to fun a ha => .inl (s5 a ha)
      have kp4 : Keep H3 (D :: g) H4 := S4'.keep E3.mut d3
      have mg3 : ∀ a ∈ D :: g, MutO (H3 a) := fun a ha => (List.mem_cons.mp ha).elim (fun z => by rw [z, acc3]; trivial) (RepL.mut _ _ _ rl3 a)
      have d4 : ∀ a ∈ D :: g, a ∉ p4 ++ F5 := S4'.apart mg3 d3
      have acc4 : H4 D = some (.lst acc) := kp4 D _ acc3 (.inr List.mem_cons_self)
      have rl4 : RepL K H4 ys acc g := RepL.keep _ _ _ rl3 (kp4.sub fun a ha => List.mem_cons_of_mem _ ha)
      have mu4 : MutO (H4 D) := by rw [acc4]; trivial
      have gd4 : Good H4 := so.keep _ _ gd3 (S4'.keep E3.mut (by simp))
      obtain ⟨F6, E6, N6, s6⟩ := wlen E5 (nodup3 N5).2.1
      obtain ⟨nDg, ng⟩ := List.nodup_cons.mp n1
      obtain ⟨m1, m2, m3⟩ := nodup3 N5
      have nd' : ((D :: (g ++ p4)) ++ F6).Nodup := by
        have q1 : (g ++ p4).Nodup := nodup_of ng m1 fun a ha hb => d4 a (List.mem_cons_of_mem _ ha) (List.mem_append_left _ hb)
        refine nodup_of (List.nodup_cons.mpr ⟨fun z => ?_, q1⟩) N6 fun a ha hb => ?_
        · rcases List.mem_append.mp z with z | z
          · exact nDg z
          · exact d4 D List.mem_cons_self (List.mem_append_left _ z)
        · rcases List.mem_cons.mp ha with rfl | ha
          · exact d4 _ List.mem_cons_self (List.mem_append_right _ (s6 _ hb))
          · rcases List.mem_append.mp ha with ha | ha
            · exact d4 a (List.mem_cons_of_mem _ ha) (List.mem_append_right _ (s6 _ hb))
            · exact m3 a ha (s6 a hb)
      have nDp : D ∉ g ++ p4 := (List.nodup_cons.mp (nodup3 nd').1).1
      have kpD : ∀ {l : List Addr}, D ∉ l → Keep H4 l (upd H4 D (.lst (acc ++ [y]))) := fun hl => keep_upd mu4 hl
      refine ⟨acc, acc4, ?_, hlt, wipeF ρ4 vs, F6, acc ++ [y], ys ++ [z], zs', g ++ p4, E6.keep (kpD fun q => (nodup3 nd').2.2 D List.mem_cons_self q), upd_same, RepL.keep _ _ _ (rl4.append (RepL.of_one r5)) (kpD nDp), nd', wipeF_idem _ _, e8, by rw [← es, List.append_assoc]; rfl, so.keep _ _ gd4 (kpD (by simp)), fun a u ea na => ?_⟩
      · have := rl4.length
        rw [this]
        rw [← es, List.length_append, List.length_cons] at cl
        omega
      · obtain ⟨x1, x2⟩ := step3 a u ea na
        obtain ⟨x3, x4⟩ := S4' a u x1 fun q => x2 (List.mem_append_right _ q)
        have hb : a ≠ D := fun q => x2 (by simp [q])
        refine ⟨by rw [upd_ne hb]; exact x3, fun q => ?_⟩
        simp only [List.mem_append, List.mem_cons] at q x2 x4
        rcases q with (q | q | q) | q
        · exact hb q
        · exact x2 (.inl (.inr q))
        · exact x4 (.inl q)
        · exact x4 (.inr (s6 a q))
    | false =>
      refine iteF ?_
      obtain ⟨F6, E6, N6, s6⟩ := wlen E3 N3
      refine ⟨hlt, wipeF ρb vs, F6, acc, ys, rest, g, E6, acc3, rl3, nodup_of n1 N6 fun a ha hb => d3 a ha (s6 a hb), wipeF_idem _ _, efi, es, gd3, step3.to fun a ha => .inl ?_⟩
      rcases List.mem_append.mp ha with q | q
      · exact List.mem_append_left _ q
      · exact List.mem_append_right _ (s6 a q)
  · have e3 : i = ds.length := by omega
    subst e3
    rw [List.drop_length] at efi
    cases efi
    rw [List.append_nil] at es
    subst es
    exact .inl ⟨so.stop Hi _ gi (Nat.le_refl _), k (.ref D) Hi (D :: g) Fi ⟨D, acc, g, rfl, hacc, rfl, rl⟩ (Ei.unwiped wi) ndi Si⟩
theorem de_lc (hc : X.calm = true) (hN : X.N.Nodup) (hi : DI X Y tg iter fi) (ok : BlkOk X.N X.env.scope scope own)
    (hg : ∀ (s : Shared) (H : Hp) (C : Addr) (cl : List (Str × Addr)) (fp : List Addr), DY (X.blk s H scope (compEnvC scope cl C X.env) fp) Y W tg fg)
    (ht : ∀ (s : Shared) (H : Hp) (C : Addr) (cl : List (Str × Addr)) (fp : List Addr), DTs (X.blk s H scope (compEnvC scope cl C X.env) fp) ifs ft)
    (he : ∀ (s : Shared) (H : Hp) (C : Addr) (cl : List (Str × Addr)) (fp : List Addr), DE (X.blk s H scope (compEnvC scope cl C X.env) fp) elt fe)
    (hw : ∀ j, j ∈ W → j ∈ own.map (·.2)) (hs : ∀ x, foldedSetIterable iter X.env x = pure x := by intro _; rfl) :
    DE X (.ListComp elt [⟨tg, iter, ifs, 0⟩] scope pos) (fLc (own.map (·.2)) fi fg ft fe) :=
  ⟨pe_weak (pe_lc hc hN hi.pi ok (fun s H C cl fp => (hg s H C cl fp).pg) (fun s H C cl fp => (ht s H C cl fp).pt) (fun s H C cl fp => (he s H C cl fp).pe) hs) fun σ H Q h => lc_of hw h⟩
/-- y = [..], y a local -/
theorem ds_setLc {i : Nat} {y : Str} {py spos : Pos} (hc : X.calm = true) (hN : X.N.Nodup) (hy : X.N[i]? = some y) (hyl : X.env.scope.names.lookup y = some .local)
    (hsw : swapsWith (.ListComp elt [⟨tg, iter, ifs, 0⟩] scope pos) (some (.Name y py)) spos.line X.env = pure true) (hi : DI X Y tg iter fi) (ok : BlkOk X.N X.env.scope scope own)
    (hg : ∀ (s : Shared) (H : Hp) (C : Addr) (cl : List (Str × Addr)) (fp : List Addr), DY (X.blk s H scope (compEnvC scope cl C X.env) fp) Y W tg fg)
    (ht : ∀ (s : Shared) (H : Hp) (C : Addr) (cl : List (Str × Addr)) (fp : List Addr), DTs (X.blk s H scope (compEnvC scope cl C X.env) fp) ifs ft)
    (he : ∀ (s : Shared) (H : Hp) (C : Addr) (cl : List (Str × Addr)) (fp : List Addr), DE (X.blk s H scope (compEnvC scope cl C X.env) fp) elt fe)
    (hw : ∀ j, j ∈ W → j ∈ own.map (·.2)) (hs : ∀ x, foldedSetIterable iter X.env x = pure x := by intro _; rfl) :
    DS X [i] (.Assign [.Name y py] (.ListComp elt [⟨tg, iter, ifs, 0⟩] scope pos) spos) (fAsg (fLc (own.map (·.2)) fi fg ft fe) (fgName i)) :=
  ⟨ps_weak (ps_setLc hc hN hy hyl hsw hi.pi ok (fun s H C cl fp => (hg s H C cl fp).pg) (fun s H C cl fp => (ht s H C cl fp).pt) (fun s H C cl fp => (he s H C cl fp).pe) hs) fun Dn σ H h => by
    obtain ⟨ρ, F, r, ρ', E, nd, ef, k⟩ := asg_of h
    refine lc_of (Y := Y) (W := W) hw ⟨ρ, F, r, ρ', E, nd, ef, fun v H' g F' r1 E1 N1 S1 => ?_⟩
    obtain ⟨ρ2, F2, d, p, ρ3, E2, r2, N2, e3, k2⟩ := k v H' g F' r1 E1 N1 S1
    obtain ⟨c, rfl⟩ := if_some e3
    obtain ⟨F3, E3, N3, s3⟩ := E2.store r2 N2 c
    exact k2 _ F3 E3 N3 s3 ⟨List.length_set .., fun j hj => by rw [List.getElem?_set_ne]; intro z; exact hj (by simp [z])⟩⟩
end
/-! ### slices -/
def rdO (K : PySem.W.Frag) (f : Fm → Option (Option Int × Fm)) : TO := fun σ H Q => ∃ ρ F o ρ', EnvR K H ρ σ F ∧ F.Nodup ∧ f ρ = some (o, ρ') ∧
  ∀ H' F', EnvR K H' ρ' σ F' → F'.Nodup → Step H F H' F' → Q o H'
structure DO (X : Cx) (e : Option Expr) (f : Fm → Option (Option Int × Fm)) : Prop where
  po : PO X e (rdO X.K f)
theorem po_weak {X : Cx} {e : Option Expr} {t t' : TO} (h : PO X e t) (w : ∀ σ H Q, t' σ H Q → t σ H Q) : PO X e t' := ⟨by
  intro pins s σ H Q I q
  exact h.run pins s σ H Q I (w _ _ _ q)⟩
def foNone : Fm → Option (Option Int × Fm) := fun ρ => some (none, ρ)
def foSome (f : FE) : Fm → Option (Option Int × Fm) := fun ρ => (f ρ).bind fun (r, ρ1) => (cont ρ1 r).bind fun d => match d with
  | .int i => some (some i, ρ1)
  | _ => none
theorem do_none {X : Cx} : DO X none foNone := ⟨po_weak po_none fun σ H Q ⟨ρ, F, o, ρ', E, nd, ef, k⟩ => by
  cases ef
  exact k H F E nd Step.refl⟩
theorem do_some {X : Cx} {e : Expr} {f : FE} (h : DE X e f) : DO X (some e) (foSome f) := ⟨po_weak (po_some h.pe) fun σ H Q ⟨ρ, F, o, ρ', E, nd, ef, k⟩ => by
  obtain ⟨⟨r, ρ1⟩, e1, ef⟩ := Option.bind_eq_some_iff.mp ef
  obtain ⟨d, e2, ef⟩ := Option.bind_eq_some_iff.mp ef
  cases d <;> try cases ef
  refine ⟨ρ, F, r, _, E, nd, e1, fun v H' g F' r1 E1 N1 S1 => ?_⟩
  obtain ⟨p, q, _⟩ := r1.cont E1 e2
  exact ⟨_, q.1, k H' F' E1 (nodup3 N1).2.1 (S1.to fun a ha => .inl (List.mem_append_right _ ha))⟩⟩
def cut {α : Type} (xs : List α) (lo hi : Option Int) : List α := (xs.drop (HT.sIx xs.length 0 lo)).take (HT.sIx xs.length xs.length hi - HT.sIx xs.length 0 lo)
def dCut (d : D) (lo hi : Option Int) : Option D := match d with
  | .tup ds => if immL ds = true then some (.tup (cut ds lo hi)) else none
  | .lst ds => if immL ds = true then some (.lst (cut ds lo hi)) else none
  | .flst ds => if immL ds = true then some (.lst (cut ds lo hi)) else none
  | _ => none
def fCut (fe : FE) (fl fh : Fm → Option (Option Int × Fm)) : FE := fun ρ => (fe ρ).bind fun (r, ρ1) => (fl ρ1).bind fun (lo, ρ2) => (fh ρ2).bind fun (hi, ρ3) => (cont ρ3 r).bind fun d => (dCut d lo hi).map fun z => (.val z, ρ3)
theorem RepL.cut {K : PySem.W.Frag} {H : Hp} {ds : List D} {vs : List V} {p : List Addr} (r : RepL K H ds vs p) (c : immL ds = true) (lo hi : Option Int) : RepL K H (DL.cut ds lo hi) (cutV vs lo hi) [] := by
  unfold DL.cut cutV
  rw [r.length]
  generalize HT.sIx ds.length 0 lo = a
  generalize HT.sIx ds.length ds.length hi - a = b
  have hl := r.length
  refine RepL.of_each (by simp [hl]) fun i d v e1 e2 => ?_
  rw [List.getElem?_take] at e1 e2
  split at e1
  · rw [if_pos (by assumption)] at e2
    rw [List.getElem?_drop] at e1 e2
    obtain ⟨d', e3, r3⟩ := r.each c _ v e2
    rw [e1] at e3
    cases e3
    exact r3
  · cases e1
theorem cut_whole {α : Type} {ds : List α} {lo hi : Option Int} (h : whole ds.length lo hi) : cut ds lo hi = ds := by
  unfold cut
  rw [h.1, h.2]
  simp
end DL
/-! repr, displays of dicts, list(range); defs and their calls; the end of a law. -/
namespace DL
open PySem PySem.Spec L2
/-! ### repr -/
def rRepr (K : PySem.W.Frag) : List V → Hp → VK → Prop := fun xs H Q => ∃ v d, xs = [v] ∧ Dp K H v d ∧ d.showable = true ∧ d.hasDict = false ∧ d.depth ≤ 32 ∧ d.shown.length ≤ sizeLine ∧ Q (.str d.shown) H
theorem cx_repr {X : Cx} (hg : X.A.guards = some []) (hu : X.A.units + 40 < cLine) : CallR X (.builtin "repr") (rRepr X.K) := by
  rintro pins s σ H _ _ Q I (_ | ⟨ru, _ | _⟩) ⟨v, d, ev, dp, sh, nd, hd, hz, q⟩ <;> cases ev
  cases dp with
  | non => cases ru; exact PySem.P.repr_of_none ⟨.str _, H, I.tok _, ⟨_, rfl⟩, q⟩
  | bl b => cases ru; exact PySem.P.repr_of_bool ⟨.str _, H, I.tok _, ⟨_, rfl⟩, q⟩
  | int i =>
    obtain ⟨t, rfl⟩ := ru
    exact PySem.P.repr_of_int (of_decide_eq_true sh) ⟨.str _, H, I.tok _, ⟨_, rfl⟩, q⟩
  | str x =>
    obtain ⟨t, rfl⟩ := ru
    exact PySem.P.repr_of_str ⟨.str _, H, I.tok _, ⟨_, rfl⟩, q⟩ hz
  | lst h1 h2 =>
    cases ru
    obtain ⟨as, rd⟩ := Dp.reads I _ _ _ (.lst h1 h2) rfl
    exact repr_of_reads' rd sh (fun z => by rw [nd] at z; cases z) hg (by omega) (fun _ _ e => e) (fun h' u tk kp => ⟨.str _, H, I.kept kp, ⟨_, rfl⟩, q⟩) hz
  | tup h1 h2 =>
    cases ru
    obtain ⟨as, rd⟩ := Dp.reads I _ _ _ (.tup h1 h2) rfl
    exact repr_of_reads' rd sh (fun z => by rw [nd] at z; cases z) hg (by omega) (fun _ _ e => e) (fun h' u tk kp => ⟨.str _, H, I.kept kp, ⟨_, rfl⟩, q⟩) hz
def reprOk (x : D) : Bool := noDic x && (toP x).showable && !(toP x).hasDict && decide ((toP x).depth ≤ 32) && decide ((toP x).shown.length ≤ sizeLine)
def dRepr : List D → Option D
  | [x] => if reprOk x = true then some (.str (toP x).shown) else none
  | _ => none
theorem cs_repr {K : PySem.W.Frag} : CallS K (rRepr K) dRepr := by
  intro H ds vs z Q a e k
  unfold dRepr at e
  split at e
  · obtain ⟨v, p, rfl, r⟩ := a.one
    obtain ⟨c, rfl⟩ := if_some e
    unfold reprOk at c
    simp only [Bool.and_eq_true, Bool.not_eq_true', decide_eq_true_eq] at c
    obtain ⟨⟨⟨⟨c1, c2⟩, c3⟩, c4⟩, c5⟩ := c
    exact ⟨v, _, rfl, Rep.dp _ _ _ r c1, c2, c3, c4, c5, k.flat ⟨rfl, rfl⟩⟩
  · cases e
/-! ### list(range(..)) -/
section
variable {X : Cx} {a b e : Expr} {fa fb : FE} {p p2 pos pos2 : Pos}
theorem rgV_rep {K : PySem.W.Frag} {H : Hp} (i j : Int) : RepL K H (iota i (j - i).toNat) (rgV i j) [] := by
  refine RepL.of_each (by simp [rgV, iota]) fun n d v e1 e2 => ?_
  rw [iota_get e1]
  unfold rgV at e2
  rw [List.getElem?_map] at e2
  cases h : (List.range (j - i).toNat)[n]? with
  | none => rw [h] at e2; cases e2
  | some m =>
    rw [h] at e2
    cases e2
    obtain ⟨_, rfl⟩ := List.getElem?_eq_some_iff.mp h
    exact ⟨by simp, rfl⟩
def fLstRg1 (fa : FE) : FE := fun ρ => (fa ρ).bind fun (r, ρ1) => (cont ρ1 r).bind fun d => match d with
  | .int j => if okR j = true ∧ j.toNat ≤ 2 ^ 24 then some (.val (.lst (iota 0 j.toNat)), ρ1) else none
  | _ => none
theorem de_lstRg1 (hc : X.calm = true) (hg : Gl X "list") (hm : X.mg "list" = none) (hg2 : Gl X "range") (hm2 : X.mg "range" = none) (ha : DE X a fa)
    (na : starEach [Expr.Call (.Name "range" p2) [a] [] pos2] X.env = (false, eval (Expr.Call (.Name "range" p2) [a] [] pos2) X.env) :: starEach [] X.env := by rfl)
    (nb : starEach [a] X.env = (false, eval a X.env) :: starEach [] X.env := by rfl) : DE X (.Call (.Name "list" p) [.Call (.Name "range" p2) [a] [] pos2] [] pos) (fLstRg1 fa) :=
  ⟨pe_weak (pe_listRg hc hg hm (prg_1 hg2 hm2 ha.pe nb) na) fun σ H Q ⟨ρ, F, r', ρ', E, nd, ef, k⟩ => by
    obtain ⟨⟨r, ρ1⟩, e1, ef⟩ := Option.bind_eq_some_iff.mp ef
    obtain ⟨d, e2, ef⟩ := Option.bind_eq_some_iff.mp ef
    cases d <;> try cases ef
    rename_i j
    obtain ⟨⟨c1, c2⟩, ef⟩ := if_some ef
    cases ef
    refine ⟨ρ, F, r, ρ', E, nd, e1, fun v H' g F' r1 E1 N1 S1 => ?_⟩
    obtain ⟨pp, q, _⟩ := r1.cont E1 e2
    obtain ⟨b1, b2⟩ := okR_of c1
    refine ⟨j, q.1, ⟨by decide, by decide, b1, b2, by simpa using c2⟩, fun t ht => ?_⟩
    have T : Tells X.K H' (.lst (iota 0 j.toNat)) Q := fun u H2 hh ru nh fr sm => k u H2 hh F' ru (E1.keep (Same.keep sm)) (nodup_fresh E1 (nodup3 N1).2.1 nh fr) (S1.fresh sm fr fun a ha => List.mem_append_right _ ha)
    have := rgV_rep (K := X.K) (H := H') 0 j
    rw [Int.sub_zero] at this
    exact T.list this ht⟩
end
/-! ### {k: v, ..} -/
theorem rdA_cons {K : PySem.W.Frag} {f : FE} {fr : FA} {σ : L2.St} {H : Hp} {Q : List V → Hp → Prop} (h : rdA K (fCons f fr) σ H Q) : rdE K f σ H fun v H1 => rdA K fr σ H1 fun ws H2 => Q (v :: ws) H2 := by
  obtain ⟨ρ, F, r, ρ2, E, nd, ef, k⟩ := h
  obtain ⟨⟨x, ρ1⟩, e1, e⟩ := Option.bind_eq_some_iff.mp ef
  obtain ⟨⟨rs, ρ3⟩, e2, e⟩ := Option.map_eq_some_iff.mp e
  cases e
  exact oneA E nd e1 e2 fun v ws H2 gx gy F2 r1 r2 E2 N2 S2 => k (v :: ws) H2 (gx ++ gy) F2 ⟨v, ws, gx, gy, rfl, rfl, r1, r2⟩ E2 (by rw [List.append_assoc]; exact N2) (by rw [List.append_assoc]; exact S2)
def flat2 : List (V × V) → List V
  | [] => []
  | (k, v) :: r => k :: v :: flat2 r
theorem rdE_mono {K : PySem.W.Frag} {f : FE} {σ : L2.St} {H : Hp} {Q Q' : VK} (h : ∀ v H, Q v H → Q' v H) (q : rdE K f σ H Q) : rdE K f σ H Q' := by
  obtain ⟨ρ, F, r, ρ', E, nd, ef, k⟩ := q
  exact ⟨ρ, F, r, ρ', E, nd, ef, fun v H' g F' a b c d => h _ _ (k v H' g F' a b c d)⟩
structure DPP (X : Cx) (pos : Pos) (keys : List (Option Expr)) (values : List Expr) (fr : FA) : Prop where
  ex : ∃ trs, PPs X pos keys values trs ∧ ∀ σ H (Q : List V → Hp → Prop) (P : List (V × V) → Hp → Prop), (∀ ps H2, Q (flat2 ps) H2 → P ps H2) → rdA X.K fr σ H Q → tPairs trs σ H P
theorem dpp_nil {X : Cx} {pos : Pos} : DPP X pos [] [] fNil := ⟨[], pps_nil, fun σ H Q P hP ⟨ρ, F, r, ρ2, E, nd, ef, k⟩ => by
  cases ef
  exact hP [] H (k [] H [] F ⟨rfl, rfl⟩ E nd Step.refl)⟩
theorem dpp_cons {X : Cx} {pos : Pos} {k v : Expr} {ks : List (Option Expr)} {vs : List Expr} {fk fv : FE} {fr : FA} (hk : DE X k fk) (hv : DE X v fv) (hr : DPP X pos ks vs fr) : DPP X pos (some k :: ks) (v :: vs) (fCons fk (fCons fv fr)) := by
  obtain ⟨trs, h1, h2⟩ := hr
  refine ⟨_, pps_cons hk.pe hv.pe h1, fun σ H Q P hP h => ?_⟩
  exact rdE_mono (fun x H1 q1 => rdE_mono (fun y H2 q2 => h2 σ H2 _ _ (fun ps H3 q3 => hP ((x, y) :: ps) H3 q3) q2) (rdA_cons q1)) (rdA_cons h)
def pairUp : List D → Option (List (Key × D))
  | [] => some []
  | k :: d :: r => (keyOf k).bind fun kk => (pairUp r).map fun kvs => (kk, d) :: kvs
  | _ => none
def fDic (fr : FA) : FE := fun ρ => (fr ρ).bind fun (rs, ρ1) => (takes ρ1 rs).bind fun (ds, ρ2) => (pairUp ds).bind fun kvs => if (kvs.map (·.1)).Nodup ∧ kvs.length ≤ 15 then some (.val (.dic kvs), ρ2) else none
theorem pairUp_rep {K : PySem.W.Frag} {H : Hp} : ∀ {ds : List D} {ps : List (V × V)} {p : List Addr} {kvs : List (Key × D)}, RepL K H ds (flat2 ps) p → pairUp ds = some kvs →
    ∃ ws : List (Key × V), ps = ws.map (fun kv => (kV kv.1, kv.2)) ∧ RepK K H kvs ws p ∧ ws.map (·.1) = kvs.map (·.1)
  | [], ps, p, kvs, r, e => by
    cases e
    obtain ⟨r1, rfl⟩ := r
    cases ps with
    | nil => exact ⟨[], rfl, ⟨rfl, rfl⟩, rfl⟩
    | cons x ps => cases r1
  | [_], ps, p, kvs, r, e => by cases e
  | k :: d :: ds, ps, p, kvs, r, e => by
    obtain ⟨kk, e1, e⟩ := Option.bind_eq_some_iff.mp e
    obtain ⟨kvs', e2, rfl⟩ := Option.map_eq_some_iff.mp e
    obtain ⟨v, vs', f1, f2, e3, rfl, r1, r2⟩ := r
    obtain ⟨w, vs2, f3, f4, rfl, rfl, r3, r4⟩ := r2
    cases ps with
    | nil => cases e3
    | cons x ps =>
      obtain ⟨x1, x2⟩ := x
      injection e3 with y1 y2
      injection y2 with y2 y3
      subst y1; subst y2; subst y3
      obtain ⟨ws, rfl, q1, q2⟩ := pairUp_rep r4 e2
      obtain rfl := keyOf_kV r1 e1
      have : f1 = [] := Rep.imm _ _ _ r1 (by revert e1; cases k <;> intro e1 <;> first | rfl | cases e1)
      subst this
      exact ⟨(kk, x2) :: ws, rfl, ⟨x2, ws, f3, f4, rfl, rfl, r3, q1⟩, by simp [q2]⟩
theorem mergeK_nodup : ∀ (ws acc : List (Key × V)), ((acc ++ ws).map (·.1)).Nodup → mergeK acc ws = acc ++ ws
  | [], acc, _ => by simp [mergeK]
  | (k, v) :: ws, acc, h => by
    have hn : valV acc k = none := by
      have hk : k ∉ acc.map (·.1) := fun z => by
        rw [List.map_append, List.nodup_append] at h
        exact h.2.2 k z k (by simp) rfl
      clear h
      induction acc with
      | nil => rfl
      | cons x acc ih =>
        simp only [List.map_cons, List.mem_cons, not_or] at hk
        rw [valV_neg (fun z => hk.1 z.symm)]
        exact ih hk.2
    show mergeK (putK acc k v) ws = _
    rw [putK_new _ hn, mergeK_nodup ws _ (by simpa using h)]
    simp
theorem de_dic {X : Cx} {pos : Pos} {keys : List (Option Expr)} {values : List Expr} {fr : FA} (h : DPP X pos keys values fr) (hall : keys.all (·.isSome) = true) (hl : keys.length = values.length) (h0 : keys ≠ []) (h15 : keys.length ≤ 15) : DE X (.Dict keys values pos) (fDic fr) := by
  obtain ⟨trs, h1, h2⟩ := h
  refine ⟨pe_weak (pe_disp h1 hall hl h0 h15) fun σ H Q ⟨ρ, F, r, ρ2, E, nd, ef, k⟩ p hp => ?_⟩
  obtain ⟨⟨rs, ρ1⟩, e1, e⟩ := Option.bind_eq_some_iff.mp ef
  obtain ⟨⟨ds, ρ3⟩, e2, e⟩ := Option.bind_eq_some_iff.mp e
  obtain ⟨kvs, e3, e⟩ := Option.bind_eq_some_iff.mp e
  obtain ⟨⟨cn, cl⟩, e⟩ := if_some e
  cases e
  have sm0 := upd_same_of (o := .dK []) hp
  have np : p ∉ F := fun z => by
    obtain ⟨u, eu⟩ := (E.mut p z).some_
    rw [hp] at eu
    cases eu
  refine h2 σ (upd H p (.dK [])) (fun vs H2 => ∀ ps, vs = flat2 ps → (H2 p = some (.dK []) ∧ ∃ ws : List (Key × V), ps = ws.map (fun kv => (kV kv.1, kv.2)) ∧ ws.length ≤ 15 ∧ Q (.ref p) (upd H2 p (.dK (mergeK [] ws))))) _ (fun ps H2 q => q ps rfl)
    ⟨ρ, F, rs, ρ1, E.keep (Same.keep sm0), nd, e1, fun vs H' g F' r1 E1 N1 S1 ps ev => ?_⟩
  · subst ev
    obtain ⟨p2, F2, r2, E2, N2, s2⟩ := r1.takes E1 N1 e2
    obtain ⟨ws, rfl, rk, kq⟩ := pairUp_rep r2 e3
    obtain ⟨hp2, np2⟩ := S1 p _ upd_same np
    have np3 : p ∉ p2 ++ F2 := fun z => np2 (s2 p z)
    have hl2 := rk.length
    have mu : MutO (H' p) := by rw [hp2]; trivial
    refine ⟨hp2, ws, rfl, by rw [hl2]; exact cl, ?_⟩
    rw [mergeK_nodup ws [] (by rw [List.nil_append, kq]; exact cn), List.nil_append]
    refine k _ _ (p :: p2) F2 ⟨p, ws, p2, rfl, upd_same, rfl, RepK.keep _ _ _ rk (keep_upd mu fun z => np3 (List.mem_append_left _ z))⟩ (E2.keep (keep_upd mu fun z => np3 (List.mem_append_right _ z))) (List.nodup_cons.mpr ⟨np3, N2⟩) fun b u eb nb => ?_
    have hb : b ≠ p := fun z => by rw [z, hp] at eb; cases eb
    obtain ⟨x1, x2⟩ := S1 b u (sm0 b u eb) nb
    refine ⟨by rw [upd_ne hb]; exact x1, fun z => ?_⟩
    rcases List.mem_cons.mp z with z | z
    · exact hb z
    · exact x2 (s2 b z)
end DL
/-! A def by its meaning; its call; the end of a law. -/
namespace DL
open PySem PySem.Spec L2
open PyProof.Rows (envOfC AllBare)
/-- data in, what is told out, and what the arguments are then (none: not known) -/
abbrev Den := List D → Option (D × Fm)
def spD (K : PySem.W.Frag) (den : Den) (vs : List V) (H : Hp) (Q : VK) : Prop := ∃ ds F r ρ', RepL K H ds vs F ∧ F.Nodup ∧ den ds = some (r, ρ') ∧
  ∀ v H' g F', Rep K H' r v g → EnvR K H' ρ' (vs.map some) F' → (g ++ F').Nodup → Step H F H' (g ++ F') → Q v H'
structure FnD (P : Program) (w : World) (K : PySem.W.Frag) (mg : Str → Option Value) (base : Heap) (k : Nat) (f : Addr) (fd : FuncData) (ps : List Str) (den : Den) : Prop where
  run : ∀ (A : Around) (outer : List PySem.Env) (s : Shared) (H : Hp) (args : PySem.Args) (us : List Value) (vs : List V) (Q : VK), A.guards = some [] → Room k A →
    Env0 P w K mg base A outer s H → BindsTo s fd args (ps.zip us) → Vals vs us → vs.length = ps.length → spD K den vs H Q →
    codeAny (model P w) A (.call (.ref f) args) (CR CX0 outer P w H s Q E0) s
theorem FnD.mono {P : Program} {w : World} {K : PySem.W.Frag} {mg : Str → Option Value} {base : Heap} {j k : Nat} {f : Addr} {fd : FuncData} {ps : List Str} {den : Den} (F : FnD P w K mg base j f fd ps den) (h : j ≤ k) : FnD P w K mg base k f fd ps den :=
  ⟨fun A outer s H args us vs Q hg hr => F.run A outer s H args us vs Q hg (hr.mono h)⟩
/-- the parameters at the end: such as were not stored -/
def params (W : List Nat) (n : Nat) (ρ : Fm) : Fm := (List.range n).map fun i => if i ∈ W then none else slot ρ i
def denOf (N n : Nat) (W : List Nat) (fb : FS) : Den := fun ds => (fb (ds.map some ++ List.replicate (N - ds.length) none)).bind fun (o, ρ) => match o with
  | .ret d => some (d, params W n ρ)
  | .nx => some (.non, params W n ρ)
  | _ => none
section
variable {K : PySem.W.Frag} {H : Hp}
theorem EnvR.of_vals : ∀ {ds : List D} {vs : List V} {F : List Addr} (n : Nat), RepL K H ds vs F → EnvR K H (ds.map some ++ List.replicate n none) (vs.map some ++ List.replicate n none) F
  | [], vs, F, n, r => by
    obtain ⟨rfl, rfl⟩ := r
    induction n with
    | zero => exact ⟨rfl, rfl⟩
    | succ n ih => exact ⟨none, _, rfl, ih⟩
  | d :: ds, vs, F, n, r => by
    obtain ⟨v, vs', f1, f2, rfl, rfl, r1, r2⟩ := r
    exact ⟨v, _, f1, f2, rfl, rfl, r1, EnvR.of_vals n r2⟩
/-- the first slots alone -/
theorem EnvR.first {σ : L2.St} {ρ : Fm} {F : List Addr} {vs : List V} {W : List Nat} (E : EnvR K H ρ σ F) (nd : F.Nodup) (hv : ∀ i, i ∉ W → i < vs.length → σ[i]? = some (vs[i]?)) :
    ∃ F', EnvR K H (params W vs.length ρ) (vs.map some) F' ∧ F'.Nodup ∧ ∀ a, a ∈ F' → a ∈ F := by
  -- slot by slot
  have gen : ∀ (n : Nat), n ≤ vs.length → ∀ (τ : Fm) (G : List Addr), EnvR K H τ σ G → G.Nodup → (∀ i d, slot τ i = some d → slot ρ i = some d) → (∀ i, n ≤ i → i ∉ W → slot τ i = slot ρ i) →
      ∃ F', EnvR K H ((List.range (vs.length - n)).map fun i => if (i + n) ∈ W then none else slot ρ (i + n)) ((vs.drop n).map some) F' ∧ F'.Nodup ∧ ∀ a, a ∈ F' → a ∈ G := by
    intro n hn
    generalize hm : vs.length - n = m
    induction m generalizing n with
    | zero =>
      intro τ G Eτ nG _ _
      have : vs.drop n = [] := List.drop_eq_nil_of_le (by omega)
      rw [this]
      exact ⟨[], ⟨rfl, rfl⟩, List.nodup_nil, fun a ha => by cases ha⟩
    | succ m ih =>
      intro τ G Eτ nG h1 h2
      have hlt : n < vs.length := by omega
      have hd : vs.drop n = vs[n] :: vs.drop (n + 1) := List.drop_eq_getElem_cons hlt
      rw [hd, List.range_succ_eq_map, List.map_cons, List.map_map, List.map_cons]
      have fe : ((fun i => if (i + n) ∈ W then none else slot ρ (i + n)) ∘ Nat.succ) = fun i => if (i + (n + 1)) ∈ W then none else slot ρ (i + (n + 1)) := by
        funext i
        have : Nat.succ i + n = i + (n + 1) := by omega
        simp only [Function.comp, this]
      rw [fe]
      by_cases hW : (0 + n) ∈ W ∨ slot ρ (0 + n) = none
      · have e0 : (if (0 + n) ∈ W then none else slot ρ (0 + n)) = none := by
          rcases hW with h | h
          · rw [if_pos h]
          · rw [h]; split <;> rfl
        rw [e0]
        obtain ⟨F', q1, q2, q3⟩ := ih (n + 1) (by omega) (by omega) τ G Eτ nG h1 fun i hi => h2 i (by omega)
        exact ⟨F', ⟨_, _, rfl, q1⟩, q2, q3⟩
      · rw [not_or] at hW
        rw [Nat.zero_add] at hW ⊢
        obtain ⟨d, ed⟩ := Option.ne_none_iff_exists'.mp hW.2
        rw [if_neg hW.1, ed]
        have et : slot τ n = some d := by rw [h2 n (Nat.le_refl _) hW.1, ed]
        obtain ⟨v, G1, f, G3, e1, rfl, r1, E1⟩ := Eτ.at (slot_some et)
        have ev := hv n hW.1 hlt
        rw [e1] at ev
        have ev' : v = vs[n] := by
          have := Option.some.inj ev
          rw [List.getElem?_eq_getElem hlt] at this
          exact Option.some.inj this
        subst ev'
        have nd' := nodup_mid nG
        obtain ⟨m1, m2, m3⟩ := nodup3 nd'
        obtain ⟨F', q1, q2, q3⟩ := ih (n + 1) (by omega) (by omega) (τ.set n none) (G1 ++ G3) E1 m2 (fun i d' e => h1 i d' (by
          have e' := slot_some e
          rw [List.getElem?_set] at e'
          unfold slot
          split at e'
          · split at e' <;> cases e'
          · rw [e'])) fun i hi hw => by
            rw [← h2 i (by omega) hw]
            unfold slot
            rw [List.getElem?_set_ne (by omega)]
        refine ⟨f ++ F', ⟨vs[n], _, f, F', rfl, rfl, r1, q1⟩, nodup_of m1 q2 fun a ha hb => m3 a ha (q3 a hb), fun a ha => ?_⟩
        rcases List.mem_append.mp ha with z | z
        · simp [z]
        · have := q3 a z
          simp at this ⊢
          rcases this with y | y <;> simp [y]
  obtain ⟨F', q1, q2, q3⟩ := gen 0 (Nat.zero_le _) ρ F E nd (fun _ _ e => e) fun _ _ _ => rfl
  exact ⟨F', by simpa [params] using q1, q2, q3⟩
end
/-! ### a def of the text by its body
Three facts, then the rule: what the base holds is there at the call; a body's end is the call's end; the body alone, from its parameters on. -/
section
variable {P : Program} {w : World} {K : PySem.W.Frag} {mg : Str → Option Value} {base : Heap} {A : Around} {outer : List PySem.Env} {s : Shared} {H : Hp}
theorem at_call (e : Env0 P w K mg base A outer s H) : K.In s.heap ∧ s.heap.NoLimit :=
  have up : ∀ c u, base.get? c = some u → s.heap.get? c = some u := fun c u q => And.left (e.bs c u q)
  ⟨e.mod.kin.keeps up, e.mod.nolimit.keeps up⟩
/-- the context of a def's body at a call -/
abbrev ctx (P : Program) (w : World) (K : PySem.W.Frag) (mg : Str → Option Value) (base : Heap) (N : List Str) (qual : Str) (sc : Scope) (f : Addr) (cdv : Value) (A : Around) (outer : List PySem.Env) (s : Shared) (H : Hp) : Cx := cxOf CX0 P w K mg base N qual sc f cdv A outer s H E0
theorem body_left {N : List Str} {qual : Str} {sc : Scope} {f : Addr} {cdv : Value} {Q : VK} : ∀ (o : Flow) (t : Shared), SP (ctx P w K mg base N qual sc f cdv A outer s H) [] { nx := fun _ G => Q .non G, rt := Q } o t →
    match o with
    | .next => CE outer P w H s Q .none t
    | .ret u => CE outer P w H s Q u t
    | _ => False
  | .next, t, ⟨_, G, J, q⟩ => ⟨V.non, G, J.os, J.bare, J.base, J.hok, rfl, q⟩
  | .ret _, t, ⟨x, _, G, J, rx, q⟩ => ⟨x, G, J.os, J.bare, J.base, J.hok, rx, q⟩
  | .brk, _, ⟨_, _, _, no⟩ => no
  | .cont, _, ⟨_, _, _, no⟩ => no
/-- slots that the body stores nothing into hold the arguments at the end -/
theorem args_stay {N : List Str} {vs : List V} {W : List Nat} {τ : L2.St} (h : ∀ j, j ∉ W → τ[j]? = (L2.start N vs)[j]?) (i : Nat) (hi : i ∉ W) (hlt : i < vs.length) : τ[i]? = some (vs[i]?) := by
  have e : (L2.start N vs)[i]? = some (vs[i]?) := by
    simp [L2.start, List.getElem?_append_left, hlt]
  exact (h i hi).trans e
/-- the body alone: what the meaning tells comes about -/
theorem body_does {X : Cx} {body : List Stmt} {fb : FS} {W : List Nat} {N : List Str} {n : Nat} {vs : List V} {Q : VK} {t : Shared} (hb : PSs X body (rdS X.K W fb)) (I : Inv X [] (L2.start N vs) H t) (hl : vs.length = n) (sp : spD X.K (denOf N.length n W fb) vs H Q) :
    wpAny (model X.prog X.w) X.A (execs body X.env) (SP X [] { nx := fun _ G => Q .non G, rt := Q }) X.xe t := by
  subst hl
  obtain ⟨ds, G, r, out, rl, nd, told, k⟩ := sp
  obtain ⟨⟨o, ρ1⟩, run, end1⟩ := Option.bind_eq_some_iff.mp told
  have E : EnvR X.K H (ds.map some ++ List.replicate (N.length - ds.length) none) (L2.start N vs) G := by
    have := EnvR.of_vals (N.length - ds.length) rl
    rwa [← rl.length] at this ⊢
  refine hb.run [] t _ H _ I ⟨_, G, o, ρ1, E, nd, run, ?_⟩
  match o, end1 with
  | .nx, rfl =>
    intro τ H' F' E' N' S' still
    obtain ⟨F2, q1, q2, q3⟩ := E'.first N' (args_stay still)
    exact k .non H' [] F2 ⟨rfl, rfl⟩ q1 q2 (S'.to fun a ha => .inl (q3 a ha))
  | .ret d, rfl =>
    intro v τ H' g F' rv E' N' S' still
    have ⟨n1, n2, n3⟩ := nodup3 N'
    obtain ⟨F2, q1, q2, q3⟩ := E'.first n2 (args_stay still)
    refine k v H' g F2 rv q1 (nodup_of n1 q2 fun a ha hb => n3 a ha (q3 a hb)) (S'.to fun a ha => .inl ?_)
    simp only [List.mem_append] at ha ⊢
    exact ha.imp id (q3 a)
end
theorem fnD_of {P : Program} {w : World} {K : PySem.W.Frag} {mg : Str → Option Value} {base : Heap} {k : Nat} {f : Addr} {fd : FuncData} {x qual : Str} {st : Stmt} {N ps : List Str} {W : List Nat} {fb : FS} (F : Fun K x qual st f fd) (S : FnScope N ps (defScope st))
    (hbody : ∀ (cdv : Value) (A : Around) (outer : List PySem.Env) (s : Shared) (H : Hp), A.guards = some [] → Room k (A.deeper (envOfC qual (defScope st) s.heap.objs.size f cdv)) →
      DSs (ctx P w K mg base N qual (defScope st) f cdv A outer s H).nox W (defBody st) fb) : FnD P w K mg base (k + 1) f fd ps (denOf N.length ps.length W fb) := by
  obtain ⟨_, _, _, _, _, _, cd, _, _, rfl, here, code⟩ := F.ex
  constructor
  intro A outer s H args us vs Q guards room e binds rel len sp
  obtain ⟨inK, free⟩ := at_call e
  have names (y : Str × Value) (hy : y ∈ ps.zip us) := (S.par y.1 (List.of_mem_zip (b := y.2) hy).1).imp_right fun c => And.intro c (PySem.W.cellsFrom_some (defScope st).names (s.heap.objs.size + 1) [] (Or.inl c))
  apply codeAny_call_function room.depth (inK _ _ here) rfl S.co S.gen rfl (PySem.W.codeRec_of inK code)
  apply binds
  apply wpAny_newFunctionEnv_cells S.kind names
  rintro _ rfl t call
  have I := inv_start (CX := CX0) (w := w) (E := E0) S room.hd e len rel call
  refine ⟨free.keeps call.toInCall.keep, codeAny_func (wpAny_mono (body_does (hbody cd A outer s H guards (room.deeper _)).pss.nox I len sp) (fun o t' h => ?_) fun _ _ h => h)⟩
  have := body_left o t' h
  cases o <;> first | exact this | exact False.elim this
/-! ### calls -/
/-- what the slots hold again, behind the call -/
def giveBack : List R → List D → Fm → Fm → Fm
  | .var i :: rs, d :: ds, o :: os, ρ => giveBack rs ds os (if imm d then ρ else ρ.set i o)
  | .val _ :: rs, _ :: ds, _ :: os, ρ => giveBack rs ds os ρ
  | _, _, _, ρ => ρ
def fCallD (den : Den) (fr : FA) : FE := fun ρ => (fr ρ).bind fun (rs, ρ1) => (takes ρ1 rs).bind fun (ds, ρ2) => (den ds).map fun (r, ρp) => (.val r, giveBack rs ds ρp ρ2)
section
variable {K : PySem.W.Frag} {H : Hp} {σ : L2.St}
theorem give : ∀ {rs : List R} {vs : List V} {g : List Addr} {ds : List D} {os ρ : Fm} {F Fp : List Addr} {H0 : Hp}, RepRs K H0 σ rs vs g → EnvR K H os (vs.map some) Fp → EnvR K H ρ σ F → (Fp ++ F).Nodup →
    ∃ F', EnvR K H (giveBack rs ds os ρ) σ F' ∧ F'.Nodup ∧ ∀ a, a ∈ F' → a ∈ Fp ++ F
  | [], vs, g, ds, os, ρ, F, Fp, H0, r, Eo, E, nd => ⟨F, by unfold giveBack; exact E, (nodup3 nd).2.1, fun a ha => List.mem_append_right _ ha⟩
  | x :: rs, vs, g, [], os, ρ, F, Fp, H0, r, Eo, E, nd => ⟨F, by cases x <;> (unfold giveBack; exact E), (nodup3 nd).2.1, fun a ha => List.mem_append_right _ ha⟩
  | x :: rs, vs, g, d :: ds, [], ρ, F, Fp, H0, r, Eo, E, nd => ⟨F, by cases x <;> (unfold giveBack; exact E), (nodup3 nd).2.1, fun a ha => List.mem_append_right _ ha⟩
  | .val d0 :: rs, vs, g, d :: ds, o :: os, ρ, F, Fp, H0, r, Eo, E, nd => by
    obtain ⟨v, vs', g1, g2, rfl, rfl, r1, r2⟩ := r
    have Eo' : ∃ G, EnvR K H os (vs'.map some) G ∧ G.Nodup ∧ ∀ a ∈ G, a ∈ Fp := by
      obtain ⟨n1, n2, n3⟩ := nodup3 nd
      cases o with
      | none => obtain ⟨o', τ, e, h⟩ := Eo; injection e with _ e; subst e; exact ⟨Fp, h, n1, fun a ha => ha⟩
      | some d' => obtain ⟨w, τ, f, f', e, rfl, _, h⟩ := Eo; injection e with _ e; subst e; exact ⟨f', h, (nodup3 n1).2.1, fun a ha => List.mem_append_right _ ha⟩
    obtain ⟨G, EG, nG, sG⟩ := Eo'
    obtain ⟨n1, n2, n3⟩ := nodup3 nd
    obtain ⟨F', q1, q2, q3⟩ := give (ds := ds) r2 EG E (nodup_of nG n2 fun a ha => n3 a (sG a ha))
    exact ⟨F', by unfold giveBack; exact q1, q2, fun a ha => by
      rcases List.mem_append.mp (q3 a ha) with z | z
      · exact List.mem_append_left _ (sG a z)
      · exact List.mem_append_right _ z⟩
  | .var i :: rs, vs, g, d :: ds, o :: os, ρ, F, Fp, H0, r, Eo, E, nd => by
    obtain ⟨v, vs', g1, g2, rfl, rfl, r1, r2⟩ := r
    obtain ⟨n1, n2, n3⟩ := nodup3 nd
    obtain ⟨hv, _⟩ := r1
    -- the rest of the arguments, and this one
    have key : ∀ (ρ' : Fm) (Fn G : List Addr), EnvR K H os (vs'.map some) G → EnvR K H ρ' σ Fn → (G ++ Fn).Nodup → (∀ a, a ∈ G ++ Fn → a ∈ Fp ++ F) → (if imm d then ρ else ρ.set i o) = ρ' →
        ∃ F', EnvR K H (giveBack (.var i :: rs) (d :: ds) (o :: os) ρ) σ F' ∧ F'.Nodup ∧ ∀ a, a ∈ F' → a ∈ Fp ++ F := fun ρ' Fn G EG En nn sub eq => by
      obtain ⟨F', q1, q2, q3⟩ := give (ds := ds) r2 EG En nn
      exact ⟨F', by unfold giveBack; rw [eq]; exact q1, q2, fun a ha => sub a (q3 a ha)⟩
    by_cases hi : imm d = true
    · cases o with
      | none =>
        obtain ⟨o', τ, e, h⟩ := Eo; injection e with _ e; subst e
        exact key ρ F Fp h E nd (fun a ha => ha) (by rw [if_pos hi])
      | some d' =>
        obtain ⟨w, τ, f, f', e, rfl, _, h⟩ := Eo; injection e with _ e; subst e
        exact key ρ F f' h E (nodup_of (nodup3 n1).2.1 n2 fun a ha => n3 a (List.mem_append_right _ ha)) (fun a ha => by simp at ha ⊢; rcases ha with z | z <;> simp [z]) (by rw [if_pos hi])
    · cases o with
      | none =>
        obtain ⟨o', τ, e, h⟩ := Eo; injection e with _ e; subst e
        obtain ⟨A, f, B, rfl, E1⟩ := E.drop (i := i)
        refine key _ (A ++ B) Fp h E1 (nodup_of n1 (nodup3 (nodup_mid n2)).2.1 fun a ha hb => n3 a ha ?_) (fun a ha => ?_) (by rw [if_neg hi])
        · simp at hb ⊢; rcases hb with z | z <;> simp [z]
        · simp at ha ⊢; rcases ha with z | z | z <;> simp [z]
      | some d' =>
        obtain ⟨w, τ, f, f', e, rfl, rw', h⟩ := Eo
        injection e with e0 e
        subst e
        cases e0
        obtain ⟨m1, m2, m3⟩ := nodup3 n1
        by_cases hlt : i < ρ.length
        · obtain ⟨A, fo, B, rfl, E1⟩ := E.drop (i := i)
          have nAB : (A ++ B).Nodup := (nodup3 (nodup_mid n2)).2.1
          obtain ⟨A', B', eab, E2⟩ := E1.put hlt hv rw'
          have nn : (f ++ (A' ++ B')).Nodup := nodup_of m1 (by rw [← eab]; exact nAB) fun a ha hb => n3 a (List.mem_append_left _ ha) (by rw [← eab] at hb; simp at hb ⊢; rcases hb with z | z <;> simp [z])
          refine key _ (A' ++ (f ++ B')) f' h E2 (nodup_of m2 (nodup_mid nn) fun a ha hb => ?_) (fun a ha => ?_) (by rw [if_neg hi])
          · simp only [List.mem_append] at hb
            rcases hb with z | z | z
            · have : a ∈ A ++ B := by rw [eab]; simp [z]
              exact n3 a (List.mem_append_right _ ha) (by simp at this ⊢; rcases this with y | y <;> simp [y])
            · exact m3 a z ha
            · have : a ∈ A ++ B := by rw [eab]; simp [z]
              exact n3 a (List.mem_append_right _ ha) (by simp at this ⊢; rcases this with y | y <;> simp [y])
          · simp only [List.mem_append] at ha ⊢
            rcases ha with z | z | z | z
            · simp [z]
            · have : a ∈ A ++ B := by rw [eab]; simp [z]
              simp at this; rcases this with y | y <;> simp [y]
            · simp [z]
            · have : a ∈ A ++ B := by rw [eab]; simp [z]
              simp at this; rcases this with y | y <;> simp [y]
        · have : ρ.set i (some d') = ρ := List.set_eq_of_length_le (by omega)
          exact key ρ F f' h E (nodup_of m2 n2 fun a ha => n3 a (List.mem_append_right _ ha)) (fun a ha => by simp at ha ⊢; rcases ha with z | z <;> simp [z]) (by rw [if_neg hi, this])
end
section
variable {X : Cx} {x : Str} {p pos : Pos} {e : Expr} {es : List Expr} {fr : FA} {k : Nat} {f : Addr} {fd : FuncData} {ps : List Str} {den : Den}
theorem run_fnD {pins : List (Addr × Obj)} {σ : L2.St} {H : Hp} {s : Shared} {Q : VK} {us : List Value} {vs : List V} (F : FnD X.prog X.w X.K X.mg X.base k f fd ps den) (hgd : X.A.guards = some []) (hr : Room k X.A) (hb : Binds X.K fd ps [])
    (I : Inv X pins σ H s) (r : Vals vs us) (hl : vs.length = ps.length) (h : spD X.K den vs H Q) : wpAny (model X.prog X.w) X.A (call (.ref f) us) (EP X pins σ Q) X.xe s := by
  have hb' := hb s us I.kIn (by rw [List.append_nil, ← r.length]; exact hl)
  rw [List.append_nil] at hb'
  refine wpAny_call (codeAny_mono (F.run X.A X.stack s H ⟨us, []⟩ us vs Q hgd hr I.env0 hb' r hl h) fun rr s' hq => ?_)
  match rr, hq with
  | .ok (.ret u), hq => exact I.after hq
  | .ok .next, hq => exact False.elim hq
  | .ok .brk, hq => exact False.elim hq
  | .ok .cont, hq => exact False.elim hq
  | .error ee, hq => exact False.elim hq
theorem call_core {σ : L2.St} {H : Hp} {Q : VK} {n : Nat} (hn : ∀ (ρ ρ1 : Fm) (rs : List R), fr ρ = some (rs, ρ1) → rs.length = n) (h : rdE X.K (fCallD den fr) σ H Q) : rdA X.K fr σ H fun vs H1 => vs.length = n ∧ spD X.K den vs H1 Q := by
  obtain ⟨ρ, F, r, ρ', E, nd, ef, k⟩ := h
  obtain ⟨⟨rs, ρ1⟩, e1, ef⟩ := Option.bind_eq_some_iff.mp ef
  obtain ⟨⟨ds, ρ2⟩, e2, ef⟩ := Option.bind_eq_some_iff.mp ef
  obtain ⟨⟨rr, ρp⟩, e3, ef⟩ := Option.map_eq_some_iff.mp ef
  cases ef
  refine ⟨ρ, F, rs, ρ1, E, nd, e1, fun vs H1 g F1 r1 E1 N1 S1 => ?_⟩
  obtain ⟨p2, F2, r2, E2, N2, s2⟩ := r1.takes E1 N1 e2
  have hl : ∀ {rs : List R} {vs : List V} {g : List Addr}, RepRs X.K H1 σ rs vs g → vs.length = rs.length := by
    intro rs
    induction rs with
    | nil => intro vs g h; rw [h.1]; rfl
    | cons x rs ih => intro vs g h; obtain ⟨v, vs', _, _, rfl, _, _, h⟩ := h; simp [ih h]
  refine ⟨by rw [hl r1, hn _ _ _ e1], ds, p2, rr, ρp, r2, (nodup3 N2).1, e3, fun v H' g' F' rv Ep np Sp => ?_⟩
  obtain ⟨n1, n2, n3⟩ := nodup3 N2
  have n3' : ∀ a ∈ F2, a ∉ p2 := fun a ha hb => n3 a hb ha
  have E2' := E2.keep (Sp.keep r2.mut n3')
  have ap : ∀ a ∈ F2, a ∉ g' ++ F' := Sp.apart E2.mut n3'
  obtain ⟨m1, m2, m3⟩ := nodup3 np
  obtain ⟨F3, E3, N3, s3⟩ := give (ds := ds) r1 Ep E2' (nodup_of m2 n2 fun a ha hb => ap a hb (List.mem_append_right _ ha))
  refine k v H' g' F3 rv E3 (nodup_of m1 N3 fun a ha hb => ?_) fun a u ea na => ?_
  · rcases List.mem_append.mp (s3 a hb) with z | z
    · exact m3 a ha z
    · exact ap a z (List.mem_append_left _ ha)
  · obtain ⟨x1, x2⟩ := S1 a u ea na
    have x3 : a ∉ p2 ++ F2 := fun z => x2 (s2 a z)
    obtain ⟨x4, x5⟩ := Sp a u x1 fun z => x3 (List.mem_append_left _ z)
    refine ⟨x4, fun z => ?_⟩
    rcases List.mem_append.mp z with z | z
    · exact x5 (List.mem_append_left _ z)
    · rcases List.mem_append.mp (s3 a z) with y | y
      · exact x5 (List.mem_append_right _ y)
      · exact x3 (List.mem_append_right _ y)
theorem fNil_len : ∀ (ρ ρ1 : Fm) (rs : List R), fNil ρ = some (rs, ρ1) → rs.length = 0 := fun ρ ρ1 rs h => by cases h; rfl
theorem fCons_len {f : FE} {fr : FA} {n : Nat} (h : ∀ (ρ ρ1 : Fm) (rs : List R), fr ρ = some (rs, ρ1) → rs.length = n) : ∀ (ρ ρ1 : Fm) (rs : List R), fCons f fr ρ = some (rs, ρ1) → rs.length = n + 1 := fun ρ ρ1 rs e => by
  obtain ⟨⟨x, ρ2⟩, e1, e⟩ := Option.bind_eq_some_iff.mp e
  obtain ⟨⟨rs', ρ3⟩, e2, e⟩ := Option.map_eq_some_iff.mp e
  cases e
  rw [List.length_cons, h _ _ _ e2]
theorem de_call (F : FnD X.prog X.w X.K X.mg X.base k f fd ps den) (hgd : X.A.guards = some []) (hr : Room k X.A) (hg : Gl X x) (hm : X.mg x = some (.ref f)) (hk : PySem.W.keepIn X.K (.ref f) = true) (hb : Binds X.K fd ps [])
    (hn : ∀ (ρ ρ1 : Fm) (rs : List R), fr ρ = some (rs, ρ1) → rs.length = ps.length) (ha : DA X (e :: es) fr) (hdb : (x == ("__debug__" : Str)) = false := by decide)
    (he : starEach (e :: es) X.env = (false, eval e X.env) :: starEach es X.env := by rfl) (hpl : (backTo pos (starEach es X.env)).any (·.1) = false := by rfl) : DE X (.Call (.Name x p) (e :: es) [] pos) (fCallD den fr) := by
  refine ⟨⟨fun pins s σ H Q I h => wpAny_Call_Name_kw (ld_glob I hg hm ?_ hdb)⟩⟩
  refine PySem.W.callWith_K (h₀ := X.base) I.ok.mod.kin hk (thn (ha.pa.run pos pins s σ H _ I (call_core hn h)) fun us s1 hh => ?_) he hpl
  obtain ⟨vs, H1, I1, r, hl, q⟩ := hh
  exact ⟨I1.kIn, run_fnD F hgd hr hb I1 r hl q⟩
end
/-! ### the end of a law -/
/-- what the end wants of a law: its bound, its def as a meaning, and that the meaning says True -/
structure Kept (l : PySem.W.OpenLaw) (n k : Nat) (d : DefRec) (K : Params → PySem.W.Frag) (x : Str) (den : Den) : Prop where
  most : l.most = some n
  small : n ≤ sizeLine
  plain : d.params.defaults = []
  room : Room k callerA
  made : ∀ w mg fa h, (K (World.params w)).In h → Heap.Ns h mainGlobals mg → mg d.name = some (.ref fa) →
    ∃ fd, (∀ t u, BindsTo t fd ⟨[u], []⟩ [(x, u)]) ∧ ∀ base, (K w.params).In base → base.Ns mainGlobals mg → FnD l.prog w (K w.params) mg base k fa fd [x] den
  says : ∀ ns : List Int, ns.length ≤ n → ∃ ρ', den [.flst (ns.map .int)] = some (.bl true, ρ')
/-- the law's promise at the heap behind the top -/
theorem law_end {l : PySem.W.OpenLaw} {n k : Nat} {q : Program} {loose : List Str} {XP : (Str → Option Value) → Heap → Prop} {YP : World → Heap → Prop} {d : DefRec} {K : Params → PySem.W.Frag} {x : Str} {den : Den}
    (L : Kept l n k d K x den) (there : ∀ w h, YP w h → (K (World.params w)).In h) : PySem.W.WalkO q loose XP YP l.row.toRowW d [] (fun f vs => PySem.call f vs) := by
  have hn2 := L.small
  have hr := L.room
  have hlaw := L.says
  apply Att.attach_call L.most L.plain
  intro w _ s₁ mg mb fa _ _ _ _ a vs ns G Y _ _ _ hmg hobj hints hlen hg
  have KX := there w _ Y
  have ⟨fd, hb, hF⟩ := L.made w mg fa _ KX G.T.g hmg
  have rv := vals_ints hints
  have core : ∀ H : Hp, Only H → SqF (K w.params) H a (ns.map V.int) → HOk l.prog w H s₁.heap → (∀ b, H b ≠ none → b = a) → (H a ≠ none → (K w.params).lookup a = none) →
      codeAny (model l.prog w) callerA (.call (.ref fa) ⟨[.ref a], []⟩) (fun r s' => r = .ok (.ret (.bool true)) ∧ OldK s₁.heap s'.heap ∧ s'.os = s₁.os ∧ AllBare s'.gens) s₁ := by
    intro H hO hS hok hA hK
    have base_of : ∀ {b : Addr} {ob : Obj}, s₁.heap.get? b = some ob → H b = none → (hidT s₁.heap H).get? b = some ob := fun e z => hidT_get e z
    have noA : ∀ {b : Addr} {ob : Obj} {es : Array DictEntry} {ep : Nat}, s₁.heap.get? b = some ob → ob.data = .dict es ep → H b = none := fun {b ob es ep} e dd => by
      by_cases z : H b = none
      · exact z
      · rw [hA b z, hobj] at e
        cases e
        have dd' : Data.seq vs.toArray _ = Data.dict es ep := dd
        cases dd'
    have nsK : ∀ {b : Addr} {m : Str → Option Value}, s₁.heap.Ns b m → (hidT s₁.heap H).Ns b m := fun ⟨ob, es, ep, e, dd, r⟩ => ⟨ob, es, ep, base_of e (noA e dd), dd, r⟩
    have hKb : (K w.params).In (hidT s₁.heap H) := fun b ob e => base_of (KX b ob e) (by
      by_cases z : H b = none
      · exact z
      · have eb := hA b z
        rw [eb] at z e
        rw [hK z] at e
        cases e)
    have hM : Mod (K w.params) mg (hidT s₁.heap H) := ⟨hKb, nsK G.T.g, ⟨mb, nsK G.T.b, G.T.builtins⟩, let ⟨mc, h1, h2⟩ := G.T.nolimit; ⟨mc, nsK h1, h2⟩⟩
    have e0 : Env0 l.prog w (K w.params) mg (hidT s₁.heap H) callerA [] s₁ H :=
      ⟨rfl, hM, fun b ob e => of_hidT e, Nat.le_of_eq (hidT_size _ _), trivial, fun b hb => absurd (show b ∈ ([] : List Addr) from hb) (by simp), hok, .of_eq hg⟩
    obtain ⟨ρ', hl⟩ := hlaw ns hlen
    have rl : ∀ ms : List Int, RepL (K w.params) H (ms.map D.int) (ms.map V.int) [] := fun ms => RepL.of_each (by simp) fun i dd v e1 e2 => by
      rw [List.getElem?_map] at e1 e2
      cases e3 : ms[i]? with
      | none => rw [e3] at e1; cases e1
      | some z => rw [e3] at e1 e2; cases e1; cases e2; exact ⟨rfl, rfl⟩
    have sp : spD (K w.params) den [.ref a] H fun v _ => v = .bl true := ⟨[.flst (ns.map .int)], [], .bl true, ρ', RepL.of_one ⟨a, _, rfl, hS, rl ns⟩, List.nodup_nil, hl, fun v H' g F' rr _ _ _ => rr.1⟩
    refine codeAny_mono ((hF _ hKb (nsK G.T.g)).run callerA [] s₁ H ⟨[.ref a], []⟩ [.ref a] [.ref a] _ rfl hr e0 (hb s₁ (.ref a)) (.cons rfl .nil) rfl sp) fun r s' h => ?_
    match r, h with
    | .error _, h => exact False.elim h
    | .ok .next, h => exact False.elim h
    | .ok .brk, h => exact False.elim h
    | .ok .cont, h => exact False.elim h
    | .ok (.ret u), h =>
      obtain ⟨v, H', os, bare, un, hok', r', qv⟩ := h
      have qv' : v = .bl true := qv
      subst qv'
      cases (r' : u = .bool true)
      refine ⟨rfl, OldK.of_keep fun b ob e => ?_, os, bare⟩
      by_cases z : H b = none
      · exact un.keep b ob e z (fun y => absurd (show b ∈ ([] : List Addr) from y) (by simp)) (by simp)
      · rcases hO b with y | ⟨ob', xs, y⟩
        · exact absurd y z
        · have y2 := un.frzs b ob' _ y
          obtain ⟨x1, _⟩ := hok b _ y
          obtain ⟨x2, _⟩ := hok' b _ y2
          rw [e] at x1
          cases x1
          exact x2
  have hz : ns.length ≤ sizeLine := Nat.le_trans hlen hn2
  have lenV := hints.length
  by_cases hk : (K w.params).lookup a = none
  · refine core (fun b => if b = a then some (.frz { cls := .type "list", data := .seq vs.toArray } (.lst (ns.map V.int))) else none) (fun b => ?_) (.inl ⟨_, if_pos rfl⟩) (fun b u z => ?_) (fun b z => ?_) fun _ => hk
    · exact (Decidable.em (b = a)).symm.imp (fun no => if_neg no) fun yes => ⟨_, _, if_pos yes⟩
    · by_cases hb : b = a
      · have z' := Eq.trans (if_pos hb).symm z
        cases z'
        subst hb
        exact ⟨hobj, by rw [List.length_map]; exact hz, vs, _, rv, hobj⟩
      · have z' := Eq.trans (if_neg hb).symm z
        cases z'
    · by_cases hb : b = a
      · exact hb
      · exact absurd (if_neg hb) z
  · obtain ⟨ob, hk'⟩ := Option.ne_none_iff_exists'.mp hk
    have e := KX a ob hk'
    rw [hobj] at e
    cases e
    refine core (fun _ => none) (fun _ => .inl rfl) (.inr (.inr ⟨_, vs.toArray, _, hk', rfl, rfl, rfl, by rw [List.size_toArray, lenV]; exact hz, by simpa using rv⟩)) (fun b u z => by cases z) (fun b z => absurd rfl z) fun z => absurd rfl z
end DL
/-! Smaller things: is None, -x, chains; a def as its callers see it. -/
namespace DL
open PySem PySem.Spec L2
open PyProof.Rows (envOfC AllBare)
def isNon : D → Bool
  | .non => true
  | _ => false
def dIsN (x y : D) : Option D := match y with
  | .non => some (.bl (isNon x))
  | _ => none
def dIsNotN (x y : D) : Option D := match y with
  | .non => some (.bl (!isNon x))
  | _ => none
section
variable {K : PySem.W.Frag} {X : Cx}
theorem isNon_dec {H : Hp} {x : D} {v : V} {p : List Addr} (r : Rep K H x v p) : decide (v = .non) = isNon x := by
  cases x with
  | non => rw [r.1]; rfl
  | bl b => rw [r.1]; rfl
  | int i => rw [r.1]; rfl
  | str z => rw [r.1]; rfl
  | tup ds => obtain ⟨a, vs, rfl, _⟩ := r; rfl
  | lst ds => obtain ⟨a, vs, g, rfl, _⟩ := r; rfl
  | flst ds => obtain ⟨a, vs, rfl, _⟩ := r; rfl
  | dic kvs => obtain ⟨a, vs, g, rfl, _⟩ := r; rfl
  | fdic kvs => obtain ⟨a, vs, rfl, _⟩ := r; rfl
  | exc a C dd kvs => obtain ⟨ws, rfl, _⟩ := r; rfl
theorem o2_isN : Op2 K (fun x y H Q => y = .non ∧ Q (.bl (decide (x = .non))) H) dIsN := by
  intro H x y v w p q z Q r1 r2 e k
  unfold dIsN at e
  split at e
  · cases e
    exact ⟨r2.1, by rw [isNon_dec r1]; exact k _ H [] ⟨rfl, rfl⟩ List.nodup_nil (by simp) (Same.refl H)⟩
  · cases e
theorem o2_isNotN : Op2 K (fun x y H Q => y = .non ∧ Q (.bl (!decide (x = .non))) H) dIsNotN := by
  intro H x y v w p q z Q r1 r2 e k
  unfold dIsNotN at e
  split at e
  · cases e
    exact ⟨r2.1, by rw [isNon_dec r1]; exact k _ H [] ⟨rfl, rfl⟩ List.nodup_nil (by simp) (Same.refl H)⟩
  · cases e
end
def fNeg (fa : FE) : FE := fun ρ => (fa ρ).bind fun (r, ρ1) => (cont ρ1 r).bind fun d => match d with
  | .int i => some (.val (.int (-i)), ρ1)
  | _ => none
theorem de_neg {X : Cx} {a : Expr} {fa : FE} {pos : Pos} (ha : DE X a fa) : DE X (.UnaryOp .USub a pos) (fNeg fa) := ⟨pe_weak (pe_un un_neg ha.pe) fun σ H Q ⟨ρ, F, r', ρ', E, nd, ef, k⟩ => by
  obtain ⟨⟨r, ρ1⟩, e1, ef⟩ := Option.bind_eq_some_iff.mp ef
  obtain ⟨d, e2, ef⟩ := Option.bind_eq_some_iff.mp ef
  cases d <;> try cases ef
  refine ⟨ρ, F, r, ρ', E, nd, e1, fun v H' g F' r1 E1 N1 S1 => ?_⟩
  obtain ⟨p, q, _⟩ := r1.cont E1 e2
  exact ⟨_, q.1, k _ H' [] F' ⟨rfl, rfl⟩ E1 (by simpa using (nodup3 N1).2.1) (S1.to fun a ha => .inl (List.mem_append_right _ (by simpa using ha)))⟩⟩
/-- a < b < c of whole numbers -/
def fChain (p q : Int → Int → Bool) (fa fb fc : FE) : FT := fun ρ => (fa ρ).bind fun (x, ρ1) => (fb ρ1).bind fun (y, ρ2) => (cont ρ2 x).bind fun dx => (cont ρ2 y).bind fun dy => match dx, dy with
  | .int i, .int j => if p i j then (fc ρ2).bind fun (z, ρ3) => (cont ρ3 z).bind fun dz => match dz with
      | .int l => some (q j l, ρ3)
      | _ => none
    else some (false, ρ2)
  | _, _ => none
theorem chain_of {K : PySem.W.Frag} {p q : Int → Int → Bool} {fa fb fc : FE} {σ : L2.St} {H : Hp} {Q : VK} (h : rdE K (fBl (fChain p q fa fb fc)) σ H Q) :
    tChain (rI0 fun i j => .bl (p i j)) (rI0 fun i j => .bl (q i j)) (rdE K fa) (rdE K fb) (rdE K fc) σ H Q := by
  obtain ⟨ρ, F, r, ρ', E, nd, ef, k⟩ := h
  obtain ⟨⟨b0, ρ0⟩, ef, e0⟩ := Option.map_eq_some_iff.mp ef
  cases e0
  obtain ⟨⟨x, ρ1⟩, e1, ef⟩ := Option.bind_eq_some_iff.mp ef
  obtain ⟨⟨y, ρ2⟩, e2, ef⟩ := Option.bind_eq_some_iff.mp ef
  obtain ⟨dx, e3, ef⟩ := Option.bind_eq_some_iff.mp ef
  obtain ⟨dy, e4, ef⟩ := Option.bind_eq_some_iff.mp ef
  have hij : ∃ i j, dx = .int i ∧ dy = .int j := by
    cases dx <;> cases dy <;> first | exact ⟨_, _, rfl, rfl⟩ | cases ef
  obtain ⟨i, j, rfl, rfl⟩ := hij
  have ef : (if p i j then (fc ρ2).bind fun (z, ρ3) => (cont ρ3 z).bind fun dz => match dz with
      | .int l => some (q j l, ρ3)
      | _ => none
    else some (false, ρ2)) = some (b0, ρ') := ef
  refine two E nd e1 e2 fun v w H2 gx gy F2 r1 r2 E2 N2 S2 => ?_
  obtain ⟨p1, q1, _⟩ := r1.cont E2 e3
  obtain ⟨p2, q2, _⟩ := r2.cont E2 e4
  obtain ⟨_, N3, _⟩ := nodup3 N2
  have n2 := (nodup3 N3).2.1
  have S2' : Step H F H2 F2 := S2.to fun a ha => .inl (by simp [ha])
  refine ⟨i, j, q1.1, q2.1, p i j, rfl, ?_⟩
  cases hp : p i j with
  | true =>
    rw [hp, if_pos rfl] at ef
    obtain ⟨⟨z, ρ3⟩, e5, ef⟩ := Option.bind_eq_some_iff.mp ef
    obtain ⟨dz, e6, ef⟩ := Option.bind_eq_some_iff.mp ef
    cases dz <;> try cases ef
    refine iteT ⟨ρ2, F2, z, _, E2, n2, e5, fun u H3 g3 F3 r3 E3 N3 S3 => ?_⟩
    obtain ⟨p3, q3, _⟩ := r3.cont E3 e6
    exact ⟨j, _, q2.1, q3.1, k _ H3 [] F3 ⟨rfl, rfl⟩ E3 (by simpa using (nodup3 N3).2.1) (S2'.trans (S3.to fun a ha => .inl (List.mem_append_right _ (by simpa using ha))))⟩
  | false =>
    rw [hp, if_neg Bool.false_ne_true] at ef
    cases ef
    exact iteF (k _ H2 [] F2 ⟨rfl, rfl⟩ E2 (by simpa using n2) (by simpa using S2'))
section
variable {X : Cx} {a b c : Expr} {fa fb fc : FE} {pos : Pos} {p q : Int → Int → Bool} {o1 o2 : CmpOp}
theorem dt_chain (h1 : OpR X (compareOp o1) (rI0 fun i j => .bl (p i j))) (h2 : OpR X (compareOp o2) (rI0 fun i j => .bl (q i j))) (ha : DE X a fa) (hb : DE X b fb) (hc : DE X c fc) (hm : lastMarks [o1, o2] [b, c] = false := by with_unfolding_all rfl) :
    DT X (.Compare a [o1, o2] [b, c] pos) (fTest (fBl (fChain p q fa fb fc))) := ⟨pt_weak (pt_chain h1 h2 ha.pe hb.pe hc.pe hm) fun _ _ _ h => tTest_of (fun _ _ _ q => chain_of q) h⟩
end
/-- a def, as its callers see it -/
structure DefOk (P : Program) (w : World) (K : PySem.W.Frag) (mg : Str → Option Value) (base : Heap) (x : Str) (k : Nat) (ps : List Str) (den : Den) : Prop where
  ex : ∃ (f : Addr) (fd : FuncData), FnD P w K mg base k f fd ps den ∧ mg x = some (.ref f) ∧ PySem.W.keepIn K (.ref f) = true ∧ Binds K fd ps []
theorem de_callG {X : Cx} {x : Str} {p pos : Pos} {e : Expr} {es : List Expr} {fr : FA} {j k : Nat} {ps : List Str} {den : Den} (G : DefOk X.prog X.w X.K X.mg X.base x j ps den) (hgd : X.A.guards = some []) (hr : Room k X.A) (hjk : j ≤ k) (hg : Gl X x)
    (hn : ∀ (ρ ρ1 : Fm) (rs : List R), fr ρ = some (rs, ρ1) → rs.length = ps.length) (ha : DA X (e :: es) fr) (hdb : (x == ("__debug__" : Str)) = false := by decide)
    (he : starEach (e :: es) X.env = (false, eval e X.env) :: starEach es X.env := by rfl) (hpl : (backTo pos (starEach es X.env)).any (·.1) = false := by rfl) : DE X (.Call (.Name x p) (e :: es) [] pos) (fCallD den fr) := by
  obtain ⟨f, fd, F, hm, hk, hb⟩ := G.ex
  exact de_call F hgd (hr.mono hjk) hg hm hk hb hn ha hdb he hpl
end DL
/-! Names that the printed meanings use. -/
namespace DL
open PySem PySem.Spec L2
abbrev pLt : Int → Int → Bool := fun i j => decide (i < j)
abbrev pLe : Int → Int → Bool := fun i j => decide (i ≤ j)
abbrev pGt : Int → Int → Bool := fun i j => decide (j < i)
abbrev pGe : Int → Int → Bool := fun i j => decide (j ≤ i)
/-- turns that a while may take -/
def fuel : Nat := 100000
theorem room_u {n k u : Nat} (h : n + 1 ≤ 200) (hu : u + 16 * k + 200 < cLine) : u + n < cLine := by omega
/-- {} -/
def fDic0 : FE := fun ρ => some (.val (.dic []), ρ)
end DL
/-! A tuple walked with its count: the library's walk (WalksT.enumerateD over Draws.tuple) as a turn of the hand layer. -/
namespace DL
open PySem PySem.Spec L2
/-- pairs (i, x) of the tuple at a, each new -/
def Itc2 (K : PySem.W.Frag) (a : Addr) (m : Nat) : It where
  go i H := ∃ xs, SqT K H a xs ∧ xs.length = m ∧ i < m
  yld i H v G := ∃ T x, v = .ref T ∧ H T = none ∧ G = upd H T (.tup [.int (i : Nat), x]) ∧ ∀ xs, SqT K H a xs → xs[i]? = some x
  stop i H := ∃ xs, SqT K H a xs ∧ xs.length = m ∧ m ≤ i
/-- where the two new things stand -/
structure Count (a en ti : Addr) (m i : Nat) (h : Heap) : Prop where
  so_far : i ≤ m
  en_at : ∃ old, IsEnum h en ti ((i : Nat) : Int) old
  ti_at : h.IsTupleIter ti a i
theorem turn_count {P : Program} {w : World} {K : PySem.W.Frag} {es : List Expr} {kk : Nat} {tp : Pos} {a en ti : Addr} {m : Nat} (n1 : en ≠ ti) (n2 : en ≠ a) (n3 : a ≠ ti) :
    Turn P w K (.Tuple es kk tp) (Itc2 K a m) [en, ti] en (Count a en ti m) where
  mem := List.mem_cons_self
  obj i h st b hb := by
    have ⟨_, ⟨_, q1⟩, ⟨o, q2, _, q3⟩⟩ := st
    obtain rfl | rfl : b = en ∨ b = ti := by simpa using hb
    · exact ⟨_, q1, nofun⟩
    · exact ⟨o, q2, fun v => q3 ▸ nofun⟩
  keep i h g st same := ⟨st.so_far, st.en_at.imp fun _ q => same en (by simp) _ q, st.ti_at.at (same ti (by simp))⟩
  item := by
    rintro X rfl rfl rfl calm i pins s σ H E I free st ⟨xs, at_, rfl, lt⟩
    have ⟨zs, rz, tz, _⟩ := I.tuple at_
    have walk := PySem.WalksT.enumerateD (PySem.Draws.tuple (prog := X.prog) (w := X.w) (A := X.A.in1) (I.ok.hd calm) ti a n3 zs.toArray) en n1 (by simp [n1, n2]) List.mem_cons_self
    have size : zs.toArray.size = xs.length := by simp [rz.length]
    refine walk.item i s _ _ (size ▸ lt) ⟨st.en_at, st.ti_at, tz⟩ fun T vals g tk pv new tup mid kept => ⟨_, rfl, walk.go es kk tp i T _ _ _ mid fun g2 st2 kept2 => ?_⟩
    obtain ⟨t, u, hu, rfl⟩ := pv
    obtain ⟨x, hx, ru⟩ : ∃ x, xs[i]? = some x ∧ RelV x u := by
      have ⟨u', e1, r'⟩ := rz.get (List.getElem?_eq_getElem lt)
      have e2 : zs[i]? = some u := by simpa using hu
      cases e1.symm.trans e2
      exact ⟨_, List.getElem?_eq_getElem lt, r'⟩
    have far := walk.apart i T g mid
    have ⟨o, o1, o2, cap, o3⟩ := tup
    have pair : ObjOk X.prog X.w (upd H T (.tup [.int (i : Nat), x])) g2 T (.tup [.int (i : Nat), x]) :=
      ⟨show 2 ≤ sizeLine by decide, [.int i t, u], .cons ⟨t, rfl⟩ (.cons ru .nil), o, kept2 T o far o1, o2, cap, o3⟩
    refine ⟨.ref T, _, I.turnedNew (ch := [en, ti]) (fun b ob no q => kept2 b ob no (kept b ob no q)) free new pair, rfl, ⟨T, x, rfl, I.hok.fresh new, rfl, fun ys hy => I.tuple_inj hy at_ ▸ hx⟩, ⟨lt, st2.1, st2.2.1⟩, fun b hb => ?_⟩
    have apart : b ≠ T := fun z => far (by rw [← z]; exact hb)
    exact (upd_ne apart).trans (free b hb).1
  done := by
    rintro X rfl rfl rfl calm i pins s σ H E I free st ⟨xs, at_, rfl, past⟩
    obtain rfl := Nat.le_antisymm st.so_far past
    have ⟨zs, rz, tz, _⟩ := I.tuple at_
    have walk := PySem.WalksT.enumerateD (PySem.Draws.tuple (prog := X.prog) (w := X.w) (A := X.A.in1) (I.ok.hd calm) ti a n3 zs.toArray) en n1 (by simp [n1, n2]) List.mem_cons_self
    have size : zs.toArray.size = xs.length := by simp [rz.length]
    exact walk.done s _ _ (size.symm ▸ ⟨st.en_at, st.ti_at, tz⟩) fun g tk kept => ⟨rfl, I.turnedL (t' := tk) kept free⟩
  self A i s Q E st q := st.en_at.elim fun _ at_ => wpAny_pyIter_enum at_ q
/-- enumerate(v) makes two things: what iter(v) gives, and the count over it -/
def madeOver (o : Obj) (h : Heap) : Heap := (h.push o).push { cls := .type "enumerate", data := .fields #[.none, .bool false, .ref h.objs.size, rawInt 0, .none, .none] }
theorem made_meets {v : Value} {o : Obj} {Pre : Heap → Prop} (B : Begins v o Pre) : Meets (Builtin.«enumerate.__new__» ⟨[.type "enumerate", v], []⟩) fun _ R s => Pre s.heap ∧ R (.ok (.ret (.ref (s.heap.push o).objs.size))) { s with heap := madeOver o s.heap } := by
  refine .of_wp fun P w A R ⟨h, gs, ds, n, os⟩ both => ?_
  have pre := both.1
  have post := both.2
  have below := sub_enumerate
  have begin_ {A' : Around} {E Q : Value → Shared → Prop} (q : Q (.ref h.objs.size) ⟨h.push o, gs, ds, n, os⟩) : wpAny (model P w) A' (pyIter v) Q E ⟨h, gs, ds, n, os⟩ := B.iter P w A' E ⟨h, gs, ds, n, os⟩ Q pre q
  wp_walk using begin_
  apply wpAny_stack_any
  intro _
  apply wpAny_pure
  split
  next c _ _ _ _ _ => cases c == Value.type "enumerate" <;> (wp_walk using begin_; exact ⟨_, rfl, post⟩)
  next => wp_walk using begin_; exact ⟨_, rfl, post⟩
theorem made_call {P : Program} {w : World} {A : Around} {E : Value → Shared → Prop} {s : Shared} {a : Addr} {zs : Array Value} {Q : Value → Shared → Prop} (tz : s.heap.IsTuple a zs)
    {m : Nat} (q : ∀ g, Count a (s.heap.objs.size + 1) s.heap.objs.size m 0 g → (∀ b o, s.heap.get? b = some o → g.get? b = some o) → Q (.ref (s.heap.objs.size + 1)) { s with heap := g }) : wpAny (model P w) A (call (.type "enumerate") [.ref a]) Q E s := by
  have B := begins_tuple a zs
  apply callType_new F.called_enumerate (by decide) (F.typeCall_enumerate_1 _) (F.newCall_enumerate_1 _) (F.args_object_init_2 · _) F.entry_enumerate_new (made_meets B)
  have more := Heap.size_push s.heap { cls := .type "tuple_iterator", data := .fields #[.ref a, .int 0 0] }
  have en := Heap.get?_push_size (s.heap.push { cls := .type "tuple_iterator", data := .fields #[.ref a, .int 0 0] }) (o := { cls := .type "enumerate", data := .fields #[.none, .bool false, .ref s.heap.objs.size, rawInt 0, .none, .none] }) rfl
  rw [more] at en
  have old {b : Addr} {o : Obj} (x : s.heap.get? b = some o) := Heap.get?_push_of_some { cls := .type "enumerate", data := .fields #[.none, .bool false, .ref s.heap.objs.size, rawInt 0, .none, .none] } (Heap.get?_push_of_some { cls := .type "tuple_iterator", data := .fields #[.ref a, .int 0 0] } x)
  have ti := Heap.get?_push_of_some { cls := .type "enumerate", data := .fields #[.none, .bool false, .ref s.heap.objs.size, rawInt 0, .none, .none] } (Heap.get?_push_size s.heap (o := { cls := .type "tuple_iterator", data := .fields #[.ref a, .int 0 0] }) rfl)
  refine ⟨tz, ?_⟩
  rw [more]
  exact ⟨⟨_, en, rfl⟩, q _ ⟨Nat.zero_le _, ⟨_, en⟩, _, ti, rfl, rfl⟩ fun _ _ => old⟩
def iCount (K : PySem.W.Frag) (ta : TA) : TI := fun σ H R => ta σ H fun vs G => ∃ a xs, vs = [.ref a] ∧ SqT K G a xs ∧ R (Itc2 K a xs.length) G
open PyProof.Rows in
theorem pi_count {X : Cx} {e : Expr} {ta : TA} {p pos tp : Pos} {es : List Expr} {kk : Nat} (hg : Gl X "enumerate") (hm : X.mg "enumerate" = none) (ha : PA X [e] ta) (one : starEach [e] X.env = [(false, eval e X.env)] := by rfl) :
    PI X (.Tuple es kk tp) (.Call (.Name "enumerate" p) [e] [] pos) (iCount X.K ta) where
  run pins s σ H R I h := PyProof.Rows.Call_ <| ld_blt I hg hm boot_enumerate <| PyProof.Rows.callWith_type1 (thn (ha.run pos pins s σ H _ I h) <| by
    rintro us t ⟨_, G, J, r, a, xs, rfl, at_, q⟩
    rw [Vals.ref1 r]
    have ⟨zs, _, tz, _⟩ := J.tuple at_
    have below : a < t.heap.objs.size := tz.elim fun _ z => Heap.lt_size z.1
    refine made_call (m := xs.length) tz fun g st kept => st.en_at.elim fun _ en => wpAny_pyIter_enum en ?_
    have far : t.heap.objs.size + 1 ≠ t.heap.objs.size ∧ t.heap.objs.size + 1 ≠ a ∧ a ≠ t.heap.objs.size := ⟨Nat.succ_ne_self _, Nat.ne_of_gt (Nat.lt_succ_of_lt below), Nat.ne_of_lt below⟩
    refine ⟨_, _, _, _, G, rfl, J.kept (t' := t.toks) kept, turn_count far.1 far.2.1 far.2.2, st, fun b hb => ?_, q⟩
    have new : t.heap.objs.size ≤ b := by
      obtain rfl | rfl : b = _ + 1 ∨ b = _ := List.mem_cons.mp hb |>.imp_right List.mem_singleton.mp
      · exact Nat.le_succ _
      · exact Nat.le_refl _
    exact J.fpOk new (J.hok.fresh new)) one rfl
/-- the items with their counts -/
def counted (ds : List D) : List D := ds.mapIdx fun i d => .tup [.int (i : Nat), d]
section
variable {K : PySem.W.Frag} {H : Hp} {ds : List D} {vs : List V}
/-- the pair that a turn makes is told by the counted items -/
theorem count_pair {T : Addr} {n : Nat} {x : V} {d : D} (new : H T = none) (rl : RepL K H ds vs []) (still : immL ds = true) (at_ : vs[n]? = some x) (hd : (counted ds)[n]? = some d) :
    Weak K (upd H T (.tup [.int (n : Nat), x])) d (.ref T) ∧ Same H (upd H T (.tup [.int (n : Nat), x])) := by
  rw [counted, List.getElem?_mapIdx] at hd
  obtain ⟨d1, e1, rfl⟩ := Option.map_eq_some_iff.mp hd
  obtain ⟨d2, e2, r⟩ := rl.each still n x at_
  cases e1.symm.trans e2
  have sm := upd_same_of (o := .tup [.int (n : Nat), x]) new
  exact ⟨⟨_, T, _, rfl, rfl, .inl (.inl upd_same), _, _, [], [], rfl, rfl, ⟨rfl, rfl⟩, _, _, [], [], rfl, rfl, Rep.keep _ _ _ r (Same.keep sm), rfl, rfl⟩, sm⟩
theorem count_len : (counted ds).length = ds.length := List.length_mapIdx
theorem src_countT {a : Addr} (still : immL ds = true) : SrcOk K (Weak K) (Itc2 K a vs.length) (counted ds) fun H => TupR K H a vs ∧ RepL K H ds vs [] where
  keep H G h k := ⟨tupR_keep h.1 k, RepL.keep _ _ _ h.2 k⟩
  go H n h lt := ⟨vs, h.1.sq, rfl, by rw [h.2.length, ← count_len (ds := ds)]; exact lt⟩
  stop H n h ge := ⟨vs, h.1.sq, rfl, by rw [h.2.length, ← count_len (ds := ds)]; exact ge⟩
  yld H n x G d h y hd := by
    obtain ⟨T, u, rfl, new, rfl, told⟩ := y
    exact count_pair new h.2 still (told vs h.1.sq) hd
theorem src_countL {a : Addr} (still : immL ds = true) : SrcOk K (Weak K) (Ite K a) (counted ds) fun H => SqF K H a vs ∧ RepL K H ds vs [] where
  keep H G h k := ⟨SqF.keep h.1 k, RepL.keep _ _ _ h.2 k⟩
  go H n h lt := by
    rw [count_len, ← h.2.length] at lt
    exact ⟨vs, vs[n], h.1.seq, List.getElem?_eq_getElem lt⟩
  stop H n h ge := ⟨vs, h.1.seq, by rw [h.2.length, ← count_len (ds := ds)]; exact ge⟩
  yld H n x G d h y hd := by
    obtain ⟨T, u, rfl, new, rfl, told⟩ := y
    exact count_pair new h.2 still (told vs h.1.seq) hd
end
/-- enumerate(e) over a tuple, a list that stands still -/
def fEnum (fr : FA) : FI := fun ρ => (fr ρ).bind fun (rs, ρ1) => (conts ρ1 rs).bind fun ds => match ds with
  | [.tup ds] => if immL ds = true then some (counted ds, ρ1) else none
  | [.flst ds] => if immL ds = true then some (counted ds, ρ1) else none
  | _ => none
/-- the rule over what the library tells of lists, and what stands above of tuples -/
theorem di_enum {X : Cx} {tg E : Expr} {fr : FA} (hl : PI X tg E (iEnum X.K (rdA X.K fr))) (ht : PI X tg E (iCount X.K (rdA X.K fr))) : DI X (Weak X.K) tg E (fEnum fr) :=
  ⟨pi_weak (pi_or hl ht) fun σ H R ⟨ρ, F, ds, ρ', env, nd, ef, k⟩ => by
    obtain ⟨⟨rs, ρ1⟩, e1, ef⟩ := Option.bind_eq_some_iff.mp ef
    obtain ⟨xs, e2, ef⟩ := Option.bind_eq_some_iff.mp ef
    split at ef
    case h_3 => cases ef
    all_goals
      obtain ⟨still, ef⟩ := if_some ef
      cases ef
    · refine .inr ⟨ρ, F, rs, ρ', env, nd, e1, fun vs G g F' r env1 nd1 S1 => ?_⟩
      obtain ⟨len, each⟩ := r.conts env1 e2
      match vs, len with
      | [v], _ =>
        obtain ⟨_, ⟨a, ws, rfl, at_, rl⟩, _⟩ := each 0 _ v rfl rfl
        exact ⟨a, ws, rfl, at_.sq, k _ G F' _ (src_countT still) ⟨at_, rl.nil_of still⟩ env1 (nodup3 nd1).2.1 (S1.to fun b hb => .inl (List.mem_append_right _ hb))⟩
    · refine .inl ⟨ρ, F, rs, ρ', env, nd, e1, fun vs G g F' r env1 nd1 S1 => ?_⟩
      obtain ⟨len, each⟩ := r.conts env1 e2
      match vs, len with
      | [v], _ =>
        obtain ⟨_, ⟨a, ws, rfl, at_, rl⟩, _⟩ := each 0 _ v rfl rfl
        exact ⟨a, ws, rfl, at_.seq, k _ G F' _ (src_countL still) ⟨at_, rl.nil_of still⟩ env1 (nodup3 nd1).2.1 (S1.to fun b hb => .inl (List.mem_append_right _ hb))⟩⟩
end DL
/-! t[::-1], isinstance of built-in kinds, is of truths, what is never reached. -/
namespace DL
open PySem PySem.Spec L2
/-! ### a tuple backwards -/
theorem fm_congr {α β : Type} {f g : α → Option β} : ∀ {l : List α}, (∀ a ∈ l, f a = g a) → l.filterMap f = l.filterMap g
  | [], _ => rfl
  | a :: l, h => by rw [List.filterMap_cons, List.filterMap_cons, h a List.mem_cons_self, fm_congr fun b hb => h b (List.mem_cons_of_mem _ hb)]
theorem back_items (l : List Value) : ((List.range l.length).filterMap fun (k : Nat) => l[((l.length : Int) - 1 + (k : Int) * (-1)).toNat]?) = l.reverse := by
  have all : ∀ r : List Value, (List.range r.length).filterMap (fun k => r[k]?) = r := by
    intro r
    induction r with
    | nil => rfl
    | cons a r ih => simpa [List.range_succ_eq_map, List.filterMap_map, Function.comp_def] using ih
  have := all l.reverse
  rw [List.length_reverse] at this
  rw [← this]
  apply fm_congr
  intro k hk
  have hk := List.mem_range.mp hk
  rw [List.getElem?_reverse hk]
  congr 1
  omega
theorem back_places (n : Nat) : Builtin.Slice.slicePlaces ((n : Int) - 1) (-1) (-1) = n := by
  unfold Builtin.Slice.slicePlaces
  rw [if_neg (by decide)]
  by_cases h : (n : Int) - 1 > -1
  · rw [if_pos h]
    show (((n : Int) - 1 - -1 - 1) / 1 + 1).toNat = n
    rw [Int.ediv_one]
    omega
  · rw [if_neg h]
    omega
section
variable {prog : Program} {w : World} {A : Around} {E : Value → Shared → Prop} {s : Shared}
theorem back_asked {sl : Addr} {k : Tok} {n : Nat} {Q : Int × Int × Nat → Shared → Prop} (hs : s.heap.IsSliceOf sl .none .none (.int (-1) k)) (q : Q ((n : Int) - 1, -1, n) s) :
    wpAny (model prog w) A (Builtin.Slice.sliceApplied (.ref sl) (pure (n : Int))) Q E s := by
  have ⟨ob, at_, _, dat⟩ := hs
  unfold Builtin.Slice.sliceApplied Builtin.Slice.sliceFields
  apply wpAny_bind
  apply wpAny_bind
  apply wpAny_field at_ dat (x := .none) rfl
  apply wpAny_bind
  apply wpAny_field at_ dat (x := .none) rfl
  apply wpAny_bind
  apply wpAny_field at_ dat (x := .int (-1) k) rfl
  apply wpAny_pure
  apply wpAny_bind
  apply PyProof.Rows.slicePart_int
  show wpAny _ _ (if ((-1 : Int) == 0) = true then _ else _) _ _ s
  rw [if_neg (by decide)]
  apply wpAny_bind
  apply PyProof.Rows.slicePart_none
  apply wpAny_bind
  apply PyProof.Rows.slicePart_none
  apply wpAny_bind
  apply wpAny_pure
  show wpAny _ _ (pure ((n : Int) - 1, (-1 : Int), Builtin.Slice.slicePlaces ((n : Int) - 1) (-1) (-1))) _ _ s
  rw [back_places]
  exact wpAny_pure q
theorem tuple_back {t sl : Addr} {k : Tok} {its : List Value} {Q : Value → Shared → Prop} (tup : PyProof.Rows.IsTup s.heap t its.toArray) (hs : s.heap.IsSliceOf sl .none .none (.int (-1) k)) (small : its.length ≤ sizeLine)
    (q : Q (.ref s.heap.objs.size) { s with heap := s.heap.push (tupObj its.reverse) }) : wpAny (model prog w) A (getItem (.ref t) (.ref sl)) Q E s := by
  have ⟨ob, at_, kind, _⟩ := hs
  have isSlice : s.TypeIs (.ref sl) "slice" := ⟨ob, at_, kind⟩
  have room : sizeOk (.seq its.reverse.toArray) := by
    show its.reverse.toArray.size ≤ sizeLine
    simpa using small
  unfold getItem
  try with_reducible apply wpAny_holding
  first | (apply wpAny_bind; apply wpAny_pure) | skip
  apply wpAny_bind
  apply wpAny_sequenceKey tup.typeIs (by decide)
  apply wpAny_bind
  refine wpAny_callSpecial?_slot (name := Str.ofString "__getitem__") tup.typeIs PyProof.Rows.slot_tuple_getitem (wpAny_call_entry PyProof.Rows.slot_tuple_getitem tup.typeIs PyProof.Rows.entry_tuple_getitem ?body (PyProof.Rows.args_tuple_getitem _ _))
  show wpAny _ _ (Builtin.Tuple.tupleItemsOf (.ref t) >>= _) _ _ s
  apply wpAny_bind
  apply PyProof.Rows.tupleItemsOf_ tup
  apply wpAny_bind
  apply wpAny_typeOf isSlice
  rw [if_pos (by decide)]
  apply wpAny_bind
  apply back_asked hs
  have other : ¬ ((((its.toArray.size : Int) - 1 == 0 && (-1 : Int) == 1 && its.toArray.size == its.toArray.size) = true)) := by simp
  show wpAny _ _ (if ((its.toArray.size : Int) - 1 == 0 && (-1 : Int) == 1 && its.toArray.size == its.toArray.size) = true then _ else _) _ _ s
  rw [if_neg other]
  have items : ((List.range its.toArray.size).filterMap fun (k : Nat) => its.toArray[((its.toArray.size : Int) - 1 + (k : Int) * (-1)).toNat]?).toArray = its.reverse.toArray := by
    have := back_items its
    simpa using congrArg List.toArray this
  rw [items]
  first
    | exact wpAny_bind (m := Builtin.Tuple.tupleExact _) (wpAny_newObj_type (wpAny_pure ⟨_, rfl, wpAny_pure q⟩) room)
    | exact wpAny_bind (m := Builtin.Tuple.tupleExact _) (wpAny_newObj_type (wpAny_bind (wpAny_pure (wpAny_pure ⟨_, rfl, wpAny_pure q⟩))) room)
    | exact wpAny_bind (wpAny_bind (m := Builtin.Tuple.tupleExact _) (wpAny_newObj_type (wpAny_pure (wpAny_pure ⟨_, rfl, wpAny_pure q⟩)) room))
    | exact wpAny_bind (wpAny_bind (m := Builtin.Tuple.tupleExact _) (wpAny_newObj_type (wpAny_pure ⟨_, rfl, wpAny_pure q⟩) room))
end
section
variable {X : Cx} {e : Expr} {fe : FE} {k0 : Nat} {p1 p2 p3 p pos : Pos}
/-- t[::-1] -/
def tRevT (K : PySem.W.Frag) (te : TE) : TE := fun σ H Q => te σ H fun x H1 => ∃ a xs, x = .ref a ∧ SqT K H1 a xs ∧ newT H1 xs.reverse Q
theorem pe_revT {te : TE} (he : PE X e te) : PE X (.Subscript e (.Slice none none (some (.UnaryOp .USub (.Constant (.int 1) k0 p1) p2)) p3) pos) (tRevT X.K te) where
  run pins s σ H Q I h := by
    have minus : PO X (some (.UnaryOp .USub (.Constant (.int 1) k0 p1) p2)) (tPart (tUn (rU fun i => .int (-i)) (tC (.int 1)))) := po_some (pe_un un_neg pe_int)
    apply PyProof.Rows.Subscript_
    refine thn (he.run pins s σ H _ I h) ?_
    rintro _ s1 ⟨_, H1, I1, told, a, xs, rfl, tup, q⟩
    cases told
    apply wpAny_Slice
    refine thn (po_none.run pins s1 σ H1 (fun o G => o = none ∧ G = H1) I1 ⟨rfl, rfl⟩) ?_
    rintro vl s2 ⟨_, _, I2, pl, rfl, rfl⟩
    refine thn (po_none.run pins s2 σ _ (fun o G => o = none ∧ G = _) I2 ⟨rfl, rfl⟩) ?_
    rintro vu s3 ⟨_, _, I3, pu, rfl, rfl⟩
    refine thn (minus.run pins s3 σ _ (fun o G => o = some (-1) ∧ G = _) I3 ⟨1, rfl, -1, rfl, rfl, rfl⟩) ?_
    rintro vs s4 ⟨_, G, I4, ps, rfl, rfl⟩
    cases pl
    cases pu
    cases ps with
    | int i tk =>
    have I5 : Inv X pins σ _ { s4 with heap := s4.heap.push { cls := .type "slice", data := .fields #[.none, .none, .int (-1) tk] } } := I4.kept (t' := s4.toks) fun b ob q => Heap.get?_push_of_some _ q
    obtain ⟨its, r, ht, small⟩ := I5.tuple tup
    show wpAny (model X.prog X.w) X.A (PyProof.Rows.subscriptTail e (.Slice none none (some (.UnaryOp .USub (.Constant (.int 1) k0 p1) p2)) p3) (.ref a) (.ref s4.heap.objs.size)) (EP X pins σ Q) X.xe { s4 with heap := s4.heap.push { cls := .type "slice", data := .fields #[.none, .none, .int (-1) tk] } }
    refine PyProof.Rows.tail_any (ops := [.ref a, .ref s4.heap.objs.size]) ht.typeIs PyProof.Rows.slot_tuple_getitem.lookup ?_ (by with_unfolding_all rfl)
    exact tuple_back ht (Heap.IsSliceOf.new _ _ _ _) (by rw [← r.length]; exact small) (newT_fin (t' := s4.toks) I5 r.reverse (by rw [List.length_reverse]; exact small) q)
def dRev : D → Option D
  | .tup ds => if immL ds = true then some (.tup ds.reverse) else none
  | .lst ds => if immL ds = true then some (.lst ds.reverse) else none
  | .flst ds => if immL ds = true then some (.lst ds.reverse) else none
  | _ => none
def fRev (f : FE) : FE := fun ρ => (f ρ).bind fun (r, ρ1) => (cont ρ1 r).bind fun d => (dRev d).map fun z => (.val z, ρ1)
theorem RepL.reverse {K : PySem.W.Frag} {H : Hp} : ∀ {ds : List D} {vs : List V}, RepL K H ds vs [] → immL ds = true → RepL K H ds.reverse vs.reverse []
  | [], vs, r, _ => by rw [r.1]; exact ⟨rfl, rfl⟩
  | d :: ds, vs, r, c => by
    obtain ⟨v, vs', f1, f2, rfl, e, r1, r2⟩ := r
    obtain ⟨rfl, rfl⟩ := List.nil_eq_append_iff.mp e
    have c' : (DL.imm d && immL ds) = true := c
    rw [Bool.and_eq_true] at c'
    rw [List.reverse_cons, List.reverse_cons]
    exact RepL.append (RepL.reverse r2 c'.2) (RepL.of_one r1)
theorem de_rev (h : DE X e fe) : DE X (.Subscript e (.Slice none none (some (.UnaryOp .USub (.Constant (.int 1) k0 p1) p2)) p3) pos) (fRev fe) :=
  ⟨pe_weak (pe_or' (pe_revT h.pe) (pe_revL h.pe)) fun σ H Q ⟨ρ, F, r', ρ', E, nd, ef, k⟩ => by
    obtain ⟨⟨r, ρ1⟩, e1, ef⟩ := Option.bind_eq_some_iff.mp ef
    obtain ⟨d, e2, ef⟩ := Option.bind_eq_some_iff.mp ef
    obtain ⟨z, e3, ef⟩ := Option.map_eq_some_iff.mp ef
    cases ef
    have lists : ∀ ds : List D, lstOf d = some ds → immL ds = true → z = .lst ds.reverse → tRevL X.K (rdE X.K fe) σ H Q := fun ds le c ez => by
      refine ⟨ρ, F, r, ρ', E, nd, e1, fun v H1 g F1 r1 E1 N1 S1 => ?_⟩
      obtain ⟨p, q1, _⟩ := r1.cont E1 e2
      obtain ⟨a, vs, g', rfl, hs, rl, _⟩ := q1.sqL le
      refine ⟨a, vs, rfl, hs, fun l hl => ?_⟩
      subst ez
      have sm := upd_same_of (o := .lst vs.reverse) hl
      refine k _ _ [l] F1 ⟨l, _, [], rfl, upd_same, rfl, RepL.keep _ _ _ ((rl.nil_of c).reverse c) (Same.keep sm)⟩ (E1.keep (Same.keep sm)) (nodup_fresh (h := [l]) E1 (nodup3 N1).2.1 (by simp) (by simpa using hl)) (S1.fresh (h := [l]) sm (by simpa using hl) fun b hb => List.mem_append_right _ hb)
    cases d with
    | lst ds =>
      obtain ⟨c, ez⟩ := if_some e3
      exact .inr (lists ds rfl c ez.symm)
    | flst ds =>
      obtain ⟨c, ez⟩ := if_some e3
      exact .inr (lists ds rfl c ez.symm)
    | tup ds =>
      obtain ⟨c, rfl⟩ := if_some e3
      refine .inl ⟨ρ, F, r, ρ', E, nd, e1, fun v H1 g F1 r1 E1 N1 S1 => ?_⟩
      obtain ⟨p, q1, _⟩ := r1.cont E1 e2
      obtain ⟨a, vs, rfl, tr, rl⟩ := q1
      refine ⟨a, vs, rfl, tr.sq, fun l o hl hd => ?_⟩
      have sm := upd_same_of (o := .frz o (.tup vs.reverse)) hl
      refine k _ _ [] F1 ⟨l, _, rfl, .inl ⟨o, upd_same, hd⟩, RepL.keep _ _ _ ((rl.nil_of c).reverse c) (Same.keep sm)⟩ (E1.keep (Same.keep sm)) (by simpa using (nodup3 N1).2.1) (S1.fresh (h := []) sm (by simp) fun b hb => List.mem_append_right _ hb)
    | _ => cases e3⟩
end
/-! ### isinstance -/
inductive Kd where
  | int | bool | tuple | list | str | dict
def kdName : Kd → String
  | .int => "int" | .bool => "bool" | .tuple => "tuple" | .list => "list" | .str => "str" | .dict => "dict"
def tyOf : D → String
  | .non => "NoneType" | .bl _ => "bool" | .int _ => "int" | .str _ => "str" | .tup _ => "tuple" | .lst _ => "list" | .flst _ => "list" | .dic _ => "dict" | .fdic _ => "dict" | .exc _ _ _ _ => ""
/-- a caught exception -/
def isX : D → Bool
  | .exc _ _ _ _ => true
  | _ => false
def isK : Kd → D → Bool
  | .int, .int _ => true | .int, .bl _ => true
  | .bool, .bl _ => true
  | .tuple, .tup _ => true
  | .list, .lst _ => true | .list, .flst _ => true
  | .str, .str _ => true
  | .dict, .dic _ => true | .dict, .fdic _ => true
  | _, _ => false
theorem isK_kit (k : Kd) (d : D) (nx : isX d = false) : kitB (tyOf d) (kdName k) = some (isK k d) := by
  cases k <;> cases d <;> try cases nx
  all_goals (first | rfl | (with_unfolding_all rfl) | decide +kernel)
theorem Rep.tyX {K : PySem.W.Frag} {H : Hp} {d : D} {v : V} {p : List Addr} (r : Rep K H d v p) (nx : isX d = false) : TyX K H v (.type (tyOf d)) := by
  cases d with
  | non => obtain ⟨rfl, _⟩ := r; exact .base .non
  | bl b => obtain ⟨rfl, _⟩ := r; exact .base (.bl b)
  | int b => obtain ⟨rfl, _⟩ := r; exact .base (.int b)
  | str b => obtain ⟨rfl, _⟩ := r; exact .base (.str b)
  | tup ds =>
    obtain ⟨a, vs, rfl, t, _⟩ := r
    rcases t with ⟨o, h, _⟩ | ⟨o, _, _, h, _, c, _⟩
    · exact .fTuple h
    · exact .kTuple h c
  | lst ds => obtain ⟨a, vs, g, rfl, h, _⟩ := r; exact .base (.lst h)
  | flst ds =>
    obtain ⟨a, vs, rfl, t, _⟩ := r
    rcases t with ⟨o, h⟩ | (h | ⟨o, h⟩) | ⟨o, _, _, h, c, _⟩
    · exact .base (.frz h)
    · cases h
    · cases h
    · exact .kList h c
  | dic ds => obtain ⟨a, vs, g, rfl, h, _⟩ := r; exact .base (.dK h)
  | fdic ds => obtain ⟨a, vs, rfl, ⟨o, h⟩, _⟩ := r; exact .fDict h
  | exc a C dd kvs => cases nx
def fIsi (k : Kd) (f : FE) : FE := fun ρ => (f ρ).bind fun (r, ρ1) => (cont ρ1 r).bind fun d => if isX d = true then none else some (.val (.bl (isK k d)), ρ1)
section
variable {X : Cx} {e : Expr} {fe : FE} {p p2 pos : Pos}
theorem boot_isi : bootBuiltins "isinstance" = some (.builtin "isinstance") := by decide +kernel
theorem boot_kd (k : Kd) : bootBuiltins (Str.ofString (kdName k)) = some (.type (kdName k)) := by cases k <;> decide +kernel
theorem de_isi (k : Kd) (hg : Gl X "isinstance") (hm : X.mg "isinstance" = none) (hg2 : Gl X (Str.ofString (kdName k))) (hm2 : X.mg (Str.ofString (kdName k)) = none) (h : DE X e fe)
    (hs : starEach [e, .Name (Str.ofString (kdName k)) p2] X.env = (false, eval e X.env) :: starEach [.Name (Str.ofString (kdName k)) p2] X.env := by rfl)
    (hs2 : starEach [.Name (Str.ofString (kdName k)) p2] X.env = (false, eval (.Name (Str.ofString (kdName k)) p2) X.env) :: starEach [] X.env := by rfl) :
    DE X (.Call (.Name "isinstance" p) [e, .Name (Str.ofString (kdName k)) p2] [] pos) (fIsi k fe) :=
  ⟨pe_weak (pe_callB call_isi hg hm boot_isi (pa_cons h.pe (pa_cons (pe_bltn hg2 hm2 (boot_kd k) (v := .ty (kdName k)) rfl (by cases k <;> decide) (by cases k <;> decide)) pa_nil hs2) hs) (by decide) (by decide) hs (by rw [hs2]; rfl)) fun σ H Q ⟨ρ, F, r', ρ', E, nd, ef, k0⟩ => by
    obtain ⟨⟨r, ρ1⟩, e1, ef⟩ := Option.bind_eq_some_iff.mp ef
    obtain ⟨d, e2, ef⟩ := Option.bind_eq_some_iff.mp ef
    have nx : isX d = false := by
      cases z : isX d with
      | false => rfl
      | true => rw [if_pos z] at ef; cases ef
    rw [if_neg (by rw [nx]; decide)] at ef
    cases ef
    refine ⟨ρ, F, r, ρ', E, nd, e1, fun v H1 g F1 r1 E1 N1 S1 => ?_⟩
    obtain ⟨q, q1, _⟩ := r1.cont E1 e2
    exact ⟨v, .ty (kdName k), .type (tyOf d), .type (kdName k), isK k d, rfl, .ty _, q1.tyX nx, kit_ty (isK_kit k d nx), k0 _ H1 [] F1 ⟨rfl, rfl⟩ E1 (by simpa using (nodup3 N1).2.1) (S1.to fun b hb => .inl (List.mem_append_right _ hb))⟩⟩
end
/-! ### is of truths -/
def dIsB : D → D → Option D
  | .bl a, .bl b => some (.bl (decide (a = b)))
  | _, _ => none
def dIsNotB : D → D → Option D
  | .bl a, .bl b => some (.bl (!decide (a = b)))
  | _, _ => none
/-! ### what is never reached -/
end DL
/-! Sets of whole numbers, made of a list or a tuple, their size, sorted. -/
namespace DL
open PySem PySem.Spec L2
/-! ### rising lists without doubles -/
def insUp (x : Int) : List Int → List Int
  | [] => [x]
  | y :: ys => if x < y then x :: y :: ys else if x = y then y :: ys else y :: insUp x ys
def ascend (ns : List Int) : List Int := ns.foldr insUp []
theorem insUp_mem {x k : Int} : ∀ {ys : List Int}, k ∈ insUp x ys ↔ k = x ∨ k ∈ ys
  | [] => by simp [insUp]
  | y :: ys => by
    unfold insUp
    by_cases h : x < y
    · simp [h]
    · by_cases e : x = y
      · subst e; simp
      · simp only [h, e, if_false, List.mem_cons, insUp_mem (ys := ys)]
        constructor
        · rintro (a | a | a) <;> simp [a]
        · rintro (a | a | a) <;> simp [a]
theorem ascend_mem {k : Int} : ∀ {ns : List Int}, k ∈ ascend ns ↔ k ∈ ns
  | [] => by simp [ascend]
  | n :: ns => by
    show k ∈ insUp n (ascend ns) ↔ _
    rw [insUp_mem, ascend_mem, List.mem_cons]
theorem insUp_rises {x : Int} : ∀ {ys : List Int}, ys.Pairwise (· < ·) → (insUp x ys).Pairwise (· < ·)
  | [], _ => by simp [insUp]
  | y :: ys, h => by
    obtain ⟨h1, h2⟩ := List.pairwise_cons.mp h
    unfold insUp
    by_cases a : x < y
    · rw [if_pos a]
      refine List.pairwise_cons.mpr ⟨fun z hz => ?_, h⟩
      rcases List.mem_cons.mp hz with rfl | hz
      · exact a
      · have := h1 z hz; omega
    · rw [if_neg a]
      by_cases e : x = y
      · rw [if_pos e]; exact h
      · rw [if_neg e]
        refine List.pairwise_cons.mpr ⟨fun z hz => ?_, insUp_rises h2⟩
        rcases insUp_mem.mp hz with rfl | hz
        · omega
        · exact h1 z hz
theorem ascend_rises : ∀ (ns : List Int), (ascend ns).Pairwise (· < ·)
  | [] => List.Pairwise.nil
  | n :: ns => insUp_rises (ascend_rises ns)
theorem rises_nodup {a : List Int} (h : a.Pairwise (· < ·)) : a.Nodup := h.imp fun h => by omega
theorem nodup_lens {α : Type} {a b : List α} (ha : a.Nodup) (hb : b.Nodup) (h : ∀ k, k ∈ a ↔ k ∈ b) : a.length = b.length := ((List.perm_ext_iff_of_nodup ha hb).mpr h).length_eq
/-! ### set(xs) -/
abbrev bareSet (w : World) : Obj := { cls := .type "set", dict := none, data := .set #[] 0 (.fresh 0 0 (!w.params.followText "set-order")) }
/-- the members of such a set are as many as it says -/
theorem setR_count {w : World} {h : Heap} {a : Addr} {ns : List Int} {c : Nat} (R : SetR w h a (fun j => decide (j ∈ ns)) c) : c = (ascend ns).length := by
  obtain ⟨_, es, _, _, _, _, _, _, once, mem, _, _, size, _⟩ := R
  rw [← size, ← Array.length_toList, ← List.length_map (f := L2.keyOf)]
  refine nodup_lens once (rises_nodup (ascend_rises ns)) fun k => ?_
  rw [ascend_mem, ← mem k, decide_eq_true_iff]
section
variable {P : Program} {w : World} {A : Around} {E : Value → Shared → Prop} {s : Shared} {ns : List Int}
/-- the fresh set at S takes the list at l -/
theorem set_takes {S l : Addr} {its : Array Value} {R : Result → Shared → Prop} (still : A.handled = none) (lst : s.heap.IsList l its) (nums : PyProof.Rows.IntsAre its.toList ns) (few : ns.length + 1 < scanBound) (apart : l ≠ S)
    (isSet : s.heap.get? S = some (bareSet w))
    (k : ∀ (g : Heap) (tk c : Nat), SetR w g S (fun j => decide (j ∈ ns)) c → (∀ b o, b ≠ S → s.heap.get? b = some o → g.get? b = some o) → R (.ok (.ret .none)) { s with heap := g, toks := tk }) :
    codeAny (model P w) A (.call (.builtin "set.__init__") ⟨[.ref S, .ref l], []⟩) R s := by
  have kind : s.TypeIs (.ref S) "set" := ⟨_, isSet, rfl⟩
  have len : its.size = ns.length := by simpa using nums.length
  apply codeAny_call_builtin F.called_set.init.plain F.entry_set_init
  apply check_set_init_1 kind
  have here := lst
  obtain ⟨ob, at_, c, n, dat⟩ := lst
  obtain ⟨oc, od, dt, sl⟩ := ob
  dsimp only at c dat
  subst c dat
  have no1 := F.sub_list_set
  have no2 := F.sub_list_frozenset
  have no3 : (Value.type "list" == Value.type "dict") = false := by decide
  have big : l < s.heap.objs.size := Heap.lt_size at_
  have bigS : S < s.heap.objs.size := Heap.lt_size isSet
  unfold Builtin.«set.__init__» noKeywords Builtin.Frozenset.updateFrom
  generalize hw : pyIter = walk
  wp_walk
  subst hw
  apply wpAny_pyIter_list here
  apply wpAny_bind
  apply wpAny_runValue
  have quiet : A.in1.in1.handled = none := by simp [still]
  have off : S ∉ [s.heap.objs.size, l] := by
    simp only [List.mem_cons, List.not_mem_nil, or_false, not_or]
    exact ⟨Nat.ne_of_lt bigS, fun z => apart z.symm⟩
  have item : ∀ (i : Nat) (v : Value), its[i]? = some v → ∃ k t, ns[i]? = some k ∧ v = .int k t := by
    intro i v hv
    have lt : i < ns.length := len ▸ (Array.getElem?_eq_some_iff.mp hv).1
    obtain ⟨t, e⟩ := nums.int_at i v (Array.getElem?_toList ▸ hv)
    exact ⟨ns[i], t, List.getElem?_eq_getElem lt, by rw [e, List.getD_eq_getElem?_getD, List.getElem?_eq_getElem lt]; rfl⟩
  apply set_update_ints (Walks.list quiet s.heap.objs.size l (Nat.ne_of_lt big) its).toS S off ns len few item its.size 0 _ (by omega) (Nat.zero_le _)
  · exact ⟨⟨_, Heap.get?_push_size _ rfl, rfl, rfl⟩, here.push _⟩
  · exact ⟨0, Nat.le_refl 0, setR_new_at (Heap.get?_push_of_some _ isSet)⟩
  · intro t c moved _ told
    obtain ⟨g, gs, dr, tk, sys⟩ := t
    cases (show gs = s.gens from moved.gens)
    cases (show dr = s.drawn from moved.drawn)
    cases (show sys = s.os from moved.os)
    show wpAny _ _ _ _ _ _
    apply wpAny_pure
    show wpAny _ _ (ret Value.none) _ _ _
    refine wpAny_pure (k g tk c told fun b o hb e => ?_)
    apply moved.heap b o _ (Heap.get?_push_of_some _ e)
    simp only [List.mem_cons, List.not_mem_nil, or_false, not_or]
    exact ⟨hb, Nat.ne_of_lt (Heap.lt_size e)⟩
theorem set_of_list {l : Addr} {its : Array Value} {Q : Value → Shared → Prop} (still : A.handled = none) (lst : s.heap.IsList l its) (nums : PyProof.Rows.IntsAre its.toList ns) (few : ns.length + 1 < scanBound)
    (k : ∀ (g : Heap) (tk c : Nat), SetR w g s.heap.objs.size (fun j => decide (j ∈ ns)) c → (∀ b o, s.heap.get? b = some o → g.get? b = some o) → Q (.ref s.heap.objs.size) { s with heap := g, toks := tk }) :
    wpAny (model P w) A (call (.type "set") [.ref l]) Q E s := by
  have ⟨_, _, mro⟩ := F.called_set.mro
  have made := F.called_set.made
  have self := F.called_set.sub
  have a1 := F.called_set.notType
  have a2 := F.called_set.canCreate
  have a3 := F.typeCall_set_1 (.ref l)
  have b1 := F.called_set.init.lookup
  have b2 := F.called_set.init.bind (.ref s.heap.objs.size)
  apply wpAny_call
  apply codeAny_of_tree
  show wpAny _ _ (callAny (.type "set") _) _ _ _
  refine wpAny_pure ⟨Code.quiet_builtin _ (by decide +kernel), codeAny_builtin F.entry_type_call ?_⟩
  rw [Around.under_plain (weight_type_call_type "set" [.ref l] []) rfl]
  repeat (any_goals (first | assumption | wp_step))
  -- made by __new__
  refine codeAny_mono (code_set_led1 (.ref l) (E := E) (Q₁ := fun u t => u = .ref s.heap.objs.size ∧ t = { s with heap := s.heap.push (bareSet w) }) ⟨rfl, rfl⟩) fun r t told => ?_
  match r, told with
  | .error _, told => exact told
  | .ok .next, told => exact told.elim
  | .ok .brk, told => exact told.elim
  | .ok .cont, told => exact told.elim
  | .ok (.ret _), told =>
  obtain ⟨rfl, rfl⟩ := told
  have here : (s.heap.push (bareSet w)).get? s.heap.objs.size = some (bareSet w) := Heap.get?_push_size _ rfl
  have kind : Shared.TypeIs { s with heap := s.heap.push (bareSet w) } (.ref s.heap.objs.size) "set" := ⟨_, here, rfl⟩
  repeat (any_goals (first | assumption | wp_step))
  refine codeAny_mono (set_takes (R := wants (fun u t => u = .none ∧ ∃ g tk c, t = { s with heap := g, toks := tk } ∧ SetR w g s.heap.objs.size (fun j => decide (j ∈ ns)) c ∧ ∀ b o, s.heap.get? b = some o → g.get? b = some o) E) (by simpa using still) (lst.push _) nums few ?apart here ?done) fun r t told => ?_
  case apart =>
    obtain ⟨_, e, _⟩ := lst
    exact Nat.ne_of_lt (Heap.lt_size e)
  case done =>
    intro g tk c told kept
    exact ⟨rfl, g, tk, c, rfl, told, fun b o e => kept b o (Nat.ne_of_lt (Heap.lt_size e)) (Heap.get?_push_of_some _ e)⟩
  match r, told with
  | .error _, told => exact told
  | .ok .next, told => exact told.elim
  | .ok .brk, told => exact told.elim
  | .ok .cont, told => exact told.elim
  | .ok (.ret _), told =>
  obtain ⟨rfl, g, tk, c, rfl, isR, kept⟩ := told
  repeat (any_goals (first | assumption | wp_step))
  exact k g tk c isR kept
end
end DL
/-! len(set(xs)), sorted(set(xs)); min, max of two; range of three; xs.count(k). -/
namespace DL
open PySem PySem.Spec L2
section
variable {X : Cx} {e : Expr} {fe : FE} {p p2 q pos : Pos}
def rSetI (X : Cx) : List V → Hp → VK → Prop := fun xs H Q => ∃ (l : Addr) (ns : List Int), xs = [.ref l] ∧ (SqL X.K H l (ns.map V.int) ∨ SqT X.K H l (ns.map V.int)) ∧ ns.length ≤ 4000 ∧
  ∀ p, H p = none → Q (.ref p) (upd H p (SetO X.w p (fun j => decide (j ∈ ns)) (ascend ns).length))
theorem cr_setI (calm : X.calm = true) : CallR X (.type "set") (rSetI X) := by
  rintro pins s σ H _ us Q I r ⟨l, ns, rfl, seq, few, k⟩
  rw [Vals.ref1 r]
  have few' : ns.length + 1 < scanBound := by unfold scanBound; omega
  have fin : ∀ (g : Heap) (tk c : Nat), SetR X.w g s.heap.objs.size (fun j => decide (j ∈ ns)) c → (∀ b o, s.heap.get? b = some o → g.get? b = some o) →
      EP X pins σ Q (.ref s.heap.objs.size) { s with heap := g, toks := tk } := fun g tk c R kept => by
    have := setR_count R
    subst this
    exact ⟨.ref _, _, I.laid (t' := tk) kept (Nat.le_refl _) (setO_new R), rfl, k _ (I.hok.fresh (Nat.le_refl _))⟩
  rcases seq with lst | tup
  · obtain ⟨its, rv, at_, _⟩ := I.list lst
    exact set_of_list (I.ok.hd calm) at_.isList (intsAre_of rv) few' fin
  · obtain ⟨its, rv, at_, _⟩ := I.tuple tup
    exact call_set_tupI ns (I.ok.hd calm) at_ (intsAre_of rv) few' fun g tk c R _ kept => fin g tk c R kept
def rLenSet (X : Cx) : List V → Hp → VK → Prop := fun xs H Q => ∃ (a : Addr) (S : Int → Bool) (n : Nat), xs = [.ref a] ∧ H a = some (SetO X.w a S n) ∧ Q (.int n) H
theorem cr_lenSet : CallR X (.builtin "len") (rLenSet X) := by
  rintro pins s σ H _ us Q I r ⟨a, S, n, rfl, at_, k⟩
  rw [Vals.ref1 r]
  obtain ⟨ob, es, ep, t, here, ex, dat, _, _, _, small, fits, size, _⟩ := setO_get I at_
  have lt : (es.size : Int) < 2 ^ 63 := by unfold scanBound at small; omega
  exact call_len_set here ex dat fits lt ⟨.int n, H, I.tok _, ⟨_, by rw [size]⟩, k⟩
theorem boot_set' : bootBuiltins "set" = some (.type "set") := by decide +kernel
theorem boot_len' : bootBuiltins "len" = some (.builtin "len") := by decide +kernel
def intsIn (d : D) : Option (List Int) := (seqOf d).bind intsOf
theorem Rep.intsIn {K : PySem.W.Frag} {H : Hp} {d : D} {v : V} {p : List Addr} {ns : List Int} (r : Rep K H d v p) (e : DL.intsIn d = some ns) : ∃ a, v = .ref a ∧ (SqL K H a (ns.map V.int) ∨ SqT K H a (ns.map V.int)) := by
  obtain ⟨ds, e1, e2⟩ := Option.bind_eq_some_iff.mp e
  obtain ⟨a, vs, g, rfl, seq, rl, _⟩ := r.seq e1
  obtain ⟨rfl, _⟩ := rl.ints e2
  exact ⟨a, rfl, seq⟩
def fSetLen (f : FE) : FE := fun ρ => (f ρ).bind fun (r, ρ1) => (cont ρ1 r).bind fun d => (intsIn d).bind fun ns => if ns.length ≤ 4000 then some (.val (.int (ascend ns).length), ρ1) else none
def fSetSorted (f : FE) : FE := fun ρ => (f ρ).bind fun (r, ρ1) => (cont ρ1 r).bind fun d => (intsIn d).bind fun ns => if ns.length ≤ 4000 ∧ (ascend ns).length < 64 then some (.val (.lst ((ascend ns).map .int)), ρ1) else none
theorem de_setLen (calm : X.calm = true) (hg : Gl X "len") (hm : X.mg "len" = none) (hg2 : Gl X "set") (hm2 : X.mg "set" = none) (h : DE X e fe)
    (h1 : starEach [e] X.env = (false, eval e X.env) :: starEach [] X.env := by rfl) (h2 : starEach [.Call (.Name "set" p2) [e] [] q] X.env = (false, eval (.Call (.Name "set" p2) [e] [] q) X.env) :: starEach [] X.env := by rfl) :
    DE X (.Call (.Name "len" p) [.Call (.Name "set" p2) [e] [] q] [] pos) (fSetLen fe) :=
  ⟨pe_weak (pe_callB cr_lenSet hg hm boot_len' (pa_cons (pe_callTy (cr_setI calm) hg2 hm2 boot_set' (pa_cons h.pe pa_nil h1) (by decide) (by decide) h1 (by rfl)) pa_nil h2) (by decide) (by decide) h2 (by rfl)) fun σ H Q ⟨ρ, F, r', ρ', E, nd, ef, k⟩ => by
    obtain ⟨⟨r, ρ1⟩, e1, ef⟩ := Option.bind_eq_some_iff.mp ef
    obtain ⟨d, e2, ef⟩ := Option.bind_eq_some_iff.mp ef
    obtain ⟨ns, e3, ef⟩ := Option.bind_eq_some_iff.mp ef
    obtain ⟨few, ef⟩ := if_some ef
    cases ef
    refine ⟨ρ, F, r, ρ', E, nd, e1, fun v H1 g F1 r1 E1 N1 S1 => ?_⟩
    obtain ⟨p, q1, _⟩ := r1.cont E1 e2
    obtain ⟨a, rfl, seq⟩ := q1.intsIn e3
    refine ⟨a, ns, rfl, seq, few, fun t ht => ⟨t, _, _, rfl, upd_same, ?_⟩⟩
    have sm := upd_same_of (o := SetO X.w t (fun j => decide (j ∈ ns)) (ascend ns).length) ht
    refine k _ _ [] F1 ⟨rfl, rfl⟩ (E1.keep (Same.keep sm)) (by simpa using (nodup3 N1).2.1) (S1.fresh (h := []) sm (by simp) fun b hb => List.mem_append_right _ hb)⟩
/-! ### min, max of two -/
def dMin2 : List D → Option D
  | [.int i, .int j] => some (.int (if j < i then j else i))
  | _ => none
def dMax2 : List D → Option D
  | [.int i, .int j] => some (.int (if j > i then j else i))
  | _ => none
end
end DL
/-! for x in xs: .., where xs is a name's own list and x's things are changed in their places. -/
namespace DL
open PySem PySem.Spec L2
def loopM (i j : Nat) (fb : FS) : List D → List D → FS
  | done, [], ρ => some (.nx, ρ.set i (some (.lst done)))
  | done, d :: rest, ρ => if j < ρ.length then (fb (ρ.set j (some d))).bind fun (o, ρ2) => (slot ρ2 j).bind fun d' => match o with
    | .nx => loopM i j fb (done ++ [d']) rest (ρ2.set j none)
    | .ct => loopM i j fb (done ++ [d']) rest (ρ2.set j none)
    | .bk => none
    | .ret r => if imm r = true then some (.ret r, (ρ2.set j none).set i (some (.lst (done ++ d' :: rest)))) else none
    else none
def fForM (i j : Nat) (fb : FS) : FS := fun ρ => match slot ρ i with
  | some (.lst ds) => loopM i j fb [] ds (ρ.set i none)
  | _ => none
/-- over a name's own list so, over a thing that stands still as ever -/
def fForN (i j : Nat) (fb : FS) : FS := fun ρ => match slot ρ i with
  | some (.lst ds) => loopM i j fb [] ds (ρ.set i none)
  | _ => fFor (fSeqI (fVar i)) (fgName j) fb ρ
section
variable {X : Cx} {l tg : Expr} {body : List Stmt} {fb : FS} {W : List Nat} {pos : Pos} {i j : Nat}
/-! ### an item of a display taken out of it -/
/-- [x, ..][k], the items may be such as are changed -/
def fPick (fa fb : FE) : FE := fun ρ => (fa ρ).bind fun (x, ρ1) => (fb ρ1).bind fun (y, ρ2) => match x, cont ρ2 y with
  | .val (.lst ds), some (.int i) => (atI ds i).map fun d => (.val d, ρ2)
  | _, _ => none
end
end DL
/-! for a, b in zip(x, y): lists that stand still and tuples, in any mix. -/
namespace DL
open PySem PySem.Spec L2
/-- one side of it: a tuple, else a list -/
def SqK (tup : Bool) (K : PySem.W.Frag) (H : Hp) (a : Addr) (vs : List V) : Prop := match tup with
  | true => SqT K H a vs
  | false => SqL K H a vs
/-- pairs, as far as both go -/
def zipped (ds es : List D) : List D := List.zipWith (fun d e => .tup [d, e]) ds es
def fZip (fr : FA) : FI := fun ρ => (fr ρ).bind fun (rs, ρ1) => (conts ρ1 rs).bind fun ds => match ds with
  | [x, y] => (seqS x).bind fun ds => (seqS y).map fun es => (zipped ds es, ρ1)
  | _ => none
where
  /-- what stands still -/
  seqS : D → Option (List D)
    | .tup ds => if immL ds = true then some ds else none
    | .flst ds => if immL ds = true then some ds else none
    | _ => none
section
variable {K : PySem.W.Frag}
/-- such a thing at any later time -/
def StillS (K : PySem.W.Frag) (k : Bool) (a : Addr) (vs : List V) (ds : List D) (H : Hp) : Prop := (match k with
  | true => TupR K H a vs
  | false => SqF K H a vs) ∧ RepL K H ds vs []
theorem StillS.keep {k : Bool} {a : Addr} {vs : List V} {ds : List D} {H G : Hp} (h : StillS K k a vs ds H) (kp : Keep H [] G) : StillS K k a vs ds G := by
  cases k with
  | true => exact ⟨tupR_keep h.1 kp, RepL.keep _ _ _ h.2 kp⟩
  | false => exact ⟨SqF.keep h.1 kp, RepL.keep _ _ _ h.2 kp⟩
theorem StillS.sq {k : Bool} {a : Addr} {vs : List V} {ds : List D} {H : Hp} (h : StillS K k a vs ds H) : SqK k K H a vs := by
  cases k with
  | true => exact h.1.sq
  | false => exact h.1.seq
end
end DL
namespace DL
open PySem PySem.Spec L2
/-! ### a name's list made longer by another name's whole numbers, which stay there -/
end DL
namespace DL
open PySem PySem.Spec L2 PyProof.Rows
/-! ### a tuple times a whole number -/
end DL
/-! tuple(range(n)), tuple(range(i, j, c)), list(range(i, j, c)), by steps above nought. -/
namespace DL
open PySem PySem.Spec L2 PyProof.Rows
def stepN (i j c : Int) : Nat := if i < j then ((j - i - 1) / c + 1).toNat else 0
def stepOk (i j c : Int) : Bool := okR i && okR j && decide (0 < c) && decide (c < 1000000) && decide (stepN i j c ≤ 2 ^ 24)
def stepD (i c : Int) (n : Nat) : List D := (List.range n).map fun k => D.int (i + (k : Nat) * c)
/-! ### meanings -/
def fTupRg1 (fa : FE) : FE := fun ρ => (fa ρ).bind fun (r, ρ1) => (cont ρ1 r).bind fun d => match d with
  | .int j => if stepOk 0 j 1 = true then some (.val (.tup (stepD 0 1 (stepN 0 j 1))), ρ1) else none
  | _ => none
def dSt : List D → Option (Int × Int × Nat)
  | [.int i, .int j, .int c] => if stepOk i j c = true then some (i, c, stepN i j c) else none
  | _ => none
def fTupRg3 (fr : FA) : FE := fun ρ => (fr ρ).bind fun (rs, ρ1) => (conts ρ1 rs).bind fun ds => (dSt ds).map fun z => (.val (.tup (stepD z.1 z.2.1 z.2.2)), ρ1)
def fLstRg3 (fr : FA) : FE := fun ρ => (fr ρ).bind fun (rs, ρ1) => (conts ρ1 rs).bind fun ds => (dSt ds).map fun z => (.val (.lst (stepD z.1 z.2.1 z.2.2)), ρ1)
end DL
/-! min of a list of data that can be put in order. -/
namespace DL
open PySem PySem.Spec L2
mutual
/-- numbers, texts, truths, tuples of such -/
def plain : D → Bool
  | .bl _ => true | .int _ => true | .str _ => true
  | .tup ds => plainL ds
  | _ => false
def plainL : List D → Bool
  | [] => true
  | d :: ds => plain d && plainL ds
end
end DL
/-! A list's count of a number; tuple(range(a, b)). -/
namespace DL
open PySem PySem.Spec L2 PyProof.Rows
section
variable {K : PySem.W.Frag} {X : Cx}
/-- a, b, .. = a list of so many -/
def fgLst (n : Nat) (fs : FGs) : FG := fun d ρ => match d with
  | .lst ds => if ds.length = n then fs ds ρ else none
  | _ => none
variable {a b : Expr} {ta : TA} {fr : FA} {p p2 pos pos2 : Pos}
def dSt2 : List D → Option (Int × Nat)
  | [.int i, .int j] => if stepOk i j 1 = true then some (i, stepN i j 1) else none
  | _ => none
def fTupRg2 (fr : FA) : FE := fun ρ => (fr ρ).bind fun (rs, ρ1) => (conts ρ1 rs).bind fun ds => (dSt2 ds).map fun z => (.val (.tup (stepD z.1 1 z.2)), ρ1)
end
/-! ### list + list, one of them standing still -/
theorem two_lists {l b : Addr} {xs ys : Array Value} {n m : Nat} {u v : Array (Option Value)} (few : xs.size + ys.size ≤ sizeLine) :
    Meets (Builtin.«list.__add__» ⟨[.ref l, .ref b], []⟩) fun _ R s => s.heap.get? l = some ⟨.type "list", none, .seq xs n, u⟩ ∧ s.heap.get? b = some ⟨.type "list", none, .seq ys m, v⟩ ∧
      R (.ok (.ret (.ref s.heap.objs.size))) { s with heap := s.heap.push ⟨.type "list", none, .seq (xs ++ ys) 0, #[]⟩ } := by
  apply Meets.of_wp
  rintro prog w A R ⟨heap, gens, drawn, toks, os⟩ ⟨at1, at2, fin⟩
  have isl := PySem.F.sub_list_list
  wp_walk using wpAny_loadPart' at1, wpAny_loadPart' at2
  exact ⟨_, rfl, fin⟩
def rCatS (K : PySem.W.Frag) : R2 := fun x y H Q => ∃ (l b : Addr) (xs ys : List V), x = .ref l ∧ y = .ref b ∧ SqL K H l xs ∧ SqL K H b ys ∧ xs.length + ys.length ≤ sizeLine ∧ ∀ p, H p = none → Q (.ref p) (upd H p (.lst (xs ++ ys)))
section
variable {X : Cx} {K : PySem.W.Frag}
theorem op_catS : OpR X (binaryOp .Add) (rCatS X.K) := by
  rintro pins s σ H _ _ v u Q I rx ry ⟨l, b, xs, ys, rfl, rfl, h1, h2, few, q⟩
  cases rx
  cases ry
  obtain ⟨us, r1, ⟨⟨c1, d1, t1, p1⟩, n1, g1, e1, f1, k1⟩, _⟩ := I.list h1
  obtain ⟨vs, r2, ⟨⟨c2, d2, t2, p2⟩, n2, g2, e2, f2, k2⟩, _⟩ := I.list h2
  simp only at e1 f1 k1 e2 f2 k2
  subst e1 f1 k1 e2 f2 k2
  have few' : us.toArray.size + vs.toArray.size ≤ sizeLine := by
    rw [List.size_toArray, List.size_toArray, ← r1.length, ← r2.length]; exact few
  refine concat_meets ⟨_, g1, rfl⟩ ⟨_, g2, rfl⟩ noFill_list_add seq_list_add PySem.F.slot_list_add PySem.F.entry_list_add (PySem.F.args_list_add_2 _ _) (two_lists few') ⟨g1, g2, ?_⟩
  have both : us.toArray ++ vs.toArray = (us ++ vs).toArray := by simp
  rw [both]
  exact ⟨.ref s.heap.objs.size, upd H s.heap.objs.size (.lst (xs ++ ys)), I.lnew (t' := s.toks) (r1.append r2) (by rw [List.length_append]; exact few), rfl, q _ I.fresh⟩
def dCatS : D → D → Option D := fun x y => (lstOf x).bind fun a => (lstOf y).bind fun b => if (immL a && immL b) = true ∧ a.length + b.length ≤ sizeLine then some (.lst (a ++ b)) else none
theorem o2_catS : Op2 K (rCatS K) dCatS := by
  intro H x y v w p q z Q r1 r2 e h
  obtain ⟨a, e1, e⟩ := Option.bind_eq_some_iff.mp e
  obtain ⟨b, e2, e⟩ := Option.bind_eq_some_iff.mp e
  obtain ⟨⟨c, few⟩, rfl⟩ := if_some e
  rw [Bool.and_eq_true] at c
  obtain ⟨la, va, ga, rfl, sa, ra, _⟩ := r1.sqL e1
  obtain ⟨lb, vb, gb, rfl, sb, rb, _⟩ := r2.sqL e2
  refine ⟨la, lb, va, vb, rfl, rfl, sa, sb, by rw [ra.length, rb.length]; exact few, fun t free => ?_⟩
  have sm := upd_same_of (o := .lst (va ++ vb)) free
  have kept : ∀ {ds : List D} {vs : List V} {g : List Addr}, RepL K H ds vs g → immL ds = true → RepL K (upd H t (.lst (va ++ vb))) ds vs [] := fun r i => RepL.keep _ _ _ (r.nil_of i) (Same.keep sm)
  exact h _ _ [t] ⟨t, va ++ vb, [], rfl, upd_same, rfl, (kept ra c.1).append (kept rb c.2)⟩ (by simp) (by simpa using free) sm
end
end DL
/-! sorted of a tuple of numbers. -/
namespace DL
open PySem PySem.Spec L2 PyProof.Rows
end DL
/-! d.get(k, x); list(d.values()). -/
namespace DL
open PySem PySem.Spec L2 PyProof.Rows
end DL
/-! More of the layer: a list emptied in its place. -/
namespace DL
open PySem PySem.Spec L2
section
variable {K : PySem.W.Frag}
def mClear : D → List D → Option (D × D)
  | .lst _, [] => some (.lst [], .non)
  | _, _ => none
end
/-! ### ranges by any step -/
open PyProof.Rows
def rangeN (i j c : Int) : Nat := (Builtin.Range.rangeSize i j c).toNat
def rangeOk (i j c : Int) : Bool := decide (c ≠ 0) && decide (c.natAbs < 1073741824) && Builtin.Range.small i j c && decide (0 ≤ Builtin.Range.rangeSize i j c) && decide (Builtin.Range.rangeSize i j c ≤ 16777216)
def dRg : List D → Option (Int × Int × Nat)
  | [.int i, .int j, .int c] => if rangeOk i j c = true then some (i, c, rangeN i j c) else none
  | _ => none
def fLstRgC (fr : FA) : FE := fun ρ => (fr ρ).bind fun (rs, ρ1) => (conts ρ1 rs).bind fun ds => (dRg ds).map fun z => (.val (.lst (stepD z.1 z.2.1 z.2.2)), ρ1)
def fRng3 (fr : FA) : FI := fun ρ => (fr ρ).bind fun (rs, ρ1) => (conts ρ1 rs).bind fun ds => (dRg ds).map fun z => (stepD z.1 z.2.1 z.2.2, ρ1)
end DL
/-! The keys of a dict that stands still, one by one. -/
namespace DL
open PySem PySem.Spec L2
end DL
/-! Three names told at once. -/
namespace DL
open PySem PySem.Spec L2
end DL
/-! A number shifted up. -/
namespace DL
open PySem PySem.Spec L2
end DL
/-! [e for x in xs if c], where xs is a name's own list, whose things stand still, and neither e nor c asks for xs. -/
namespace DL
open PySem PySem.Spec L2
end DL
/-! A name's list is changed by things for which the name itself is asked. -/
namespace DL
open PySem PySem.Spec L2
end DL
/-! Whether data are among a tuple's. -/
namespace DL
open PySem PySem.Spec L2
end DL
/-! Exceptions of the program: expressions and statements that may end with one. -/
namespace DL
open PySem PySem.Spec L2
/-- an exception: its class's name, its fields -/
structure XD where
  cls : Str
  fs : List (Key × D)
/-- the exception of this class, whose dict stands at d, is x -/
def XRep (K : PySem.W.Frag) (mg : Str → Option Value) (H : Hp) (x : XD) (cls : Value) (d : Option Addr) : Prop :=
  ∃ (C dd : Addr) (ws : List (Key × V)), mg x.cls = some (.ref C) ∧ cls = .ref C ∧ d = some dd ∧ H dd = some (.xd (xdOf ws)) ∧ RepK K H x.fs ws [] ∧ immK x.fs = true
theorem XRep.keep {K : PySem.W.Frag} {mg : Str → Option Value} {H H' : Hp} {x : XD} {cls : Value} {d : Option Addr} {f : List Addr} (h : XRep K mg H x cls d) (k : Keep H f H') : XRep K mg H' x cls d := by
  obtain ⟨C, dd, ws, a, b, c, e, r, i⟩ := h
  exact ⟨C, dd, ws, a, b, c, k dd _ e (.inl (by rw [e]; exact id)), RepK.keep _ _ _ r (k.sub fun a ha => by cases ha), i⟩
/-- a plain end, or an exception -/
inductive RX where
  | ok (r : R) | up (x : XD)
inductive AX where
  | ok (rs : List R) | up (x : XD)
inductive FlX where
  | go (o : Fl) | up (x : XD)
abbrev FEX := Fm → Option (RX × Fm)
abbrev FAX := Fm → Option (AX × Fm)
abbrev FSX := Fm → Option (FlX × Fm)
/-- what is to be shown where an exception flies -/
def UpP (K : PySem.W.Frag) (mg : Str → Option Value) (Wx : WX) (σ : L2.St) (H : Hp) (F : List Addr) (x : XD) (ρ' : Fm) : Prop := ∀ cls d H' F', XRep K mg H' x cls d → EnvR K H' ρ' σ F' → F'.Nodup → Step H F H' F' → Wx cls d σ H'
theorem UpP.step {K : PySem.W.Frag} {mg : Str → Option Value} {Wx : WX} {σ : L2.St} {H H1 : Hp} {F F1 : List Addr} {x : XD} {ρ' : Fm} (h : UpP K mg Wx σ H F x ρ') (S : Step H F H1 F1) : UpP K mg Wx σ H1 F1 x ρ' := fun cls d H' F' a b c e => h cls d H' F' a b c (S.trans e)
def rdEX (K : PySem.W.Frag) (mg : Str → Option Value) (Wx : WX) (f : FEX) : TE := fun σ H Q => ∃ ρ F r ρ', EnvR K H ρ σ F ∧ F.Nodup ∧ f ρ = some (r, ρ') ∧ match r with
  | .ok r => ∀ v H' g F', RepR K H' σ r v g → EnvR K H' ρ' σ F' → (g ++ F').Nodup → Step H F H' (g ++ F') → Q v H'
  | .up x => UpP K mg Wx σ H F x ρ'
def rdAX (K : PySem.W.Frag) (mg : Str → Option Value) (Wx : WX) (f : FAX) : TA := fun σ H Q => ∃ ρ F r ρ', EnvR K H ρ σ F ∧ F.Nodup ∧ f ρ = some (r, ρ') ∧ match r with
  | .ok rs => ∀ vs H' g F', RepRs K H' σ rs vs g → EnvR K H' ρ' σ F' → (g ++ F').Nodup → Step H F H' (g ++ F') → Q vs H'
  | .up x => UpP K mg Wx σ H F x ρ'
/-- what is to be shown at a statement's end -/
def PostX (K : PySem.W.Frag) (mg : Str → Option Value) (Wx : WX) (W : List Nat) (Dn : Ends) (σ : L2.St) (H : Hp) (F : List Addr) (o : FlX) (ρ' : Fm) : Prop := match o with
  | .go o => Post K W Dn σ H F o ρ'
  | .up x => ∀ σ', (∀ j, j ∉ W → σ'[j]? = σ[j]?) → UpP K mg Wx σ' H F x ρ'
def rdSX (K : PySem.W.Frag) (mg : Str → Option Value) (Wx : WX) (W : List Nat) (f : FSX) : TS := fun Dn σ H => ∃ ρ F o ρ', EnvR K H ρ σ F ∧ F.Nodup ∧ f ρ = some (o, ρ') ∧ PostX K mg Wx W Dn σ H F o ρ'
structure DEX (X : Cx) (Wx : WX) (e : Expr) (f : FEX) : Prop where
  pe : PE X e (rdEX X.K X.mg Wx f)
structure DAX (X : Cx) (Wx : WX) (es : List Expr) (f : FAX) : Prop where
  pa : PA X es (rdAX X.K X.mg Wx f)
structure DSX (X : Cx) (Wx : WX) (W : List Nat) (st : Stmt) (f : FSX) : Prop where
  ps : PS X st (rdSX X.K X.mg Wx W f)
structure DSsX (X : Cx) (Wx : WX) (W : List Nat) (st : List Stmt) (f : FSX) : Prop where
  pss : PSs X st (rdSX X.K X.mg Wx W f)
theorem PostX.mono {K : PySem.W.Frag} {mg : Str → Option Value} {Wx : WX} {W W' : List Nat} {Dn : Ends} {σ : L2.St} {H : Hp} {F : List Addr} {o : FlX} {ρ' : Fm} (h : PostX K mg Wx W' Dn σ H F o ρ') (hs : ∀ j, j ∈ W → j ∈ W') : PostX K mg Wx W Dn σ H F o ρ' := by
  cases o with
  | go o => exact Post.mono h hs
  | up x => exact fun σ' w => h σ' fun j hj => w j fun z => hj (hs j z)
theorem PostX.after {K : PySem.W.Frag} {mg : Str → Option Value} {Wx : WX} {W1 W2 : List Nat} {Dn : Ends} {σ σ1 : L2.St} {H H1 : Hp} {F F1 : List Addr} {o : FlX} {ρ' : Fm} (h : PostX K mg Wx (W1 ++ W2) Dn σ H F o ρ') (S : Step H F H1 F1) (hw : ∀ j, j ∉ W1 → σ1[j]? = σ[j]?) : PostX K mg Wx W2 Dn σ1 H1 F1 o ρ' := by
  cases o with
  | go o => exact Post.after h S hw
  | up x =>
    refine fun σ' w => (h σ' fun j hj => ?_).step S
    rw [List.mem_append, not_or] at hj
    rw [w j hj.2, hw j hj.1]
theorem PostX.step {K : PySem.W.Frag} {mg : Str → Option Value} {Wx : WX} {W : List Nat} {Dn : Ends} {σ : L2.St} {H H1 : Hp} {F F1 : List Addr} {o : FlX} {ρ' : Fm} (h : PostX K mg Wx W Dn σ H F o ρ') (S : Step H F H1 F1) : PostX K mg Wx W Dn σ H1 F1 o ρ' :=
  PostX.after (W1 := []) h S fun _ _ => rfl
/-! ### plain ones -/
def xE (f : FE) : FEX := fun ρ => (f ρ).map fun (r, ρ1) => (.ok r, ρ1)
def xA (f : FA) : FAX := fun ρ => (f ρ).map fun (r, ρ1) => (.ok r, ρ1)
def xS (f : FS) : FSX := fun ρ => (f ρ).map fun (o, ρ1) => (.go o, ρ1)
section
variable {X : Cx} {Wx : WX} {e a b c : Expr} {es : List Expr} {st : Stmt} {rest : List Stmt} {fe : FE} {fr : FA} {ft : FT} {f g : FSX} {fx gx : FEX} {ax : FAX} {W W1 W2 : List Nat} {pos : Pos}
theorem dex_of (h : DE X e fe) : DEX X Wx e (xE fe) := ⟨pe_weak h.pe fun σ H Q ⟨ρ, F, r, ρ', E, nd, ef, k⟩ => by
  obtain ⟨⟨r0, ρ1⟩, e1, ef⟩ := Option.map_eq_some_iff.mp ef
  cases ef
  exact ⟨ρ, F, r0, ρ', E, nd, e1, k⟩⟩
theorem dax_of (h : DA X es fr) : DAX X Wx es (xA fr) := ⟨pa_weak h.pa fun σ H Q ⟨ρ, F, r, ρ', E, nd, ef, k⟩ => by
  obtain ⟨⟨r0, ρ1⟩, e1, ef⟩ := Option.map_eq_some_iff.mp ef
  cases ef
  exact ⟨ρ, F, r0, ρ', E, nd, e1, k⟩⟩
theorem dsx_of {fs : FS} (h : DS X W st fs) : DSX X Wx W st (xS fs) := ⟨ps_weak h.ps fun Dn σ H ⟨ρ, F, o, ρ', E, nd, ef, k⟩ => by
  obtain ⟨⟨o0, ρ1⟩, e1, ef⟩ := Option.map_eq_some_iff.mp ef
  cases ef
  exact ⟨ρ, F, o0, ρ', E, nd, e1, k⟩⟩
theorem dssx_of {fs : FS} {sts : List Stmt} (h : DSs X W sts fs) : DSsX X Wx W sts (xS fs) := ⟨pss_weak h.pss fun Dn σ H ⟨ρ, F, o, ρ', E, nd, ef, k⟩ => by
  obtain ⟨⟨o0, ρ1⟩, e1, ef⟩ := Option.map_eq_some_iff.mp ef
  cases ef
  exact ⟨ρ, F, o0, ρ', E, nd, e1, k⟩⟩
/-! ### one after another; if -/
def xSeq (f g : FSX) : FSX := fun ρ => (f ρ).bind fun (o, ρ1) => match o with
  | .go .nx => g ρ1
  | o => some (o, ρ1)
theorem dssx_one (h : DSX X Wx W st f) : DSsX X Wx W [st] f := ⟨pss_one h.ps⟩
theorem dssx_cons (h1 : DSX X Wx W1 st f) (h2 : DSsX X Wx W2 rest g) : DSsX X Wx (W1 ++ W2) (st :: rest) (xSeq f g) := ⟨pss_weak (pss_cons h1.ps h2.pss) fun Dn σ H ⟨ρ, F, o, ρ', E, nd, ef, k⟩ => by
  obtain ⟨⟨o1, ρ1⟩, e1, ef⟩ := Option.bind_eq_some_iff.mp ef
  refine ⟨ρ, F, o1, ρ1, E, nd, e1, ?_⟩
  match o1, ef with
  | .go .nx, ef => exact fun σ1 H1 F1 E1 N1 S1 w1 => ⟨ρ1, F1, o, ρ', E1, N1, ef, k.after S1 w1⟩
  | .go .bk, ef => cases ef; exact k.mono fun j hj => List.mem_append_left _ hj
  | .go .ct, ef => cases ef; exact k.mono fun j hj => List.mem_append_left _ hj
  | .go (.ret d), ef => cases ef; exact k.mono fun j hj => List.mem_append_left _ hj
  | .up x, ef => cases ef; exact k.mono fun j hj => List.mem_append_left _ hj⟩
def xIfS (ft : FT) (f g : FSX) : FSX := fun ρ => (ft ρ).bind fun (k, ρ1) => if k then f ρ1 else g ρ1
theorem dsx_if {a b : List Stmt} (hc : DT X c ft) (ha : DSsX X Wx W1 a f) (hb : DSsX X Wx W2 b g) : DSX X Wx (W1 ++ W2) (.If c a b pos) (xIfS ft f g) := ⟨ps_weak (ps_if hc.pt ha.pss hb.pss) fun Dn σ H ⟨ρ, F, o, ρ', E, nd, ef, k⟩ => by
  obtain ⟨⟨k1, ρ1⟩, e1, ef⟩ := Option.bind_eq_some_iff.mp ef
  refine ⟨ρ, F, k1, ρ1, E, nd, e1, fun H' F' E1 N1 S1 => ?_⟩
  cases k1 with
  | true =>
    rw [if_pos rfl]
    exact ⟨ρ1, F', o, ρ', E1, N1, ef, (k.mono fun j hj => List.mem_append_left _ hj).step S1⟩
  | false =>
    simp only [if_neg Bool.false_ne_true]
    exact ⟨ρ1, F', o, ρ', E1, N1, ef, (k.mono fun j hj => List.mem_append_right _ hj).step S1⟩⟩
/-! ### arguments, displays -/
def xCons (f : FEX) (fr : FAX) : FAX := fun ρ => (f ρ).bind fun (x, ρ1) => match x with
  | .ok r => (fr ρ1).map fun (rs, ρ2) => match rs with
    | .ok rs => (.ok (r :: rs), ρ2)
    | .up x => (.up x, ρ2)
  | .up x => some (.up x, ρ1)
theorem dax_cons (ha : DEX X Wx e fx) (hr : DAX X Wx es ax) (hs : starEach (e :: es) X.env = (false, eval e X.env) :: starEach es X.env := by rfl) : DAX X Wx (e :: es) (xCons fx ax) :=
  ⟨pa_weak (pa_cons ha.pe hr.pa hs) fun σ H Q ⟨ρ, F, r, ρ2, E, nd, ef, k⟩ => by
    obtain ⟨⟨x, ρ1⟩, e1, ef⟩ := Option.bind_eq_some_iff.mp ef
    match x, ef with
    | .up x, ef =>
      cases ef
      exact ⟨ρ, F, .up x, ρ2, E, nd, e1, k⟩
    | .ok r1, ef =>
      obtain ⟨⟨rs, ρ3⟩, e2, ef⟩ := Option.map_eq_some_iff.mp ef
      refine ⟨ρ, F, .ok r1, ρ1, E, nd, e1, fun v H1 g F1 rp E1 N1 S1 => ⟨ρ1, F1, rs, ρ3, E1, (nodup3 N1).2.1, e2, ?_⟩⟩
      obtain ⟨n1, n2, n3⟩ := nodup3 N1
      have S1' : Step H F H1 F1 := S1.to fun a ha => .inl (List.mem_append_right _ ha)
      match rs, ef with
      | .up x, ef =>
        cases ef
        exact UpP.step k S1'
      | .ok rs, ef =>
        cases ef
        intro ws H2 g2 F2 r2 E2 N2 S2
        refine k (v :: ws) H2 (g ++ g2) F2 ⟨v, ws, g, g2, rfl, rfl, rp.keep (S2.keep E1.mut n3), r2⟩ E2 (by rw [List.append_assoc]; exact nodup_of n1 N2 (S2.apart rp.mut n3)) fun p u e n => ?_
        obtain ⟨e1', q1⟩ := S1 p u e n
        obtain ⟨e2', q2⟩ := S2 p u e1' fun z => q1 (List.mem_append_right _ z)
        exact ⟨e2', fun z => by
          rw [List.append_assoc] at z
          exact (List.mem_append.mp z).elim (fun z => q1 (List.mem_append_left _ z)) q2⟩⟩
def xTup (fr : FAX) : FEX := fun ρ => (fr ρ).bind fun (rs, ρ1) => match rs with
  | .ok rs => (takes ρ1 rs).bind fun (ds, ρ2) => if ds.length ≤ sizeLine then some (.ok (.val (.tup ds)), ρ2) else none
  | .up x => some (.up x, ρ1)
theorem dex_tup {k : Nat} (h : DAX X Wx es ax) : DEX X Wx (.Tuple es k pos) (xTup ax) := ⟨pe_weak (pe_tupF h.pa) fun σ H Q ⟨ρ, F, r, ρ2, E, nd, ef, k⟩ => by
  obtain ⟨⟨rs, ρ1⟩, e1, e⟩ := Option.bind_eq_some_iff.mp ef
  match rs, e with
  | .up x, e =>
    cases e
    exact ⟨ρ, F, .up x, ρ2, E, nd, e1, k⟩
  | .ok rs, e =>
    obtain ⟨⟨ds, ρ3⟩, e2, e⟩ := Option.bind_eq_some_iff.mp e
    obtain ⟨hl, e⟩ := if_some e
    cases e
    refine ⟨ρ, F, .ok rs, ρ1, E, nd, e1, fun vs H' g F' r1 E1 N1 S1 => ?_⟩
    obtain ⟨p, F2, r2, E2, N2, s2⟩ := r1.takes E1 N1 e2
    refine ⟨by rw [r2.length]; exact hl, fun t o ht hd => ?_⟩
    have sm := upd_same_of (o := .frz o (.tup vs)) ht
    refine k _ _ p F2 ⟨t, vs, rfl, .inl ⟨o, upd_same, hd⟩, RepL.keep _ _ _ r2 (Same.keep sm)⟩ (E2.keep (Same.keep sm)) N2 fun b u eb nb => ?_
    obtain ⟨q1, q2⟩ := S1 b u eb nb
    exact ⟨sm b u q1, fun z => q2 (s2 b z)⟩⟩
/-! ### statements of one expression -/
def xDrop (fe : FEX) : FSX := fun ρ => (fe ρ).map fun (r, ρ1) => match r with
  | .ok _ => (.go .nx, ρ1)
  | .up x => (.up x, ρ1)
theorem UpP.here {K : PySem.W.Frag} {mg : Str → Option Value} {Wx : WX} {W : List Nat} {Dn : Ends} {σ : L2.St} {H : Hp} {F : List Addr} {x : XD} {ρ' : Fm} (h : PostX K mg Wx W Dn σ H F (.up x) ρ') : UpP K mg Wx σ H F x ρ' := h σ fun _ _ => rfl
def xRet (fe : FEX) : FSX := fun ρ => (fe ρ).bind fun (r, ρ1) => match r with
  | .ok r => (take1 ρ1 r).map fun (d, ρ2) => (.go (.ret d), ρ2)
  | .up x => some (.up x, ρ1)
def xAsg (fe : FEX) (fg : FG) : FSX := fun ρ => (fe ρ).bind fun (r, ρ1) => match r with
  | .ok r => (take1 ρ1 r).bind fun (d, ρ2) => (fg d ρ2).map fun ρ3 => (.go .nx, ρ3)
  | .up x => some (.up x, ρ1)
theorem dsx_set {i : Nat} {x : Str} {pos' : Pos} (hN : X.N.Nodup) (hi : X.N[i]? = some x) (hx : Loc X.env.scope x) (he : DEX X Wx e fx) (hs : swapsWith e (some (.Name x pos')) pos.line X.env = pure false := by rfl)
    (hf : X.fn x = true ∨ X.env.scope.names.lookup x = some .local := by first | exact .inl rfl | exact .inr rfl | assumption) : DSX X Wx [i] (.Assign [.Name x pos'] e pos) (xAsg fx (fgName i)) :=
  ⟨ps_weak (ps_set hN hi hx he.pe hs hf) fun Dn σ H ⟨ρ, F, o, ρ', E, nd, ef, k⟩ => by
    obtain ⟨⟨r, ρ1⟩, e1, ef⟩ := Option.bind_eq_some_iff.mp ef
    match r, ef with
    | .up x, ef =>
      cases ef
      exact ⟨ρ, F, .up x, ρ', E, nd, e1, UpP.here k⟩
    | .ok r, ef =>
      obtain ⟨⟨d, ρ2⟩, e2, ef⟩ := Option.bind_eq_some_iff.mp ef
      obtain ⟨ρ3, e3, ef⟩ := Option.map_eq_some_iff.mp ef
      cases ef
      refine ⟨ρ, F, .ok r, ρ1, E, nd, e1, fun v H' g F' r1 E1 N1 S1 => ?_⟩
      obtain ⟨p, F2, r2, E2, N2, s2⟩ := r1.take E1 N1 e2
      obtain ⟨c, rfl⟩ := if_some e3
      obtain ⟨F3, E3, N3, s3⟩ := E2.store r2 N2 c
      exact k _ H' F3 E3 N3 (S1.to fun a ha => .inl (s2 a (s3 a ha))) fun j hj => by
        rw [List.getElem?_set_ne]
        intro z
        exact hj (by simp [z])⟩
end
end DL
/-! Defs that may end with an exception; their calls. -/
namespace DL
open PySem PySem.Spec L2
open PyProof.Rows (envOfC AllBare)
inductive OX where
  | val (d : D) | up (x : XD)
/-- data in; what is told out, or the exception, and what the arguments are then -/
abbrev DenX := List D → Option (OX × Fm)
def spX (K : PySem.W.Frag) (mg : Str → Option Value) (den : DenX) (vs : List V) (H : Hp) (Q : VK) (E : XK) : Prop := ∃ ds F r ρ', RepL K H ds vs F ∧ F.Nodup ∧ den ds = some (r, ρ') ∧ match r with
  | .val r => ∀ v H' g F', Rep K H' r v g → EnvR K H' ρ' (vs.map some) F' → (g ++ F').Nodup → Step H F H' (g ++ F') → Q v H'
  | .up x => ∀ cls d H' F', XRep K mg H' x cls d → EnvR K H' ρ' (vs.map some) F' → F'.Nodup → Step H F H' F' → E cls d H'
structure FnX (P : Program) (w : World) (K : PySem.W.Frag) (mg : Str → Option Value) (base : Heap) (k : Nat) (f : Addr) (fd : FuncData) (ps : List Str) (den : DenX) : Prop where
  run : ∀ (A : Around) (outer : List PySem.Env) (s : Shared) (H : Hp) (args : PySem.Args) (us : List Value) (vs : List V) (Q : VK) (E : XK), A.guards = some [] → Room k A →
    Env0 P w K mg base A outer s H → BindsTo s fd args (ps.zip us) → Vals vs us → vs.length = ps.length → spX K mg den vs H Q E →
    codeAny (model P w) A (.call (.ref f) args) (CR (L2.CX P w) outer P w H s Q E) s
def denX (N n : Nat) (W : List Nat) (fb : FSX) : DenX := fun ds => (fb (ds.map some ++ List.replicate (N - ds.length) none)).bind fun (o, ρ) => match o with
  | .go (.ret d) => some (.val d, params W n ρ)
  | .go .nx => some (.val .non, params W n ρ)
  | .up x => some (.up x, params W n ρ)
  | _ => none
section
variable {P : Program} {w : World} {K : PySem.W.Frag} {mg : Str → Option Value} {base : Heap} {A : Around} {outer : List PySem.Env} {s : Shared} {H : Hp}
/-- the context in which the body of such a def stands -/
abbrev ctxX (P : Program) (w : World) (K : PySem.W.Frag) (mg : Str → Option Value) (base : Heap) (N : List Str) (qual : Str) (sc : Scope) (f : Addr) (cdv : Value) (A : Around) (outer : List PySem.Env) (s : Shared) (H : Hp) (E : XK) : Cx := cxOf (L2.CX P w) P w K mg base N qual sc f cdv A outer s H E
abbrev wishX (E : XK) : WX := fun cls d _ H => E cls d H
theorem takesX {N : List Str} {qual : Str} {sc : Scope} {f : Addr} {cdv : Value} {E : XK} : Takes (ctxX P w K mg base N qual sc f cdv A outer s H E) (wishX E) := takes_of rfl rfl rfl rfl
theorem bodyX_left {N : List Str} {qual : Str} {sc : Scope} {f : Addr} {cdv : Value} {E : XK} {Q : VK} : ∀ (o : Flow) (t : Shared), SP (ctxX P w K mg base N qual sc f cdv A outer s H E) [] { nx := fun _ G => Q .non G, rt := Q } o t →
    match o with
    | .next => CE outer P w H s Q .none t
    | .ret u => CE outer P w H s Q u t
    | _ => False
  | .next, t, ⟨_, G, J, q⟩ => ⟨V.non, G, J.os, J.bare, J.base, J.hok, rfl, q⟩
  | .ret _, t, ⟨x, _, G, J, rx, q⟩ => ⟨x, G, J.os, J.bare, J.base, J.hok, rx, q⟩
  | .brk, _, ⟨_, _, _, no⟩ => no
  | .cont, _, ⟨_, _, _, no⟩ => no
theorem bodyX_does {X : Cx} {E : XK} {body : List Stmt} {fb : FSX} {W : List Nat} {N : List Str} {n : Nat} {vs : List V} {Q : VK} {t : Shared} (hb : PSs X body (rdSX X.K X.mg (wishX E) W fb)) (I : Inv X [] (L2.start N vs) H t) (hl : vs.length = n) (sp : spX X.K X.mg (denX N.length n W fb) vs H Q E) :
    wpAny (model X.prog X.w) X.A (execs body X.env) (SP X [] { nx := fun _ G => Q .non G, rt := Q }) X.xe t := by
  subst hl
  obtain ⟨ds, G, r, out, rl, nd, told, k⟩ := sp
  obtain ⟨⟨o, ρ1⟩, run, end1⟩ := Option.bind_eq_some_iff.mp told
  have En : EnvR X.K H (ds.map some ++ List.replicate (N.length - ds.length) none) (L2.start N vs) G := by
    have := EnvR.of_vals (N.length - ds.length) rl
    rwa [← rl.length] at this ⊢
  refine hb.run [] t _ H _ I ⟨_, G, o, ρ1, En, nd, run, ?_⟩
  match o, end1 with
  | .go .nx, rfl =>
    intro τ H' F' E' N' S' still
    obtain ⟨F2, q1, q2, q3⟩ := E'.first N' (args_stay still)
    exact k .non H' [] F2 ⟨rfl, rfl⟩ q1 q2 (S'.to fun a ha => .inl (q3 a ha))
  | .go (.ret d), rfl =>
    intro v τ H' g F' rv E' N' S' still
    have ⟨n1, n2, n3⟩ := nodup3 N'
    obtain ⟨F2, q1, q2, q3⟩ := E'.first n2 (args_stay still)
    refine k v H' g F2 rv q1 (nodup_of n1 q2 fun a ha hb => n3 a ha (q3 a hb)) (S'.to fun a ha => .inl ?_)
    simp only [List.mem_append] at ⊢ ha
    exact ha.imp id (q3 a)
  | .up x, rfl =>
    intro τ still cls d H' F' xr E' N' S'
    obtain ⟨F2, q1, q2, q3⟩ := E'.first N' (args_stay still)
    exact k cls d H' F2 xr q1 q2 (S'.to fun a ha => .inl (q3 a ha))
end
theorem fnX_of {P : Program} {w : World} {K : PySem.W.Frag} {mg : Str → Option Value} {base : Heap} {k : Nat} {f : Addr} {fd : FuncData} {x qual : Str} {st : Stmt} {N ps : List Str} {W : List Nat} {fb : FSX} (F : Fun K x qual st f fd) (S : FnScope N ps (defScope st))
    (hbody : ∀ (cdv : Value) (A : Around) (outer : List PySem.Env) (s : Shared) (H : Hp) (E : XK), A.guards = some [] → Room k (A.deeper (envOfC qual (defScope st) s.heap.objs.size f cdv)) →
      DSsX (ctxX P w K mg base N qual (defScope st) f cdv A outer s H E) (wishX E) W (defBody st) fb) : FnX P w K mg base (k + 1) f fd ps (denX N.length ps.length W fb) := by
  obtain ⟨_, _, _, _, _, _, cd, _, _, rfl, here, code⟩ := F.ex
  constructor
  intro A outer s H args us vs Q E guards room e binds rel len sp
  obtain ⟨inK, free⟩ := at_call e
  have names (y : Str × Value) (hy : y ∈ ps.zip us) := (S.par y.1 (List.of_mem_zip (b := y.2) hy).1).imp_right fun c => And.intro c (PySem.W.cellsFrom_some (defScope st).names (s.heap.objs.size + 1) [] (Or.inl c))
  apply codeAny_call_function room.depth (inK _ _ here) rfl S.co S.gen rfl (PySem.W.codeRec_of inK code)
  apply binds
  apply wpAny_newFunctionEnv_cells S.kind names
  rintro _ rfl t call
  have I := inv_start (CX := L2.CX P w) (w := w) (E := E) S room.hd e len rel call
  refine ⟨free.keeps call.toInCall.keep, codeAny_func (wpAny_mono (bodyX_does (hbody cd A outer s H E guards (room.deeper _)).pss I len sp) (fun o t' h => ?_) fun _ _ h => h)⟩
  have := bodyX_left o t' h
  cases o <;> first | exact this | exact False.elim this
/-- such a def, as its callers see it -/
structure DefX (P : Program) (w : World) (K : PySem.W.Frag) (mg : Str → Option Value) (base : Heap) (x : Str) (k : Nat) (ps : List Str) (den : DenX) : Prop where
  ex : ∃ (f : Addr) (fd : FuncData), FnX P w K mg base k f fd ps den ∧ mg x = some (.ref f) ∧ PySem.W.keepIn K (.ref f) = true ∧ Binds K fd ps []
/-! ### calls -/
def xCall (den : DenX) (fr : FAX) : FEX := fun ρ => (fr ρ).bind fun (rs, ρ1) => match rs with
  | .up x => some (.up x, ρ1)
  | .ok rs => (takes ρ1 rs).bind fun (ds, ρ2) => (den ds).map fun (r, ρp) => match r with
    | .val r => (.ok (.val r), giveBack rs ds ρp ρ2)
    | .up x => (.up x, giveBack rs ds ρp ρ2)
section
variable {X : Cx} {Wx : WX} {j k : Nat} {f : Addr} {fd : FuncData} {ps : List Str} {den : DenX} {x : Str} {p pos : Pos} {e : Expr} {es : List Expr} {fr : FAX}
theorem RepRs.len {K : PySem.W.Frag} {H : Hp} {σ : L2.St} : ∀ {rs : List R} {vs : List V} {g : List Addr}, RepRs K H σ rs vs g → vs.length = rs.length
  | [], vs, g, h => by rw [h.1]; rfl
  | x :: rs, vs, g, h => by
    obtain ⟨v, vs', _, _, rfl, _, _, h⟩ := h
    simp [RepRs.len h]
theorem callX_core {σ : L2.St} {H : Hp} {Q : VK} {n : Nat} (hn : ∀ (ρ ρ1 : Fm) (rs : List R), fr ρ = some (.ok rs, ρ1) → rs.length = n) (h : rdEX X.K X.mg Wx (xCall den fr) σ H Q) :
    rdAX X.K X.mg Wx fr σ H fun vs H1 => vs.length = n ∧ spX X.K X.mg den vs H1 Q (WE Wx σ) := by
  obtain ⟨ρ, F, r, ρ', E, nd, ef, k⟩ := h
  obtain ⟨⟨rs, ρ1⟩, e1, ef⟩ := Option.bind_eq_some_iff.mp ef
  match rs, ef with
  | .up x, ef =>
    cases ef
    exact ⟨ρ, F, .up x, ρ', E, nd, e1, k⟩
  | .ok rs, ef =>
    obtain ⟨⟨ds, ρ2⟩, e2, ef⟩ := Option.bind_eq_some_iff.mp ef
    obtain ⟨⟨rr, ρp⟩, e3, ef⟩ := Option.map_eq_some_iff.mp ef
    refine ⟨ρ, F, .ok rs, ρ1, E, nd, e1, fun vs H1 g F1 r1 E1 N1 S1 => ?_⟩
    obtain ⟨p2, F2, r2, E2, N2, s2⟩ := r1.takes E1 N1 e2
    refine ⟨by rw [r1.len, hn _ _ _ e1], ds, p2, rr, ρp, r2, (nodup3 N2).1, e3, ?_⟩
    obtain ⟨n1, n2, n3⟩ := nodup3 N2
    have n3' : ∀ a ∈ F2, a ∉ p2 := fun a ha hb => n3 a hb ha
    match rr, ef with
    | .val rr, ef =>
      cases ef
      intro v H' g' F' rv Ep np Sp
      have E2' := E2.keep (Sp.keep r2.mut n3')
      have ap : ∀ a ∈ F2, a ∉ g' ++ F' := Sp.apart E2.mut n3'
      obtain ⟨m1, m2, m3⟩ := nodup3 np
      obtain ⟨F3, E3, N3, s3⟩ := give (ds := ds) r1 Ep E2' (nodup_of m2 n2 fun a ha hb => ap a hb (List.mem_append_right _ ha))
      refine k v H' g' F3 rv E3 (nodup_of m1 N3 fun a ha hb => ?_) fun a u ea na => ?_
      · rcases List.mem_append.mp (s3 a hb) with z | z
        · exact m3 a ha z
        · exact ap a z (List.mem_append_left _ ha)
      · obtain ⟨q1, q2⟩ := S1 a u ea na
        have q3 : a ∉ p2 := fun z => q2 (s2 a (List.mem_append_left _ z))
        have q4 : a ∉ F2 := fun z => q2 (s2 a (List.mem_append_right _ z))
        obtain ⟨q5, q6⟩ := Sp a u q1 q3
        refine ⟨q5, fun z => ?_⟩
        rcases List.mem_append.mp z with z | z
        · exact q6 (List.mem_append_left _ z)
        · rcases List.mem_append.mp (s3 a z) with z | z
          · exact q6 (List.mem_append_right _ z)
          · exact q4 z
    | .up x, ef =>
      cases ef
      intro cls d H' F' xr Ep np Sp
      have E2' := E2.keep (Sp.keep r2.mut n3')
      have ap : ∀ a ∈ F2, a ∉ F' := Sp.apart E2.mut n3'
      obtain ⟨F3, E3, N3, s3⟩ := give (ds := ds) r1 Ep E2' (nodup_of np n2 fun a ha hb => ap a hb ha)
      refine k cls d H' F3 xr E3 N3 fun a u ea na => ?_
      obtain ⟨q1, q2⟩ := S1 a u ea na
      have q3 : a ∉ p2 := fun z => q2 (s2 a (List.mem_append_left _ z))
      have q4 : a ∉ F2 := fun z => q2 (s2 a (List.mem_append_right _ z))
      obtain ⟨q5, q6⟩ := Sp a u q1 q3
      refine ⟨q5, fun z => ?_⟩
      rcases List.mem_append.mp (s3 a z) with z | z
      · exact q6 z
      · exact q4 z
theorem run_fnX {pins : List (Addr × Obj)} {σ : L2.St} {H : Hp} {s : Shared} {Q : VK} {us : List Value} {vs : List V} (F : FnX X.prog X.w X.K X.mg X.base k f fd ps den) (tk : Takes X Wx) (hgd : X.A.guards = some []) (hr : Room k X.A) (hb : Binds X.K fd ps [])
    (I : Inv X pins σ H s) (r : Vals vs us) (hl : vs.length = ps.length) (h : spX X.K X.mg den vs H Q (WE Wx σ)) : wpAny (model X.prog X.w) X.A (call (.ref f) us) (EP X pins σ Q) X.xe s := by
  have hb' := hb s us I.kIn (by rw [List.append_nil, ← r.length]; exact hl)
  rw [List.append_nil] at hb'
  refine wpAny_call (codeAny_mono (F.run X.A X.stack s H ⟨us, []⟩ us vs Q _ hgd hr I.env0 hb' r hl h) fun rr s' hq => ?_)
  match rr, hq with
  | .ok (.ret u), hq => exact I.after hq
  | .ok .next, hq => exact False.elim hq
  | .ok .brk, hq => exact False.elim hq
  | .ok .cont, hq => exact False.elim hq
  | .error ee, hq => exact passAt tk σ pins H s ee s' I hq
theorem xA_len {n : Nat} {fr : FA} (h : ∀ (ρ ρ1 : Fm) (rs : List R), fr ρ = some (rs, ρ1) → rs.length = n) : ∀ (ρ ρ1 : Fm) (rs : List R), xA fr ρ = some (.ok rs, ρ1) → rs.length = n := fun ρ ρ1 rs e => by
  obtain ⟨⟨rs', ρ2⟩, e1, e⟩ := Option.map_eq_some_iff.mp e
  cases e
  exact h _ _ _ e1
theorem dex_call (G : DefX X.prog X.w X.K X.mg X.base x j ps den) (tk : Takes X Wx) (hgd : X.A.guards = some []) (hr : Room k X.A) (hjk : j ≤ k) (hg : Gl X x)
    (hn : ∀ (ρ ρ1 : Fm) (rs : List R), fr ρ = some (.ok rs, ρ1) → rs.length = ps.length) (ha : DAX X Wx (e :: es) fr) (hdb : (x == ("__debug__" : Str)) = false := by decide)
    (he : starEach (e :: es) X.env = (false, eval e X.env) :: starEach es X.env := by rfl) (hpl : (backTo pos (starEach es X.env)).any (·.1) = false := by rfl) : DEX X Wx (.Call (.Name x p) (e :: es) [] pos) (xCall den fr) := by
  obtain ⟨f, fd, F, hm, hk, hb⟩ := G.ex
  refine ⟨⟨fun pins s σ H Q I h => wpAny_Call_Name_kw (ld_glob I hg hm ?_ hdb)⟩⟩
  refine PySem.W.callWith_K (h₀ := X.base) I.ok.mod.kin hk (thn (ha.pa.run pos pins s σ H _ I (callX_core hn h)) fun us s1 hh => ?_) he hpl
  obtain ⟨vs, H1, I1, r, hl, q⟩ := hh
  exact ⟨I1.kIn, run_fnX F tk hgd (hr.mono hjk) hb I1 r hl q⟩
end
end DL
/-! The program's exception classes: their making; raise. -/
namespace DL
open PySem PySem.Spec L2
open PyProof.Rows (envOfC AllBare)
/-- the class that all refusals are of: its __init__ is ValueError's -/
structure BaseX (K : PySem.W.Frag) (mg : Str → Option Value) (x : Str) (C : Addr) : Prop where
  g : mg x = some (.ref C)
  rd : ClX.CRead K C (.type "type")
  ini : PySem.W.findCls K (.ref C) (.type "type") "__init__" = some (.val (.builtin "ValueError.__init__"))
section
variable {X : Cx} {x : Str} {C : Addr} {e : Expr} {es : List Expr} {ta : TA} {p1 p2 pos : Pos}
theorem pe_baseinit {pl : Sem Bool} (B : BaseX X.K X.mg x C) (hg : Gl X x) (ha : PA X (e :: es) ta) (hdb : (x == ("__debug__" : Str)) = false := by decide)
    (told : eval (.Call (.Attribute (.Name x p1) "__init__" p2) (e :: es) [] pos) X.env = (do
      let obj ← eval (.Name x p1) X.env
      standAt p2.atName
      let (g, first) ← holding [obj] (getMethod obj "__init__" pl)
      callWith pos g first (backTo pos (starEach (e :: es) X.env)) (backToKw pos (keywordEach [] X.env))) := by rfl)
    (hs : starEach (e :: es) X.env = (false, eval e X.env) :: starEach es X.env := by rfl) (np : (backTo pos (starEach es X.env)).any (·.1) = false := by rfl) :
    PE X (.Call (.Attribute (.Name x p1) "__init__" p2) (e :: es) [] pos) (tVeI X.K ta) := ⟨fun pins s σ H Q I h => by
  have args : ∀ s1, Inv X pins σ H s1 → wpAny (model X.prog X.w) X.A (callWith pos (Value.builtin "ValueError.__init__") [] (backTo pos (starEach (e :: es) X.env)) []) (EP X pins σ Q) X.xe s1 := fun s1 I1 => by
    refine PyProof.Rows.callWith_method1 (thn (ha.run pos pins s1 σ H _ I1 h) ?_) hs np
    rintro us s2 ⟨vs, H2, I2, rel, a, Cc, ws, rfl, few, ox, at_, q⟩
    match us, rel with
    | u :: us, .cons ra rw' =>
      cases ra
      refine oinit_ok ox I2 at_ (Nat.le_trans (m := 1000) ?_ (by rw [sizeLine_eq]; decide)) fun s3 J => ⟨.non, H2, J, rfl, q⟩
      rw [← Paired.length rw']
      exact few
  refine PySem.W.methodCall_KW (ld_glob I hg B.g ?_ hdb) told
  exact PySem.W.method_cls I.kIn B.rd.ga (PySem.W.cls_value I.kIn B.rd.rd B.ini rfl (args _ (I.tok _)))⟩
end
/-! ### C.__init__, of one field, of two -/
def spI1 (C : Addr) (f : Str) : Sp := fun vs H Q _ => ∃ a y, vs = [.ref a, y] ∧ H a = some (exo a C none) ∧ ∀ d, H d = none → d ≠ a → Q .non (upd (upd H d (exd d [(f, y)])) a (exo a C (some d)))
/-- what the text has of the class -/
structure ClsX (K : PySem.W.Frag) (mg : Str → Option Value) (x : Str) (C fI : Addr) : Prop where
  g : mg x = some (.ref C)
  ox : OexC K C
  xf : XfC K C
  ic : PySem.W.findIn K (.ref C) "__init__" = some (some (.ref fI))
  ti : PySem.W.typeIn K (.ref fI) = some (.type "function")
section
variable {K : PySem.W.Frag} {C : Addr} {f g n0 n1 n2 z : Str} {vs : List V} {H : Hp} {Q : VK} {E : XK}
theorem doesI1 (ox : OexC K C) (no : PySem.W.findIn K (.ref C) f = some none) (h : spI1 C f vs H Q E) :
    tSeq (tDrop (tVeI K (tCons (tVar 0) (tCons (tC (.str z)) tNil)))) (tOst K f (tVar 0) (tVar 1)) { nx := fun _ G => Q .non G, rt := Q } (L2.start [n0, n1] vs) H := by
  obtain ⟨a, y, rfl, e, k⟩ := h
  exact ⟨.ref a, rfl, a, C, [.str z], rfl, by simp, ox, e, y, rfl, .ref a, rfl, a, C, rfl, ox, no, .inl ⟨e, k⟩⟩
end
/-! ### C(..) -/
/-- what is told of C(e, ..): a new dict with the fields, the last one ahead -/
def tMkC (C : Addr) (fs : List Str) (ta : TA) : L2.St → Hp → XK → Prop := fun σ H Q => ta σ H fun vs H1 => vs.length = fs.length ∧ ∀ d, H1 d = none → Q (.ref C) (some d) (upd H1 d (.xd (fs.zip vs).reverse))
/-- the class x may be called: it makes exceptions of these fields -/
structure MkX (P : Program) (w : World) (K : PySem.W.Frag) (mg : Str → Option Value) (base : Heap) (x : Str) (fs : List Str) : Prop where
  ex : ∃ (C fI : Addr) (fd : FuncData) (ps : List Str) (sp : Sp), ClsX K mg x C fI ∧ FnOk P w K mg base CX0 1 fI fd ps sp ∧ Binds K fd ps [] ∧ fs.length ≤ 900 ∧
    ∀ (vs : List V) (H : Hp) (a : Addr) (Q : VK) (E : XK), vs.length = fs.length → H a = some (exo a C none) → (∀ d, H d = none → d ≠ a → Q .non (upd (upd H d (exd d (fs.zip vs).reverse)) a (exo a C (some d)))) → sp (.ref a :: vs) H Q E
section
variable {P : Program} {w : World} {K : PySem.W.Frag} {mg : Str → Option Value} {base : Heap} {x f g : Str} {C fI : Addr} {fd : FuncData} {n0 n1 n2 : Str}
theorem mk1 (c : ClsX K mg x C fI) (F : FnOk P w K mg base CX0 1 fI fd [n0, n1] (spI1 C f)) (b : Binds K fd [n0, n1] []) : MkX P w K mg base x [f] :=
  ⟨C, fI, fd, _, _, c, F, b, by simp, fun vs H a Q E hl e k => by
    match vs, hl with
    | [y], _ => exact ⟨a, y, rfl, e, k⟩⟩
end
section
variable {X : Cx} {x : Str} {fs : List Str} {e : Expr} {es : List Expr} {ta : TA} {p pos : Pos} {k : Nat}
theorem rdA_imp {K : PySem.W.Frag} {fr : FA} {σ : L2.St} {H : Hp} {Q Q' : List V → Hp → Prop} (h : rdA K fr σ H Q) (w : ∀ vs G, Q vs G → Q' vs G) : rdA K fr σ H Q' := by
  obtain ⟨ρ, F, r, ρ', E, nd, ef, k⟩ := h
  exact ⟨ρ, F, r, ρ', E, nd, ef, fun vs H' g F' a b c d => w _ _ (k vs H' g F' a b c d)⟩
theorem pmk_c {fr : FA} (M : MkX X.prog X.w X.K X.mg X.base x fs) (hr : Room k X.A) (h2 : 2 ≤ k) (hg : Gl X x) (ha : DA X (e :: es) fr) (hdb : (x == ("__debug__" : Str)) = false := by decide) (he : starEach (e :: es) X.env = (false, eval e X.env) :: starEach es X.env := by rfl)
    (hpl : (backTo pos (starEach es X.env)).any (·.1) = false := by rfl) :
    ∃ C, X.mg x = some (.ref C) ∧ PMk X (.Call (.Name x p) (e :: es) [] pos) (tMkC C fs (rdA X.K fr)) := by
  obtain ⟨C, fI, fd, ps, sp, c, F, b, few, does⟩ := M.ex
  refine ⟨C, c.g, fun pins s σ H Q I h => ?_⟩
  refine pmk_oex (dvs := []) (ds := []) (p := p) (pos := pos) c.ox c.ic c.ti F (hr.mono h2) b .nil pass0 hg c.g ha.pa hdb he hpl pins s σ H Q I ?_
  refine rdA_imp h fun vs H1 ⟨hl, q⟩ => ⟨by omega, fun a na => ?_⟩
  rw [List.append_nil]
  refine does vs _ a _ _ hl upd_same fun d hd ne => ⟨rfl, d, (fs.zip vs).reverse, upd_same, by rw [upd_ne ne, upd_same], ?_, ?_⟩
  · rwa [upd_ne ne] at hd
  · have hd1 : H1 d = none := by rwa [upd_ne ne] at hd
    have same : upd (del (upd (upd (upd H1 a (exo a C none)) d (exd d (fs.zip vs).reverse)) a (exo a C (some d))) a) d (.xd (fs.zip vs).reverse) = upd H1 d (.xd (fs.zip vs).reverse) := by
      funext b
      by_cases h1 : b = d
      · subst h1; rw [upd_same, upd_same]
      · rw [upd_ne h1, upd_ne h1]
        by_cases h2 : b = a
        · subst h2; rw [del_same, na]
        · rw [del_ne h2, upd_ne h2, upd_ne h1, upd_ne h2]
    rw [same]
    exact q d hd1
/-! ### raise -/
def xRaise (x : Str) (fs : List Str) (fr : FA) : FSX := fun ρ => (fr ρ).bind fun (rs, ρ1) => (takes ρ1 rs).bind fun (ds, ρ2) => if immL ds = true ∧ ds.length = fs.length then some (.up ⟨x, ((fs.map fun f => (.inr f : Key)).zip ds).reverse⟩, ρ2) else none
theorem repK_app {K : PySem.W.Frag} {H : Hp} : ∀ {a b : List (Key × D)} {u v : List (Key × V)}, RepK K H a u [] → RepK K H b v [] → RepK K H (a ++ b) (u ++ v) []
  | [], b, u, v, ha, hb => by obtain ⟨rfl, _⟩ := ha; exact hb
  | (k, d) :: a, b, u, v, ha, hb => by
    obtain ⟨w, u', f1, f2, rfl, e, r1, r2⟩ := ha
    obtain ⟨rfl, rfl⟩ := List.append_eq_nil_iff.mp (Eq.symm e)
    exact ⟨w, u' ++ v, [], [], rfl, rfl, r1, repK_app r2 hb⟩
theorem immK_app : ∀ {a b : List (Key × D)}, immK a = true → immK b = true → immK (a ++ b) = true
  | [], _, _, hb => hb
  | (k, d) :: a, b, ha, hb => by
    have ha : (imm d && immK a) = true := ha
    rw [Bool.and_eq_true] at ha
    show (imm d && immK (a ++ b)) = true
    rw [ha.1, immK_app ha.2 hb]; rfl
theorem fields_rep {K : PySem.W.Frag} {H : Hp} : ∀ {fs : List Str} {ds : List D} {vs : List V}, RepL K H ds vs [] → immL ds = true → ds.length = fs.length →
    RepK K H ((fs.map fun f => (.inr f : Key)).zip ds).reverse ((fs.map fun f => (.inr f : Key)).zip vs).reverse [] ∧ immK ((fs.map fun f => (.inr f : Key)).zip ds).reverse = true ∧ xdOf ((fs.map fun f => (.inr f : Key)).zip vs).reverse = (fs.zip vs).reverse
  | [], [], vs, r, _, _ => by obtain ⟨rfl, _⟩ := r; exact ⟨⟨rfl, rfl⟩, rfl, rfl⟩
  | f :: fs, d :: ds, vs, r, im, hl => by
    obtain ⟨v, vs', f1, f2, rfl, e, r1, r2⟩ := r
    obtain ⟨rfl, rfl⟩ := List.append_eq_nil_iff.mp (Eq.symm e)
    have im : (imm d && immL ds) = true := im
    rw [Bool.and_eq_true] at im
    obtain ⟨a, b, c⟩ := fields_rep (fs := fs) r2 im.2 (by simpa using hl)
    simp only [List.map_cons, List.zip_cons_cons, List.reverse_cons]
    refine ⟨repK_app a ⟨v, [], [], [], rfl, rfl, r1, rfl, rfl⟩, immK_app b (by show (imm d && true) = true; rw [im.1]; rfl), ?_⟩
    unfold xdOf at c ⊢
    rw [List.map_append, c]; rfl
theorem dsx_raise {Wx : WX} {fr : FA} {pos2 : Pos} (hc : X.calm = true) (tk : Takes X Wx) (M : MkX X.prog X.w X.K X.mg X.base x fs) (hr : Room k X.A) (h2 : 2 ≤ k) (hg : Gl X x) (ha : DA X (e :: es) fr) (hdb : (x == ("__debug__" : Str)) = false := by decide) (he : starEach (e :: es) X.env = (false, eval e X.env) :: starEach es X.env := by rfl)
    (hpl : (backTo pos (starEach es X.env)).any (·.1) = false := by rfl) :
    DSX X Wx [] (.Raise (some (.Call (.Name x p) (e :: es) [] pos)) none pos2) (xRaise x fs fr) := by
  obtain ⟨C, hm, mk⟩ := pmk_c (p := p) (pos := pos) M hr h2 hg ha hdb he hpl
  refine ⟨ps_weak (ps_raise hc tk mk) fun Dn σ H ⟨ρ, F, o, ρ', E, nd, ef, q⟩ => ?_⟩
  obtain ⟨⟨rs, ρ1⟩, e1, ef⟩ := Option.bind_eq_some_iff.mp ef
  obtain ⟨⟨ds, ρ2⟩, e2, ef⟩ := Option.bind_eq_some_iff.mp ef
  obtain ⟨⟨im, hl⟩, ef⟩ := if_some ef
  cases ef
  refine ⟨ρ, F, rs, ρ1, E, nd, e1, fun vs H1 g F1 r1 E1 N1 S1 => ?_⟩
  obtain ⟨p2, F2, r2, E2, N2, s2⟩ := r1.takes E1 N1 e2
  have p0 := RepL.imm _ _ _ r2 im
  subst p0
  refine ⟨by rw [r2.length, hl], fun d hd => ?_⟩
  have sm := upd_same_of (o := .xd (fs.zip vs).reverse) hd
  obtain ⟨a, b, c⟩ := fields_rep (fs := fs) (RepL.keep _ _ _ r2 (Same.keep (l := []) sm)) im hl
  refine UpP.here q _ _ _ F2 ⟨C, d, _, hm, rfl, rfl, by rw [upd_same, c], a, b⟩ (E2.keep (Same.keep sm)) (nodup3 N2).2.1 fun b u eb nb => ?_
  obtain ⟨q1, q2⟩ := S1 b u eb nb
  exact ⟨sm b u q1, fun z => q2 (s2 b (List.mem_append_right _ z))⟩
end
end DL
/-! try .. except, in defs that end plainly. -/
namespace DL
open PySem PySem.Spec L2
theorem takes_no {X : Cx} : Takes X (fun _ _ _ _ => False) := by
  intro u s h
  obtain ⟨_, _, _, _, _, _, _, _, _, _, _, _, _, _, _, _, no⟩ := h
  exact no.elim
/-- the clause of class x takes exceptions of each of ys -/
structure HdX (K : PySem.W.Frag) (mg : Str → Option Value) (x : Str) (ys : List Str) : Prop where
  ex : ∃ C : Addr, mg x = some (.ref C) ∧ ∀ y ∈ ys, ∀ Cy : Addr, mg y = some (.ref Cy) → PySem.W.exmOne K (.ref Cy) (.ref C) = some true
/-- try: body; except X: suite -/
def fTry (fb : FSX) (ys : List Str) (fs : FS) : FS := fun ρ => (fb ρ).bind fun (o, ρ1) => match o with
  | .go o => some (o, ρ1)
  | .up x => if x.cls ∈ ys then fs ρ1 else none
/-! ### except X as e -/
/-- in the suite the name's slot holds the exception; the name goes at its end -/
def fSuite (i : Nat) (x : XD) (fs : Addr → Str → Addr → FS) (ρ : Fm) (r : Fl × Fm) : Prop := ∀ a dd : Addr, ∃ ρ3, fs a x.cls dd (ρ.set i (some (.exc a x.cls dd x.fs))) = some (r.1, ρ3) ∧ ρ3.set i none = r.2
open Classical in
noncomputable def fTryAs (fb : FSX) (ys : List Str) (i : Nat) (fs : Addr → Str → Addr → FS) : FS := fun ρ => (fb ρ).bind fun (o, ρ1) => match o with
  | .go o => some (o, ρ1)
  | .up x => if h : x.cls ∈ ys ∧ i < ρ1.length ∧ ∃ r, fSuite i x fs ρ1 r then some h.2.2.choose else none
theorem fTryAs_go {fb : FSX} {ys : List Str} {i : Nat} {fs : Addr → Str → Addr → FS} {ρ ρ1 : Fm} {o : Fl} (h : fb ρ = some (.go o, ρ1)) : fTryAs fb ys i fs ρ = some (o, ρ1) := by
  unfold fTryAs
  rw [h]; rfl
open Classical in
theorem fTryAs_up {fb : FSX} {ys : List Str} {i : Nat} {fs : Addr → Str → Addr → FS} {ρ ρ1 : Fm} {x : XD} {r : Fl × Fm} (h : fb ρ = some (.up x, ρ1)) (hy : x.cls ∈ ys) (hi : i < ρ1.length) (hr : fSuite i x fs ρ1 r) : fTryAs fb ys i fs ρ = some r := by
  unfold fTryAs
  have c : x.cls ∈ ys ∧ i < ρ1.length ∧ ∃ r, fSuite i x fs ρ1 r := ⟨hy, hi, r, hr⟩
  have e : c.2.2.choose = r := by
    obtain ⟨ρ3, a1, a2⟩ := c.2.2.choose_spec 0 0
    obtain ⟨ρ4, b1, b2⟩ := hr 0 0
    have z := Option.some.inj (a1.symm.trans b1)
    have z1 := congrArg Prod.fst z
    have z2 : ρ3 = ρ4 := congrArg Prod.snd z
    exact Prod.ext z1 (a2.symm.trans (z2 ▸ b2))
  rw [h]
  show (if h : x.cls ∈ ys ∧ i < ρ1.length ∧ ∃ r, fSuite i x fs ρ1 r then some h.2.2.choose else none) = _
  rw [dif_pos c, e]
section
variable {X : Cx} {x n : Str} {ys : List Str} {body suite : List Stmt} {b₀ : Stmt} {np pos pos' : Pos} {fb : FSX} {fs : Addr → Str → Addr → FS} {W1 W2 : List Nat} {i : Nat}
/-- the exception's slot is dropped at the end -/
theorem drop_post {K : PySem.W.Frag} {W : List Nat} {Dn : Ends} {σ : L2.St} {H : Hp} {F : List Addr} {o : Fl} {ρ3 : Fm} {w : Option V} (h : Post K (i :: W) Dn σ H F o (ρ3.set i none)) :
    Post K W { nx := fun σ' H' => Dn.nx (σ'.set i none) H', rt := Dn.rt, bk := fun σ' H' => Dn.bk (σ'.set i none) H', ct := fun σ' H' => Dn.ct (σ'.set i none) H' } (σ.set i w) H F o ρ3 := by
  have st : ∀ {σ' : L2.St} {u : Option V}, (∀ j, j ∉ W → σ'[j]? = (σ.set i w)[j]?) → ∀ j, j ∉ i :: W → (σ'.set i u)[j]? = σ[j]? := fun {σ' u} hs j hj => by
    rw [List.mem_cons, not_or] at hj
    rw [List.getElem?_set_ne (fun z => hj.1 z.symm), hs j hj.2, List.getElem?_set_ne (fun z => hj.1 z.symm)]
  have go : ∀ {σ' : L2.St} {H' : Hp} {G F' : List Addr}, EnvR K H' ρ3 σ' F' → (G ++ F').Nodup → Step H F H' (G ++ F') → ∃ F2, EnvR K H' (ρ3.set i none) (σ'.set i none) F2 ∧ (G ++ F2).Nodup ∧ Step H F H' (G ++ F2) := fun {σ' H' G F'} E N S => by
    obtain ⟨F1, f, F3, rfl, E2⟩ := E.drop (i := i)
    refine ⟨F1 ++ F3, E2.other, ?_, S.to fun a ha => .inl ?_⟩
    · refine N.sublist (List.Sublist.append_left (List.Sublist.append_left (List.sublist_append_right _ _) _) _)
    · simp only [List.mem_append] at ha ⊢
      rcases ha with ha | ha | ha
      · exact .inl ha
      · exact .inr (.inl ha)
      · exact .inr (.inr (.inr ha))
  cases o with
  | nx =>
      intro σ' H' F' E N S hs
      obtain ⟨F2, a, b, c⟩ := go (G := []) E N S
      exact h _ H' F2 a b c (st hs)
  | bk =>
      intro σ' H' F' E N S hs
      obtain ⟨F2, a, b, c⟩ := go (G := []) E N S
      exact h _ H' F2 a b c (st hs)
  | ct =>
      intro σ' H' F' E N S hs
      obtain ⟨F2, a, b, c⟩ := go (G := []) E N S
      exact h _ H' F2 a b c (st hs)
  | ret d =>
      intro v σ' H' g F' r E N S hs
      obtain ⟨F2, a, b, c⟩ := go (G := g) E N S
      exact h v _ H' g F2 r a b c (st hs)
open Classical in
theorem ds_tryAs (hh : HdX X.K X.mg x ys) (hN : X.N.Nodup) (hi : X.N[i]? = some n) (hln : X.env.kindOf n = some .local) (hg : Gl X x) (hs : X.stack = X.env :: X.outer) (hf : X.env.frame = some X.env.locals)
    (hb : ∀ (Wx : WX) (pn : List (Addr × Obj)) (xe : Value → Shared → Prop), Takes (X.tr pn xe) Wx → DSsX (X.tr pn xe) Wx W1 body fb)
    (hsu : ∀ (a : Addr) (oe : Obj) (c : Str) (C dd : Addr) (pn : List (Addr × Obj)), c ∈ ys → X.mg c = some (.ref C) → Zc (.ref C) (some dd) oe → (∃ vs, oe.data = .fields vs) → DSs (X.suite a ((a, oe) :: pn)) W2 (b₀ :: suite) (fs a c dd)) (hdb : (x == ("__debug__" : Str)) = false := by decide) :
    DS X (W1 ++ (i :: W2)) (.Try body [.ExceptHandler (some (.Name x np)) (some n) (b₀ :: suite) pos'] [] [] pos) (fTryAs fb ys i fs) := by
  obtain ⟨C, hm, tab⟩ := hh.ex
  refine ⟨ps_weak (ps_try_as (c := .ref C) (i := i) (tb := fun Wx => rdSX X.K X.mg Wx W1 fb) (ts := fun a cls d Dn σ H => ∃ (c : Str) (C dd : Addr), (c ∈ ys ∧ X.mg c = some (.ref C) ∧ cls = .ref C ∧ d = some dd) ∧ rdS X.K W2 (fs a c dd) Dn σ H) (Wout := fun _ _ _ _ => False) hs hf hN hi hln ⟨hg, hdb, .inl hm⟩ takes_no
    (fun Wx pn xe tk _ => (hb Wx pn xe tk).pss) fun a oe cls d pn hz hfl => ⟨fun pins s σ H Dn I h => ?_⟩) ?_⟩
  · obtain ⟨c, C', dd, ⟨hy, hmc, rfl, rfl⟩, h⟩ := h
    exact (hsu a oe c C' dd pn hy hmc hz hfl).pss.run pins s σ H Dn I h
  rintro Dn σ H ⟨ρ, F, o, ρ2, E, nd, run, fin⟩
  obtain ⟨⟨o1, ρ1⟩, e1, rest⟩ := Option.bind_eq_some_iff.mp run
  refine ⟨ρ, F, o1, ρ1, E, nd, e1, ?_⟩
  match o1, rest with
  | .go o1, rest =>
    cases rest
    exact Post.mono fin fun j hj => List.mem_append_left _ hj
  | .up y, rest =>
    have rest : (if h : y.cls ∈ ys ∧ i < ρ1.length ∧ ∃ r, fSuite i y fs ρ1 r then some h.2.2.choose else none) = some (o, ρ2) := rest
    by_cases c : y.cls ∈ ys ∧ i < ρ1.length ∧ ∃ r, fSuite i y fs ρ1 r
    · rw [dif_pos c] at rest
      have spec := c.2.2.choose_spec
      rw [Option.some.inj rest] at spec
      intro σ1 still cls d H1 F1 xr E1 N1 S1
      obtain ⟨Cy, dd, ws, hy, rfl, rfl, hx, rk, im⟩ := xr
      refine ⟨true, tab _ c.1 Cy hy, fun _ a _ => ⟨y.cls, Cy, dd, ⟨c.1, hy, rfl, rfl⟩, ?_⟩, fun z => nomatch z⟩
      obtain ⟨ρ3, run3, drop3⟩ := spec a dd
      have drop3 : ρ3.set i none = ρ2 := drop3
      have run3 : fs a y.cls dd (ρ1.set i (some (.exc a y.cls dd y.fs))) = some (o, ρ3) := run3
      subst drop3
      have li : i < σ1.length := by rw [E1.length]; exact c.2.1
      obtain ⟨G1, g, G3, rfl, Ed⟩ := E1.drop (i := i)
      have Ed2 : EnvR X.K H1 (ρ1.set i none) (σ1.set i (some (.ref a))) (G1 ++ G3) := Ed.other
      obtain ⟨A1, A3, eA, Ep⟩ := Ed2.put (d := .exc a y.cls dd y.fs) (f := []) c.2.1 (List.getElem?_set_self li) ⟨ws, rfl, hx, rk⟩
      have sub : ∀ b, b ∈ A1 ++ ([] ++ A3) → b ∈ G1 ++ (g ++ G3) := fun b hb => by
        have : b ∈ G1 ++ G3 := by rw [eA]; simpa using hb
        simp only [List.mem_append] at this ⊢
        exact this.imp id .inr
      have nA : (A1 ++ ([] ++ A3)).Nodup := by
        have : (G1 ++ G3).Nodup := N1.sublist (List.Sublist.append_left (List.sublist_append_right _ _) _)
        rw [eA] at this
        simpa using this
      have S2 : Step H F H1 (A1 ++ ([] ++ A3)) := S1.to fun b hb => .inl (sub b hb)
      exact ⟨_, _, o, ρ3, Ep, nA, run3, drop_post (Post.after fin S2 still)⟩
    · rw [dif_neg c] at rest
      cases rest
end
end DL
/-! A caught exception's field; exception classes of one field, of two, from the text. -/
namespace DL
open PySem PySem.Spec L2
/-- the classes ys: f is none of their own names -/
structure FldX (K : PySem.W.Frag) (mg : Str → Option Value) (ys : List Str) (f : Str) : Prop where
  at_ : ∀ y ∈ ys, ∀ C : Addr, mg y = some (.ref C) → XfC K C ∧ PySem.W.findIn K (.ref C) f = some none
/-- the exception in slot i: its field -/
def fFld (a dd : Addr) (i : Nat) (f : Str) : FE := fun ρ => match slot ρ i with
  | some (.exc a' _ dd' kvs) => if a' = a ∧ dd' = dd ∧ (kvs.all fun kv => kv.1.isRight) = true then (kvGet kvs (.inr f)).bind fun d => if imm d = true then some (.val d, ρ) else none else none
  | _ => none
theorem repK_fld {K : PySem.W.Frag} {H : Hp} {f : Str} : ∀ {kvs : List (Key × D)} {ws : List (Key × V)} {g : List Addr} {d : D}, RepK K H kvs ws g → (∀ kv ∈ kvs, ∃ y, kv.1 = .inr y) → kvGet kvs (.inr f) = some d → imm d = true → ∃ v, (xdOf ws).lookup f = some v ∧ Rep K H d v []
  | [], _, _, _, _, _, e, _ => by cases e
  | (k, d0) :: kvs, _, _, d, r, hk, e, im => by
    obtain ⟨v, ws, f1, f2, rfl, rfl, r1, r2⟩ := r
    obtain ⟨y, hy⟩ := hk _ List.mem_cons_self
    have hy : k = .inr y := hy
    subst hy
    by_cases c : y = f
    · subst c
      have e0 : kvGet ((Sum.inr y, d0) :: kvs) (.inr y) = some d0 := by simp [kvGet]
      rw [e0] at e
      cases e
      have q := Rep.imm _ _ _ r1 im
      subst q
      exact ⟨v, by simp [xdOf, fldOf], r1⟩
    · have e0 : kvGet ((Sum.inr y, d0) :: kvs) (.inr f) = kvGet kvs (.inr f) := by
        have : ¬ (Sum.inr y : Key) = .inr f := fun z => c (Sum.inr.inj z)
        simp [kvGet, List.find?_cons, this]
      rw [e0] at e
      obtain ⟨u, l, q⟩ := repK_fld r2 (fun kv h => hk kv (List.mem_cons_of_mem _ h)) e im
      refine ⟨u, ?_, q⟩
      have : (f == y) = false := by
        rw [beq_eq_false_iff_ne]
        exact fun z => c z.symm
      show List.lookup f ((y, v) :: xdOf ws) = some u
      rw [List.lookup_cons, this]
      exact l
section
variable {X : Cx} {a dd C : Addr} {oe : Obj} {c n f : Str} {ys : List Str} {pn : List (Addr × Obj)} {i : Nat} {p pos : Pos}
theorem de_fld (T : FldX X.K X.mg ys f) (hy : c ∈ ys) (hm : X.mg c = some (.ref C)) (hz : Zc (.ref C) (some dd) oe) (hf : ∃ vs, oe.data = .fields vs) (hv : PE (X.suite a ((a, oe) :: pn)) (.Name n p) (tVar i)) (hb : attributeBase (.Name n p) f X.env (eval (.Name n p) X.env) = eval (.Name n p) X.env := by rfl) :
    DE (X.suite a ((a, oe) :: pn)) (.Attribute (.Name n p) f pos) (fFld a dd i f) := by
  obtain ⟨xf, no⟩ := T.at_ c hy C hm
  refine ⟨pe_weak (pe_xf xf no hz hf hv hb) ?_⟩
  rintro σ H Q ⟨ρ, F, r, ρ', E, nd, run, k⟩
  have run : (match slot ρ i with
    | some (.exc a' _ dd' kvs) => if a' = a ∧ dd' = dd ∧ (kvs.all fun kv => kv.1.isRight) = true then (kvGet kvs (.inr f)).bind fun d => if imm d = true then some (R.val d, ρ) else none else none
    | _ => none) = some (r, ρ') := run
  match e : slot ρ i, run with
  | some (.exc a' c' dd' kvs), run =>
    have run2 : (if a' = a ∧ dd' = dd ∧ (kvs.all fun kv => kv.1.isRight) = true then (kvGet kvs (.inr f)).bind fun d => if imm d = true then some (R.val d, ρ) else none else none) = some (r, ρ') := run
    by_cases q : a' = a ∧ dd' = dd ∧ (kvs.all fun kv => kv.1.isRight) = true
    · rw [if_pos q] at run2
      obtain ⟨rfl, rfl, keys⟩ := q
      obtain ⟨d, e1, run2⟩ := Option.bind_eq_some_iff.mp run2
      obtain ⟨im, run2⟩ := if_some run2
      cases run2
      obtain ⟨v, F1, g, F3, e2, _, rp, _⟩ := E.at (slot_some e)
      obtain ⟨ws, rfl, hx, rk⟩ := rp
      obtain ⟨u, l, ru⟩ := repK_fld rk (fun kv h => by
        have := List.all_eq_true.mp keys kv h
        cases kk : kv.1 with
        | inl j => rw [kk] at this; cases this
        | inr y => exact ⟨y, rfl⟩) e1 im
      exact ⟨_, e2, rfl, rfl, dd', _, u, rfl, hx, l, k u H [] F ru E nd Step.refl⟩
    · rw [if_neg q] at run2
      cases run2
end
end DL
/-! x not in a tuple of data; a def that may raise, where it does not. -/
namespace DL
open PySem PySem.Spec L2
/-! ### a call that does not raise -/
end DL
/-! A caught exception that is handed to a def; isinstance of it. -/
namespace DL
open PySem PySem.Spec L2
open PyProof.Rows (envOfC AllBare)
/-- what an exception class says, so that isinstance of its instances is told -/
structure IsxC (K : PySem.W.Frag) (C : Addr) : Prop where
  xf : XfC K C
  ca : PySem.W.findIn K (Value.ref C) "__class__" = some (some (.builtin "object.__class__"))
  ob : PySem.W.mroIn K C (.type "object") = some true
  gs : PySem.W.specialIn K (.builtin "object.__class__") "__get__" = some (some (.builtin "getset_descriptor.__get__"))
  tk : PySem.W.takesIn K (.builtin "object.__class__") = some true
theorem IsxC.kit {K : PySem.W.Frag} {C x : Addr} {od : Option Obj} (c : IsxC K C) : PySem.W.KitX K (.ref x) (.ref C) (fun h => PySem.W.InstAt h x ox C od) :=
  PySem.W.kitx_exc (by obtain ⟨cd, hc, _⟩ := PySem.W.any_some c.xf.hdC; rw [hc]; rfl) c.xf.ga c.xf.gg c.xf.exC c.ca c.gs c.tk c.ob
/-- a class by its name: for which exceptions isinstance is what -/
structure IsX (K : PySem.W.Frag) (mg : Str → Option Value) (y : Str) (tab : List (Str × Bool)) : Prop where
  ex : ∃ (v : V) (u : Value), RelV v u ∧ (∀ u', RelV v u' → u' = u) ∧ (mg y = some u ∨ (mg y = none ∧ bootBuiltins y = some u ∧ y ≠ "__name__")) ∧
    ∀ c b, tab.lookup c = some b → ∀ C : Addr, mg c = some (.ref C) → IsxC K C ∧ PySem.W.kitOne K (.ref C) u = some b
/-- some classes -/
structure IsXs (X : Cx) (es : List Expr) (tell : Str → Option Bool) : Prop where
  ex : ∃ (vs : List V) (us : List Value), (∀ us', Vals vs us' → us' = us) ∧ vs.length = es.length ∧ us.length = es.length ∧ PA X es (fun σ H Q => Q vs H) ∧
    ∀ c b, tell c = some b → ∀ C : Addr, X.mg c = some (.ref C) → (us ≠ [] → IsxC X.K C) ∧ PySem.W.kitAny X.K (.ref C) us = some b
def anyIs : List (List (Str × Bool)) → Str → Option Bool
  | [], _ => some false
  | t :: ts, c => match t.lookup c with
    | some true => some true
    | some false => anyIs ts c
    | none => none
section
variable {X : Cx} {y : Str} {tab : List (Str × Bool)} {p : Pos}
theorem pe_class (T : IsX X.K X.mg y tab) (hg : Gl X y) (hd : (y == ("__debug__" : Str)) = false := by decide) : ∃ (v : V) (u : Value), RelV v u ∧ (∀ u', RelV v u' → u' = u) ∧ PE X (.Name y p) (tC v) ∧
    ∀ c b, tab.lookup c = some b → ∀ C : Addr, X.mg c = some (.ref C) → IsxC X.K C ∧ PySem.W.kitOne X.K (.ref C) u = some b := by
  obtain ⟨v, u, r, uq, hm | ⟨hm, hb, hn⟩, tl⟩ := T.ex
  · exact ⟨v, u, r, uq, pe_glob hg hm r hd, tl⟩
  · exact ⟨v, u, r, uq, pe_bltn hg hm hb r hn hd, tl⟩
end
section
variable {X : Cx} {es : List Expr} {y : Str} {tab : List (Str × Bool)} {p : Pos} {ts : List (List (Str × Bool))}
theorem isxs_nil : IsXs X [] (anyIs []) := ⟨[], [], fun us h => by cases h; rfl, rfl, rfl, pa_weak pa_nil fun σ H Q h => h, fun c b e C _ => ⟨fun z => (z rfl).elim, e⟩⟩
theorem isxs_cons (T : IsX X.K X.mg y tab) (hg : Gl X y) (R : IsXs X es (anyIs ts)) (hd : (y == ("__debug__" : Str)) = false := by decide)
    (hs : starEach (.Name y p :: es) X.env = (false, eval (.Name y p) X.env) :: starEach es X.env := by rfl) : IsXs X (.Name y p :: es) (anyIs (tab :: ts)) := by
  obtain ⟨v, u, r, uq, pe, tl⟩ := pe_class (p := p) T hg hd
  obtain ⟨vs, us, vq, l1, l2, pa, tls⟩ := R.ex
  refine ⟨v :: vs, u :: us, fun us' h => ?_, by simp [l1], by simp [l2], pa_weak (pa_cons pe pa hs) fun σ H Q h => h, fun c b e C hm => ?_⟩
  · cases h with
    | cons h1 h2 => rw [uq _ h1, vq _ h2]
  · have e : (match tab.lookup c with
      | some true => some true
      | some false => anyIs ts c
      | none => none) = some b := e
    cases l : tab.lookup c with
    | none => rw [l] at e; cases e
    | some b1 =>
      obtain ⟨q1, q2⟩ := tl c b1 l C hm
      refine ⟨fun _ => q1, ?_⟩
      unfold PySem.W.kitAny
      rw [q2]
      rw [l] at e
      cases b1 with
      | true => exact e
      | false => exact (tls c b e C hm).2
end
/-- isinstance(e, ..), e the exception in slot i: as it is told of its class -/
def fIsE (a : Addr) (c : Str) (dd : Addr) (told : Option Bool) (i : Nat) : FE := fun ρ => match slot ρ i with
  | some (.exc a' _ dd' _) => if a' = a ∧ dd' = dd then told.map fun b => (.val (.bl b), ρ) else none
  | _ => none
def rIsX (K : PySem.W.Frag) (a C dd : Addr) : List V → Hp → VK → Prop := fun xs H Q => ∃ (cv : V) (u : Value) (b : Bool) (fs : List (Str × V)), xs = [.ref a, cv] ∧ H dd = some (.xd fs) ∧ (∀ u', RelV cv u' → u' = u) ∧ IsxC K C ∧ PySem.W.kitOne K (.ref C) u = some b ∧ Q (.bl b) H
def rIsXT (K : PySem.W.Frag) (a C dd : Addr) : List V → Hp → VK → Prop := fun xs H Q => ∃ (t : Addr) (cvs : List V) (us : List Value) (b : Bool) (fs : List (Str × V)), xs = [.ref a, .ref t] ∧ H t = some (.tup cvs) ∧ H dd = some (.xd fs) ∧ (∀ us', Vals cvs us' → us' = us) ∧ IsxC K C ∧ PySem.W.kitAny K (.ref C) us = some b ∧ Q (.bl b) H
section
variable {X : Cx} {a dd C : Addr} {oe : Obj} {c n y : Str} {pn : List (Addr × Obj)} {i : Nat} {p p2 p3 pos : Pos}
theorem inst_at {pins : List (Addr × Obj)} {σ : L2.St} {H : Hp} {s : Shared} {fs : List (Str × V)} (I : Inv (X.suite a ((a, oe) :: pn)) pins σ H s) (hz : Zc (.ref C) (some dd) oe) (hf : ∃ vs, oe.data = .fields vs) (hx : H dd = some (.xd fs)) :
    ∃ od, PySem.W.InstAt s.heap a oe C (some od) := by
  obtain ⟨ha, _⟩ := I.pin (a, oe) (List.mem_append_left _ List.mem_cons_self)
  obtain ⟨vs, hd⟩ := hf
  have q : ObjOk X.prog X.w H s.heap dd (.xd fs) := I.hok dd _ hx
  obtain ⟨mA, hns, hr⟩ := q
  obtain ⟨od, look, _⟩ := lookIn_ns hns
  exact ⟨od, ha, hz.1, by unfold PySem.W.notCls; rw [hd] <;> rfl, by rw [hz.2]; exact look⟩
theorem call_isX (hz : Zc (.ref C) (some dd) oe) (hf : ∃ vs, oe.data = .fields vs) : CallR (X.suite a ((a, oe) :: pn)) (.builtin "isinstance") (rIsX X.K a C dd) := by
  intro pins s σ H xs vals Q I r h
  obtain ⟨cv, u, b, fs, rfl, hx, hcv, k, e, q⟩ := h
  cases r with
  | cons rx rr =>
    cases rr with
    | cons rt rr =>
      cases rr
      cases rx
      have ec := hcv _ rt
      subst ec
      obtain ⟨od, J⟩ := inst_at I hz hf hx
      exact PySem.W.kia_one k.kit I.kIn J e (fun z => nomatch z) fun tk => ⟨.bl b, H, I.kept (t' := tk) fun _ _ z => z, rfl, q⟩
theorem call_isXT (hz : Zc (.ref C) (some dd) oe) (hf : ∃ vs, oe.data = .fields vs) : CallR (X.suite a ((a, oe) :: pn)) (.builtin "isinstance") (rIsXT X.K a C dd) := by
  intro pins s σ H xs vals Q I r h
  obtain ⟨t, cvs, uu, b, fs, rfl, ht, hx, hcv, k, e, q⟩ := h
  cases r with
  | cons rx rr =>
    cases rr with
    | cons rt rr =>
      cases rr
      cases rx
      cases rt
      obtain ⟨od, J⟩ := inst_at I hz hf hx
      have z : ObjOk X.prog X.w H s.heap t (.tup cvs) := I.hok t _ ht
      obtain ⟨_, its, rv, o, ho, hc, m, hd⟩ := z
      have ev := hcv _ rv
      subst ev
      obtain ⟨ocl, odi, oda, osl⟩ := o
      have hc : ocl = _ := hc
      have hd : oda = _ := hd
      subst hc hd
      exact PySem.W.kia_tup k.kit I.kIn J ho e (fun z => nomatch z) fun tk => ⟨.bl b, H, I.kept (t' := tk) fun _ _ z => z, rfl, q⟩
theorem fIsE_some {told : Option Bool} {ρ ρ' : Fm} {r : R} (h : fIsE a c dd told i ρ = some (r, ρ')) : ∃ b c' kvs, told = some b ∧ slot ρ i = some (.exc a c' dd kvs) ∧ r = .val (.bl b) ∧ ρ' = ρ := by
  unfold fIsE at h
  match e : slot ρ i, h with
  | some (.exc a' c' dd' kvs), h =>
    have h2 : (if a' = a ∧ dd' = dd then told.map fun b => (R.val (.bl b), ρ) else none) = some (r, ρ') := h
    clear h
    by_cases q : a' = a ∧ dd' = dd
    · rw [if_pos q] at h2
      obtain ⟨rfl, rfl⟩ := q
      obtain ⟨b, e1, h2⟩ := Option.map_eq_some_iff.mp h2
      cases h2
      exact ⟨b, c', kvs, e1, rfl, rfl, rfl⟩
    · rw [if_neg q] at h2
      cases h2
theorem de_isE {tab : List (Str × Bool)} (T : IsX X.K X.mg y tab) (hmc : X.mg c = some (.ref C)) (hz : Zc (.ref C) (some dd) oe) (hf : ∃ vs, oe.data = .fields vs) (hg : Gl X "isinstance") (hm : X.mg "isinstance" = none) (hgy : Gl X y)
    (hv : PE (X.suite a ((a, oe) :: pn)) (.Name n p) (tVar i)) (hd : (y == ("__debug__" : Str)) = false := by decide)
    (hs : starEach [.Name n p, .Name y p2] (X.suite a ((a, oe) :: pn)).env = (false, eval (.Name n p) (X.suite a ((a, oe) :: pn)).env) :: starEach [.Name y p2] (X.suite a ((a, oe) :: pn)).env := by rfl)
    (hs2 : starEach [.Name y p2] (X.suite a ((a, oe) :: pn)).env = (false, eval (.Name y p2) (X.suite a ((a, oe) :: pn)).env) :: starEach [] (X.suite a ((a, oe) :: pn)).env := by rfl) :
    DE (X.suite a ((a, oe) :: pn)) (.Call (.Name "isinstance" p3) [.Name n p, .Name y p2] [] pos) (fIsE a c dd (tab.lookup c) i) := by
  obtain ⟨v, u, r, uq, pe, tl⟩ := pe_class (X := X.suite a ((a, oe) :: pn)) (p := p2) T hgy hd
  refine ⟨pe_weak (pe_callB (call_isX hz hf) hg hm boot_isi (pa_cons hv (pa_cons pe pa_nil hs2) hs) (by decide) (by decide) hs (by rw [hs2]; rfl)) ?_⟩
  rintro σ H Q ⟨ρ, F, r', ρ', E, nd, run, k⟩
  obtain ⟨b, c', kvs, l, e, rfl, rfl⟩ := fIsE_some run
  obtain ⟨w, F1, g, F3, e2, _, rp, _⟩ := E.at (slot_some e)
  obtain ⟨ws, rfl, hx, rk⟩ := rp
  obtain ⟨q1, q2⟩ := tl c b l C hmc
  exact ⟨_, e2, v, u, b, _, rfl, hx, uq, q1, q2, k _ H [] F ⟨rfl, rfl⟩ E nd Step.refl⟩
theorem de_isET {es : List Expr} {k : Nat} {ts : List (List (Str × Bool))} (T : IsXs (X.suite a ((a, oe) :: pn)) es (anyIs ts)) (hmc : X.mg c = some (.ref C)) (hz : Zc (.ref C) (some dd) oe) (hf : ∃ vs, oe.data = .fields vs) (hg : Gl X "isinstance") (hm : X.mg "isinstance" = none)
    (hn : es ≠ []) (hl : es.length ≤ 100) (hv : PE (X.suite a ((a, oe) :: pn)) (.Name n p) (tVar i))
    (hs : starEach [.Name n p, .Tuple es k p2] (X.suite a ((a, oe) :: pn)).env = (false, eval (.Name n p) (X.suite a ((a, oe) :: pn)).env) :: starEach [.Tuple es k p2] (X.suite a ((a, oe) :: pn)).env := by rfl)
    (hs2 : starEach [.Tuple es k p2] (X.suite a ((a, oe) :: pn)).env = (false, eval (.Tuple es k p2) (X.suite a ((a, oe) :: pn)).env) :: starEach [] (X.suite a ((a, oe) :: pn)).env := by rfl) :
    DE (X.suite a ((a, oe) :: pn)) (.Call (.Name "isinstance" p3) [.Name n p, .Tuple es k p2] [] pos) (fIsE a c dd (anyIs ts c) i) := by
  obtain ⟨vs, us, vq, l1, l2, pa, tl⟩ := T.ex
  refine ⟨pe_weak (pe_callB (call_isXT hz hf) hg hm boot_isi (pa_cons hv (pa_cons (pe_tup pa) pa_nil hs2) hs) (by decide) (by decide) hs (by rw [hs2]; rfl)) ?_⟩
  rintro σ H Q ⟨ρ, F, r', ρ', E, nd, run, kk⟩
  obtain ⟨b, c', kvs, l, e, rfl, rfl⟩ := fIsE_some run
  obtain ⟨w, F1, g, F3, e2, _, rp, _⟩ := E.at (slot_some e)
  obtain ⟨ws, rfl, hx, rk⟩ := rp
  obtain ⟨q1, q2⟩ := tl c b l C hmc
  refine ⟨_, e2, by rw [l1]; exact Nat.le_trans hl (by decide), fun t ht => ?_⟩
  have sm := upd_same_of (o := .tup vs) ht
  refine ⟨t, vs, us, b, xdOf ws, rfl, upd_same, ?_, vq, q1 (fun z => ?_), q2, kk _ _ [] F ⟨rfl, rfl⟩ (E.keep (Same.keep sm)) nd ?_⟩
  · rw [upd_ne (ne_of_none hx ht)]
    exact hx
  · rw [z] at l2
    exact hn (List.eq_nil_of_length_eq_zero l2.symm)
  · exact Step.refl.fresh (h := []) sm (by simp) fun b hb => hb
end
end DL
/-! Defs that are called in an except suite. -/
namespace DL
open PySem PySem.Spec L2
open L2H (RoomH PinOk inv_startH cxH)
open PyProof.Rows (envOfC AllBare)
end DL
/-! A list of truths: how often a truth is in it. -/
namespace DL
open PySem PySem.Spec L2 PyProof.Rows
def dCntB : D → List D → Option D
  | x, [.bl k] => (lstOf x).bind fun ds => (blsOf ds).map fun bs => .int (bs.count k : Nat)
  | _, _ => none
def fCountB (fo : FE) (fr : FA) : FE := fun ρ => ((fo ρ).bind fun (x, ρ1) => (cont ρ1 x).bind lstOf).bind fun _ => fMethR dCntB fo fr ρ
end DL
/-! repr of things that hold dicts; a dict of pairs. -/
namespace DL
open PySem PySem.Spec L2
section
variable {P : Program} {w : World} {h : Heap}
/-- the value is this thing, and what is shown of it -/
def Sh1 (P : Program) (w : World) (h : Heap) (u : Value) (x : PyData) : Prop := (∃ as, Reads h u x as) ∧
  (x.showable = true → x.shown.length ≤ sizeLine → ∃ bs, ReadAtMost h x.depth bs ∧ ReprK P w bs h x.depth u x.shown)
def ShL (P : Program) (w : World) (h : Heap) (us : List Value) (xs : List PyData) : Prop := (∃ as, ReadsAll h us xs as) ∧
  (PyData.showableAll xs = true → (∀ t ∈ PyData.shownAll xs, t.length ≤ sizeLine) → ∃ bs, ReadAtMost h (PyData.depthAll xs) bs ∧ ReprAllK P w bs h (PyData.depthAll xs) us (PyData.shownAll xs))
def ShK (P : Program) (w : World) (h : Heap) (es : List DictEntry) (kvs : List (PyData × PyData)) : Prop := ((∃ as, ReadsAll h (es.map (·.key)) (kvs.map (·.1)) as) ∧ ∃ as, ReadsAll h (es.map (·.val)) (kvs.map (·.2)) as) ∧
  (PyData.showableKv kvs = true → (∀ t ∈ PyData.shownKv kvs, t.length ≤ sizeLine) → ∃ bs, ReadAtMost h (PyData.depthKv kvs) bs ∧ ReprEntriesK P w bs h (PyData.depthKv kvs) es (PyData.shownKv kvs))
theorem Sh1.non : Sh1 P w h .none .none := ⟨⟨_, Reads.none⟩, fun _ _ => ⟨[], (fun _ hb => nomatch hb), by rw [PyData.shown]; exact .of_is .none _ _ _⟩⟩
theorem Sh1.bl (b : Bool) : Sh1 P w h (.bool b) (.bool b) := ⟨⟨_, Reads.bool b⟩, fun _ _ => ⟨[], (fun _ hb => nomatch hb), by rw [PyData.shown]; exact .of_is (.bool b) _ _ _⟩⟩
theorem Sh1.int (i : Int) (t : Tok) : Sh1 P w h (.int i t) (.int i) := ⟨⟨_, Reads.int i t⟩, fun hs _ => ⟨[], (fun _ hb => nomatch hb), by
  rw [PyData.showable, decide_eq_true_eq] at hs
  rw [PyData.shown]
  exact .of_is (.int t hs) _ _ _⟩⟩
theorem Sh1.str (x : Str) (t : Tok) : Sh1 P w h (.str x t) (.str x) := ⟨⟨_, Reads.str x t⟩, fun _ hz => ⟨[], (fun _ hb => nomatch hb), by
  rw [PyData.shown] at hz ⊢
  exact .of_is (.str x t hz) _ _ _⟩⟩
theorem ShL.nil : ShL P w h [] [] := ⟨⟨_, .nil⟩, fun _ _ => ⟨[], (fun _ hb => nomatch hb), by rw [PyData.shownAll]; exact .nil⟩⟩
theorem most_join {n m k : Nat} {b c : List Addr} (h1 : ReadAtMost h n b) (h2 : ReadAtMost h m c) (hn : n ≤ k) (hm : m ≤ k) : ReadAtMost h k (b ++ c) := (h1.mono hn).append (h2.mono hm)
theorem ShL.cons {u : Value} {x : PyData} {us : List Value} {xs : List PyData} (h1 : Sh1 P w h u x) (h2 : ShL P w h us xs) : ShL P w h (u :: us) (x :: xs) := by
  obtain ⟨⟨as, r1⟩, s1⟩ := h1
  obtain ⟨⟨bs, r2⟩, s2⟩ := h2
  refine ⟨⟨_, .cons r1 r2⟩, fun hs hz => ?_⟩
  rw [PyData.showableAll, Bool.and_eq_true] at hs
  rw [PyData.shownAll] at hz ⊢
  rw [PyData.depthAll]
  obtain ⟨c1, m1, k1⟩ := s1 hs.1 (hz _ (List.mem_cons_self ..))
  obtain ⟨c2, m2, k2⟩ := s2 hs.2 fun t ht => hz t (List.mem_cons_of_mem _ ht)
  refine ⟨c1 ++ c2, most_join m1 m2 (Nat.le_max_left _ _) (Nat.le_max_right _ _), ?_⟩
  exact .cons ((k1.more fun _ => List.mem_append_left _).level_le (Nat.le_max_left _ _)) (k2.more_le (fun _ => List.mem_append_right _) (Nat.le_max_right _ _))
theorem ShK.nil : ShK P w h [] [] := ⟨⟨⟨_, .nil⟩, ⟨_, .nil⟩⟩, fun _ _ => ⟨[], (fun _ hb => nomatch hb), by rw [PyData.shownKv]; exact .nil⟩⟩
theorem ReprEntriesK.wider {as bs : List Addr} {d d' : Nat} (hs : ∀ b ∈ as, b ∈ bs) (hd : d ≤ d') : ∀ {es : List DictEntry} {ps : List Str}, ReprEntriesK P w as h d es ps → ReprEntriesK P w bs h d' es ps
  | _, _, .nil => .nil
  | _, _, .cons a b r => .cons ((a.more hs).level_le hd) ((b.more hs).level_le hd) (ReprEntriesK.wider hs hd r)
theorem ShK.cons {e : DictEntry} {k v : PyData} {es : List DictEntry} {kvs : List (PyData × PyData)} (hk : Sh1 P w h e.key k) (hv : Sh1 P w h e.val v) (hr : ShK P w h es kvs) : ShK P w h (e :: es) ((k, v) :: kvs) := by
  obtain ⟨⟨_, r1⟩, s1⟩ := hk
  obtain ⟨⟨_, r2⟩, s2⟩ := hv
  obtain ⟨⟨⟨_, r3⟩, ⟨_, r4⟩⟩, s3⟩ := hr
  refine ⟨⟨⟨_, .cons r1 r3⟩, ⟨_, .cons r2 r4⟩⟩, fun hs hz => ?_⟩
  rw [PyData.showableKv, Bool.and_eq_true, Bool.and_eq_true] at hs
  rw [PyData.shownKv] at hz ⊢
  rw [PyData.depthKv]
  have z1 := hz _ (List.mem_cons_self ..)
  rw [strLen_append, strLen_append] at z1
  obtain ⟨c1, m1, k1⟩ := s1 hs.1.1 (by omega)
  obtain ⟨c2, m2, k2⟩ := s2 hs.1.2 (by omega)
  obtain ⟨c3, m3, k3⟩ := s3 hs.2 fun t ht => hz t (List.mem_cons_of_mem _ ht)
  refine ⟨(c1 ++ c2) ++ c3, most_join (most_join m1 m2 (Nat.le_max_left _ _) (Nat.le_max_right _ _)) m3 (Nat.le_max_left _ _) (Nat.le_max_right _ _), ?_⟩
  refine .cons ((k1.more fun b hb => ?_).level_le ?_) ((k2.more fun b hb => ?_).level_le ?_) (ReprEntriesK.wider (fun b hb => ?_) ?_ k3)
  · simp [hb]
  · omega
  · simp [hb]
  · omega
  · simp [hb]
  · omega
section
variable {a : Addr} {o : Obj} {us : List Value} {n : Nat} {xs : List PyData}
theorem ShL.list (h1 : h.get? a = some o) (h2 : o.cls = .type "list") (h3 : o.data = .seq us.toArray n) (r : ShL P w h us xs) : Sh1 P w h (.ref a) (.list xs) := by
  obtain ⟨⟨as, rd⟩, sh⟩ := r
  have R : Reads h (.ref a) (.list xs) (a :: as) := .list h1 h2 h3 rd
  refine ⟨⟨_, R⟩, fun hs hz => ?_⟩
  rw [PyData.showable] at hs
  rw [PyData.shown] at hz ⊢
  obtain ⟨bs, hb, hk⟩ := sh hs fun t ht => Nat.le_trans (listText_mem_le ht) hz
  have top : a ∉ bs := not_mem_of_deeper R (by rw [PyData.depth]; exact Nat.lt_succ_self _) hb
  refine ⟨a :: bs, ReadAtMost.cons R (by rw [PyData.depth]; exact Nat.le_succ _) hb, ?_⟩
  rw [PyData.depth]
  cases us with
  | nil =>
    cases rd
    rw [PyData.shownAll, listText_nil]
    exact .listEmpty h1 h2 h3
  | cons u us => exact .list h1 h2 h3 top (by rw [hk.length_eq]; simp) fun i y e => hk.item i y (by rw [← e]; simp)
theorem ShL.tuple (h1 : h.get? a = some o) (h2 : o.cls = .type "tuple") (h3 : o.data = .seq us.toArray n) (r : ShL P w h us xs) : Sh1 P w h (.ref a) (.tuple xs) := by
  obtain ⟨⟨as, rd⟩, sh⟩ := r
  have R : Reads h (.ref a) (.tuple xs) as := .tuple h1 h2 h3 rd
  refine ⟨⟨_, R⟩, fun hs hz => ?_⟩
  rw [PyData.showable] at hs
  rw [PyData.shown] at hz ⊢
  obtain ⟨bs, hb, hk⟩ := sh hs fun t ht => Nat.le_trans (tupleText_mem_le ht) hz
  have top : a ∉ bs := not_mem_of_deeper R (by rw [PyData.depth]; exact Nat.lt_succ_self _) hb
  refine ⟨a :: bs, ReadAtMost.cons R (by rw [PyData.depth]; exact Nat.le_succ _) hb, ?_⟩
  rw [PyData.depth]
  exact .tuple h1 h2 h3 top hk
theorem ShK.dict {es : Array DictEntry} {kvs : List (PyData × PyData)} (h1 : h.get? a = some o) (h2 : o.cls = .type "dict") (h3 : o.data = .dict es n) (far : (a == sysModules) = false) (r : ShK P w h es.toList kvs) : Sh1 P w h (.ref a) (.dict kvs) := by
  obtain ⟨⟨⟨as, ra⟩, ⟨cs, rc⟩⟩, sh⟩ := r
  have R : Reads h (.ref a) (.dict kvs) (a :: as ++ cs) := .dict h1 h2 h3 ra rc
  refine ⟨⟨_, R⟩, fun hs hz => ?_⟩
  rw [PyData.showable] at hs
  rw [PyData.shown] at hz ⊢
  obtain ⟨bs, hb, hk⟩ := sh hs fun t ht => Nat.le_trans (dictText_mem_le ht) hz
  have top : a ∉ bs := not_mem_of_deeper R (by rw [PyData.depth]; exact Nat.lt_succ_self _) hb
  refine ⟨a :: bs, ReadAtMost.cons R (by rw [PyData.depth]; exact Nat.le_succ _) hb, ?_⟩
  rw [PyData.depth]
  exact .dict h1 h2 h3 far top hk
end
end
mutual
/-- no exception within -/
def noExc : D → Bool
  | .non => true | .bl _ => true | .int _ => true | .str _ => true
  | .tup ds => noExcL ds
  | .lst ds => noExcL ds
  | .flst ds => noExcL ds
  | .dic kvs => noExcK kvs
  | .fdic kvs => noExcK kvs
  | .exc _ _ _ _ => false
def noExcL : List D → Bool
  | [] => true
  | d :: ds => noExc d && noExcL ds
def noExcK : List (Key × D) → Bool
  | [] => true
  | (_, d) :: r => noExc d && noExcK r
end
end DL
/-! repr of things that hold dicts, as a call; dict(..) of pairs. -/
namespace DL
open PySem PySem.Spec L2
/-! ### dict(..) of pairs -/
end DL
namespace DL
open PySem PySem.Spec L2
/-- a number that the top names -/
theorem de_glob {X : Cx} {x : Str} {i : Int} {p : Pos} (hm : ∃ t, X.mg x = some (.int i t)) (hg : Gl X x) (hdb : (x == ("__debug__" : Str)) = false := by decide) : DE X (.Name x p) (fC (.int i)) := by
  obtain ⟨t, e⟩ := hm
  exact de_c (pe_glob hg e (v := .int i) ⟨t, rfl⟩ hdb) fun _ _ => ⟨rfl, rfl⟩
end DL
/-! Truths among numbers: sums, differences, texts. -/
namespace DL
open PySem PySem.Spec L2 PyProof.Rows
def asI (b : Bool) : Int := if b = true then 1 else 0
def rBI (g : Int → Int → Int) : R2 := fun x y H Q => ∃ a j, x = .bl a ∧ y = .int j ∧ Q (.int (g (asI a) j)) H
def rIB (g : Int → Int → Int) : R2 := fun x y H Q => ∃ i b, x = .int i ∧ y = .bl b ∧ Q (.int (g i (asI b))) H
section
variable {X : Cx}
theorem op_addBI : OpR X (binaryOp .Add) (rBI fun i j => i + j) := by
  rintro pins s σ H _ _ v u Q I rx ry ⟨a, j, rfl, rfl, q⟩
  obtain ⟨t, rfl⟩ := ry
  cases rx
  exact IntBool.add_bool_int ⟨.int _, H, I.tok _, ⟨_, rfl⟩, q⟩
theorem op_addIB : OpR X (binaryOp .Add) (rIB fun i j => i + j) := by
  rintro pins s σ H _ _ v u Q I rx ry ⟨i, b, rfl, rfl, q⟩
  obtain ⟨t, rfl⟩ := rx
  cases ry
  exact add_int_bool ⟨.int _, H, I.tok _, ⟨_, rfl⟩, q⟩
end
def dBI (g : Int → Int → Int) : D → D → Option D
  | .bl a, .int j => some (.int (g (asI a) j))
  | _, _ => none
def dIB (g : Int → Int → Int) : D → D → Option D
  | .int i, .bl b => some (.int (g i (asI b)))
  | _, _ => none
section
variable {K : PySem.W.Frag} {g : Int → Int → Int}
theorem o2_BI : Op2 K (rBI g) (dBI g) := fun H x y v w p q z Q r1 r2 e h => by
  cases x <;> cases y <;> cases e
  obtain ⟨rfl, _⟩ := r1
  obtain ⟨rfl, _⟩ := r2
  exact ⟨_, _, rfl, rfl, h _ H [] ⟨rfl, rfl⟩ List.nodup_nil (by simp) (Same.refl H)⟩
theorem o2_IB : Op2 K (rIB g) (dIB g) := fun H x y v w p q z Q r1 r2 e h => by
  cases x <;> cases y <;> cases e
  obtain ⟨rfl, _⟩ := r1
  obtain ⟨rfl, _⟩ := r2
  exact ⟨_, _, rfl, rfl, h _ H [] ⟨rfl, rfl⟩ List.nodup_nil (by simp) (Same.refl H)⟩
end
def dAddX (x y : D) : Option D := (dAdd x y).orElse fun _ => (dBI (fun i j => i + j) x y).orElse fun _ => dIB (fun i j => i + j) x y
section
variable {X : Cx} {K : PySem.W.Frag}
theorem o2_addX : Op2 K (fun x y H Q => (rI0 (fun i j => .int (i + j)) x y H Q ∨ (∃ i j, x = .str i ∧ y = .str j ∧ i.length + j.length ≤ sizeLine ∧ Q (.str (i ++ j)) H) ∨ rCat x y H Q ∨ rCatF K x y H Q) ∨ (rBI (fun i j => i + j) x y H Q ∨ rIB (fun i j => i + j) x y H Q)) dAddX := o2_add.or (o2_BI.or o2_IB)
theorem ox_addX : OpR X (binaryOp .Add) (fun x y H Q => (rI0 (fun i j => .int (i + j)) x y H Q ∨ (∃ i j, x = .str i ∧ y = .str j ∧ i.length + j.length ≤ sizeLine ∧ Q (.str (i ++ j)) H) ∨ rCat x y H Q ∨ rCatF X.K x y H Q) ∨ (rBI (fun i j => i + j) x y H Q ∨ rIB (fun i j => i + j) x y H Q)) := ox_add.or (op_addBI.or op_addIB)
end
end DL
/-! A tuple of any things != (). -/
namespace DL
open PySem PySem.Spec L2 PyProof.Rows
end DL
/-! The void tuple times a whole number. -/
namespace DL
open PySem PySem.Spec L2 PyProof.Rows
end DL
/-! A loop over things whose body may end with an exception. -/
namespace DL
open PySem PySem.Spec L2
def forX (fg : FG) (fb : FSX) : List D → FSX
  | [], ρ => some (.go .nx, ρ)
  | d :: ds, ρ => (fg d ρ).bind fun ρ1 => (fb ρ1).bind fun (o, ρ2) => match o with
    | .go .nx => forX fg fb ds ρ2
    | .go .ct => forX fg fb ds ρ2
    | .go .bk => some (.go .nx, ρ2)
    | .go (.ret d) => some (.go (.ret d), ρ2)
    | .up x => some (.up x, ρ2)
def xFor (fi : FI) (fg : FG) (fb : FSX) : FSX := fun ρ => (fi ρ).bind fun (ds, ρ1) => forX fg fb ds ρ1
section
variable {X : Cx} {Wx : WX} {W1 W2 : List Nat} {fg : FG} {pos : Pos}
theorem dsx_for {Y : Yd} {tg iter : Expr} {body : List Stmt} {fi : FI} {fb : FSX} (hp : PassesOwn (model X.prog X.w) X.A X.env X.xe) (hc : X.calm = true) (hi : DI X Y tg iter fi) (hg : DY X Y W1 tg fg) (hb : DSsX X Wx W2 body fb)
    (hs : ∀ x, foldedSetIterable iter X.env x = pure x := by intro _; rfl) : DSX X Wx (W1 ++ W2) (.For tg iter body [] pos) (xFor fi fg fb) :=
  ⟨ps_weak (ps_for hp hc hi.pi hg.pg hb.pss hs) fun Dn σ H ⟨ρ, F, o, ρ', E, nd, ef, k⟩ => by
    obtain ⟨⟨ds, ρ1⟩, e1, ef⟩ := Option.bind_eq_some_iff.mp ef
    refine ⟨ρ, F, ds, ρ1, E, nd, e1, fun J H1 F1 Good so gd E1 N1 S1 => ?_⟩
    refine ⟨fun i m σi Hi => m = ds.length - i ∧ i ≤ ds.length ∧ ∃ ρi Fi, EnvR X.K Hi ρi σi Fi ∧ Fi.Nodup ∧ forX fg fb (ds.drop i) ρi = some (o, ρ') ∧ Good Hi ∧ Step H F Hi Fi ∧ ∀ j, j ∉ W1 ++ W2 → σi[j]? = σ[j]?,
      ⟨ds.length, by simp, Nat.zero_le _, ρ1, F1, E1, N1, ef, gd, S1, fun _ _ => rfl⟩, ?_⟩
    rintro i m σi Hi ⟨rfl, hi, ρi, Fi, Ei, Ni, efi, gi, Si, wi⟩
    by_cases hlt : i < ds.length
    · have hd : ds[i]? = some ds[i] := List.getElem?_eq_getElem hlt
      have e3 : ds.drop i = ds[i] :: ds.drop (i + 1) := List.drop_eq_getElem_cons hlt
      rw [e3] at efi
      obtain ⟨ρ2, e4, efi⟩ := Option.bind_eq_some_iff.mp efi
      obtain ⟨⟨o1, ρ3⟩, e5, efi⟩ := Option.bind_eq_some_iff.mp efi
      refine .inr ⟨so.go Hi i gi hlt, fun σ' H' => (i + 1 ≤ ds.length ∧ ∃ ρi Fi, EnvR X.K H' ρi σ' Fi ∧ Fi.Nodup ∧ forX fg fb (ds.drop (i + 1)) ρi = some (o, ρ') ∧ Good H' ∧ Step H F H' Fi ∧ ∀ j, j ∉ W1 ++ W2 → σ'[j]? = σ[j]?), fun σ' H' h => ⟨ds.length - (i + 1), by omega, rfl, h⟩, fun x H' yl => ?_⟩
      obtain ⟨yr, sm⟩ := so.yld Hi i x H' _ gi yl hd
      have Ei' := Ei.keep (Same.keep (l := Fi) sm)
      have S' : Step H F H' Fi := fun a u ea na => by
        obtain ⟨x1, x2⟩ := Si a u ea na
        exact ⟨sm a u x1, x2⟩
      have gd' : Good H' := so.keep _ _ gi (Same.keep sm)
      refine ⟨ρi, Fi, _, ρ2, Ei', yr, Ni, e4, fun σ2 F2 E2 N2 s2 w2 => ?_⟩
      have S2 : Step H F H' F2 := S'.to fun a ha => .inl (s2 a ha)
      have wj : ∀ j, j ∉ W1 ++ W2 → σ2[j]? = σ[j]? := fun j hj => by
        rw [w2.2 j fun z => hj (List.mem_append_left _ z), wi j hj]
      have next : ∀ σ' H2 F3, EnvR X.K H2 ρ3 σ' F3 → F3.Nodup → Step H' F2 H2 F3 → (∀ j, j ∉ W2 → σ'[j]? = σ2[j]?) → forX fg fb (ds.drop (i + 1)) ρ3 = some (o, ρ') →
          (i + 1 ≤ ds.length ∧ ∃ ρi Fi, EnvR X.K H2 ρi σ' Fi ∧ Fi.Nodup ∧ forX fg fb (ds.drop (i + 1)) ρi = some (o, ρ') ∧ Good H2 ∧ Step H F H2 Fi ∧ ∀ j, j ∉ W1 ++ W2 → σ'[j]? = σ[j]?) := fun σ' H2 F3 E3 N3 S3 w3 e6 =>
        ⟨hlt, ρ3, F3, E3, N3, e6, so.keep _ _ gd' (S3.keep E2.mut (by simp)), S2.trans S3, fun j hj => by rw [w3 j fun z => hj (List.mem_append_right _ z), wj j hj]⟩
      refine ⟨ρ2, F2, o1, ρ3, E2, N2, e5, ?_⟩
      match o1, efi with
      | .go .nx, efi => exact fun σ' H2 F3 E3 N3 S3 w3 => next σ' H2 F3 E3 N3 S3 w3 efi
      | .go .ct, efi => exact fun σ' H2 F3 E3 N3 S3 w3 => next σ' H2 F3 E3 N3 S3 w3 efi
      | .go .bk, efi =>
        cases efi
        exact fun σ' H2 F3 E3 N3 S3 w3 => k σ' H2 F3 E3 N3 (S2.trans S3) fun j hj => by rw [w3 j fun z => hj (List.mem_append_right _ z), wj j hj]
      | .go (.ret d), efi =>
        cases efi
        exact fun v σ' H2 g F3 r3 E3 N3 S3 w3 => k v σ' H2 g F3 r3 E3 N3 (S2.trans S3) fun j hj => by rw [w3 j fun z => hj (List.mem_append_right _ z), wj j hj]
      | .up x, efi =>
        cases efi
        exact fun σ' w3 => (k σ' fun j hj => by rw [w3 j fun z => hj (List.mem_append_right _ z), wj j hj]).step S2
    · have e3 : i = ds.length := by omega
      subst e3
      rw [List.drop_length] at efi
      cases efi
      exact .inl ⟨so.stop Hi _ gi (Nat.le_refl _), k σi Hi Fi Ei Ni Si wi⟩⟩
end
end DL
/-! sum of a tuple of whole numbers. -/
namespace DL
open PySem PySem.Spec L2 PyProof PyProof.Rows
end DL
/-! A list made longer by the items of a tuple. -/
namespace DL
open PySem PySem.Spec L2 PyProof.Rows
end DL
/-! A dict with the entries of another one put into it. -/
namespace DL
open PySem PySem.Spec L2 PyProof.Rows
end DL
/-! sorted of a dict whose keys are whole numbers. -/
namespace DL
open PySem PySem.Spec L2 PyProof.Rows
end DL
/-! How often a whole number is in a tuple. -/
namespace DL
open PySem PySem.Spec L2 PyProof.Rows
end DL
/-! An item, a length of what may end with an exception. -/
namespace DL
open PySem PySem.Spec L2 PyProof.Rows
end DL
/-! a, b, .. = a tuple or a list of so many. -/
namespace DL
open PySem PySem.Spec L2
section
variable {X : Cx} {W : List Nat} {pos : Pos}
def fgSq (n : Nat) (fs : FGs) : FG := fun d ρ => match d with
  | .tup _ => fgTup n fs d ρ
  | .lst _ => fgLst n fs d ρ
  | .flst ds => if ds.length = n then fs ds ρ else none
  | _ => none
@[simp] theorem ap_gSqT {n : Nat} {fgs : FGs} {ρ : Fm} {ds : List D} : fgSq n fgs (.tup ds) ρ = if ds.length = n then fgs ds ρ else none := rfl
@[simp] theorem ap_gSqF {n : Nat} {fgs : FGs} {ρ : Fm} {ds : List D} : fgSq n fgs (.flst ds) ρ = if ds.length = n then fgs ds ρ else none := rfl
end
end DL
/-! Plain laws: reading a meaning step by step; the feed of draws. -/
namespace DL
open PySem PySem.Spec L2
/-- it is told, and what is told is such -/
def Ok {α : Type} (x : Option α) (P : α → Prop) : Prop := ∃ a, x = some a ∧ P a
theorem ok_some {α : Type} {a : α} {P : α → Prop} : Ok (some a) P ↔ P a := ⟨fun ⟨b, e, h⟩ => by cases e; exact h, fun h => ⟨a, rfl, h⟩⟩
theorem ok_bind {α β : Type} {x : Option α} {f : α → Option β} {P : β → Prop} : Ok (x.bind f) P ↔ Ok x fun a => Ok (f a) P := by
  cases x with
  | none => exact ⟨fun ⟨b, e, h⟩ => (nomatch e), fun ⟨b, e, h⟩ => (nomatch e)⟩
  | some a => exact ⟨fun ⟨b, e, h⟩ => ⟨a, rfl, b, e, h⟩, fun ⟨a', e, b, e', h⟩ => by cases e; exact ⟨b, e', h⟩⟩
theorem ok_map {α β : Type} {x : Option α} {f : α → β} {P : β → Prop} : Ok (x.map f) P ↔ Ok x fun a => P (f a) := by
  cases x with
  | none => exact ⟨fun ⟨b, e, h⟩ => (nomatch e), fun ⟨b, e, h⟩ => (nomatch e)⟩
  | some a => exact ⟨fun ⟨b, e, h⟩ => (by cases e; exact ⟨a, rfl, h⟩), fun ⟨a', e, h⟩ => (by cases e; exact ⟨_, rfl, h⟩)⟩
theorem ok_mono {α : Type} {x : Option α} {P Q : α → Prop} (h : Ok x P) (k : ∀ a, P a → Q a) : Ok x Q := let ⟨a, e, p⟩ := h; ⟨a, e, k a p⟩
theorem slot0 (d : Option D) (ρ : Fm) : slot (d :: ρ) 0 = d := by cases d <;> rfl
theorem slotS (d : Option D) (ρ : Fm) (i : Nat) : slot (d :: ρ) (i + 1) = slot ρ i := by simp [slot]
/-! ### ints in lists -/
theorem immL_ints (ns : List Int) : immL (ns.map D.int) = true := by
  induction ns with
  | nil => rfl
  | cons n ns ih => simp [immL, imm, ih]
theorem immL_mem {ds : List D} : immL ds = true ↔ ∀ d ∈ ds, imm d = true := by
  induction ds with
  | nil => simp [immL]
  | cons n ns ih => simp [immL, ih]
theorem intsOf_ints (ns : List Int) : intsOf (ns.map D.int) = some ns := by
  induction ns with
  | nil => rfl
  | cons n ns ih => simp [intsOf, ih]
theorem ixN_int {n : Nat} {i : Int} (h0 : 0 ≤ i) (h : i < n) : ixN n i = some i.toNat := by
  unfold ixN; rw [if_pos h0, if_pos h]
theorem ixN_last {n : Nat} (h : 0 < n) : ixN n (-1) = some (n - 1) := by
  unfold ixN
  rw [if_neg (by omega), if_pos (by omega)]
  congr 1
  omega
theorem dSubs_seq {x : D} {ds : List D} {i : Int} {d : D} (hs : seqOf x = some ds) (h0 : 0 ≤ i) (h1 : ds[i.toNat]? = some d) (hi : imm d = true) : dSubs x (.int i) = some d := by
  have h2 : i.toNat < ds.length := (List.getElem?_eq_some_iff.mp h1).1
  have e : dIxQ x (.int i) = some d := by
    show (seqOf x).bind _ = _
    rw [hs]
    show ((atI ds i).bind _) = _
    have : atI ds i = some d := by
      unfold atI
      rw [ixN_int h0 (by omega)]
      exact h1
    rw [this]
    show (if imm d = true then some d else none) = _
    rw [if_pos hi]
  unfold dSubs dIx
  cases x <;> simp [seqOf] at hs <;> (simp [dIxS, e])
/-! ### the feed -/
def feedD (cs : List Int) (a l t : Int) : D := .dic [(.inr "cells", .flst (cs.map .int)), (.inr "at", .int a), (.inr "left", .int l), (.inr "turn", .int t)]
def IsFeed (d : D) : Prop := ∃ cs a l t, d = feedD cs a l t
@[simp] theorem feed_imm (cs : List Int) (a l t : Int) : imm (feedD cs a l t) = false := rfl
@[simp] theorem feed_turn (cs : List Int) (a l t : Int) : dSubs (feedD cs a l t) (.str "turn") = some (.int t) := rfl
@[simp] theorem feed_left (cs : List Int) (a l t : Int) : dSubs (feedD cs a l t) (.str "left") = some (.int l) := rfl
@[simp] theorem feed_at (cs : List Int) (a l t : Int) : dSubs (feedD cs a l t) (.str "at") = some (.int a) := rfl
@[simp] theorem feed_cells (cs : List Int) (a l t : Int) : dSubs (feedD cs a l t) (.str "cells") = some (.flst (cs.map .int)) := by
  show (if immL (cs.map .int) = true then some (D.flst (cs.map .int)) else none) = _
  rw [if_pos (immL_ints _)]
@[simp] theorem put_turn (cs : List Int) (a l t u : Int) : dStore (feedD cs a l t) (.str "turn") (.int u) = some (feedD cs a l u) := rfl
@[simp] theorem put_left (cs : List Int) (a l t u : Int) : dStore (feedD cs a l t) (.str "left") (.int u) = some (feedD cs a u t) := rfl
@[simp] theorem put_at (cs : List Int) (a l t u : Int) : dStore (feedD cs a l t) (.str "at") (.int u) = some (feedD cs u l t) := rfl
theorem mulOk_l {i j : Int} (h0 : -(2 ^ 64) < i) (h1 : i < 2 ^ 64) : mulOk i j = true := by
  unfold mulOk
  rw [decide_eq_true (by omega)]
  rfl
theorem mulOk_r {i j : Int} (h0 : -(2 ^ 64) < j) (h1 : j < 2 ^ 64) : mulOk i j = true := by
  unfold mulOk
  rw [Bool.or_eq_true]
  exact .inr (decide_eq_true (by omega))
end DL
/-! Meanings applied: what simp reads. -/
namespace DL
open PySem PySem.Spec L2
section
variable {ρ : Fm} {f g : FS} {fe fa fb fc : FE} {ft fu : FT} {fr : FA} {fp : FP} {fi : FI} {fg : FG} {fgs : FGs} {d d' : D} {i j : Nat} {op : D → D → Option D} {cl : List D → Option D}
@[simp] theorem ap_seq : fSeq f g ρ = (f ρ).bind fun x => match x.1 with | .nx => g x.2 | o => some (o, x.2) := rfl
@[simp] theorem ap_skip : fSkip ρ = some (.nx, ρ) := rfl
@[simp] theorem ap_drop : fDrop fe ρ = (fe ρ).map fun x => (.nx, x.2) := rfl
@[simp] theorem ap_ret : fRet fe ρ = (fe ρ).bind fun x => (take1 x.2 x.1).map fun y => (.ret y.1, y.2) := rfl
@[simp] theorem ap_retN : fRetN ρ = some (.ret .non, ρ) := rfl
@[simp] theorem ap_ifS : fIfS ft f g ρ = (ft ρ).bind fun x => if x.1 then f x.2 else g x.2 := rfl
@[simp] theorem ap_gName : fgName i d ρ = if i < ρ.length then some (ρ.set i (some d)) else none := rfl
@[simp] theorem ap_gTup {n : Nat} {ds : List D} : fgTup n fgs (.tup ds) ρ = if ds.length = n then fgs ds ρ else none := rfl
@[simp] theorem ap_gNil : fgNil [] ρ = some ρ := rfl
@[simp] theorem ap_gCons {ds : List D} : fgCons fg fgs (d :: ds) ρ = (fg d ρ).bind fun ρ1 => fgs ds ρ1 := rfl
@[simp] theorem ap_asg : fAsg fe fg ρ = (fe ρ).bind fun x => (take1 x.2 x.1).bind fun y => (fg y.1 y.2).map fun ρ3 => (.nx, ρ3) := rfl
@[simp] theorem ap_par : fPar i j fr ρ = (fr ρ).bind fun x => (takes x.2 x.1).bind fun y => match y.1 with
  | [d, e] => if i < y.2.length ∧ j < y.2.length then some (.nx, (y.2.set i (some d)).set j (some e)) else none
  | _ => none := rfl
@[simp] theorem ap_store : fStore fe fp fa ρ = (fe ρ).bind fun x => (fp x.2).bind fun p => (getP p.2 p.1).bind fun c0 => (fa (hide p.2 p.1)).bind fun y => (cont y.2 y.1).bind fun key =>
  (take1 y.2 x.1).bind fun v => (getP (unhide p.2 v.2 p.1) p.1).bind fun c => (dStore c key v.1).map fun c' => (.nx, setP (unhide p.2 v.2 p.1) c' p.1) := rfl
@[simp] theorem ap_for : fFor fi fg f ρ = (fi ρ).bind fun x => forD fg f x.1 x.2 := rfl
@[simp] theorem ap_C : fC d ρ = some (.val d, ρ) := rfl
theorem ap_var (h : slot ρ i = some d) : fVar i ρ = some (.var i, ρ) := by unfold fVar; rw [h]
@[simp] theorem ap_var' : fVar i ρ = (slot ρ i).map fun _ => (.var i, ρ) := by unfold fVar; cases slot ρ i <;> rfl
@[simp] theorem ap_op : fOp op fa fb ρ = (fa ρ).bind fun x => (fb x.2).bind fun y => (cont y.2 x.1).bind fun dx => (cont y.2 y.1).bind fun dy => (op dx dy).map fun z => (.val z, y.2) := rfl
@[simp] theorem ap_test : fTest fe ρ = (fe ρ).bind fun x => (cont x.2 x.1).bind fun d => match d with
  | .bl k => some (k, x.2)
  | _ => none := rfl
@[simp] theorem ap_and : fAnd ft fu ρ = (ft ρ).bind fun x => if x.1 then fu x.2 else some (false, x.2) := rfl
@[simp] theorem ap_or : fOr ft fu ρ = (ft ρ).bind fun x => if x.1 then some (true, x.2) else fu x.2 := rfl
@[simp] theorem ap_not : fNot ft ρ = (ft ρ).map fun x => (!x.1, x.2) := rfl
@[simp] theorem ap_bl : fBl ft ρ = (ft ρ).map fun x => (.val (.bl x.1), x.2) := rfl
@[simp] theorem ap_if : fIf ft fa fb ρ = (ft ρ).bind fun x => if x.1 then fa x.2 else fb x.2 := rfl
@[simp] theorem ap_nil : fNil ρ = some ([], ρ) := rfl
@[simp] theorem ap_cons : fCons fe fr ρ = (fe ρ).bind fun x => (fr x.2).map fun y => (x.1 :: y.1, y.2) := rfl
@[simp] theorem ap_tup : fTup fr ρ = (fr ρ).bind fun x => (takes x.2 x.1).bind fun y => if y.1.length ≤ sizeLine then some (.val (.tup y.1), y.2) else none := rfl
@[simp] theorem ap_lst : fLst fr ρ = (fr ρ).bind fun x => (takes x.2 x.1).bind fun y => if y.1.length ≤ sizeLine then some (.val (.lst y.1), y.2) else none := rfl
@[simp] theorem ap_dic : fDic fr ρ = (fr ρ).bind fun x => (takes x.2 x.1).bind fun y => (pairUp y.1).bind fun kvs => if (kvs.map (·.1)).Nodup ∧ kvs.length ≤ 15 then some (.val (.dic kvs), y.2) else none := rfl
@[simp] theorem ap_dic0 : fDic0 ρ = some (.val (.dic []), ρ) := rfl
@[simp] theorem ap_call : fCall cl fr ρ = (fr ρ).bind fun x => (conts x.2 x.1).bind fun ds => (cl ds).map fun z => (.val z, x.2) := rfl
@[simp] theorem ap_callD {den : Den} : fCallD den fr ρ = (fr ρ).bind fun x => (takes x.2 x.1).bind fun y => (den y.1).map fun z => (.val z.1, giveBack x.1 y.1 z.2 y.2) := rfl
@[simp] theorem ap_pVar : fpVar i ρ = (slot ρ i).map fun _ => (.sl i, ρ) := rfl
@[simp] theorem ap_mut {ok : D → Bool} {m : D → List D → Option (D × D)} : fMut ok m fp fr ρ = (fp ρ).bind fun p => (getP p.2 p.1).bind fun d0 => if ok d0 then (fr (hide p.2 p.1)).bind fun x => (takes x.2 x.1).bind fun y =>
    (getP (unhide p.2 y.2 p.1) p.1).bind fun d => (m d y.1).map fun z => (.val z.2, setP (unhide p.2 y.2 p.1) z.1 p.1) else none := rfl
@[simp] theorem ap_frz : fFrz fe ρ = (fe ρ).bind fun x => (cont x.2 x.1).bind fun d => (frzD d).map fun d' => (.val d', match x.1 with | .var i => x.2.set i (some d') | .val _ => x.2) := rfl
@[simp] theorem ap_seqI : fSeqI fe ρ = (fe ρ).bind fun x => (cont x.2 x.1).bind fun d => match d with
  | .tup ds => if immL ds = true then some (ds, x.2) else none
  | .flst ds => if immL ds = true then some (ds, x.2) else none
  | _ => none := rfl
@[simp] theorem ap_rng1 : fRng1 fr ρ = (fr ρ).bind fun x => (conts x.2 x.1).bind fun ds => match ds with
  | [.int j] => if okR j = true then some (iota 0 j.toNat, x.2) else none
  | _ => none := rfl
@[simp] theorem ap_rng2 : fRng2 fr ρ = (fr ρ).bind fun x => (conts x.2 x.1).bind fun ds => match ds with
  | [.int i, .int j] => if okR i = true ∧ okR j = true then some (iota i (j - i).toNat, x.2) else none
  | _ => none := rfl
@[simp] theorem ap_lstRg1 : fLstRg1 fa ρ = (fa ρ).bind fun x => (cont x.2 x.1).bind fun d => match d with
  | .int j => if okR j = true ∧ j.toNat ≤ 2 ^ 24 then some (.val (.lst (iota 0 j.toNat)), x.2) else none
  | _ => none := rfl
@[simp] theorem ap_yes : fYes ρ = some (true, ρ) := rfl
@[simp] theorem ap_lc {vs : List Nat} : fLc vs fi fg ft fe ρ = (fi ρ).bind fun x => (lcD vs fg ft fe x.1 (wipeF x.2 vs)).bind fun z => if z.1.length ≤ sizeLine then some (.val (.lst z.1), z.2) else none := rfl
@[simp] theorem ap_oNone : foNone ρ = some (none, ρ) := rfl
@[simp] theorem ap_oSome : foSome fe ρ = (fe ρ).bind fun x => (cont x.2 x.1).bind fun d => match d with
  | .int i => some (some i, x.2)
  | _ => none := rfl
@[simp] theorem ap_cut {fl fh : Fm → Option (Option Int × Fm)} : fCut fe fl fh ρ = (fe ρ).bind fun x => (fl x.2).bind fun l => (fh l.2).bind fun h => (cont h.2 x.1).bind fun d => (dCut d l.1 h.1).map fun z => (.val z, h.2) := rfl
@[simp] theorem ap_neg : fNeg fa ρ = (fa ρ).bind fun x => (cont x.2 x.1).bind fun d => match d with
  | .int i => some (.val (.int (-i)), x.2)
  | _ => none := rfl
end
@[simp] theorem cont_val {ρ : Fm} {d : D} : cont ρ (.val d) = some d := rfl
@[simp] theorem cont_var {ρ : Fm} {i : Nat} : cont ρ (.var i) = slot ρ i := rfl
@[simp] theorem take_val {ρ : Fm} {d : D} : take1 ρ (.val d) = some (d, ρ) := rfl
@[simp] theorem take_var {ρ : Fm} {i : Nat} : take1 ρ (.var i) = (slot ρ i).map fun d => (d, if imm d then ρ else ρ.set i none) := rfl
@[simp] theorem takes_nil {ρ : Fm} : takes ρ [] = some ([], ρ) := rfl
@[simp] theorem takes_cons {ρ : Fm} {r : R} {rs : List R} : takes ρ (r :: rs) = (take1 ρ r).bind fun x => (takes x.2 rs).map fun y => (x.1 :: y.1, y.2) := rfl
@[simp] theorem conts_nil {ρ : Fm} : conts ρ [] = some [] := rfl
@[simp] theorem conts_cons {ρ : Fm} {r : R} {rs : List R} : conts ρ (r :: rs) = (cont ρ r).bind fun d => (conts ρ rs).map fun ds => d :: ds := rfl
@[simp] theorem slot0' (d : Option D) (ρ : Fm) : slot (d :: ρ) 0 = d := slot0 d ρ
@[simp] theorem slotS' (d : Option D) (ρ : Fm) (i : Nat) : slot (d :: ρ) (i + 1) = slot ρ i := slotS d ρ i
@[simp] theorem getP_sl {ρ : Fm} {i : Nat} : getP ρ (.sl i) = slot ρ i := rfl
@[simp] theorem hide_sl {ρ : Fm} {i : Nat} : hide ρ (.sl i) = ρ := rfl
@[simp] theorem unhide_sl {ρ ρ' : Fm} {i : Nat} : unhide ρ ρ' (.sl i) = ρ' := rfl
@[simp] theorem setP_sl {ρ : Fm} {i : Nat} {d : D} : setP ρ d (.sl i) = ρ.set i (some d) := rfl
@[simp] theorem gb_nil {ds : List D} {os ρ : Fm} : giveBack [] ds os ρ = ρ := by unfold giveBack; rfl
@[simp] theorem gb_val {d0 d : D} {rs : List R} {ds : List D} {o : Option D} {os ρ : Fm} : giveBack (.val d0 :: rs) (d :: ds) (o :: os) ρ = giveBack rs ds os ρ := by rw [giveBack]
@[simp] theorem gb_var {i : Nat} {d : D} {rs : List R} {ds : List D} {o : Option D} {os ρ : Fm} : giveBack (.var i :: rs) (d :: ds) (o :: os) ρ = giveBack rs ds os (if imm d then ρ else ρ.set i o) := by rw [giveBack]
@[simp] theorem imm_non : imm .non = true := rfl
@[simp] theorem imm_bl {b : Bool} : imm (.bl b) = true := rfl
@[simp] theorem imm_int {i : Int} : imm (.int i) = true := rfl
@[simp] theorem imm_str {x : Str} : imm (.str x) = true := rfl
@[simp] theorem imm_tup {ds : List D} : imm (.tup ds) = immL ds := rfl
@[simp] theorem imm_lst {ds : List D} : imm (.lst ds) = false := rfl
@[simp] theorem imm_flst {ds : List D} : imm (.flst ds) = immL ds := rfl
@[simp] theorem imm_dic {ds : List (Key × D)} : imm (.dic ds) = false := rfl
@[simp] theorem immL_nil : immL [] = true := rfl
@[simp] theorem immL_cons {d : D} {ds : List D} : immL (d :: ds) = (imm d && immL ds) := rfl
@[simp] theorem add_int {i j : Int} : dAdd (.int i) (.int j) = some (.int (i + j)) := rfl
@[simp] theorem sub_int {i j : Int} : dSub (.int i) (.int j) = some (.int (i - j)) := rfl
theorem mul_int {i j : Int} (h : mulOk i j = true) : dMul (.int i) (.int j) = some (.int (i * j)) := by simp [dMul, dMulI, h]
theorem mul_l {i j : Int} (h0 : -(2 ^ 64) < i) (h1 : i < 2 ^ 64) : dMul (.int i) (.int j) = some (.int (i * j)) := mul_int (mulOk_l h0 h1)
theorem mul_r {i j : Int} (h0 : -(2 ^ 64) < j) (h1 : j < 2 ^ 64) : dMul (.int i) (.int j) = some (.int (i * j)) := mul_int (mulOk_r h0 h1)
@[simp] theorem div_int {i j : Int} (h0 : j ≠ 0) (h1 : j.natAbs < 1073741824) : dDiv (.int i) (.int j) = some (.int (i.fdiv j)) := if_pos ⟨h0, h1⟩
@[simp] theorem mod_int {i j : Int} (h : j ≠ 0) : dMod (.int i) (.int j) = some (.int (i.fmod j)) := if_pos h
theorem pow_int {i j : Int} (h : 0 ≤ j ∧ j ≤ 1000000 ∧ i.natAbs < 2 ^ 64) : dPow (.int i) (.int j) = some (.int (i ^ j.toNat)) := if_pos h
@[simp] theorem cmp_int {p : Int → Int → Bool} {i j : Int} : dCmp p (.int i) (.int j) = some (.bl (p i j)) := rfl
@[simp] theorem eq_int {i j : Int} : dEq (.int i) (.int j) = some (.bl (decide (i = j))) := by
  show some (D.bl (decide (V.int i = V.int j))) = _
  simp
@[simp] theorem ne_int {i j : Int} : dNe (.int i) (.int j) = some (.bl (!decide (i = j))) := by
  show some (D.bl (!decide (V.int i = V.int j))) = _
  simp
@[simp] theorem ne_str {i j : Str} : dNe (.str i) (.str j) = some (.bl (!decide (i = j))) := by
  show some (D.bl (!decide (V.str i = V.str j))) = _
  simp
@[simp] theorem len_lst {ds : List D} : dLen [.lst ds] = some (.int ds.length) := rfl
@[simp] theorem len_flst {ds : List D} : dLen [.flst ds] = some (.int ds.length) := rfl
@[simp] theorem len_tup {ds : List D} : dLen [.tup ds] = some (.int ds.length) := rfl
@[simp] theorem len_dic {ds : List (Key × D)} : dLen [.dic ds] = some (.int ds.length) := rfl
@[simp] theorem frz_lst {ds : List D} : frzD (.lst ds) = (frzL ds).map .flst := rfl
@[simp] theorem frz_flst {ds : List D} : frzD (.flst ds) = (frzL ds).map .flst := rfl
@[simp] theorem frz_tup {ds : List D} : frzD (.tup ds) = (frzL ds).map .tup := rfl
@[simp] theorem frz_int {i : Int} : frzD (.int i) = some (.int i) := rfl
@[simp] theorem frz_bl {i : Bool} : frzD (.bl i) = some (.bl i) := rfl
@[simp] theorem frz_non : frzD .non = some .non := rfl
@[simp] theorem frz_str {i : Str} : frzD (.str i) = some (.str i) := rfl
@[simp] theorem frzL_nil : frzL [] = some [] := rfl
@[simp] theorem frzL_cons {d : D} {ds : List D} : frzL (d :: ds) = (frzD d).bind fun d' => (frzL ds).map fun ds' => d' :: ds' := rfl
@[simp] theorem immL_map_int {ns : List Int} : immL (ns.map D.int) = true := immL_ints ns
@[simp] theorem frzL_ints {ns : List Int} : frzL (ns.map D.int) = some (ns.map D.int) := frzL_id _ (immL_ints ns)
/-! ### loops -/
theorem ok_for {fg : FG} {fb : FS} {P : Fl × Fm → Prop} (I : List D → Fm → Prop) (step : ∀ d r ρ, I (d :: r) ρ → Ok (fg d ρ) fun ρ1 => Ok (fb ρ1) fun x => match x.1 with
    | .nx => I r x.2
    | .ct => I r x.2
    | .bk => P (.nx, x.2)
    | .ret v => P (.ret v, x.2)) (done : ∀ ρ, I [] ρ → P (.nx, ρ)) : ∀ {ds : List D} {ρ : Fm}, I ds ρ → Ok (forD fg fb ds ρ) P
  | [], ρ, h => ok_some.mpr (done ρ h)
  | d :: ds, ρ, h => by
    refine ok_bind.mpr (ok_mono (step d ds ρ h) fun ρ1 h1 => ok_bind.mpr (ok_mono h1 fun x h2 => ?_))
    obtain ⟨o, ρ2⟩ := x
    cases o with
    | nx => exact ok_for I step done h2
    | ct => exact ok_for I step done h2
    | bk => exact ok_some.mpr h2
    | ret v => exact ok_some.mpr h2
theorem ok_while {ft : FT} {fb : FS} {P : Fl × Fm → Prop} (I : Nat → Fm → Prop) (step : ∀ k ρ, I k ρ → Ok (ft ρ) fun t => if t.1 = true then Ok (fb t.2) fun x => match x.1 with
    | .nx => ∃ k', k' < k ∧ I k' x.2
    | .ct => ∃ k', k' < k ∧ I k' x.2
    | .bk => P (.nx, x.2)
    | .ret v => P (.ret v, x.2) else P (.nx, t.2)) : ∀ {n k : Nat} {ρ : Fm}, k < n → I k ρ → Ok (whileD ft fb n ρ) P
  | 0, k, ρ, hk, h => absurd hk (Nat.not_lt_zero _)
  | n + 1, k, ρ, hk, h => by
    refine ok_bind.mpr (ok_mono (step k ρ h) fun t h1 => ?_)
    obtain ⟨b, ρ1⟩ := t
    cases b with
    | false => exact ok_some.mpr h1
    | true =>
      refine ok_bind.mpr (ok_mono h1 fun x h2 => ?_)
      obtain ⟨o, ρ2⟩ := x
      cases o with
      | nx => obtain ⟨k', hk', hI⟩ := h2; exact ok_while I step (by omega) hI
      | ct => obtain ⟨k', hk', hI⟩ := h2; exact ok_while I step (by omega) hI
      | bk => exact ok_some.mpr h2
      | ret v => exact ok_some.mpr h2
end DL
/-! Small data: texts of it, likeness, rows and webs. -/
namespace DL
open PySem PySem.Spec L2
/-! data of small whole numbers, truths and None; so deep at most, of such a weight at most -/
mutual
def small : D → Bool
  | .non => true | .bl _ => true
  | .int i => decide (i.natAbs < 10 ^ 12)
  | .str x => decide (PyData.canLay0 (.str x) = true)
  | .tup ds => smallL ds
  | .lst ds => smallL ds
  | .flst ds => smallL ds
  | .dic _ => false
  | .fdic _ => false
  | .exc _ _ _ _ => false
def smallL : List D → Bool
  | [] => true
  | d :: ds => small d && smallL ds
end
theorem smallL_mem : ∀ {ds : List D}, smallL ds = true ↔ ∀ d ∈ ds, small d = true := by
  intro ds
  induction ds with
  | nil => simp [smallL]
  | cons n ns ih => simp [smallL, ih]
mutual
theorem small_all : ∀ (d : D), small d = true → noDic d = true ∧ (toP d).canLay0 = true ∧ (toP d).showable = true ∧ (toP d).hasDict = false ∧ (toP d).intsShort 13 = true
  | .non, _ => ⟨rfl, rfl, rfl, rfl, rfl⟩
  | .bl _, _ => ⟨rfl, rfl, rfl, rfl, rfl⟩
  | .int i, h => by
    have h' : i.natAbs < 10 ^ 12 := of_decide_eq_true h
    refine ⟨rfl, rfl, ?_, rfl, ?_⟩
    · show decide (i.natAbs.log2 < 1920) = true
      rw [decide_eq_true_iff]
      by_cases h0 : i.natAbs = 0
      · rw [h0]; decide
      · exact (Nat.log2_lt h0).mpr (Nat.lt_trans h' (Nat.lt_of_lt_of_le (by decide : 10 ^ 12 < 2 ^ 40) (Nat.pow_le_pow_right (by decide) (by decide))))
    · have := PyData.intsShortAll_ints [i] fun n hn => by simp at hn; rw [hn]; exact h'
      simpa [PyData.intsShortAll, toP] using this
  | .str x, h => ⟨rfl, of_decide_eq_true h, rfl, rfl, by have := PyData.intsShortAll_strs 13 [x]; simpa [PyData.intsShortAll, toP] using this⟩
  | .tup ds, h => by
    obtain ⟨a, b, c, d, e⟩ := small_allL ds h
    exact ⟨a, by simpa [toP, PyData.canLay0] using b, by simpa [toP, PyData.showable] using c, by simpa [toP, PyData.hasDict] using d, by simpa [toP, PyData.intsShort] using e⟩
  | .lst ds, h => by
    obtain ⟨a, b, c, d, e⟩ := small_allL ds h
    exact ⟨a, by simpa [toP, PyData.canLay0] using b, by simpa [toP, PyData.showable] using c, by simpa [toP, PyData.hasDict] using d, by simpa [toP, PyData.intsShort] using e⟩
  | .flst ds, h => by
    obtain ⟨a, b, c, d, e⟩ := small_allL ds h
    exact ⟨a, by simpa [toP, PyData.canLay0] using b, by simpa [toP, PyData.showable] using c, by simpa [toP, PyData.hasDict] using d, by simpa [toP, PyData.intsShort] using e⟩
  | .dic _, h => by cases h
  | .fdic _, h => by cases h
  | .exc _ _ _ _, h => by cases h
theorem small_allL : ∀ (ds : List D), smallL ds = true → noDicL ds = true ∧ PyData.canLayAll0 (toPL ds) = true ∧ PyData.showableAll (toPL ds) = true ∧ PyData.hasDictAll (toPL ds) = false ∧ PyData.intsShortAll 13 (toPL ds) = true
  | [], _ => ⟨rfl, rfl, rfl, rfl, rfl⟩
  | d :: ds, h => by
    have h' : small d = true ∧ smallL ds = true := by simpa [smallL] using h
    obtain ⟨a, b, c, e, f⟩ := small_all d h'.1
    obtain ⟨a', b', c', e', f'⟩ := small_allL ds h'.2
    exact ⟨by simp [noDicL, a, a'], by simp [toPL, PyData.canLayAll0, b, b'], by simp [toPL, PyData.showableAll, c, c'], by simp [toPL, PyData.hasDictAll, e, e'], by simp [toPL, PyData.intsShortAll, f, f']⟩
end
structure Nice (k w : Nat) (d : D) : Prop where
  small : small d = true
  depth : (toP d).depth ≤ k
  weight : (toP d).weight ≤ w
theorem Nice.mono {k k' w w' : Nat} {d : D} (h : Nice k w d) (hk : k ≤ k') (hw : w ≤ w') : Nice k' w' d := ⟨h.small, Nat.le_trans h.depth hk, Nat.le_trans h.weight hw⟩
theorem nice_int {i : Int} (h : i.natAbs < 10 ^ 12) : Nice 0 40 (.int i) := ⟨decide_eq_true h, Nat.le_refl _, by
  show (PyData.int i).weight ≤ 40
  simp only [PyData.weight]
  split
  · exact Nat.zero_le _
  · rename_i h0
    have h0' : i.natAbs ≠ 0 := by simpa using h0
    exact (Nat.log2_lt h0').mpr (Nat.lt_trans h (by decide))⟩
theorem depthAll_le {k : Nat} : ∀ {ds : List D}, (∀ d ∈ ds, (toP d).depth ≤ k) → PyData.depthAll (toPL ds) ≤ k
  | [], _ => by simp [toPL, PyData.depthAll]
  | d :: ds, h => by
    simp only [toPL, PyData.depthAll]
    exact Nat.max_le.mpr ⟨h d List.mem_cons_self, depthAll_le fun x hx => h x (List.mem_cons_of_mem _ hx)⟩
theorem weightAll_le {w : Nat} : ∀ {ds : List D}, (∀ d ∈ ds, (toP d).weight ≤ w) → PyData.weightAll (toPL ds) ≤ ds.length * (w + 1)
  | [], _ => by simp [toPL, PyData.weightAll]
  | d :: ds, h => by
    simp only [toPL, PyData.weightAll, List.length_cons, Nat.add_mul]
    have := weightAll_le (w := w) fun x hx => h x (List.mem_cons_of_mem _ hx)
    have := h d List.mem_cons_self
    omega
theorem nice_tup {k w : Nat} {ds : List D} (h : ∀ d ∈ ds, Nice k w d) : Nice (k + 1) (ds.length * (w + 1)) (.tup ds) :=
  ⟨smallL_mem.mpr fun d hd => (h d hd).small, by simp only [toP, PyData.depth]; exact Nat.succ_le_succ (depthAll_le fun d hd => (h d hd).depth), by simp only [toP, PyData.weight]; exact weightAll_le fun d hd => (h d hd).weight⟩
theorem nice_lst {k w : Nat} {ds : List D} (h : ∀ d ∈ ds, Nice k w d) : Nice (k + 1) (ds.length * (w + 1)) (.lst ds) :=
  ⟨smallL_mem.mpr fun d hd => (h d hd).small, by simp only [toP, PyData.depth]; exact Nat.succ_le_succ (depthAll_le fun d hd => (h d hd).depth), by simp only [toP, PyData.weight]; exact weightAll_le fun d hd => (h d hd).weight⟩
theorem Nice.shaped {k w : Nat} {d : D} (h : Nice k w d) (hk : k ≤ 64) : SeqAt.shaped (toP d) = true := by
  unfold SeqAt.shaped
  rw [(small_all d h.small).2.1, decide_eq_true (Nat.le_trans h.depth hk)]
  rfl
theorem Nice.reprOk {k w : Nat} {d : D} (h : Nice k w d) (hk : k ≤ 32) (hw : w ≤ 2 ^ 20) : reprOk d = true := by
  obtain ⟨a, b, c, e, f⟩ := small_all d h.small
  have l0 : (toP d).layable0 = true := by
    unfold PyData.layable0
    rw [b, decide_eq_true (Nat.le_trans h.depth (by omega)), decide_eq_true (Nat.le_trans h.weight hw)]
    rfl
  have := PyData.shown_fits_of_layable0 (by decide) (by decide) l0 f
  unfold DL.reprOk
  rw [a, c, e, decide_eq_true (Nat.le_trans h.depth hk), decide_eq_true this]
  rfl
theorem repr_nice {k w : Nat} {d : D} (h : Nice k w d) (hk : k ≤ 32) (hw : w ≤ 2 ^ 20) : dRepr [d] = some (.str (toP d).shown) := by
  unfold dRepr
  exact if_pos (h.reprOk hk hw)
/-! ### likeness of whole numbers, lists of such -/
theorem eqvAll_ints : ∀ (a b : List Int), PyData.eqvAll (toPL (a.map D.int)) (toPL (b.map D.int)) = decide (a = b)
  | [], [] => by simp [toPL, PyData.eqvAll]
  | [], _ :: _ => by simp [toPL, PyData.eqvAll]
  | _ :: _, [] => by simp [toPL, PyData.eqvAll]
  | i :: a, j :: b => by
    simp only [List.map_cons, toPL, PyData.eqvAll, toP, PyData.eqv, eqvAll_ints a b, List.cons.injEq]
    by_cases h : i = j <;> simp [h]
theorem shaped_ints (ns : List Int) : SeqAt.shaped (.list (toPL (ns.map D.int))) = true := by
  have h1 : PyData.canLayAll0 (toPL (ns.map D.int)) = true := by
    induction ns with
    | nil => rfl
    | cons n ns ih => simp [toPL, PyData.canLayAll0, toP, PyData.canLay0, ih]
  have h2 : PyData.depthAll (toPL (ns.map D.int)) ≤ 0 := by
    induction ns with
    | nil => simp [toPL, PyData.depthAll]
    | cons n ns ih => simpa [toPL, PyData.depthAll, toP, PyData.depth] using ih (by
        simpa [toPL, PyData.canLayAll0, toP, PyData.canLay0] using h1)
  unfold SeqAt.shaped
  have h3 : (PyData.list (toPL (ns.map D.int))).depth ≤ 64 := by
    rw [PyData.depth]
    exact Nat.le_trans (Nat.succ_le_succ h2) (by decide : 0 + 1 ≤ 64)
  rw [PyData.canLay0, h1, decide_eq_true h3]
  rfl
theorem noDic_ints (ns : List Int) : noDicL (ns.map D.int) = true := by
  induction ns with
  | nil => rfl
  | cons n ns ih => simp [noDicL, noDic, ih]
/-- an int list: frozen or not -/
def isInts (x : D) (ns : List Int) : Prop := x = .lst (ns.map D.int) ∨ x = .flst (ns.map D.int)
theorem eqB_ints {x y : D} {a b : List Int} (hx : isInts x a) (hy : isInts y b) : dEqB x y = some (decide (a = b)) := by
  have key : dEqD x y = some (decide (a = b)) := by
    rcases hx with rfl | rfl <;> rcases hy with rfl | rfl <;>
      (show (if _ then some (PyData.eqv (.list (toPL (a.map D.int))) (.list (toPL (b.map D.int)))) else none) = _
       rw [if_pos ⟨noDic_ints a, noDic_ints b, shaped_ints a, shaped_ints b⟩]
       simp only [PyData.eqv, eqvAll_ints])
  rcases hx with rfl | rfl <;> rcases hy with rfl | rfl <;> exact key
theorem ne_ints {x y : D} {a b : List Int} (hx : isInts x a) (hy : isInts y b) : dNe x y = some (.bl (!decide (a = b))) := by
  unfold dNe; rw [eqB_ints hx hy]; rfl
theorem eq_ints {x y : D} {a b : List Int} (hx : isInts x a) (hy : isInts y b) : dEq x y = some (.bl (decide (a = b))) := by
  unfold dEq; rw [eqB_ints hx hy]; rfl
@[simp] theorem ne_void (a : List Int) : dNe (.lst (a.map D.int)) (.lst []) = some (.bl (!decide (a = []))) := ne_ints (b := []) (.inl rfl) (.inl rfl)
@[simp] theorem ne_voidf (a : List Int) : dNe (.flst (a.map D.int)) (.lst []) = some (.bl (!decide (a = []))) := ne_ints (b := []) (.inr rfl) (.inl rfl)
@[simp] theorem eq_void (a : List Int) : dEq (.lst (a.map D.int)) (.lst []) = some (.bl (decide (a = []))) := eq_ints (b := []) (.inl rfl) (.inl rfl)
@[simp] theorem eq_voidf (a : List Int) : dEq (.flst (a.map D.int)) (.lst []) = some (.bl (decide (a = []))) := eq_ints (b := []) (.inr rfl) (.inl rfl)
end DL
/-! More that simp reads. -/
namespace DL
open PySem PySem.Spec L2
section
variable {W : List Nat} {ρ : Fm}
@[simp] theorem par1 : params W 1 ρ = [if 0 ∈ W then none else slot ρ 0] := rfl
@[simp] theorem par2 : params W 2 ρ = [if 0 ∈ W then none else slot ρ 0, if 1 ∈ W then none else slot ρ 1] := rfl
@[simp] theorem par3 : params W 3 ρ = [if 0 ∈ W then none else slot ρ 0, if 1 ∈ W then none else slot ρ 1, if 2 ∈ W then none else slot ρ 2] := rfl
@[simp] theorem par4 : params W 4 ρ = [if 0 ∈ W then none else slot ρ 0, if 1 ∈ W then none else slot ρ 1, if 2 ∈ W then none else slot ρ 2, if 3 ∈ W then none else slot ρ 3] := rfl
@[simp] theorem par5 : params W 5 ρ = [if 0 ∈ W then none else slot ρ 0, if 1 ∈ W then none else slot ρ 1, if 2 ∈ W then none else slot ρ 2, if 3 ∈ W then none else slot ρ 3, if 4 ∈ W then none else slot ρ 4] := rfl
end
theorem ap_index {fo : FE} {fr : FA} {ρ : Fm} : fIndex fo fr ρ = (fo ρ).bind fun x => (cont x.2 x.1).bind fun d0 => match d0 with
  | .tup _ => fMethR dIndexT fo fr ρ
  | .lst _ => fMethR dIndexL fo fr ρ
  | .flst _ => fMethR dIndexL fo fr ρ
  | _ => none := by
  unfold fIndex
  cases h : fo ρ with
  | none => rfl
  | some x =>
    simp only [Option.bind_some]
    cases h2 : cont x.2 x.1 with
    | none => rfl
    | some d => cases d <;> rfl
theorem ap_methR {g : D → List D → Option D} {fo : FE} {fr : FA} {ρ : Fm} : fMethR g fo fr ρ = (fo ρ).bind fun x => (cont x.2 x.1).bind fun d0 => (fr x.2).bind fun y => (cont y.2 x.1).bind fun d => (conts y.2 y.1).bind fun ds => (g d ds).map fun z => (.val z, y.2) := rfl
@[simp] theorem isLst_l {ds : List D} : isLst (.lst ds) = true := rfl
@[simp] theorem cut_t {ds : List D} {l h : Option Int} : dCut (.tup ds) l h = if immL ds = true then some (.tup (cut ds l h)) else none := rfl
@[simp] theorem cut_l {ds : List D} {l h : Option Int} : dCut (.lst ds) l h = if immL ds = true then some (.lst (cut ds l h)) else none := rfl
@[simp] theorem cut_f {ds : List D} {l h : Option Int} : dCut (.flst ds) l h = if immL ds = true then some (.lst (cut ds l h)) else none := rfl
@[simp] theorem ok_some' {α : Type} {a : α} {P : α → Prop} : Ok (some a) P ↔ P a := ok_some
@[simp] theorem ne_vv : dNe (.lst []) (.lst []) = some (.bl false) := ne_void []
@[simp] theorem ne_vvf : dNe (.flst []) (.lst []) = some (.bl false) := ne_voidf []
@[simp] theorem pow_1018 : dPow (.int 10) (.int 18) = some (.int 1000000000000000000) := rfl
@[simp] theorem mul_ls {i j : Int} (h0 : -(2 ^ 64) < i) (h1 : i < 2 ^ 64) : dMul (.int i) (.int j) = some (.int (i * j)) := mul_l h0 h1
@[simp] theorem mul_rs {i j : Int} (h0 : -(2 ^ 64) < j) (h1 : j < 2 ^ 64) : dMul (.int i) (.int j) = some (.int (i * j)) := mul_r h0 h1
theorem fmod_in (x : Int) {m : Int} (h : 0 < m) : 0 ≤ x.fmod m ∧ x.fmod m < m := ⟨Int.fmod_nonneg_of_pos x h, Int.fmod_lt_of_pos x h⟩
@[simp] theorem mul_fm {x y : Int} : dMul (.int (x.fmod 1000000007 + 1)) (.int y) = some (.int ((x.fmod 1000000007 + 1) * y)) := by
  have := fmod_in x (m := 1000000007) (by decide)
  exact mul_l (by omega) (by omega)
@[simp] theorem pow_fm {x : Int} : dPow (.int (x.fmod 2147483647)) (.int 5) = some (.int ((x.fmod 2147483647) ^ 5)) := by
  have := fmod_in x (m := 2147483647) (by decide)
  exact pow_int ⟨by decide, by decide, by omega⟩
theorem cell_at {cs : List Int} (a : Int) (h : cs ≠ []) : ∃ c, dSubs (.flst (cs.map .int)) (.int (a.fmod cs.length)) = some (.int c) := by
  have hl : 0 < cs.length := List.length_pos_iff.mpr h
  have := fmod_in a (m := cs.length) (by omega)
  have hlt : (a.fmod cs.length).toNat < cs.length := by omega
  exact ⟨cs[(a.fmod cs.length).toNat], dSubs_seq rfl this.1 (by rw [List.getElem?_map, List.getElem?_eq_getElem hlt]; rfl) rfl⟩
theorem gb_none : ∀ {rs : List R} {ds : List D} {ρ : Fm}, giveBack rs ds [] ρ = ρ
  | [], _, _ => by unfold giveBack; rfl
  | .var _ :: _, [], _ => by unfold giveBack; rfl
  | .val _ :: _, [], _ => by unfold giveBack; rfl
  | .var _ :: _, _ :: _, _ => by unfold giveBack; rfl
  | .val _ :: _, _ :: _, _ => by unfold giveBack; rfl
@[simp] theorem gb_immc {i : Nat} {d : D} {rs : List R} {ds : List D} {os ρ : Fm} (h : imm d = true) : giveBack (.var i :: rs) (d :: ds) os ρ = giveBack rs ds os.tail ρ := by
  cases os with
  | nil => rw [gb_none, List.tail_nil, gb_none]
  | cons o os => rw [giveBack, if_pos h]; rfl
@[simp] theorem gb_valc {v d : D} {rs : List R} {ds : List D} {os ρ : Fm} : giveBack (.val v :: rs) (d :: ds) os ρ = giveBack rs ds os.tail ρ := by
  cases os with
  | nil => rw [gb_none, List.tail_nil, gb_none]
  | cons o os => rw [giveBack]; rfl
end DL
/-! Lists of whole numbers, rows, webs. -/
namespace DL
open PySem PySem.Spec L2
abbrev intsD (ns : List Int) : List D := ns.map D.int
/-- a row as a tuple; a web -/
def rowD (r : List Int) : D := .tup (intsD r)
abbrev webD (w : List (List Int)) : D := .tup (w.map rowD)
theorem findIdx_ints (m : Int) : ∀ {ns : List Int}, m ∈ ns → (toPL (intsD ns)).findIdx? (fun z => PyData.eqv z (toP (.int m))) = some (ns.idxOf m)
  | [], h => by cases h
  | n :: ns, h => by
    simp only [intsD, List.map_cons, toPL, List.findIdx?_cons, toP, PyData.eqv, List.idxOf_cons]
    by_cases e : n = m
    · simp [e]
    · have hm : m ∈ ns := by rcases List.mem_cons.mp h with z | z; exact absurd z.symm e; exact z
      have := findIdx_ints m hm
      have e' : (n == m) = false := by simpa using e
      have t' : (toPL (intsD ns)).findIdx? (fun z => z.eqv (PyData.int m)) = some (ns.idxOf m) := by simpa [toP] using this
      have t2 : (toPL (ns.map D.int)).findIdx? (fun z => z.eqv (PyData.int m)) = some (ns.idxOf m) := t'
      rw [t2]
      simp [e']
theorem index_l {x : D} {ns : List Int} {m : Int} (hx : isInts x ns) (h : m ∈ ns) : dIndexL x [.int m] = some (.int (ns.idxOf m : Nat)) := by
  have sm : SeqAt.shaped (toP (.int m)) = true := rfl
  rcases hx with rfl | rfl <;>
    (show (if _ then (idxD (toPL (ns.map D.int)) (toP (.int m))).map (fun j => D.int (j : Nat)) else none) = _
     rw [if_pos ⟨noDic_ints ns, rfl, shaped_ints ns, sm⟩]
     unfold idxD
     rw [findIdx_ints m h]
     rfl)
theorem foldl_min_mem : ∀ (ns : List Int) (n : Int), ns.foldl min n ∈ n :: ns
  | [], n => by simp
  | m :: ns, n => by
    have := foldl_min_mem ns (min n m)
    simp only [List.foldl_cons]
    rcases List.mem_cons.mp this with h | h
    · rw [h]
      by_cases z : n ≤ m
      · rw [Int.min_def, if_pos z]; simp
      · rw [Int.min_def, if_neg z]; simp
    · simp [h]
/-- the least of a list that isn't void -/
def least : List Int → Int
  | [] => 0
  | n :: ns => ns.foldl min n
theorem least_mem {ns : List Int} (h : ns ≠ []) : least ns ∈ ns := by
  cases ns with
  | nil => exact absurd rfl h
  | cons n ns => exact foldl_min_mem ns n
theorem min_of {x : D} {ns : List Int} (hs : seqOf x = some (intsD ns)) (h : ns ≠ []) : dMm min [x] = some (.int (least ns)) := by
  show (seqOf x).bind _ = _
  rw [hs]
  show (intsOf (ns.map D.int)).bind _ = _
  rw [intsOf_ints]
  cases ns with
  | nil => exact absurd rfl h
  | cons n ns => rfl
theorem sIx_nn (n d k : Nat) (h : k ≤ n) : HT.sIx n d (some (k : Int)) = k := by
  rw [HT.sIx_nat]
  omega
theorem cut_from {α : Type} (xs : List α) (k : Nat) (h : k ≤ xs.length) : cut xs (some (k : Int)) none = xs.drop k := by
  unfold cut
  rw [sIx_nn _ _ _ h]
  show (xs.drop k).take (xs.length - k) = _
  rw [List.take_of_length_le (by simp)]
theorem cut_to {α : Type} (xs : List α) (k : Nat) (h : k ≤ xs.length) : cut xs none (some (k : Int)) = xs.take k := by
  unfold cut
  rw [sIx_nn _ _ _ h]
  show (xs.drop 0).take (k - 0) = _
  simp
theorem cat_l {a b : List D} (ha : immL a = true) (hb : immL b = true) (h : a.length + b.length ≤ sizeLine) : dAdd (.lst a) (.lst b) = some (.lst (a ++ b)) := by
  unfold dAdd dAddI dAddS dCatL
  simp [ha, hb, h]
theorem tuple_l {a : List D} (ha : immL a = true) : dTuple [.lst a] = some (.tup a) := if_pos ha
theorem append_l {ds : List D} {y : D} (h : ds.length < sizeLine) : mAppend (.lst ds) [y] = some (.lst (ds ++ [y]), .non) := if_pos h
theorem immL_append' (a b : List D) : immL (a ++ b) = (immL a && immL b) := immL_append a b
theorem imm_rows (w : List (List Int)) : immL (w.map rowD) = true := immL_mem.mpr fun d hd => by
  obtain ⟨r, _, rfl⟩ := List.mem_map.mp hd
  exact immL_ints r
theorem alikeAll_ints : ∀ (a b : List Int), PySem.W.alikeAll (toPL (intsD a)) (toPL (intsD b)) = true
  | [], _ => by simp [toPL, PySem.W.alikeAll]
  | _ :: _, [] => by simp [toPL, PySem.W.alikeAll]
  | i :: a, j :: b => by
    have := alikeAll_ints a b
    simp only [intsD, List.map_cons, toPL, PySem.W.alikeAll, toP, PySem.W.alike, Bool.true_and]
    exact this
theorem depth_row (r : List Int) : (toP (rowD r)).depth ≤ 32 := by
  have := depthAll_le (k := 0) (ds := intsD r) fun d hd => by
    obtain ⟨i, _, rfl⟩ := List.mem_map.mp hd
    exact Nat.le_refl 0
  show (PyData.tuple (toPL (intsD r))).depth ≤ 32
  rw [PyData.depth]
  omega
/-- rows in rising order, as sorted puts them -/
def rowLe (a b : List Int) : Bool := PySem.W.dataLe false toP (rowD a) (rowD b)
def sortRows (w : List (List Int)) : List (List Int) := w.mergeSort rowLe
theorem sorted_rows {w : List (List Int)} (h : ∀ r ∈ w, r ≠ []) : dSorted [.lst (w.map rowD)] = some (.lst ((sortRows w).map rowD)) := by
  have h1 : noDicL (w.map rowD) = true := by
    induction w with
    | nil => rfl
    | cons r w ih =>
      show (noDicL (intsD r) && noDicL (w.map rowD)) = true
      rw [noDic_ints, ih fun x hx => h x (List.mem_cons_of_mem _ hx)]
      rfl
  have h2 : sortable ((w.map rowD).map toP) = true := by
    unfold sortable
    rw [Bool.or_eq_true]
    left
    rw [List.all_eq_true]
    intro d hd
    obtain ⟨e, he, rfl⟩ := List.mem_map.mp hd
    obtain ⟨r, hr, rfl⟩ := List.mem_map.mp he
    cases r with
    | nil => exact absurd rfl (h _ hr)
    | cons n r => rfl
  have h3 : allAlike ((w.map rowD).map toP) = true := by
    unfold allAlike
    rw [List.all_eq_true]
    intro d hd
    rw [List.all_eq_true]
    intro e he
    obtain ⟨d', hd', rfl⟩ := List.mem_map.mp hd
    obtain ⟨r, _, rfl⟩ := List.mem_map.mp hd'
    obtain ⟨e', he', rfl⟩ := List.mem_map.mp he
    obtain ⟨q, _, rfl⟩ := List.mem_map.mp he'
    exact alikeAll_ints r q
  show (if _ then some (D.lst ((w.map rowD).mergeSort (PySem.W.dataLe false toP))) else none) = _
  rw [if_pos ⟨h1, imm_rows w, h2, h3, fun d hd => by obtain ⟨r, _, rfl⟩ := List.mem_map.mp hd; exact depth_row r⟩]
  congr 2
  exact (List.map_mergeSort (f := rowD) (r := rowLe) (s := PySem.W.dataLe false toP) fun a _ b _ => rfl).symm
theorem sortRows_perm (w : List (List Int)) : (sortRows w).Perm w := List.mergeSort_perm _ _
/-- a row begun with its least -/
def turnRow (r : List Int) : List Int := r.drop (r.idxOf (least r)) ++ r.take (r.idxOf (least r))
theorem turnRow_perm (r : List Int) : (turnRow r).Perm r := by
  have := List.perm_append_comm (l₁ := r.drop (r.idxOf (least r))) (l₂ := r.take (r.idxOf (least r)))
  rw [List.take_append_drop] at this
  exact this
theorem big_ok {n : Nat} (h : n ≤ 100000) : n ≤ sizeLine := Nat.le_trans h (by decide)
theorem big_lt {n : Nat} (h : n ≤ 100000) : n < sizeLine := Nat.lt_of_le_of_lt h (by decide)
theorem IsFeed.imm {d : D} (h : IsFeed d) : imm d = false := by obtain ⟨_, _, _, _, rfl⟩ := h; rfl
/-- 0, 1, …, k - 1 -/
def up (k : Nat) : List Int := (List.range k).map fun (i : Nat) => (i : Int)
theorem iota_up (k : Nat) : iota 0 k = intsD (up k) := by simp [iota, up, intsD]
theorem up_length (k : Nat) : (up k).length = k := by simp [up]
theorem up_mem {k : Nat} {i : Int} : i ∈ up k ↔ 0 ≤ i ∧ i < k := by
  unfold up
  rw [List.mem_map]
  constructor
  · rintro ⟨j, hj, rfl⟩
    have := List.mem_range.mp hj
    omega
  · rintro ⟨h0, h1⟩
    exact ⟨i.toNat, List.mem_range.mpr (by omega), by omega⟩
theorem up_nodup (k : Nat) : (up k).Nodup := by
  unfold up
  refine List.pairwise_map.mpr (List.Pairwise.imp (fun {a b} h => ?_) List.nodup_range)
  omega
theorem okR_of' {j : Int} (h0 : -4611686018427387904 < j) (h1 : j < 4611686018427387904) : okR j = true := decide_eq_true (by omega)
theorem map_erase {α β : Type} (f : α → β) : ∀ (l : List α) (i : Nat), (l.map f).eraseIdx i = (l.eraseIdx i).map f
  | [], i => by simp
  | a :: l, 0 => rfl
  | a :: l, i + 1 => by simp [map_erase f l i]
theorem pop_ints {ns : List Int} {i : Int} (h0 : 0 ≤ i) (h1 : i < ns.length) (hl : ns.length ≤ 100000) : ∃ n, ns[i.toNat]? = some n ∧ mPopAt (.lst (intsD ns)) [.int i] = some (.lst (intsD (ns.eraseIdx i.toNat)), .int n) := by
  have hlt : i.toNat < ns.length := by omega
  refine ⟨ns[i.toNat], List.getElem?_eq_getElem hlt, ?_⟩
  show (if i.natAbs < 2 ^ 63 then _ else _) = _
  rw [if_pos (by omega), ixN_int h0 (by simp; omega)]
  show Option.map _ ((ns.map D.int)[i.toNat]?) = _
  rw [List.getElem?_map, List.getElem?_eq_getElem hlt]
  simp [map_erase]
theorem erase_perm {ns : List Int} {i : Nat} {n : Int} (h : ns[i]? = some n) : (n :: ns.eraseIdx i).Perm ns := by
  induction ns generalizing i with
  | nil => simp at h
  | cons m ns ih =>
    cases i with
    | zero => simp at h; subst h; simp
    | succ i =>
      simp at h
      simp only [List.eraseIdx_cons_succ]
      exact (List.Perm.swap _ _ _).trans ((ih h).cons _)
theorem ap_pIx {i : Nat} {fb : FE} {ρ : Fm} : fpIx i fb ρ = (slot ρ i).bind fun d0 => (fb ρ).bind fun y => (cont y.2 y.1).bind fun dy => match d0, slot y.2 i, dy with
  | .lst _, some (.lst ds), .int k => (ixN ds.length k).bind fun j => if j < ds.length then some (.ix i j, y.2) else none
  | .dic _, some (.dic kvs), y' => (DL.keyOf y').bind fun k => (kvGet kvs k).map fun _ => (.key i k, y.2)
  | _, _, _ => none := rfl
@[simp] theorem hide_ix {ρ : Fm} {i j : Nat} : hide ρ (.ix i j) = ρ.set i none := rfl
@[simp] theorem unhide_ix {ρ1 ρ3 : Fm} {i j : Nat} : unhide ρ1 ρ3 (.ix i j) = (ρ3.set i none).set i (slot ρ1 i) := rfl
theorem rows_le : ∀ {w : List (List Int)}, (∀ r ∈ w, r ≠ []) → w.length ≤ w.flatten.length
  | [], _ => Nat.zero_le _
  | r :: w, h => by
    have := rows_le (w := w) fun x hx => h x (List.mem_cons_of_mem _ hx)
    have := List.length_pos_iff.mpr (h r List.mem_cons_self)
    simp only [List.length_cons, List.flatten_cons, List.length_append]
    omega
theorem row_le : ∀ {w : List (List Int)} {r : List Int}, r ∈ w → r.length ≤ w.flatten.length
  | q :: w, r, h => by
    simp only [List.flatten_cons, List.length_append]
    rcases List.mem_cons.mp h with rfl | h
    · omega
    · have := row_le h
      omega
theorem turn_flat : ∀ (w : List (List Int)), (w.map turnRow).flatten.Perm w.flatten
  | [] => .refl _
  | r :: w => by
    simp only [List.map_cons, List.flatten_cons]
    exact (turnRow_perm r).append (turn_flat w)
theorem turn_ne {r : List Int} (h : r ≠ []) : turnRow r ≠ [] := fun z => by
  have := (turnRow_perm r).length_eq
  rw [z] at this
  exact h (List.eq_nil_of_length_eq_zero this.symm)
theorem ap_getIx {ρ : Fm} {i j : Nat} : getP ρ (.ix i j) = match slot ρ i with | some (.lst ds) => ds[j]? | _ => none := rfl
theorem ap_setIx {ρ : Fm} {i j : Nat} {d : D} : setP ρ d (.ix i j) = match slot ρ i with | some (.lst ds) => ρ.set i (some (.lst (ds.set j d))) | _ => ρ := rfl
theorem ixN_m1 (n : Nat) : ixN (n + 1) (-1) = some n := ixN_last (Nat.succ_pos n)
theorem get_last {α : Type} (l : List α) (a : α) (n : Nat) (h : n = l.length) : (l ++ [a])[n]? = some a := by subst h; simp
theorem set_last {α : Type} (l : List α) (a b : α) (n : Nat) (h : n = l.length) : (l ++ [a]).set n b = l ++ [b] := by
  subst h
  rw [List.set_append_right _ _ (Nat.le_refl _)]
  simp
end DL
/-! sorted of a list of tuples of which the first is void. -/
namespace DL
open PySem PySem.Spec L2
end DL
/-! sorted of a tuple of data. -/
namespace DL
open PySem PySem.Spec L2 PyProof.Rows
end DL
/-! A part of a text, too. -/
namespace DL
open PySem PySem.Spec L2
def dCutX (d : D) (lo hi : Option Int) : Option D := match d with
  | .str z => if z.length ≤ sizeLine then some (.str (cutS z lo hi)) else none
  | d => dCut d lo hi
def fCutX (fe : FE) (fl fh : Fm → Option (Option Int × Fm)) : FE := fun ρ => (fe ρ).bind fun (r, ρ1) => (fl ρ1).bind fun (lo, ρ2) => (fh ρ2).bind fun (hi, ρ3) => (cont ρ3 r).bind fun d => (dCutX d lo hi).map fun z => (.val z, ρ3)
theorem de_cutX {X : Cx} {e : Expr} {lo hi : Option Expr} {fe : FE} {fl fh : Fm → Option (Option Int × Fm)} {p2 pos : Pos} (he : DE X e fe) (hl : DO X lo fl) (hh : DO X hi fh) : DE X (.Subscript e (.Slice lo hi none p2) pos) (fCutX fe fl fh) :=
  ⟨pe_weak (pe_slice ((sl_tupF.or sl_list).or sl_str) he.pe hl.po hh.po) fun σ H Q ⟨ρ, F, r', ρ', E, nd, ef, k⟩ => by
    obtain ⟨⟨r, ρ1⟩, e1, ef⟩ := Option.bind_eq_some_iff.mp ef
    obtain ⟨⟨l, ρ2⟩, e2, ef⟩ := Option.bind_eq_some_iff.mp ef
    obtain ⟨⟨h, ρ3⟩, e3, ef⟩ := Option.bind_eq_some_iff.mp ef
    obtain ⟨d, e4, ef⟩ := Option.bind_eq_some_iff.mp ef
    obtain ⟨z, e5, ef⟩ := Option.map_eq_some_iff.mp ef
    cases ef
    refine ⟨ρ, F, r, ρ1, E, nd, e1, fun v H1 g F1 r1 E1 N1 S1 => ⟨ρ1, F1, l, ρ2, E1, (nodup3 N1).2.1, e2, fun H2 F2 E2 N2 S2 => ⟨ρ2, F2, h, ρ', E2, N2, e3, fun H3 F3 E3 N3 S3 => ?_⟩⟩⟩
    obtain ⟨n1, n2, n3⟩ := nodup3 N1
    have S23 := S2.trans S3
    have r3 := r1.keep (S23.keep E1.mut n3)
    have S4 : Step H F H3 F3 := fun a u ea na => by
      obtain ⟨x1, x2⟩ := S1 a u ea na
      exact S23 a u x1 fun q => x2 (List.mem_append_right _ q)
    obtain ⟨p, q, _⟩ := r3.cont E3 e4
    have T : Tells X.K H3 z Q := fun u H' hh ru nh fr sm => k u H' hh F3 ru (E3.keep (Same.keep sm)) (nodup_fresh E3 N3 nh fr) (S4.fresh sm fr fun a ha => ha)
    cases d <;> try cases e5
    · obtain ⟨few, rfl⟩ := if_some e5
      obtain ⟨rfl, _⟩ := q
      exact .inr ⟨_, rfl, few, T.flat ⟨rfl, rfl⟩⟩
    · obtain ⟨c, rfl⟩ := if_some (show (if immL _ = true then _ else none) = some z from e5)
      obtain ⟨a, vs, rfl, ta, rl⟩ := q
      have rc := rl.cut c l h
      refine .inl (.inl ⟨a, vs, rfl, ta.sq, fun hw => ?_, fun _ => T.tup rc⟩)
      have : cut (α := D) _ l h = _ := cut_whole (rl.length ▸ hw)
      exact T.flat ⟨a, vs, rfl, ta, by rw [this]; exact rl.nil_of c⟩
    · obtain ⟨c, rfl⟩ := if_some (show (if immL _ = true then _ else none) = some z from e5)
      obtain ⟨a, vs, g', rfl, ta, rl, _⟩ := Rep.sqL q rfl
      exact .inl (.inr ⟨a, vs, rfl, ta, fun p hp => T.list (rl.cut c l h) hp⟩)
    · obtain ⟨c, rfl⟩ := if_some (show (if immL _ = true then _ else none) = some z from e5)
      obtain ⟨a, vs, g', rfl, ta, rl, _⟩ := Rep.sqL q rfl
      exact .inl (.inr ⟨a, vs, rfl, ta, fun p hp => T.list (rl.cut c l h) hp⟩)⟩
end DL
/-! A tuple of any things == (). -/
namespace DL
open PySem PySem.Spec L2 PyProof.Rows
end DL
/-! len(set(xs)), xs unlike tuples of whole numbers. -/
namespace DL
open PySem PySem.Spec L2
end DL
/-! xs[i], ys[j] = a, b, numbers put at places of lists. -/
namespace DL
open PySem PySem.Spec L2
end DL
/-! A comparison, a list display of what may end with an exception. -/
namespace DL
open PySem PySem.Spec L2
end DL
/-! Texts: cut at a sign, joined, read as numbers, many times; texts that the top names. -/
namespace DL
open PySem PySem.Spec L2
def strsOf : List D → Option (List Str)
  | [] => some []
  | .str s :: ds => (strsOf ds).map fun r => s :: r
  | _ :: _ => none
theorem repL_strs {K : PySem.W.Frag} {H : Hp} : ∀ (ys : List Str), RepL K H (ys.map D.str) (ys.map V.str) []
  | [] => ⟨rfl, rfl⟩
  | y :: ys => ⟨.str y, ys.map V.str, [], [], rfl, rfl, ⟨rfl, rfl⟩, repL_strs ys⟩
theorem RepL.strs {K : PySem.W.Frag} {H : Hp} : ∀ {ds : List D} {vs : List V} {g : List Addr} {ys : List Str}, RepL K H ds vs g → strsOf ds = some ys → vs = ys.map V.str
  | [], vs, g, ys, r, e => by
    cases e
    exact r.1
  | d :: ds, vs, g, ys, r, e => by
    obtain ⟨v, vs', g1, g2, rfl, rfl, r1, r2⟩ := r
    cases d <;> try cases e
    rename_i s
    obtain ⟨zs, e2, rfl⟩ := Option.map_eq_some_iff.mp (show (strsOf ds).map (fun r => s :: r) = some ys from e)
    obtain ⟨rfl, _⟩ := r1
    rw [RepL.strs r2 e2]
    rfl
def rSplit : V → List V → Hp → VK → Prop := fun x xs H Q => ∃ a b, x = .str a ∧ xs = [.str b] ∧ (b.length == 0) = false ∧ a.length + 2 ≤ sizeLine ∧ rNewStrs (Txt.split a b) H Q
def dSplit : D → List D → Option D
  | .str a, [.str b] => if (b.length == 0) = false ∧ a.length + 2 ≤ sizeLine then some (.lst ((Txt.split a b).map D.str)) else none
  | _, _ => none
theorem ms_split {K : PySem.W.Frag} : MethS K rSplit dSplit := by
  intro H d v p ds vs z Q r a e k
  unfold dSplit at e
  split at e
  · obtain ⟨⟨c1, c2⟩, rfl⟩ := if_some e
    obtain ⟨w, q, rfl, r2⟩ := a.one
    obtain ⟨rfl, _⟩ := r
    obtain ⟨rfl, _⟩ := r2
    exact ⟨_, _, rfl, rfl, c1, c2, fun b hb => k.list (repL_strs _) hb⟩
  · cases e
def rJoin (K : PySem.W.Frag) : V → List V → Hp → VK → Prop := fun x xs H Q => ∃ a p, ∃ ys : List Str, x = .str a ∧ xs = [.ref p] ∧ (SqL K H p (ys.map V.str) ∨ SqT K H p (ys.map V.str)) ∧
  (ys.map (·.length)).sum + ys.length * a.length ≤ 16777216 ∧ Q (.str (Txt.join a ys)) H
def dJoin : D → List D → Option D
  | .str a, [x] => (lstOf x).bind fun ds => (strsOf ds).bind fun ys => if (ys.map (·.length)).sum + ys.length * a.length ≤ 16777216 then some (.str (Txt.join a ys)) else none
  | _, _ => none
theorem ms_join {K : PySem.W.Frag} : MethS K (rJoin K) dJoin := by
  intro H d v p ds vs z Q r a e k
  unfold dJoin at e
  split at e
  · obtain ⟨w, q, rfl, r2⟩ := a.one
    obtain ⟨es, e1, e⟩ := Option.bind_eq_some_iff.mp e
    obtain ⟨ys, e2, e⟩ := Option.bind_eq_some_iff.mp e
    obtain ⟨c, rfl⟩ := if_some e
    obtain ⟨rfl, _⟩ := r
    obtain ⟨b, ws, g, rfl, hs, rl, _⟩ := r2.sqL e1
    rw [rl.strs e2] at hs
    exact ⟨_, b, ys, rfl, rfl, .inl hs, c, k.flat ⟨rfl, rfl⟩⟩
  · cases e
def isStr : D → Bool
  | .str _ => true
  | _ => false
theorem tyV_str {K : PySem.W.Frag} {d : D} (e : isStr d = true) : ∀ v H p, Rep K H d v p → tyV K "str" v H := fun v H p r => by
  cases d <;> try cases e
  obtain ⟨rfl, _⟩ := r
  exact rfl
/-- a method of a text -/
def fMethT (g : D → List D → Option D) (fo : FE) (fr : FA) : FE := fun ρ => ((fo ρ).bind fun (x, ρ1) => (cont ρ1 x).bind fun d => if isStr d = true then some d else none).bind fun _ => fMethR g fo fr ρ
theorem de_methT {X : Cx} {E : Expr} {r : V → List V → Hp → VK → Prop} {g : D → List D → Option D} {fo : FE} {fr : FA} (hg : MethS X.K r g) (hl : PE X E (tBM X.K "str" r (rdE X.K fo) (rdA X.K fr))) : DE X E (fMethT g fo fr) :=
  ⟨pe_weak hl fun σ H Q ⟨ρ, F, s, ρ2, E, nd, ef, k⟩ => by
    obtain ⟨dd, e6, ef⟩ := Option.bind_eq_some_iff.mp ef
    obtain ⟨x, ρ1, d0, rs, d, ds, z, e1, e0, e2, e3, e4, e5, rfl⟩ := fMethR_some ef
    rw [e1] at e6
    have e6 : ((cont ρ1 x).bind fun d => if isStr d = true then some d else none) = some dd := e6
    rw [e0] at e6
    obtain ⟨c, _⟩ := if_some (show (if isStr d0 = true then some d0 else none) = some dd from e6)
    exact meth_of hg E nd e1 e0 e2 e3 e4 e5 (tyV_str c) k⟩
/-- int(a text), of a few figures -/
def rIntS : List V → Hp → VK → Prop := fun xs H Q => ∃ a n, xs = [.str a] ∧ PySem.intText? a = some n ∧ a.length ≤ 640 ∧ Q (.int n) H
def dIntS : List D → Option D
  | [.str a] => (PySem.intText? a).bind fun n => if a.length ≤ 640 then some (.int n) else none
  | _ => none
theorem cs_intS {K : PySem.W.Frag} : CallS K rIntS dIntS := by
  intro H ds vs z Q a e k
  unfold dIntS at e
  split at e
  · obtain ⟨n, e1, e⟩ := Option.bind_eq_some_iff.mp e
    obtain ⟨c, rfl⟩ := if_some e
    obtain ⟨w, q, rfl, r2⟩ := a.one
    obtain ⟨rfl, _⟩ := r2
    exact ⟨_, n, rfl, e1, c, k.flat ⟨rfl, rfl⟩⟩
  · cases e
/-- a text, many times -/
def rMulS : R2 := fun x y H Q => ∃ (a : Str) (n : Int), x = .str a ∧ y = .int n ∧ 0 ≤ n ∧ n ≤ 1000 ∧ a.length ≤ 1000 ∧ Q (.str (Txt.mul a n)) H
theorem op_mulS {X : Cx} : OpR X (binaryOp .Mult) rMulS := by
  rintro pins s σ H _ _ v u Q I rx ry ⟨a, n, rfl, rfl, n0, n1, l, q⟩
  obtain ⟨t, rfl⟩ := rx
  obtain ⟨t2, rfl⟩ := ry
  have c1 : (decide (n < -(2 ^ 63 : Int)) || decide (n ≥ 2 ^ 63)) = false := by
    rw [decide_eq_false (by omega), decide_eq_false (by omega)]; rfl
  have c2 : ¬ n < 1 → (n == 1 || a.length == 0) = false → ¬ ((a.length : Int) > (2 ^ 63 - 1) / n) := fun h1 _ h2 => by
    have n1 : 0 < n := by omega
    have := (Int.le_ediv_iff_mul_le (c := n) (a := 1000) (b := 2 ^ 63 - 1) n1).mpr (by omega)
    omega
  have c3 : ¬ n < 1 → (n == 1 || a.length == 0) = false → Builtin.Str.tooLong (a.length * n.toNat) = false := fun _ _ => by
    have : a.length * n.toNat ≤ 1000 * 1000 := Nat.mul_le_mul l (by omega)
    unfold Builtin.Str.tooLong
    have e : sizeLine = 16777216 := rfl
    exact decide_eq_false (by omega)
  exact PySem.SB.mul ⟨c1, c2, c3⟩ fun t' k => ⟨.str _, H, I.tok k, ⟨t', rfl⟩, q⟩
def dMulT : D → D → Option D
  | .str a, .int n => if 0 ≤ n ∧ n ≤ 1000 ∧ a.length ≤ 1000 then some (.str (Txt.mul a n)) else none
  | _, _ => none
theorem o2_mulT {K : PySem.W.Frag} : Op2 K rMulS dMulT := fun H x y v w p q z Q r1 r2 e h => by
  unfold dMulT at e
  split at e
  · obtain ⟨⟨c1, c2, c3⟩, rfl⟩ := if_some e
    obtain ⟨rfl, _⟩ := r1
    obtain ⟨rfl, _⟩ := r2
    exact ⟨_, _, rfl, rfl, c1, c2, c3, h _ H [] ⟨rfl, rfl⟩ List.nodup_nil (by simp) (Same.refl H)⟩
  · cases e
/-- a text that the top names -/
theorem de_globS {X : Cx} {x : Str} {i : Str} {p : Pos} (hm : ∃ t, X.mg x = some (.str i t)) (hg : Gl X x) (hdb : (x == ("__debug__" : Str)) = false := by decide) : DE X (.Name x p) (fC (.str i)) := by
  obtain ⟨t, e⟩ := hm
  exact de_c (pe_glob hg e (v := .str i) ⟨t, rfl⟩ hdb) fun _ _ => ⟨rfl, rfl⟩
/-- the signs of a text, one by one -/
def signsD (x : Str) : List D := x.cps.toList.map fun c => D.str ⟨#[c]⟩
def fSignI (fe : FE) : FI := fun ρ => (fe ρ).bind fun (r, ρ1) => (cont ρ1 r).bind fun d => match d with
  | .str x => some (signsD x, ρ1)
  | _ => none
theorem src_signs {K : PySem.W.Frag} (x : Str) : SrcOk K (Strong K) (Its x) (signsD x) fun _ => True where
  keep _ _ h _ := h
  go _ n _ h := by
    unfold signsD at h
    rw [List.length_map, Array.length_toList] at h
    exact h
  stop _ n _ h := by
    unfold signsD at h
    rw [List.length_map, Array.length_toList] at h
    exact h
  yld H n v H' d _ y e := by
    obtain ⟨rfl, c, hc, rfl⟩ := y
    unfold signsD at e
    rw [List.getElem?_map, Array.getElem?_toList, hc] at e
    cases e
    exact ⟨⟨rfl, rfl⟩, Same.refl _⟩
theorem di_sign {X : Cx} {tg e : Expr} {fe : FE} (h : DE X e fe) : DI X (Strong X.K) tg e (fSignI fe) := ⟨pi_weak (pi_str h.pe) fun σ H R ⟨ρ, F, ds, ρ', E, nd, ef, k⟩ => by
  obtain ⟨⟨r, ρ1⟩, e1, ef⟩ := Option.bind_eq_some_iff.mp ef
  obtain ⟨d, e2, ef⟩ := Option.bind_eq_some_iff.mp ef
  cases d <;> try cases ef
  refine ⟨ρ, F, r, ρ', E, nd, e1, fun v H1 g F1 r1 E1 N1 S1 => ?_⟩
  obtain ⟨p, q, _⟩ := r1.cont E1 e2
  obtain ⟨rfl, _⟩ := q
  exact ⟨_, rfl, k _ H1 F1 _ (src_signs _) trivial E1 (nodup3 N1).2.1 (S1.to fun b hb => .inl (List.mem_append_right _ hb))⟩⟩
end DL
/-! A list of texts: how often a text is in it. -/
namespace DL
open PySem PySem.Spec L2 PyProof.Rows
end DL
/-! A list that stands in another one, looked at where it stands. -/
namespace DL
open PySem PySem.Spec L2
/-- a comparison with what stands at a place -/
def fOpP (g : D → D → Option D) (fp : FP) (fb : FE) : FE := fun ρ => (fp ρ).bind fun (p, ρ1) => (getP ρ1 p).bind fun d0 => (fb (hide ρ1 p)).bind fun (y, ρ2) => (take1 ρ2 y).bind fun (dy, ρ3) =>
  (getP (unhide ρ1 ρ3 p) p).bind fun dx => (g dx dy).bind fun z => match z with
    | .bl b => some (.val (.bl b), unhide ρ1 ρ3 p)
    | _ => none
section
variable {X : Cx} {a b : Expr} {pos : Pos} {fp : FP} {fb : FE}
theorem tOpP_of {r : R2} {g : D → D → Option D} {K : PySem.W.Frag} (hg : Op2 K r g) {σ : L2.St} {H : Hp} {Q : VK} (h : rdE K (fOpP g fp fb) σ H Q) : tOp r (rdP K fp) (rdE K fb) σ H Q := by
  obtain ⟨ρ, F, r0, ρ', E, nd, ef, k⟩ := h
  obtain ⟨⟨p, ρ1⟩, e1, ef⟩ := Option.bind_eq_some_iff.mp ef
  obtain ⟨d0, e0, ef⟩ := Option.bind_eq_some_iff.mp ef
  obtain ⟨⟨y, ρ2⟩, e2, ef⟩ := Option.bind_eq_some_iff.mp ef
  obtain ⟨⟨dy, ρ3⟩, e5, ef⟩ := Option.bind_eq_some_iff.mp ef
  obtain ⟨dx, e3, ef⟩ := Option.bind_eq_some_iff.mp ef
  obtain ⟨z, e4, ef⟩ := Option.bind_eq_some_iff.mp ef
  obtain ⟨bb, rfl, ef⟩ : ∃ bb, z = .bl bb ∧ some (R.val (.bl bb), unhide ρ1 ρ3 p) = some (r0, ρ') := by
    cases z with
    | bl bb => exact ⟨bb, rfl, ef⟩
    | _ => cases ef
  cases ef
  refine ⟨ρ, F, p, ρ1, E, nd, e1, fun v H1 F1 hv E1 N1 S1 => ?_⟩
  obtain ⟨Fh, Eh, nh, sub, cont⟩ := hidden E1 N1 e0 hv
  refine ⟨hide ρ1 p, Fh, y, ρ2, Eh, nh, e2, fun w H2 g2 F2 r2 E2 N2 S2 => ?_⟩
  obtain ⟨p2, F3, rd, E3, N3, s3⟩ := r2.take E2 N2 e5
  obtain ⟨hv2, F4, E4, N4, S4⟩ := cont [] (by simp) (by simp) H2 ρ3 F3 p2 E3 N3 (S2.to fun a ha => .inl (s3 a ha))
  obtain ⟨n1, n2, n3⟩ := nodup3 N4
  obtain ⟨f, G', rf, nf, dis, mem, up⟩ := E4.lens n2 e3 hv2
  refine hg H2 dx dy v w f p2 (.bl bb) Q rf rd e4 fun u H' h ru nh fr sm => ?_
  exact k u H' h F4 ru (E4.keep (Same.keep sm)) (nodup_fresh E4 n2 nh fr) ((S1.trans S4).fresh sm fr fun a ha => by simp [ha])
theorem dt_cmpP {op : CmpOp} {r : R2} {g : D → D → Option D} (ho : OpR X (compareOp op) r) (hg : Op2 X.K r g) (ha : DP X a fp) (hb : DE X b fb) (hm : behindInMarks op b = false) : DT X (.Compare a [op] [b] pos) (fTest (fOpP g fp fb)) :=
  ⟨pt_weak (pt_cmpR ho ha.pe hb.pe hm) fun σ H Q h => tTest_of (fun _ _ _ q => tOpP_of hg q) h⟩
end
end DL
/-! The meanings that many laws share; printed by gen.py for law k02, then kept. -/
namespace RM
open PySem L2 DL
def b_other_of : FS := fRet (fOp dSub (fOp dAdd (fVar 0) (fC (.int 1))) (fOp dMul (fC (.int 2)) (fOp dMod (fVar 0) (fC (.int 2)))))
def d_other_of : Den := denOf 1 1 [] b_other_of
def b__law_draw : FS := fSeq (fAsg (fOp dAdd (fOp dSubs (fVar 0) (fC (.str "turn"))) (fC (.int 1))) (fgName 2)) (fSeq (fStore (fVar 2) (fpVar 0) (fC (.str "turn"))) (fSeq (fIfS (fTest (fOp (dCmp pGt) (fOp dSubs (fVar 0) (fC (.str "left"))) (fC (.int 0)))) (fSeq (fAsg (fOp dMod (fOp dSubs (fVar 0) (fC (.str "left"))) (fVar 1)) (fgName 3)) (fSeq (fStore (fOp dDiv (fOp dSubs (fVar 0) (fC (.str "left"))) (fVar 1)) (fpVar 0) (fC (.str "left"))) (fRet (fVar 3)))) (fSkip)) (fSeq (fAsg (fOp dSubs (fVar 0) (fC (.str "cells"))) (fgName 4)) (fSeq (fAsg (fOp dSubs (fVar 0) (fC (.str "at"))) (fgName 5)) (fSeq (fStore (fOp dAdd (fVar 5) (fC (.int 1))) (fpVar 0) (fC (.str "at"))) (fSeq (fAsg (fIf (fTest (fOp dNe (fVar 4) (fLst (fNil)))) (fOp dSubs (fVar 4) (fOp dMod (fVar 5) (fCall dLen (fCons (fVar 4) (fNil))))) (fC (.int 0))) (fgName 6)) (fSeq (fIfS (fAnd (fTest (fOp (dCmp pGe) (fVar 6) (fOp dPow (fC (.int 10)) (fC (.int 18))))) (fTest (fOp (dCmp pLt) (fVar 5) (fCall dLen (fCons (fVar 4) (fNil)))))) (fSeq (fStore (fOp dDiv (fVar 6) (fVar 1)) (fpVar 0) (fC (.str "left"))) (fRet (fOp dMod (fVar 6) (fVar 1)))) (fSkip)) (fSeq (fAsg (fOp dMod (fOp dMul (fOp dAdd (fOp dMod (fVar 6) (fC (.int 1000000007))) (fC (.int 1))) (fOp dAdd (fOp dMul (fC (.int 7919)) (fVar 2)) (fC (.int 104729)))) (fC (.int 2147483647))) (fgName 7)) (fSeq (fAsg (fOp dMod (fOp dMul (fOp dAdd (fOp dMod (fOp dPow (fVar 7) (fC (.int 5))) (fC (.int 2147483647))) (fVar 2)) (fC (.int 48271))) (fC (.int 2147483629))) (fgName 7)) (fRet (fOp dMod (fOp dDiv (fVar 7) (fC (.int 64))) (fVar 1))))))))))))
def d__law_draw : Den := denOf 8 2 [2, 3, 4, 5, 6, 7, 7] b__law_draw
def b__law_begun : FS := fSeq (fAsg (fLst (fNil)) (fgName 1)) (fSeq (fFor (fSeqI (fFrz (fVar 0))) (fgName 2) (fSeq (fAsg (fIndex (fVar 2) (fCons (fCall (dMm min) (fCons (fVar 2) (fNil))) (fNil))) (fgName 3)) (fDrop (fMut isLst mAppend (fpVar 1) (fCons (fCall dTuple (fCons (fOp dAdd (fCut (fVar 2) (foSome (fVar 3)) (foNone)) (fCut (fVar 2) (foNone) (foSome (fVar 3)))) (fNil))) (fNil)))))) (fRet (fCall dTuple (fCons (fCall dSorted (fCons (fVar 1) (fNil))) (fNil)))))
def d__law_begun : Den := denOf 4 1 [1, 2, 3] b__law_begun
def b__law_any_web : FS := fSeq (fAsg (fLstRg1 (fOp dAdd (fC (.int 2)) (fOp dMul (fC (.int 2)) (fCallD d__law_draw (fCons (fVar 0) (fCons (fVar 1) (fNil))))))) (fgName 2)) (fSeq (fAsg (fOp dSubs (fLst (fCons (fC (.int 2)) (fCons (fC (.int 3)) (fCons (fC (.int 6)) (fCons (fC (.int 1)) (fCons (fC (.int 25)) (fNil))))))) (fCallD d__law_draw (fCons (fVar 0) (fCons (fC (.int 5)) (fNil))))) (fgName 3)) (fSeq (fAsg (fLst (fCons (fLst (fCons (fMut isLst mPopAt (fpVar 2) (fCons (fCallD d__law_draw (fCons (fVar 0) (fCons (fCall dLen (fCons (fVar 2) (fNil))) (fNil)))) (fNil))) (fNil))) (fNil))) (fgName 4)) (fSeq (whileD (fTest (fOp dNe (fVar 2) (fLst (fNil)))) (fSeq (fAsg (fMut isLst mPopAt (fpVar 2) (fCons (fCallD d__law_draw (fCons (fVar 0) (fCons (fCall dLen (fCons (fVar 2) (fNil))) (fNil)))) (fNil))) (fgName 5)) (fIfS (fTest (fOp dEq (fCallD d__law_draw (fCons (fVar 0) (fCons (fVar 3) (fNil)))) (fC (.int 0)))) (fDrop (fMut isLst mAppend (fpVar 4) (fCons (fLst (fCons (fVar 5) (fNil))) (fNil)))) (fDrop (fMut isLst mAppend (fpIx 4 (fNeg (fC (.int 1)))) (fCons (fVar 5) (fNil)))))) fuel) (fRet (fCallD d__law_begun (fCons (fVar 4) (fNil)))))))
def d__law_any_web : Den := denOf 6 2 [2, 3, 4, 5] b__law_any_web
end RM
/-! meanings that many laws share; printed by gen.py, then kept -/
namespace RZ
open PySem L2 DL
def b_number_in_word : FS := fSeq (fIfS (fOr (fNot (fTest (fBl (fChain pLe pLe (fC (.int 1)) (fCall dLen (fCons (fVar 0) (fNil))) (fC (.int 4)))))) (fOr (fNot (fTest (fCall dAll (fCons (fLc [1] (fSignI (fVar 0)) (fgName 1) (fYes) (fOp dIn (fVar 1) (fC (.str "0123456789")))) (fNil))))) (fAnd (fTest (fOp dEq (fOp dSubs (fVar 0) (fC (.int 0))) (fC (.str "0")))) (fTest (fOp dNe (fVar 0) (fC (.str "0"))))))) (fRet (fC .non)) (fSkip)) (fRet (fCall dIntS (fCons (fVar 0) (fNil))))
def d_number_in_word : Den := denOf 2 1 [] b_number_in_word
def b_numbers_in_words : FS := fSeq (fAsg (fLc [2] (fSeqI (fFrz (fVar 0))) (fgName 2) (fYes) (fCallD d_number_in_word (fCons (fVar 2) (fNil)))) (fgName 1)) (fRet (fIf (fTest (fOp dIn (fC .non) (fVar 1))) (fC .non) (fVar 1)))
def d_numbers_in_words : Den := denOf 3 1 [1] b_numbers_in_words
def b__law_tape : FS := fRet (fDic (fCons (fC (.str "cells")) (fCons (fFrz (fCutX (fVar 0) (foNone) (foSome (fC (.int 63))))) (fCons (fC (.str "at")) (fCons (fC (.int 0)) (fCons (fC (.str "left")) (fCons (fC (.int 0)) (fNil))))))))
def d__law_tape : Den := denOf 1 1 [] b__law_tape
def b__law_draw : FS := fSeq (fIfS (fTest (fOp (dCmp pGt) (fOp dSubs (fVar 0) (fC (.str "left"))) (fC (.int 0)))) (fSeq (fAsg (fOp dMod (fOp dSubs (fVar 0) (fC (.str "left"))) (fVar 1)) (fgName 2)) (fSeq (fStore (fOp dDiv (fOp dSubs (fVar 0) (fC (.str "left"))) (fVar 1)) (fpVar 0) (fC (.str "left"))) (fRet (fVar 2)))) (fSkip)) (fSeq (fAsg (fOp dSubs (fVar 0) (fC (.str "at"))) (fgName 3)) (fSeq (fStore (fOp dAdd (fVar 3) (fC (.int 1))) (fpVar 0) (fC (.str "at"))) (fSeq (fAsg (fC (.int 0)) (fgName 4)) (fSeq (fIfS (fTest (fOp dNe (fOp dSubs (fVar 0) (fC (.str "cells"))) (fLst (fNil)))) (fAsg (fOp dSubs (fOp dSubs (fVar 0) (fC (.str "cells"))) (fOp dMod (fVar 3) (fCall dLen (fCons (fOp dSubs (fVar 0) (fC (.str "cells"))) (fNil))))) (fgName 4)) (fSkip)) (fSeq (fIfS (fAnd (fTest (fOp (dCmp pGe) (fVar 4) (fOp dPow (fC (.int 10)) (fC (.int 18))))) (fTest (fOp (dCmp pLt) (fVar 3) (fCall dLen (fCons (fOp dSubs (fVar 0) (fC (.str "cells"))) (fNil)))))) (fSeq (fStore (fOp dDiv (fVar 4) (fVar 1)) (fpVar 0) (fC (.str "left"))) (fRet (fOp dMod (fVar 4) (fVar 1)))) (fSkip)) (fSeq (fAsg (fOp dMod (fOp dPow (fOp dAdd (fOp dAdd (fOp dMod (fVar 4) (fC (.int 1000003))) (fOp dMul (fC (.int 7919)) (fVar 3))) (fC (.int 104729))) (fC (.int 5))) (fC (.int 2147483647))) (fgName 5)) (fSeq (fAsg (fOp dMod (fOp dPow (fOp dAdd (fOp dMul (fVar 5) (fOp dAdd (fOp dMul (fC (.int 2)) (fVar 3)) (fC (.int 3)))) (fC (.int 69621))) (fC (.int 3))) (fC (.int 2147483629))) (fgName 5)) (fRet (fOp dMod (fOp dDiv (fVar 5) (fC (.int 64))) (fVar 1))))))))))
def d__law_draw : Den := denOf 6 2 [2, 3, 4, 4, 5, 5] b__law_draw
def b__law_signed : FS := fSeq (fAsg (fCallD d__law_draw (fCons (fVar 0) (fCons (fC (.int 3)) (fNil)))) (fgName 2)) (fSeq (fAsg (fCallD d__law_draw (fCons (fVar 0) (fCons (fOp dAddX (fCall dLen (fCons (fVar 1) (fNil))) (fC (.int 1))) (fNil)))) (fgName 3)) (fSeq (fAsg (fC (.str " !\"#$&'()*+,-./0123456789:;<=>?@ABCDEFGHIJKLMNOPQRSTUVWXYZ[\\]^_`abcdefghijklmnopqrstuvwxyz{|}~")) (fgName 4)) (fSeq (fAsg (fOp dSubs (fLst (fCons (fC (.str "0123456789 -/+")) (fCons (fVar 4) (fNil)))) (fCallD d__law_draw (fCons (fVar 0) (fCons (fC (.int 2)) (fNil))))) (fgName 5)) (fSeq (fAsg (fOp dSubs (fVar 5) (fCallD d__law_draw (fCons (fVar 0) (fCons (fCall dLen (fCons (fVar 5) (fNil))) (fNil))))) (fgName 6)) (fRet (fOp dAddX (fOp dAddX (fCutX (fVar 1) (foNone) (foSome (fVar 3))) (fOp dMulT (fVar 6) (fCall dInt (fCons (fOp dNe (fVar 2) (fC (.int 1))) (fNil))))) (fCutX (fVar 1) (foSome (fOp dAddX (fVar 3) (fCall dInt (fCons (fOp (dCmp pGt) (fVar 2) (fC (.int 0))) (fNil))))) (foNone))))))))
def d__law_signed : Den := denOf 7 2 [2, 3, 4, 5, 6] b__law_signed
def b__law_number : FS := fSeq (fAsg (fLc [2] (fRng1 (fCons (fC (.int 24)) (fNil))) (fgName 2) (fYes) (fCall dStr (fCons (fVar 2) (fNil)))) (fgName 1)) (fRet (fIf (fTest (fOp dIn (fVar 0) (fVar 1))) (fIndex (fVar 1) (fCons (fVar 0) (fNil))) (fC .non)))
def d__law_number : Den := denOf 3 1 [1] b__law_number
end RZ
/-! the meanings of the defs of law_k81_lines_of_webs; printed by gen.py -/
namespace K81
open PySem L2 DL
noncomputable section
abbrev b_number_in_word : FS := RZ.b_number_in_word
abbrev d_number_in_word : Den := RZ.d_number_in_word
abbrev b_numbers_in_words : FS := RZ.b_numbers_in_words
abbrev d_numbers_in_words : Den := RZ.d_numbers_in_words
def b_web_lines : FS := fRet (fLc [1] (fSeqI (fFrz (fVar 0))) (fgName 1) (fYes) (fMethT dJoin (fC (.str " ")) (fCons (fLc [2] (fSeqI (fFrz (fVar 1))) (fgName 2) (fYes) (fCall dStr (fCons (fVar 2) (fNil)))) (fNil))))
def d_web_lines : Den := denOf 3 1 [] b_web_lines
def b_least_unmet : FS := fSeq (fAsg (fC (.int 0)) (fgName 1)) (fSeq (whileD (fTest (fOp dIn (fVar 1) (fVar 0))) (fAsg (fOp dAdd (fVar 1) (fC (.int 1))) (fgName 1)) fuel) (fRet (fVar 1)))
def d_least_unmet : Den := denOf 2 1 [1, 1] b_least_unmet
def b_row_in_line : FS := fSeq (fAsg (fCallD d_numbers_in_words (fCons (fMethT dSplit (fVar 0) (fCons (fC (.str " ")) (fNil))) (fNil))) (fgName 2)) (fSeq (fIfS (fOr (fTest (fOp dIsN (fVar 2) (fC .non))) (fOr (fTest (fOp (dCmp pGe) (fCall (dMm max) (fCons (fVar 2) (fNil))) (fC (.int 24)))) (fTest (fOp (dCmp pLt) (fSetLen (fVar 2)) (fCall dLen (fCons (fVar 2) (fNil))))))) (fRet (fC .non)) (fSkip)) (fSeq (fIfS (fOr (fTest (fCall dAny (fCons (fLc [3] (fSeqI (fFrz (fVar 2))) (fgName 3) (fYes) (fOp dIn (fVar 3) (fVar 1))) (fNil)))) (fTest (fOp dNe (fOp dSubs (fVar 2) (fC (.int 0))) (fCallD d_least_unmet (fCons (fVar 1) (fNil)))))) (fRet (fC .non)) (fSkip)) (fRet (fCall dTuple (fCons (fVar 2) (fNil))))))
def d_row_in_line : Den := denOf 4 2 [2] b_row_in_line
def b_read_web : FSX := xSeq (xS (fAsg (fLst (fNil)) (fgName 1))) (xSeq (xS (fAsg (fLst (fNil)) (fgName 2))) (xSeq (xFor (fEnum (fCons (fFrz (fVar 0)) fNil)) (fgTup 2 (fgCons (fgName 3) (fgCons (fgName 4) (fgNil)))) (xSeq (xS (fAsg (fCallD d_row_in_line (fCons (fVar 4) (fCons (fVar 1) (fNil)))) (fgName 5))) (xSeq (xIfS (fTest (fOp dIsN (fVar 5) (fC .non))) (xRaise "NoText" ["line"] (fCons (fVar 3) (fNil))) (xS fSkip)) (xSeq (xS (fDrop (fMut isLst mAppend (fpVar 2) (fCons (fVar 5) (fNil))))) (xS (fDrop (fMut isLst mExtend (fpVar 1) (fCons (fCall dList (fCons (fVar 5) (fNil))) (fNil))))))))) (xSeq (xIfS (fOr (fTest (fOp dEq (fVar 1) (fLst (fNil)))) (fOr (fTest (fOp dEq (fOp dMod (fCall dLen (fCons (fVar 1) (fNil))) (fC (.int 2))) (fC (.int 1)))) (fTest (fOp (dCmp pGe) (fCall (dMm max) (fCons (fVar 1) (fNil))) (fCall dLen (fCons (fVar 1) (fNil))))))) (xRaise "NoText" ["line"] (fCons (fCall dLen (fCons (fVar 0) (fNil))) (fNil))) (xS fSkip)) (xS (fRet (fCall dTuple (fCons (fVar 2) (fNil))))))))
def d_read_web : DenX := denX 6 1 [1, 2, 3, 4, 5] b_read_web
abbrev b__law_tape : FS := RZ.b__law_tape
abbrev d__law_tape : Den := RZ.d__law_tape
abbrev b__law_draw : FS := RZ.b__law_draw
abbrev d__law_draw : Den := RZ.d__law_draw
def b__law_any_web : FS := fSeq (fAsg (fOp dAdd (fC (.int 1)) (fCallD d__law_draw (fCons (fVar 0) (fCons (fOp dSubs (fLst (fCons (fC (.int 3)) (fCons (fC (.int 12)) (fCons (fC (.int 5)) (fCons (fC (.int 2)) (fNil)))))) (fCallD d__law_draw (fCons (fVar 0) (fCons (fC (.int 4)) (fNil))))) (fNil))))) (fgName 1)) (fSeq (fAsg (fOp dSubs (fLst (fCons (fC (.int 3)) (fCons (fC (.int 2)) (fCons (fC (.int 6)) (fCons (fC (.int 40)) (fNil)))))) (fCallD d__law_draw (fCons (fVar 0) (fCons (fC (.int 4)) (fNil))))) (fgName 2)) (fSeq (fAsg (fLstRg1 (fOp dMul (fC (.int 2)) (fVar 1))) (fgName 3)) (fSeq (fAsg (fLst (fCons (fLst (fNil)) (fNil))) (fgName 4)) (fSeq (whileD (fTest (fOp dNe (fVar 3) (fLst (fNil)))) (fSeq (fIfS (fAnd (fTest (fOpP dNe (fpIx 4 (fNeg (fC (.int 1)))) (fLst (fNil)))) (fTest (fOp dEq (fCallD d__law_draw (fCons (fVar 0) (fCons (fVar 2) (fNil)))) (fC (.int 0))))) (fDrop (fMut isLst mAppend (fpVar 4) (fCons (fLst (fNil)) (fNil)))) (fSkip)) (fDrop (fMut isLst mAppend (fpIx 4 (fNeg (fC (.int 1)))) (fCons (fMut isLst mPopAt (fpVar 3) (fCons (fCallD d__law_draw (fCons (fVar 0) (fCons (fCall dLen (fCons (fVar 3) (fNil))) (fNil)))) (fNil))) (fNil))))) fuel) (fSeq (fAsg (fLst (fNil)) (fgName 5)) (fSeq (fFor (fSeqI (fFrz (fVar 4))) (fgName 6) (fSeq (fAsg (fIndex (fVar 6) (fCons (fCall (dMm min) (fCons (fVar 6) (fNil))) (fNil))) (fgName 7)) (fDrop (fMut isLst mAppend (fpVar 5) (fCons (fCall dTuple (fCons (fOp dAdd (fCutX (fVar 6) (foSome (fVar 7)) (foNone)) (fCutX (fVar 6) (foNone) (foSome (fVar 7)))) (fNil))) (fNil)))))) (fRet (fCall dTuple (fCons (fCall dSorted (fCons (fVar 5) (fNil))) (fNil))))))))))
def d__law_any_web : Den := denOf 8 1 [1, 2, 3, 4, 5, 6, 7] b__law_any_web
abbrev b__law_number : FS := RZ.b__law_number
abbrev d__law_number : Den := RZ.d__law_number
def b__law_read : FS := fSeq (fAsg (fLst (fNil)) (fgName 1)) (fSeq (fAsg (fLst (fNil)) (fgName 2)) (fSeq (fFor (fRng1 (fCons (fCall dLen (fCons (fVar 0) (fNil))) (fNil))) (fgName 3) (fSeq (fAsg (fLc [5] (fSeqI (fFrz (fMethT dSplit (fOp dSubs (fVar 0) (fVar 3)) (fCons (fC (.str " ")) (fNil))))) (fgName 5) (fYes) (fCallD d__law_number (fCons (fVar 5) (fNil)))) (fgName 4)) (fSeq (fIfS (fOr (fTest (fOp dIn (fC .non) (fVar 4))) (fOr (fTest (fOp (dCmp pLt) (fSetLen (fVar 4)) (fCall dLen (fCons (fVar 4) (fNil))))) (fTest (fOp dNe (fLc [6] (fSeqI (fFrz (fVar 4))) (fgName 6) (fTest (fOp dIn (fVar 6) (fVar 1))) (fVar 6)) (fLst (fNil)))))) (fRet (fTup (fCons (fC (.str "line")) (fCons (fVar 3) (fNil))))) (fSkip)) (fSeq (fIfS (fTest (fOp dNe (fLc [6] (fRng1 (fCons (fOp dSubs (fVar 4) (fC (.int 0))) (fNil))) (fgName 6) (fTest (fOp dNotIn (fVar 6) (fVar 1))) (fVar 6)) (fLst (fNil)))) (fRet (fTup (fCons (fC (.str "line")) (fCons (fVar 3) (fNil))))) (fSkip)) (fSeq (fDrop (fMut isLst mAppend (fpVar 2) (fCons (fCall dTuple (fCons (fVar 4) (fNil))) (fNil)))) (fAsg (fOp dCatS (fVar 1) (fVar 4)) (fgName 1))))))) (fSeq (fIfS (fOr (fTest (fOp dEq (fVar 1) (fLst (fNil)))) (fOr (fTest (fOp dEq (fOp dMod (fCall dLen (fCons (fVar 1) (fNil))) (fC (.int 2))) (fC (.int 1)))) (fTest (fOp dNe (fCall dSorted (fCons (fVar 1) (fNil))) (fLstRg1 (fCall dLen (fCons (fVar 1) (fNil)))))))) (fRet (fTup (fCons (fC (.str "line")) (fCons (fCall dLen (fCons (fVar 0) (fNil))) (fNil))))) (fSkip)) (fRet (fTup (fCons (fC (.str "web")) (fCons (fCall dTuple (fCons (fVar 2) (fNil))) (fNil))))))))
def d__law_read : Den := denOf 7 1 [1, 2, 3, 4, 1] b__law_read
def b__law_told : FS := fSeq (fAsg (fC .non) (fgName 1)) (fSeq (fTryAs (xAsg (xTup (xCons (xE (fC (.str "web"))) (xCons (xCall d_read_web (xA (fCons (fVar 0) (fNil)))) (xA (fNil))))) (fgName 1)) ["NoText"] 2 (fun a c dd => fSeq (fAsg (fTup (fCons (fC (.str "odd")) (fCons (fC (.int 0)) (fNil)))) (fgName 1)) (fSeq (fAsg (fIsE a c dd (anyIs [[("NoText", false)], [("NoText", false)], [("NoText", false)], [("NoText", false)], [("NoText", false)], [("NoText", false)], [("NoText", false)]] c) 2) (fgName 3)) (fIfS (fAnd (fTest (fIsE a c dd (List.lookup c [("NoText", true)]) 2)) (fAnd (fTest (fIsE a c dd (List.lookup c [("NoText", true)]) 2)) (fNot (fTest (fVar 3))))) (fAsg (fTup (fCons (fC (.str "line")) (fCons (fFld a dd 2 "line") (fNil)))) (fgName 1)) (fSkip))))) (fRet (fVar 1)))
def d__law_told : Den := denOf 4 1 [1, 1, 2, 1, 3, 1] b__law_told
abbrev b__law_signed : FS := RZ.b__law_signed
abbrev d__law_signed : Den := RZ.d__law_signed
def b__law_worded : FS := fSeq (fAsg (fCallD d__law_draw (fCons (fVar 0) (fCons (fC (.int 6)) (fNil)))) (fgName 2)) (fSeq (fAsg (fMethT dSplit (fVar 1) (fCons (fC (.str " ")) (fNil))) (fgName 3)) (fSeq (fAsg (fCallD d__law_draw (fCons (fVar 0) (fCons (fCall dLen (fCons (fVar 3) (fNil))) (fNil)))) (fgName 4)) (fSeq (fAsg (fCallD d__law_number (fCons (fOp dSubs (fVar 3) (fVar 4)) (fNil))) (fgName 5)) (fSeq (fAsg (fCall dStr (fCons (fOp dAdd (fIf (fTest (fOp dIsNotN (fVar 5) (fC .non))) (fVar 5) (fC (.int 7))) (fOp dSubs (fLst (fCons (fC (.int 1)) (fCons (fNeg (fC (.int 1))) (fNil)))) (fCallD d__law_draw (fCons (fVar 0) (fCons (fC (.int 2)) (fNil)))))) (fNil))) (fgName 6)) (fSeq (fAsg (fOp dSubs (fLst (fCons (fC (.str "")) (fCons (fC (.str "00")) (fCons (fC (.str "07")) (fCons (fC (.str "24")) (fCons (fC (.str "-1")) (fCons (fC (.str "1_0")) (fCons (fC (.str "+1")) (fCons (fC (.str "x")) (fCons (fC (.str "0")) (fCons (fC (.str "23")) (fNil)))))))))))) (fCallD d__law_draw (fCons (fVar 0) (fCons (fC (.int 10)) (fNil))))) (fgName 7)) (fSeq (fIfS (fTest (fOp dEq (fVar 2) (fC (.int 0)))) (fDrop (fMut isLst mPopAt (fpVar 3) (fCons (fVar 4) (fNil)))) (fIfS (fTest (fOp dEq (fVar 2) (fC (.int 1)))) (fDrop (fMut isLst mInsert (fpVar 3) (fCons (fVar 4) (fCons (fOp dSubs (fVar 3) (fVar 4)) (fNil))))) (fIfS (fTest (fOp (dCmp pLt) (fVar 2) (fC (.int 4)))) (fStore (fOp dSubs (fLst (fCons (fVar 6) (fCons (fVar 7) (fNil)))) (fOp dSub (fVar 2) (fC (.int 2)))) (fpVar 3) (fVar 4)) (fIfS (fTest (fOp dEq (fVar 2) (fC (.int 4)))) (fAsg (fOp dAdd (fOp dAdd (fCutX (fVar 3) (foNone) (foSome (fVar 4))) (fRev (fCutX (fVar 3) (foSome (fVar 4)) (foSome (fOp dAdd (fVar 4) (fC (.int 2))))))) (fCutX (fVar 3) (foSome (fOp dAdd (fVar 4) (fC (.int 2)))) (foNone))) (fgName 3)) (fDrop (fMut isLst mInsert (fpVar 3) (fCons (fVar 4) (fCons (fVar 7) (fNil))))))))) (fRet (fMethT dJoin (fC (.str " ")) (fCons (fVar 3) (fNil))))))))))
def d__law_worded : Den := denOf 8 2 [2, 3, 4, 5, 6, 7, 3] b__law_worded
def b__law_bent : FS := fSeq (fAsg (fCallD d__law_draw (fCons (fVar 0) (fCons (fC (.int 9)) (fNil)))) (fgName 2)) (fSeq (fIfS (fTest (fOp dEq (fVar 1) (fLst (fNil)))) (fRet (fLst (fCons (fC (.str "")) (fNil)))) (fSkip)) (fSeq (fAsg (fCallD d__law_draw (fCons (fVar 0) (fCons (fCall dLen (fCons (fVar 1) (fNil))) (fNil)))) (fgName 3)) (fSeq (fAsg (fOp dSubs (fVar 1) (fVar 3)) (fgName 4)) (fSeq (fIfS (fTest (fOp (dCmp pLt) (fVar 2) (fC (.int 3)))) (fRet (fOp dAddX (fOp dAddX (fCutX (fVar 1) (foNone) (foSome (fVar 3))) (fLst (fCons (fCallD d__law_worded (fCons (fVar 0) (fCons (fVar 4) (fNil)))) (fNil)))) (fCutX (fVar 1) (foSome (fOp dAddX (fVar 3) (fC (.int 1)))) (foNone)))) (fSkip)) (fSeq (fIfS (fTest (fOp (dCmp pLt) (fVar 2) (fC (.int 5)))) (fRet (fOp dAddX (fOp dAddX (fCutX (fVar 1) (foNone) (foSome (fVar 3))) (fLst (fCons (fCallD d__law_signed (fCons (fVar 0) (fCons (fVar 4) (fNil)))) (fNil)))) (fCutX (fVar 1) (foSome (fOp dAddX (fVar 3) (fC (.int 1)))) (foNone)))) (fSkip)) (fSeq (fIfS (fTest (fOp dEq (fVar 2) (fC (.int 5)))) (fRet (fOp dAddX (fCutX (fVar 1) (foNone) (foSome (fVar 3))) (fCutX (fVar 1) (foSome (fOp dAddX (fVar 3) (fC (.int 1)))) (foNone)))) (fSkip)) (fSeq (fIfS (fTest (fOp dEq (fVar 2) (fC (.int 6)))) (fRet (fOp dAddX (fOp dAddX (fCutX (fVar 1) (foNone) (foSome (fVar 3))) (fLst (fCons (fVar 4) (fNil)))) (fCutX (fVar 1) (foSome (fVar 3)) (foNone)))) (fSkip)) (fSeq (fIfS (fTest (fOp dEq (fVar 2) (fC (.int 7)))) (fRet (fOp dAddX (fOp dAddX (fCutX (fVar 1) (foNone) (foSome (fVar 3))) (fRev (fCutX (fVar 1) (foSome (fVar 3)) (foSome (fOp dAddX (fVar 3) (fC (.int 2))))))) (fCutX (fVar 1) (foSome (fOp dAddX (fVar 3) (fC (.int 2)))) (foNone)))) (fSkip)) (fSeq (fAsg (fMethT dSplit (fVar 4) (fCons (fC (.str " ")) (fNil))) (fgName 5)) (fSeq (fAsg (fCallD d__law_draw (fCons (fVar 0) (fCons (fOp dAddX (fCall dLen (fCons (fVar 5) (fNil))) (fC (.int 1))) (fNil)))) (fgName 6)) (fSeq (fIfS (fTest (fOp dEq (fVar 6) (fC (.int 0)))) (fRet (fOp dAddX (fOp dAddX (fCutX (fVar 1) (foNone) (foSome (fVar 3))) (fLst (fCons (fMethT dJoin (fC (.str " ")) (fCons (fCutX (fVar 1) (foSome (fVar 3)) (foSome (fOp dAddX (fVar 3) (fC (.int 2))))) (fNil))) (fNil)))) (fCutX (fVar 1) (foSome (fOp dAddX (fVar 3) (fC (.int 2)))) (foNone)))) (fSkip)) (fRet (fOp dAddX (fOp dAddX (fCutX (fVar 1) (foNone) (foSome (fVar 3))) (fLst (fCons (fMethT dJoin (fC (.str " ")) (fCons (fCutX (fVar 5) (foNone) (foSome (fVar 6))) (fNil))) (fCons (fMethT dJoin (fC (.str " ")) (fCons (fCutX (fVar 5) (foSome (fVar 6)) (foNone)) (fNil))) (fNil))))) (fCutX (fVar 1) (foSome (fOp dAddX (fVar 3) (fC (.int 1)))) (foNone)))))))))))))))
def d__law_bent : Den := denOf 7 2 [2, 3, 4, 5, 6] b__law_bent
def b_law : FS := fSeq (fAsg (fCallD d__law_tape (fCons (fVar 0) (fNil))) (fgName 1)) (fSeq (fFor (fRng1 (fCons (fC (.int 3)) (fNil))) (fgName 2) (fSeq (fAsg (fCallD d__law_any_web (fCons (fVar 1) (fNil))) (fgName 3)) (fSeq (fAsg (fLc [10] (fSeqI (fFrz (fVar 3))) (fgName 10) (fYes) (fMethT dJoin (fC (.str " ")) (fCons (fLc [11] (fSeqI (fFrz (fVar 10))) (fgName 11) (fYes) (fCall dStr (fCons (fVar 11) (fNil)))) (fNil)))) (fgName 4)) (fSeq (fFor (fRng1 (fCons (fC (.int 2)) (fNil))) (fgName 5) (fSeq (fAsg (fCallD d_web_lines (fCons (fVar 3) (fNil))) (fgName 6)) (fSeq (fIfS (fOr (fNot (fTest (fIsi .list (fVar 6)))) (fTest (fOp dNe (fCall dRepr (fCons (fVar 6) (fNil))) (fCall dRepr (fCons (fVar 4) (fNil)))))) (fRet (fC (.bl false))) (fSkip)) (fDrop (fMut isLst mAppend (fpVar 6) (fCons (fC (.str "")) (fNil))))))) (fSeq (fAsg (fCallD d__law_bent (fCons (fVar 1) (fCons (fVar 4) (fNil)))) (fgName 7)) (fFor (fSeqI (fFrz (fLst (fCons (fVar 4) (fCons (fVar 7) (fCons (fCallD d__law_bent (fCons (fVar 1) (fCons (fVar 7) (fNil)))) (fCons (fCallD d__law_bent (fCons (fVar 1) (fCons (fVar 4) (fNil)))) (fNil)))))))) (fgName 8) (fSeq (fAsg (fCall dList (fCons (fVar 8) (fNil))) (fgName 9)) (fIfS (fOr (fTest (fOp dNe (fCall dRepr (fCons (fCallD d__law_told (fCons (fVar 9) (fNil))) (fNil))) (fCall dRepr (fCons (fCallD d__law_read (fCons (fVar 8) (fNil))) (fNil))))) (fTest (fOp dNe (fVar 9) (fVar 8)))) (fRet (fC (.bl false))) (fSkip))))))))) (fRet (fC (.bl true))))
def d_law : Den := denOf 12 1 [1, 2, 3, 4, 5, 6, 7, 8, 9] b_law
end
end K81
/-! each def of law_k81_lines_of_webs has its meaning; printed by gen.py -/
namespace K81
open PySem PySem.Spec L2 DL
/-! ### the text by places -/
def top (i : Nat) : Stmt := PySem.Challenge.pw_rimasks_k81_lines_of_webs.main.body.getD i (.Pass ⟨0, 0, 0, 0⟩)
/-- what the top has left of the built-ins -/
structure Txt (mg : Str → Option Value) : Prop where
  b_all : mg "all" = none
  b_any : mg "any" = none
  b_enumerate : mg "enumerate" = none
  b_int : mg "int" = none
  b_isinstance : mg "isinstance" = none
  b_len : mg "len" = none
  b_list : mg "list" = none
  b_max : mg "max" = none
  b_min : mg "min" = none
  b_range : mg "range" = none
  b_repr : mg "repr" = none
  b_set : mg "set" = none
  b_sorted : mg "sorted" = none
  b_str : mg "str" = none
  b_tuple : mg "tuple" = none
  g_FIGURES : ∃ t, mg "FIGURES" = some (.str "0123456789" t)
  g_MOST_DARTS : ∃ t, mg "MOST_DARTS" = some (.int 24 t)
section
variable {P : Program} {w : World} {K : PySem.W.Frag} {mg : Str → Option Value} {base : Heap}
abbrev s_number_in_word : Stmt := top 13
abbrev N_number_in_word : List Str := ["word", "sign"]
abbrev p_number_in_word : List Str := ["word"]
theorem sc_number_in_word : FnScope N_number_in_word p_number_in_word (defScope s_number_in_word) := ⟨rfl, rfl, rfl, by decide +kernel, rfl, by decide +kernel, by decide +kernel⟩
theorem fn_number_in_word {f : Addr} {fd : FuncData} (F : Fun K "number_in_word" "number_in_word" s_number_in_word f fd) (T : Txt mg)  : FnD P w K mg base 1 f fd p_number_in_word d_number_in_word := by
  refine fnD_of (k := 0) (N := N_number_in_word) (W := []) (fb := b_number_in_word) F sc_number_in_word fun cdv A outer s H hgd hr => ?_
  have hu := hr.un
  have hu1 := room_u (n := 1) (k := 0) (u := (A.deeper _).units) (by decide) hu
  have hu40 := room_u (n := 40) (k := 0) (u := (A.deeper _).units) (by decide) hu
  have hu64 := room_u (n := 64) (k := 0) (u := (A.deeper _).units) (by decide) hu
  have hu65 := room_u (n := 65) (k := 0) (u := (A.deeper _).units) (by decide) hu
  exact dss_cons (ds_if (DW.dt (dw_or (dt_not (dt_chain op_le op_le (de_int) (de_callB cx_len cs_len (by rfl) T.b_len (by first | rfl | decide +kernel) (da_cons (de_var (pv 0)) (da_nil))) (de_int))) (dw_or (dt_not (dt_val (de_callB (cr_all rfl) cs_all (by rfl) T.b_all (by first | rfl | decide +kernel) (da_cons (de_lc (own := [("sign", 1)]) rfl sc_number_in_word.nd (di_sign (de_var (pv 0))) (blkOk_by (own := [("sign", 1)]) (N := N_number_in_word) (sc := defScope s_number_in_word) (by decide +kernel)) (fun _ _ _ _ _ => DG.dy (dg_name (pg_name (i := 1) sc_number_in_word.nd rfl (Or.inl rfl)))) (fun _ _ _ _ _ => dts_nil) (fun _ _ _ _ _ => de_cmp (ox_in hu65) o2_in (de_var (pv 1)) (de_globS T.g_FIGURES (by rfl)) (by rfl)) (by decide)) (da_nil))))) (dw_or1 (DW.dt (dw_and (dt_cmp (ox_eq hu64) o2_eq (de_sub hu1 (de_var (pv 0)) (de_int) (fun _ _ => rfl)) (de_str) (nomark _)) (dw_and1 (dt_cmp (ox_ne hu64) o2_ne (de_var (pv 0)) (de_str) (nomark _))))))))) (dss_one (ds_ret (de_non))) (dss_nil)) (dss_one (ds_ret (de_callTy call_int_str cs_intS (by rfl) T.b_int (by first | rfl | decide +kernel) (da_cons (de_var (pv 0)) (da_nil)))))
theorem ok_number_in_word {f : Addr} {fd : FuncData} (F : Fun K "number_in_word" "number_in_word" s_number_in_word f fd) (mf : mg "number_in_word" = some (.ref f)) (T : Txt mg)  : DefOk P w K mg base "number_in_word" 1 p_number_in_word d_number_in_word :=
  ⟨f, fd, fn_number_in_word F T , mf, F.kp, F.binds (ps := p_number_in_word) fun _ _ _ _ _ _ us hl => match us, hl with | [_], _ => rfl⟩
abbrev s_numbers_in_words : Stmt := top 14
abbrev N_numbers_in_words : List Str := ["words", "found", "word"]
abbrev p_numbers_in_words : List Str := ["words"]
theorem sc_numbers_in_words : FnScope N_numbers_in_words p_numbers_in_words (defScope s_numbers_in_words) := ⟨rfl, rfl, rfl, by decide +kernel, rfl, by decide +kernel, by decide +kernel⟩
theorem fn_numbers_in_words {f : Addr} {fd : FuncData} (F : Fun K "numbers_in_words" "numbers_in_words" s_numbers_in_words f fd) (T : Txt mg) (G_number_in_word : DefOk P w K mg base "number_in_word" 1 p_number_in_word d_number_in_word) : FnD P w K mg base 2 f fd p_numbers_in_words d_numbers_in_words := by
  refine fnD_of (k := 1) (N := N_numbers_in_words) (W := [1]) (fb := b_numbers_in_words) F sc_numbers_in_words fun cdv A outer s H hgd hr => ?_
  have hu := hr.un
  have hu1 := room_u (n := 1) (k := 1) (u := (A.deeper _).units) (by decide) hu
  have hu40 := room_u (n := 40) (k := 1) (u := (A.deeper _).units) (by decide) hu
  have hu64 := room_u (n := 64) (k := 1) (u := (A.deeper _).units) (by decide) hu
  have hu65 := room_u (n := 65) (k := 1) (u := (A.deeper _).units) (by decide) hu
  exact dss_cons (ds_setLc (i := 1) (own := [("word", 2)]) rfl sc_numbers_in_words.nd rfl rfl (sw_true rfl rfl rfl (by decide +kernel)) (di_seq (de_frz (de_var (pv 0)))) (blkOk_by (own := [("word", 2)]) (N := N_numbers_in_words) (sc := defScope s_numbers_in_words) (by decide +kernel)) (fun _ _ _ _ _ => DG.dy (dg_name (pg_name (i := 2) sc_numbers_in_words.nd rfl (Or.inl rfl)))) (fun _ _ _ _ _ => dts_nil) (fun _ _ _ _ _ => de_callG G_number_in_word hgd hr (by decide) (by rfl) (fCons_len (fNil_len)) (da_cons (de_var (pv 2)) (da_nil))) (by decide)) (dss_one (ds_ret (de_ifx (dt_cmp (ox_in hu65) o2_in (de_non) (de_var (pv 1)) (by rfl)) (de_non) (de_var (pv 1)))))
theorem ok_numbers_in_words {f : Addr} {fd : FuncData} (F : Fun K "numbers_in_words" "numbers_in_words" s_numbers_in_words f fd) (mf : mg "numbers_in_words" = some (.ref f)) (T : Txt mg) (G_number_in_word : DefOk P w K mg base "number_in_word" 1 p_number_in_word d_number_in_word) : DefOk P w K mg base "numbers_in_words" 2 p_numbers_in_words d_numbers_in_words :=
  ⟨f, fd, fn_numbers_in_words F T G_number_in_word, mf, F.kp, F.binds (ps := p_numbers_in_words) fun _ _ _ _ _ _ us hl => match us, hl with | [_], _ => rfl⟩
abbrev s_web_lines : Stmt := top 15
abbrev N_web_lines : List Str := ["web", "row", "dart"]
abbrev p_web_lines : List Str := ["web"]
theorem sc_web_lines : FnScope N_web_lines p_web_lines (defScope s_web_lines) := ⟨rfl, rfl, rfl, by decide +kernel, rfl, by decide +kernel, by decide +kernel⟩
theorem fn_web_lines {f : Addr} {fd : FuncData} (F : Fun K "web_lines" "web_lines" s_web_lines f fd) (T : Txt mg)  : FnD P w K mg base 1 f fd p_web_lines d_web_lines := by
  refine fnD_of (k := 0) (N := N_web_lines) (W := []) (fb := b_web_lines) F sc_web_lines fun cdv A outer s H hgd hr => ?_
  have hu := hr.un
  have hu1 := room_u (n := 1) (k := 0) (u := (A.deeper _).units) (by decide) hu
  have hu40 := room_u (n := 40) (k := 0) (u := (A.deeper _).units) (by decide) hu
  have hu64 := room_u (n := 64) (k := 0) (u := (A.deeper _).units) (by decide) hu
  have hu65 := room_u (n := 65) (k := 0) (u := (A.deeper _).units) (by decide) hu
  exact dss_one (ds_ret (de_lc (own := [("row", 1)]) rfl sc_web_lines.nd (di_seq (de_frz (de_var (pv 0)))) (blkOk_by (own := [("row", 1)]) (N := N_web_lines) (sc := defScope s_web_lines) (by decide +kernel)) (fun _ _ _ _ _ => DG.dy (dg_name (pg_name (i := 1) sc_web_lines.nd rfl (Or.inl rfl)))) (fun _ _ _ _ _ => dts_nil) (fun _ _ _ _ _ => de_methT ms_join (pe_bm PySem.F.plainAttrs_str PySem.F.slot_str_join PySem.F.type_str_join mt_join (DE.pe (de_str)) (DA.pa (da_cons (de_lc (own := [("dart", 2)]) rfl sc_web_lines.nd (di_seq (de_frz (de_var (pv 1)))) (blkOk_by (own := [("dart", 2)]) (by kernel_rfl)) (fun _ _ _ _ _ => DG.dy (dg_name (pg_name (i := 2) sc_web_lines.nd rfl (Or.inl rfl)))) (fun _ _ _ _ _ => dts_nil) (fun _ _ _ _ _ => de_callTy call_str_int cs_str (by rfl) T.b_str (by first | rfl | decide +kernel) (da_cons (de_var (pv 2)) (da_nil))) (by decide)) (da_nil))))) (by decide)))
theorem ok_web_lines {f : Addr} {fd : FuncData} (F : Fun K "web_lines" "web_lines" s_web_lines f fd) (mf : mg "web_lines" = some (.ref f)) (T : Txt mg)  : DefOk P w K mg base "web_lines" 1 p_web_lines d_web_lines :=
  ⟨f, fd, fn_web_lines F T , mf, F.kp, F.binds (ps := p_web_lines) fun _ _ _ _ _ _ us hl => match us, hl with | [_], _ => rfl⟩
abbrev s_least_unmet : Stmt := top 16
abbrev N_least_unmet : List Str := ["met", "least"]
abbrev p_least_unmet : List Str := ["met"]
theorem sc_least_unmet : FnScope N_least_unmet p_least_unmet (defScope s_least_unmet) := ⟨rfl, rfl, rfl, by decide +kernel, rfl, by decide +kernel, by decide +kernel⟩
theorem fn_least_unmet {f : Addr} {fd : FuncData} (F : Fun K "least_unmet" "least_unmet" s_least_unmet f fd) (T : Txt mg)  : FnD P w K mg base 1 f fd p_least_unmet d_least_unmet := by
  refine fnD_of (k := 0) (N := N_least_unmet) (W := [1, 1]) (fb := b_least_unmet) F sc_least_unmet fun cdv A outer s H hgd hr => ?_
  have hu := hr.un
  have hu1 := room_u (n := 1) (k := 0) (u := (A.deeper _).units) (by decide) hu
  have hu40 := room_u (n := 40) (k := 0) (u := (A.deeper _).units) (by decide) hu
  have hu64 := room_u (n := 64) (k := 0) (u := (A.deeper _).units) (by decide) hu
  have hu65 := room_u (n := 65) (k := 0) (u := (A.deeper _).units) (by decide) hu
  exact dss_cons (ds_set (i := 1) sc_least_unmet.nd rfl (Or.inl rfl) (de_int)) (dss_cons (ds_while fuel PassesOwn.never (dt_cmp (ox_in hu65) o2_in (de_var (pv 1)) (de_var (pv 0)) (by rfl)) (dss_one (ds_set (i := 1) sc_least_unmet.nd rfl (Or.inl rfl) (de_op ox_add o2_add (de_var (pv 1)) (de_int))))) (dss_one (ds_ret (de_var (pv 1)))))
theorem ok_least_unmet {f : Addr} {fd : FuncData} (F : Fun K "least_unmet" "least_unmet" s_least_unmet f fd) (mf : mg "least_unmet" = some (.ref f)) (T : Txt mg)  : DefOk P w K mg base "least_unmet" 1 p_least_unmet d_least_unmet :=
  ⟨f, fd, fn_least_unmet F T , mf, F.kp, F.binds (ps := p_least_unmet) fun _ _ _ _ _ _ us hl => match us, hl with | [_], _ => rfl⟩
abbrev s_row_in_line : Stmt := top 17
abbrev N_row_in_line : List Str := ["line", "met", "row", "dart"]
abbrev p_row_in_line : List Str := ["line", "met"]
theorem sc_row_in_line : FnScope N_row_in_line p_row_in_line (defScope s_row_in_line) := ⟨rfl, rfl, rfl, by decide +kernel, rfl, by decide +kernel, by decide +kernel⟩
theorem fn_row_in_line {f : Addr} {fd : FuncData} (F : Fun K "row_in_line" "row_in_line" s_row_in_line f fd) (T : Txt mg) (G_least_unmet : DefOk P w K mg base "least_unmet" 1 p_least_unmet d_least_unmet) (G_numbers_in_words : DefOk P w K mg base "numbers_in_words" 2 p_numbers_in_words d_numbers_in_words) : FnD P w K mg base 3 f fd p_row_in_line d_row_in_line := by
  refine fnD_of (k := 2) (N := N_row_in_line) (W := [2]) (fb := b_row_in_line) F sc_row_in_line fun cdv A outer s H hgd hr => ?_
  have hu := hr.un
  have hu1 := room_u (n := 1) (k := 2) (u := (A.deeper _).units) (by decide) hu
  have hu40 := room_u (n := 40) (k := 2) (u := (A.deeper _).units) (by decide) hu
  have hu64 := room_u (n := 64) (k := 2) (u := (A.deeper _).units) (by decide) hu
  have hu65 := room_u (n := 65) (k := 2) (u := (A.deeper _).units) (by decide) hu
  exact dss_cons (ds_set (i := 2) sc_row_in_line.nd rfl (Or.inl rfl) (de_callG G_numbers_in_words hgd hr (by decide) (by rfl) (fCons_len (fNil_len)) (da_cons (de_methT ms_split (pe_bm PySem.F.plainAttrs_str PySem.F.slot_str_split PySem.F.type_str_split mt_split (DE.pe (de_var (pv 0))) (DA.pa (da_cons (de_str) (da_nil))))) (da_nil)))) (dss_cons (ds_if (DW.dt (dw_or (dt_cmp op_isN o2_isN (de_var (pv 2)) (de_non) (nomark _)) (dw_or (dt_cmp op_ge (o2_cmp _) (de_callB (cx_max rfl hu1) (cs_mm max) (by rfl) T.b_max (by first | rfl | decide +kernel) (da_cons (de_var (pv 2)) (da_nil))) (de_glob T.g_MOST_DARTS (by rfl)) (nomark _)) (dw_or1 (dt_cmp op_lt (o2_cmp _) (de_setLen rfl (by rfl) T.b_len (by rfl) T.b_set (de_var (pv 2))) (de_callB cx_len cs_len (by rfl) T.b_len (by first | rfl | decide +kernel) (da_cons (de_var (pv 2)) (da_nil))) (nomark _)))))) (dss_one (ds_ret (de_non))) (dss_nil)) (dss_cons (ds_if (DW.dt (dw_or (dt_val (de_callB (cr_any rfl) cs_any (by rfl) T.b_any (by first | rfl | decide +kernel) (da_cons (de_lc (own := [("dart", 3)]) rfl sc_row_in_line.nd (di_seq (de_frz (de_var (pv 2)))) (blkOk_by (own := [("dart", 3)]) (N := N_row_in_line) (sc := defScope s_row_in_line) (by decide +kernel)) (fun _ _ _ _ _ => DG.dy (dg_name (pg_name (i := 3) sc_row_in_line.nd rfl (Or.inl rfl)))) (fun _ _ _ _ _ => dts_nil) (fun _ _ _ _ _ => de_cmp (ox_in hu65) o2_in (de_var (pv 3)) (de_var (pv 1)) (by rfl)) (by decide)) (da_nil)))) (dw_or1 (dt_cmp (ox_ne hu64) o2_ne (de_sub hu1 (de_var (pv 2)) (de_int) (fun _ _ => rfl)) (de_callG G_least_unmet hgd hr (by decide) (by rfl) (fCons_len (fNil_len)) (da_cons (de_var (pv 1)) (da_nil))) (nomark _))))) (dss_one (ds_ret (de_non))) (dss_nil)) (dss_one (ds_ret (de_callTy call_tupOf cs_tuple (by rfl) T.b_tuple (by first | rfl | decide +kernel) (da_cons (de_var (pv 2)) (da_nil)))))))
theorem ok_row_in_line {f : Addr} {fd : FuncData} (F : Fun K "row_in_line" "row_in_line" s_row_in_line f fd) (mf : mg "row_in_line" = some (.ref f)) (T : Txt mg) (G_least_unmet : DefOk P w K mg base "least_unmet" 1 p_least_unmet d_least_unmet) (G_numbers_in_words : DefOk P w K mg base "numbers_in_words" 2 p_numbers_in_words d_numbers_in_words) : DefOk P w K mg base "row_in_line" 3 p_row_in_line d_row_in_line :=
  ⟨f, fd, fn_row_in_line F T G_least_unmet G_numbers_in_words, mf, F.kp, F.binds (ps := p_row_in_line) fun _ _ _ _ _ _ us hl => match us, hl with | [_, _], _ => rfl⟩
abbrev s_read_web : Stmt := top 18
abbrev N_read_web : List Str := ["lines", "met", "found", "number", "line", "row"]
abbrev p_read_web : List Str := ["lines"]
theorem sc_read_web : FnScope N_read_web p_read_web (defScope s_read_web) := ⟨rfl, rfl, rfl, by decide +kernel, rfl, by decide +kernel, by decide +kernel⟩
theorem fn_read_web {f : Addr} {fd : FuncData} (F : Fun K "read_web" "read_web" s_read_web f fd) (T : Txt mg) (G_row_in_line : DefOk P w K mg base "row_in_line" 3 p_row_in_line d_row_in_line) (M_NoText : MkX P w K mg base "NoText" ["line"]) : FnX P w K mg base 4 f fd p_read_web d_read_web := by
  refine fnX_of (k := 3) (N := N_read_web) (W := [1, 2, 3, 4, 5]) (fb := b_read_web) F sc_read_web fun cdv A outer s H E hgd hr => ?_
  have hu := hr.un
  have hu1 := room_u (n := 1) (k := 3) (u := (A.deeper _).units) (by decide) hu
  have hu40 := room_u (n := 40) (k := 3) (u := (A.deeper _).units) (by decide) hu
  have hu64 := room_u (n := 64) (k := 3) (u := (A.deeper _).units) (by decide) hu
  have hu65 := room_u (n := 65) (k := 3) (u := (A.deeper _).units) (by decide) hu
  exact dssx_cons (dsx_of (ds_set (i := 1) sc_read_web.nd rfl (Or.inl rfl) (de_lst (da_nil)))) (dssx_cons (dsx_of (ds_set (i := 2) sc_read_web.nd rfl (Or.inl rfl) (de_lst (da_nil)))) (dssx_cons (dsx_for (by passes_own) rfl (di_enum (pi_enum (by rfl) T.b_enumerate (DA.pa (da_cons (de_frz (de_var (pv 0))) da_nil))) (pi_count (by rfl) T.b_enumerate (DA.pa (da_cons (de_frz (de_var (pv 0))) da_nil)))) (dy_tup rfl (dgs_cons (dg_name (pg_name (i := 3) sc_read_web.nd rfl (Or.inl rfl))) (dgs_cons (dg_name (pg_name (i := 4) sc_read_web.nd rfl (Or.inl rfl))) (dgs_nil)))) (dssx_cons (dsx_of (ds_set (i := 5) sc_read_web.nd rfl (Or.inl rfl) (de_callG G_row_in_line hgd hr (by decide) (by rfl) (fCons_len (fCons_len (fNil_len))) (da_cons (de_var (pv 4)) (da_cons (de_var (pv 1)) (da_nil)))))) (dssx_cons (dsx_if (dt_cmp op_isN o2_isN (de_var (pv 5)) (de_non) (nomark _)) (dssx_one (dsx_raise rfl takesX M_NoText hr (by decide) (by rfl) (da_cons (de_var (pv 3)) (da_nil)))) (dssx_of dss_nil)) (dssx_cons (dsx_of (ds_expr (de_mut (pe_bm PySem.F.plainAttrs_list PySem.F.slot_list_append PySem.F.type_list_append mt_append (DP.pe (dp_var (pv 2))) (DA.pa (da_cons (de_var (pv 5)) (da_nil)))) mu_append))) (dssx_one (dsx_of (ds_expr (de_mut (pe_bm PySem.F.plainAttrs_list PySem.F.slot_list_extend PySem.F.type_list_extend mt_extend (DP.pe (dp_var (pv 1))) (DA.pa (da_cons (de_callTy call_list_of cs_list (by rfl) T.b_list (by first | rfl | decide +kernel) (da_cons (de_var (pv 5)) (da_nil))) (da_nil)))) mu_extend)))))))) (dssx_cons (dsx_if (DW.dt (dw_or (dt_cmp (ox_eq hu64) o2_eq (de_var (pv 1)) (de_lst (da_nil)) (nomark _)) (dw_or (dt_cmp (ox_eq hu64) o2_eq (de_op op_modN o2_mod (de_callB cx_len cs_len (by rfl) T.b_len (by first | rfl | decide +kernel) (da_cons (de_var (pv 1)) (da_nil))) (de_int)) (de_int) (nomark _)) (dw_or1 (dt_cmp op_ge (o2_cmp _) (de_callB (cx_max rfl hu1) (cs_mm max) (by rfl) T.b_max (by first | rfl | decide +kernel) (da_cons (de_var (pv 1)) (da_nil))) (de_callB cx_len cs_len (by rfl) T.b_len (by first | rfl | decide +kernel) (da_cons (de_var (pv 1)) (da_nil))) (nomark _)))))) (dssx_one (dsx_raise rfl takesX M_NoText hr (by decide) (by rfl) (da_cons (de_callB cx_len cs_len (by rfl) T.b_len (by first | rfl | decide +kernel) (da_cons (de_var (pv 0)) (da_nil))) (da_nil)))) (dssx_of dss_nil)) (dssx_one (dsx_of (ds_ret (de_callTy call_tupOf cs_tuple (by rfl) T.b_tuple (by first | rfl | decide +kernel) (da_cons (de_var (pv 2)) (da_nil)))))))))
theorem ok_read_web {f : Addr} {fd : FuncData} (F : Fun K "read_web" "read_web" s_read_web f fd) (mf : mg "read_web" = some (.ref f)) (T : Txt mg) (G_row_in_line : DefOk P w K mg base "row_in_line" 3 p_row_in_line d_row_in_line) (M_NoText : MkX P w K mg base "NoText" ["line"]) : DefX P w K mg base "read_web" 4 p_read_web d_read_web :=
  ⟨f, fd, fn_read_web F T G_row_in_line M_NoText, mf, F.kp, F.binds (ps := p_read_web) fun _ _ _ _ _ _ us hl => match us, hl with | [_], _ => rfl⟩
abbrev s__law_tape : Stmt := top 20
abbrev N__law_tape : List Str := ["_law_script"]
abbrev p__law_tape : List Str := ["_law_script"]
theorem sc__law_tape : FnScope N__law_tape p__law_tape (defScope s__law_tape) := ⟨rfl, rfl, rfl, by decide +kernel, rfl, by decide +kernel, by decide +kernel⟩
theorem fn__law_tape {f : Addr} {fd : FuncData} (F : Fun K "_law_tape" "_law_tape" s__law_tape f fd) (T : Txt mg)  : FnD P w K mg base 1 f fd p__law_tape d__law_tape := by
  refine fnD_of (k := 0) (N := N__law_tape) (W := []) (fb := b__law_tape) F sc__law_tape fun cdv A outer s H hgd hr => ?_
  have hu := hr.un
  have hu1 := room_u (n := 1) (k := 0) (u := (A.deeper _).units) (by decide) hu
  have hu40 := room_u (n := 40) (k := 0) (u := (A.deeper _).units) (by decide) hu
  have hu64 := room_u (n := 64) (k := 0) (u := (A.deeper _).units) (by decide) hu
  have hu65 := room_u (n := 65) (k := 0) (u := (A.deeper _).units) (by decide) hu
  exact dss_one (ds_ret (de_dic (dpp_cons (de_str) (de_frz (de_cutX (de_var (pv 0)) (do_none) (do_some (de_int)))) (dpp_cons (de_str) (de_int) (dpp_cons (de_str) (de_int) (dpp_nil)))) rfl rfl (fun z => nomatch z) (by decide)))
theorem ok__law_tape {f : Addr} {fd : FuncData} (F : Fun K "_law_tape" "_law_tape" s__law_tape f fd) (mf : mg "_law_tape" = some (.ref f)) (T : Txt mg)  : DefOk P w K mg base "_law_tape" 1 p__law_tape d__law_tape :=
  ⟨f, fd, fn__law_tape F T , mf, F.kp, F.binds (ps := p__law_tape) fun _ _ _ _ _ _ us hl => match us, hl with | [_], _ => rfl⟩
abbrev s__law_draw : Stmt := top 21
abbrev N__law_draw : List Str := ["_law_tape_here", "_law_many", "_law_found", "_law_at", "_law_cell", "_law_mixed"]
abbrev p__law_draw : List Str := ["_law_tape_here", "_law_many"]
theorem sc__law_draw : FnScope N__law_draw p__law_draw (defScope s__law_draw) := ⟨rfl, rfl, rfl, by decide +kernel, rfl, by decide +kernel, by decide +kernel⟩
theorem fn__law_draw {f : Addr} {fd : FuncData} (F : Fun K "_law_draw" "_law_draw" s__law_draw f fd) (T : Txt mg)  : FnD P w K mg base 1 f fd p__law_draw d__law_draw := by
  refine fnD_of (k := 0) (N := N__law_draw) (W := [2, 3, 4, 4, 5, 5]) (fb := b__law_draw) F sc__law_draw fun cdv A outer s H hgd hr => ?_
  have hu := hr.un
  have hu1 := room_u (n := 1) (k := 0) (u := (A.deeper _).units) (by decide) hu
  have hu40 := room_u (n := 40) (k := 0) (u := (A.deeper _).units) (by decide) hu
  have hu64 := room_u (n := 64) (k := 0) (u := (A.deeper _).units) (by decide) hu
  have hu65 := room_u (n := 65) (k := 0) (u := (A.deeper _).units) (by decide) hu
  exact dss_cons (ds_if (dt_cmp op_gt (o2_cmp _) (de_sub hu1 (de_var (pv 0)) (de_str) (fun _ _ => rfl)) (de_int) (nomark _)) (dss_cons (ds_set (i := 2) sc__law_draw.nd rfl (Or.inl rfl) (de_op op_modN o2_mod (de_sub hu1 (de_var (pv 0)) (de_str) (fun _ _ => rfl)) (de_var (pv 1)))) (dss_cons (ds_store (ps_asg (DE.pe (de_op op_fdivN o2_div (de_sub hu1 (de_var (pv 0)) (de_str) (fun _ _ => rfl)) (de_var (pv 1)))) (pg_sub (DP.pe (dp_var (pv 0))) (DE.pe (de_str)) (set_all hu1)))) (dss_one (ds_ret (de_var (pv 2)))))) (dss_nil)) (dss_cons (ds_set (i := 3) sc__law_draw.nd rfl (Or.inl rfl) (de_sub hu1 (de_var (pv 0)) (de_str) (fun _ _ => rfl))) (dss_cons (ds_store (ps_asg (DE.pe (de_op ox_add o2_add (de_var (pv 3)) (de_int))) (pg_sub (DP.pe (dp_var (pv 0))) (DE.pe (de_str)) (set_all hu1)))) (dss_cons (ds_set (i := 4) sc__law_draw.nd rfl (Or.inl rfl) (de_int)) (dss_cons (ds_if (dt_cmp (ox_ne hu64) o2_ne (de_sub hu1 (de_var (pv 0)) (de_str) (fun _ _ => rfl)) (de_lst (da_nil)) (nomark _)) (dss_one (ds_set (i := 4) sc__law_draw.nd rfl (Or.inl rfl) (de_sub hu1 (de_sub hu1 (de_var (pv 0)) (de_str) (fun _ _ => rfl)) (de_op op_modN o2_mod (de_var (pv 3)) (de_callB cx_len cs_len (by rfl) T.b_len (by first | rfl | decide +kernel) (da_cons (de_sub hu1 (de_var (pv 0)) (de_str) (fun _ _ => rfl)) (da_nil)))) (fun _ _ => rfl)))) (dss_nil)) (dss_cons (ds_if (DW.dt (dw_and (dt_cmp op_ge (o2_cmp _) (de_var (pv 4)) (de_op op_pow o2_pow (de_int) (de_int)) (nomark _)) (dw_and1 (dt_cmp op_lt (o2_cmp _) (de_var (pv 3)) (de_callB cx_len cs_len (by rfl) T.b_len (by first | rfl | decide +kernel) (da_cons (de_sub hu1 (de_var (pv 0)) (de_str) (fun _ _ => rfl)) (da_nil))) (nomark _))))) (dss_cons (ds_store (ps_asg (DE.pe (de_op op_fdivN o2_div (de_var (pv 4)) (de_var (pv 1)))) (pg_sub (DP.pe (dp_var (pv 0))) (DE.pe (de_str)) (set_all hu1)))) (dss_one (ds_ret (de_op op_modN o2_mod (de_var (pv 4)) (de_var (pv 1)))))) (dss_nil)) (dss_cons (ds_set (i := 5) sc__law_draw.nd rfl (Or.inl rfl) (de_op op_modN o2_mod (de_op op_pow o2_pow (de_op ox_add o2_add (de_op ox_add o2_add (de_op op_modN o2_mod (de_var (pv 4)) (de_int)) (de_op ox_mul o2_mul (de_int) (de_var (pv 3)))) (de_int)) (de_int)) (de_int))) (dss_cons (ds_set (i := 5) sc__law_draw.nd rfl (Or.inl rfl) (de_op op_modN o2_mod (de_op op_pow o2_pow (de_op ox_add o2_add (de_op ox_mul o2_mul (de_var (pv 5)) (de_op ox_add o2_add (de_op ox_mul o2_mul (de_int) (de_var (pv 3))) (de_int))) (de_int)) (de_int)) (de_int))) (dss_one (ds_ret (de_op op_modN o2_mod (de_op op_fdivN o2_div (de_var (pv 5)) (de_int)) (de_var (pv 1))))))))))))
theorem ok__law_draw {f : Addr} {fd : FuncData} (F : Fun K "_law_draw" "_law_draw" s__law_draw f fd) (mf : mg "_law_draw" = some (.ref f)) (T : Txt mg)  : DefOk P w K mg base "_law_draw" 1 p__law_draw d__law_draw :=
  ⟨f, fd, fn__law_draw F T , mf, F.kp, F.binds (ps := p__law_draw) fun _ _ _ _ _ _ us hl => match us, hl with | [_, _], _ => rfl⟩
abbrev s__law_any_web : Stmt := top 22
abbrev N__law_any_web : List Str := ["_law_tape_here", "_law_many", "_law_rare", "_law_left", "_law_rows", "_law_found", "_law_row", "_law_at"]
abbrev p__law_any_web : List Str := ["_law_tape_here"]
theorem sc__law_any_web : FnScope N__law_any_web p__law_any_web (defScope s__law_any_web) := ⟨rfl, rfl, rfl, by decide +kernel, rfl, by decide +kernel, by decide +kernel⟩
theorem fn__law_any_web {f : Addr} {fd : FuncData} (F : Fun K "_law_any_web" "_law_any_web" s__law_any_web f fd) (T : Txt mg) (G__law_draw : DefOk P w K mg base "_law_draw" 1 p__law_draw d__law_draw) : FnD P w K mg base 2 f fd p__law_any_web d__law_any_web := by
  refine fnD_of (k := 1) (N := N__law_any_web) (W := [1, 2, 3, 4, 5, 6, 7]) (fb := b__law_any_web) F sc__law_any_web fun cdv A outer s H hgd hr => ?_
  have hu := hr.un
  have hu1 := room_u (n := 1) (k := 1) (u := (A.deeper _).units) (by decide) hu
  have hu40 := room_u (n := 40) (k := 1) (u := (A.deeper _).units) (by decide) hu
  have hu64 := room_u (n := 64) (k := 1) (u := (A.deeper _).units) (by decide) hu
  have hu65 := room_u (n := 65) (k := 1) (u := (A.deeper _).units) (by decide) hu
  exact dss_cons (ds_set (i := 1) sc__law_any_web.nd rfl (Or.inl rfl) (de_op ox_add o2_add (de_int) (de_callG G__law_draw hgd hr (by decide) (by rfl) (fCons_len (fCons_len (fNil_len))) (da_cons (de_var (pv 0)) (da_cons (de_sub hu1 (de_lst (da_cons (de_int) (da_cons (de_int) (da_cons (de_int) (da_cons (de_int) (da_nil)))))) (de_callG G__law_draw hgd hr (by decide) (by rfl) (fCons_len (fCons_len (fNil_len))) (da_cons (de_var (pv 0)) (da_cons (de_int) (da_nil)))) (fun _ _ => rfl)) (da_nil)))))) (dss_cons (ds_set (i := 2) sc__law_any_web.nd rfl (Or.inl rfl) (de_sub hu1 (de_lst (da_cons (de_int) (da_cons (de_int) (da_cons (de_int) (da_cons (de_int) (da_nil)))))) (de_callG G__law_draw hgd hr (by decide) (by rfl) (fCons_len (fCons_len (fNil_len))) (da_cons (de_var (pv 0)) (da_cons (de_int) (da_nil)))) (fun _ _ => rfl))) (dss_cons (ds_set (i := 3) sc__law_any_web.nd rfl (Or.inl rfl) (de_lstRg1 rfl (by rfl) T.b_list (by rfl) T.b_range (de_op ox_mul o2_mul (de_int) (de_var (pv 1))))) (dss_cons (ds_set (i := 4) sc__law_any_web.nd rfl (Or.inl rfl) (de_lst (da_cons (de_lst (da_nil)) (da_nil)))) (dss_cons (ds_while fuel PassesOwn.never (dt_cmp (ox_ne hu64) o2_ne (de_var (pv 3)) (de_lst (da_nil)) (nomark _)) (dss_cons (ds_if (DW.dt (dw_and (dt_cmpP (ox_ne hu64) o2_ne (dp_ix hu1 (pv 4) (de_neg (de_int)) (fun _ _ => rfl)) (de_lst (da_nil)) (nomark _)) (dw_and1 (dt_cmp (ox_eq hu64) o2_eq (de_callG G__law_draw hgd hr (by decide) (by rfl) (fCons_len (fCons_len (fNil_len))) (da_cons (de_var (pv 0)) (da_cons (de_var (pv 2)) (da_nil)))) (de_int) (nomark _))))) (dss_one (ds_expr (de_mut (pe_bm PySem.F.plainAttrs_list PySem.F.slot_list_append PySem.F.type_list_append mt_append (DP.pe (dp_var (pv 4))) (DA.pa (da_cons (de_lst (da_nil)) (da_nil)))) mu_append))) (dss_nil)) (dss_one (ds_expr (de_mut (pe_bm PySem.F.plainAttrs_list PySem.F.slot_list_append PySem.F.type_list_append mt_append (DP.pe (dp_ix hu1 (pv 4) (de_neg (de_int)) (fun _ _ => rfl))) (DA.pa (da_cons (de_mut (pe_bm PySem.F.plainAttrs_list PySem.F.slot_list_pop PySem.F.type_list_pop mt_popAt (DP.pe (dp_var (pv 3))) (DA.pa (da_cons (de_callG G__law_draw hgd hr (by decide) (by rfl) (fCons_len (fCons_len (fNil_len))) (da_cons (de_var (pv 0)) (da_cons (de_callB cx_len cs_len (by rfl) T.b_len (by first | rfl | decide +kernel) (da_cons (de_var (pv 3)) (da_nil))) (da_nil)))) (da_nil)))) mu_popAt) (da_nil)))) mu_append))))) (dss_cons (ds_set (i := 5) sc__law_any_web.nd rfl (Or.inl rfl) (de_lst (da_nil))) (dss_cons (ds_for PassesOwn.never rfl (di_seq (de_frz (de_var (pv 4)))) (DG.dy (dg_name (pg_name (i := 6) sc__law_any_web.nd rfl (Or.inl rfl)))) (dss_cons (ds_set (i := 7) sc__law_any_web.nd rfl (Or.inl rfl) (de_index (pe_bm PySem.F.plainAttrs_list PySem.F.slot_list_index PySem.F.type_list_index (mt_indexD hu65) (DE.pe (de_var (pv 6))) (DA.pa (da_cons (de_callB (cx_min rfl hu1) (cs_mm min) (by rfl) T.b_min (by first | rfl | decide +kernel) (da_cons (de_var (pv 6)) (da_nil))) (da_nil)))) (pe_tm PySem.F.slot_tuple_index PySem.F.type_tuple_index mt_tidx (DE.pe (de_var (pv 6))) (DA.pa (da_cons (de_callB (cx_min rfl hu1) (cs_mm min) (by rfl) T.b_min (by first | rfl | decide +kernel) (da_cons (de_var (pv 6)) (da_nil))) (da_nil)))))) (dss_one (ds_expr (de_mut (pe_bm PySem.F.plainAttrs_list PySem.F.slot_list_append PySem.F.type_list_append mt_append (DP.pe (dp_var (pv 5))) (DA.pa (da_cons (de_callTy call_tupOf cs_tuple (by rfl) T.b_tuple (by first | rfl | decide +kernel) (da_cons (de_op ox_add o2_add (de_cutX (de_var (pv 6)) (do_some (de_var (pv 7))) (do_none)) (de_cutX (de_var (pv 6)) (do_none) (do_some (de_var (pv 7))))) (da_nil))) (da_nil)))) mu_append))))) (dss_one (ds_ret (de_callTy call_tupOf cs_tuple (by rfl) T.b_tuple (by first | rfl | decide +kernel) (da_cons (de_callB (cx_sorted hu40) cs_sorted (by rfl) T.b_sorted (by first | rfl | decide +kernel) (da_cons (de_var (pv 5)) (da_nil))) (da_nil)))))))))))
theorem ok__law_any_web {f : Addr} {fd : FuncData} (F : Fun K "_law_any_web" "_law_any_web" s__law_any_web f fd) (mf : mg "_law_any_web" = some (.ref f)) (T : Txt mg) (G__law_draw : DefOk P w K mg base "_law_draw" 1 p__law_draw d__law_draw) : DefOk P w K mg base "_law_any_web" 2 p__law_any_web d__law_any_web :=
  ⟨f, fd, fn__law_any_web F T G__law_draw, mf, F.kp, F.binds (ps := p__law_any_web) fun _ _ _ _ _ _ us hl => match us, hl with | [_], _ => rfl⟩
abbrev s__law_number : Stmt := top 23
abbrev N__law_number : List Str := ["_law_word", "_law_some", "_law_number_here"]
abbrev p__law_number : List Str := ["_law_word"]
theorem sc__law_number : FnScope N__law_number p__law_number (defScope s__law_number) := ⟨rfl, rfl, rfl, by decide +kernel, rfl, by decide +kernel, by decide +kernel⟩
theorem fn__law_number {f : Addr} {fd : FuncData} (F : Fun K "_law_number" "_law_number" s__law_number f fd) (T : Txt mg)  : FnD P w K mg base 1 f fd p__law_number d__law_number := by
  refine fnD_of (k := 0) (N := N__law_number) (W := [1]) (fb := b__law_number) F sc__law_number fun cdv A outer s H hgd hr => ?_
  have hu := hr.un
  have hu1 := room_u (n := 1) (k := 0) (u := (A.deeper _).units) (by decide) hu
  have hu40 := room_u (n := 40) (k := 0) (u := (A.deeper _).units) (by decide) hu
  have hu64 := room_u (n := 64) (k := 0) (u := (A.deeper _).units) (by decide) hu
  have hu65 := room_u (n := 65) (k := 0) (u := (A.deeper _).units) (by decide) hu
  exact dss_cons (ds_setLc (i := 1) (own := [("_law_number_here", 2)]) rfl sc__law_number.nd rfl rfl (sw_true rfl rfl rfl (by decide +kernel)) (di_rng1 (by rfl) T.b_range (da_cons (de_int) (da_nil))) (blkOk_by (own := [("_law_number_here", 2)]) (N := N__law_number) (sc := defScope s__law_number) (by decide +kernel)) (fun _ _ _ _ _ => DG.dy (dg_name (pg_name (i := 2) sc__law_number.nd rfl (Or.inl rfl)))) (fun _ _ _ _ _ => dts_nil) (fun _ _ _ _ _ => de_callTy call_str_int cs_str (by rfl) T.b_str (by first | rfl | decide +kernel) (da_cons (de_var (pv 2)) (da_nil))) (by decide)) (dss_one (ds_ret (de_ifx (dt_cmp (ox_in hu65) o2_in (de_var (pv 0)) (de_var (pv 1)) (by rfl)) (de_index (pe_bm PySem.F.plainAttrs_list PySem.F.slot_list_index PySem.F.type_list_index (mt_indexD hu65) (DE.pe (de_var (pv 1))) (DA.pa (da_cons (de_var (pv 0)) (da_nil)))) (pe_tm PySem.F.slot_tuple_index PySem.F.type_tuple_index mt_tidx (DE.pe (de_var (pv 1))) (DA.pa (da_cons (de_var (pv 0)) (da_nil))))) (de_non))))
theorem ok__law_number {f : Addr} {fd : FuncData} (F : Fun K "_law_number" "_law_number" s__law_number f fd) (mf : mg "_law_number" = some (.ref f)) (T : Txt mg)  : DefOk P w K mg base "_law_number" 1 p__law_number d__law_number :=
  ⟨f, fd, fn__law_number F T , mf, F.kp, F.binds (ps := p__law_number) fun _ _ _ _ _ _ us hl => match us, hl with | [_], _ => rfl⟩
abbrev s__law_read : Stmt := top 24
abbrev N__law_read : List Str := ["_law_lines", "_law_met", "_law_rows", "_law_k", "_law_numbers", "_law_word", "_law_one"]
abbrev p__law_read : List Str := ["_law_lines"]
theorem sc__law_read : FnScope N__law_read p__law_read (defScope s__law_read) := ⟨rfl, rfl, rfl, by decide +kernel, rfl, by decide +kernel, by decide +kernel⟩
theorem fn__law_read {f : Addr} {fd : FuncData} (F : Fun K "_law_read" "_law_read" s__law_read f fd) (T : Txt mg) (G__law_number : DefOk P w K mg base "_law_number" 1 p__law_number d__law_number) : FnD P w K mg base 2 f fd p__law_read d__law_read := by
  refine fnD_of (k := 1) (N := N__law_read) (W := [1, 2, 3, 4, 1]) (fb := b__law_read) F sc__law_read fun cdv A outer s H hgd hr => ?_
  have hu := hr.un
  have hu1 := room_u (n := 1) (k := 1) (u := (A.deeper _).units) (by decide) hu
  have hu40 := room_u (n := 40) (k := 1) (u := (A.deeper _).units) (by decide) hu
  have hu64 := room_u (n := 64) (k := 1) (u := (A.deeper _).units) (by decide) hu
  have hu65 := room_u (n := 65) (k := 1) (u := (A.deeper _).units) (by decide) hu
  exact dss_cons (ds_set (i := 1) sc__law_read.nd rfl (Or.inr rfl) (de_lst (da_nil))) (dss_cons (ds_set (i := 2) sc__law_read.nd rfl (Or.inl rfl) (de_lst (da_nil))) (dss_cons (ds_for PassesOwn.never rfl (di_rng1 (by rfl) T.b_range (da_cons (de_callB cx_len cs_len (by rfl) T.b_len (by first | rfl | decide +kernel) (da_cons (de_var (pv 0)) (da_nil))) (da_nil))) (DG.dy (dg_name (pg_name (i := 3) sc__law_read.nd rfl (Or.inl rfl)))) (dss_cons (ds_setLc (i := 4) (own := [("_law_word", 5)]) rfl sc__law_read.nd rfl rfl (sw_true rfl rfl rfl (by decide +kernel)) (di_seq (de_frz (de_methT ms_split (pe_bm PySem.F.plainAttrs_str PySem.F.slot_str_split PySem.F.type_str_split mt_split (DE.pe (de_sub hu1 (de_var (pv 0)) (de_var (pv 3)) (fun _ _ => rfl))) (DA.pa (da_cons (de_str) (da_nil))))))) (blkOk_by (own := [("_law_word", 5)]) (N := N__law_read) (sc := defScope s__law_read) (by decide +kernel)) (fun _ _ _ _ _ => DG.dy (dg_name (pg_name (i := 5) sc__law_read.nd rfl (Or.inl rfl)))) (fun _ _ _ _ _ => dts_nil) (fun _ _ _ _ _ => de_callG G__law_number hgd hr (by decide) (by rfl) (fCons_len (fNil_len)) (da_cons (de_var (pv 5)) (da_nil))) (by decide)) (dss_cons (ds_if (DW.dt (dw_or (dt_cmp (ox_in hu65) o2_in (de_non) (de_var (pv 4)) (by rfl)) (dw_or (dt_cmp op_lt (o2_cmp _) (de_setLen rfl (by rfl) T.b_len (by rfl) T.b_set (de_var (pv 4))) (de_callB cx_len cs_len (by rfl) T.b_len (by first | rfl | decide +kernel) (da_cons (de_var (pv 4)) (da_nil))) (nomark _)) (dw_or1 (dt_cmp (ox_ne hu64) o2_ne (de_lc (own := [("_law_one", 6)]) rfl sc__law_read.nd (di_seq (de_frz (de_var (pv 4)))) (blkOk_by (own := [("_law_one", 6)]) (N := N__law_read) (sc := defScope s__law_read) (by decide +kernel)) (fun _ _ _ _ _ => DG.dy (dg_name (pg_name (i := 6) sc__law_read.nd rfl (Or.inl rfl)))) (fun _ _ _ _ _ => dts_one (dt_cmp (ox_in hu65) o2_in (de_var (pv 6)) (de_var (pv 1)) (by rfl))) (fun _ _ _ _ _ => de_var (pv 6)) (by decide)) (de_lst (da_nil)) (nomark _)))))) (dss_one (ds_ret (de_tup (da_cons (de_str) (da_cons (de_var (pv 3)) (da_nil)))))) (dss_nil)) (dss_cons (ds_if (dt_cmp (ox_ne hu64) o2_ne (de_lc (own := [("_law_one", 6)]) rfl sc__law_read.nd (di_rng1 (by rfl) T.b_range (da_cons (de_sub hu1 (de_var (pv 4)) (de_int) (fun _ _ => rfl)) (da_nil))) (blkOk_by (own := [("_law_one", 6)]) (N := N__law_read) (sc := defScope s__law_read) (by decide +kernel)) (fun _ _ _ _ _ => DG.dy (dg_name (pg_name (i := 6) sc__law_read.nd rfl (Or.inl rfl)))) (fun _ _ _ _ _ => dts_one (dt_cmp (ox_notIn hu65) o2_notIn (de_var (pv 6)) (de_var (pv 1)) (by rfl))) (fun _ _ _ _ _ => de_var (pv 6)) (by decide)) (de_lst (da_nil)) (nomark _)) (dss_one (ds_ret (de_tup (da_cons (de_str) (da_cons (de_var (pv 3)) (da_nil)))))) (dss_nil)) (dss_cons (ds_expr (de_mut (pe_bm PySem.F.plainAttrs_list PySem.F.slot_list_append PySem.F.type_list_append mt_append (DP.pe (dp_var (pv 2))) (DA.pa (da_cons (de_callTy call_tupOf cs_tuple (by rfl) T.b_tuple (by first | rfl | decide +kernel) (da_cons (de_var (pv 4)) (da_nil))) (da_nil)))) mu_append)) (dss_one (ds_set (i := 1) sc__law_read.nd rfl (Or.inr rfl) (de_op op_catS o2_catS (de_var (pv 1)) (de_var (pv 4)))))))))) (dss_cons (ds_if (DW.dt (dw_or (dt_cmp (ox_eq hu64) o2_eq (de_var (pv 1)) (de_lst (da_nil)) (nomark _)) (dw_or (dt_cmp (ox_eq hu64) o2_eq (de_op op_modN o2_mod (de_callB cx_len cs_len (by rfl) T.b_len (by first | rfl | decide +kernel) (da_cons (de_var (pv 1)) (da_nil))) (de_int)) (de_int) (nomark _)) (dw_or1 (dt_cmp (ox_ne hu64) o2_ne (de_callB (cx_sorted hu40) cs_sorted (by rfl) T.b_sorted (by first | rfl | decide +kernel) (da_cons (de_var (pv 1)) (da_nil))) (de_lstRg1 rfl (by rfl) T.b_list (by rfl) T.b_range (de_callB cx_len cs_len (by rfl) T.b_len (by first | rfl | decide +kernel) (da_cons (de_var (pv 1)) (da_nil)))) (nomark _)))))) (dss_one (ds_ret (de_tup (da_cons (de_str) (da_cons (de_callB cx_len cs_len (by rfl) T.b_len (by first | rfl | decide +kernel) (da_cons (de_var (pv 0)) (da_nil))) (da_nil)))))) (dss_nil)) (dss_one (ds_ret (de_tup (da_cons (de_str) (da_cons (de_callTy call_tupOf cs_tuple (by rfl) T.b_tuple (by first | rfl | decide +kernel) (da_cons (de_var (pv 2)) (da_nil))) (da_nil)))))))))
theorem ok__law_read {f : Addr} {fd : FuncData} (F : Fun K "_law_read" "_law_read" s__law_read f fd) (mf : mg "_law_read" = some (.ref f)) (T : Txt mg) (G__law_number : DefOk P w K mg base "_law_number" 1 p__law_number d__law_number) : DefOk P w K mg base "_law_read" 2 p__law_read d__law_read :=
  ⟨f, fd, fn__law_read F T G__law_number, mf, F.kp, F.binds (ps := p__law_read) fun _ _ _ _ _ _ us hl => match us, hl with | [_], _ => rfl⟩
abbrev s__law_told : Stmt := top 25
abbrev N__law_told : List Str := ["_law_lines", "_law_found", "e", "_law_others"]
abbrev p__law_told : List Str := ["_law_lines"]
theorem sc__law_told : FnScope N__law_told p__law_told (defScope s__law_told) := ⟨rfl, rfl, rfl, by decide +kernel, rfl, by decide +kernel, by decide +kernel⟩
theorem fn__law_told {f : Addr} {fd : FuncData} (F : Fun K "_law_told" "_law_told" s__law_told f fd) (T : Txt mg) (G_read_web : DefX P w K mg base "read_web" 4 p_read_web d_read_web) (ix_RimError_NoText : IsX K mg "NoText" [("NoText", true)]) (ix_RimError_ValueError : IsX K mg "ValueError" [("NoText", true)]) (ix_RimError_TooMany : IsX K mg "TooMany" [("NoText", false)]) (ix_RimError_NoTie : IsX K mg "NoTie" [("NoText", false)]) (ix_RimError_NoRow : IsX K mg "NoRow" [("NoText", false)]) (ix_RimError_NoPaper : IsX K mg "NoPaper" [("NoText", false)]) (ix_RimError_NoAsk : IsX K mg "NoAsk" [("NoText", false)]) (ix_RimError_NoAlong : IsX K mg "NoAlong" [("NoText", false)]) (ix_RimError_Barred : IsX K mg "Barred" [("NoText", false)]) (hx_RimError : HdX K mg "RimError" ["NoText"]) (fx_RimError_line : FldX K mg ["NoText"] "line") : FnD P w K mg base 5 f fd p__law_told d__law_told := by
  refine fnD_of (k := 4) (N := N__law_told) (W := [1, 1, 2, 1, 3, 1]) (fb := b__law_told) F sc__law_told fun cdv A outer s H hgd hr => ?_
  have hu := hr.un
  have hu1 := room_u (n := 1) (k := 4) (u := (A.deeper _).units) (by decide) hu
  have hu40 := room_u (n := 40) (k := 4) (u := (A.deeper _).units) (by decide) hu
  have hu64 := room_u (n := 64) (k := 4) (u := (A.deeper _).units) (by decide) hu
  have hu65 := room_u (n := 65) (k := 4) (u := (A.deeper _).units) (by decide) hu
  exact dss_cons (ds_set (i := 1) sc__law_told.nd rfl (Or.inl rfl) (de_non)) (dss_cons (ds_tryAs (i := 2) hx_RimError sc__law_told.nd rfl rfl (by rfl) rfl rfl (fun Wx pn xe tk => dssx_one (dsx_set (i := 1) sc__law_told.nd rfl (Or.inl rfl) (dex_tup (dax_cons (dex_of (de_str)) (dax_cons (dex_call G_read_web tk hgd hr (by decide) (by rfl) (xA_len (fCons_len (fNil_len))) (dax_of (da_cons (de_var (pv 0)) (da_nil)))) (dax_of (da_nil))))))) (fun a oe c C dd pn hy hmc hz hfl => dss_cons (ds_set (i := 1) sc__law_told.nd rfl (Or.inl rfl) (de_tup (da_cons (de_str) (da_cons (de_int) (da_nil))))) (dss_cons (ds_set (i := 3) sc__law_told.nd rfl (Or.inl rfl) (de_isET (isxs_cons ix_RimError_Barred (by rfl) (isxs_cons ix_RimError_NoAlong (by rfl) (isxs_cons ix_RimError_NoAsk (by rfl) (isxs_cons ix_RimError_NoPaper (by rfl) (isxs_cons ix_RimError_NoRow (by rfl) (isxs_cons ix_RimError_NoTie (by rfl) (isxs_cons ix_RimError_TooMany (by rfl) (isxs_nil)))))))) hmc hz hfl (by rfl) T.b_isinstance (fun z => nomatch z) (by decide) (pv 2))) (dss_one (ds_if (DW.dt (dw_and (dt_val (de_isE ix_RimError_NoText hmc hz hfl (by rfl) T.b_isinstance (by rfl) (pv 2))) (dw_and (dt_val (de_isE ix_RimError_ValueError hmc hz hfl (by rfl) T.b_isinstance (by rfl) (pv 2))) (dw_and1 (dt_not (dt_val (de_var (pv 3)))))))) (dss_one (ds_set (i := 1) sc__law_told.nd rfl (Or.inl rfl) (de_tup (da_cons (de_str) (da_cons (de_fld fx_RimError_line hy hmc hz hfl (pv 2)) (da_nil)))))) (dss_nil)))))) (dss_one (ds_ret (de_var (pv 1)))))
theorem ok__law_told {f : Addr} {fd : FuncData} (F : Fun K "_law_told" "_law_told" s__law_told f fd) (mf : mg "_law_told" = some (.ref f)) (T : Txt mg) (G_read_web : DefX P w K mg base "read_web" 4 p_read_web d_read_web) (ix_RimError_NoText : IsX K mg "NoText" [("NoText", true)]) (ix_RimError_ValueError : IsX K mg "ValueError" [("NoText", true)]) (ix_RimError_TooMany : IsX K mg "TooMany" [("NoText", false)]) (ix_RimError_NoTie : IsX K mg "NoTie" [("NoText", false)]) (ix_RimError_NoRow : IsX K mg "NoRow" [("NoText", false)]) (ix_RimError_NoPaper : IsX K mg "NoPaper" [("NoText", false)]) (ix_RimError_NoAsk : IsX K mg "NoAsk" [("NoText", false)]) (ix_RimError_NoAlong : IsX K mg "NoAlong" [("NoText", false)]) (ix_RimError_Barred : IsX K mg "Barred" [("NoText", false)]) (hx_RimError : HdX K mg "RimError" ["NoText"]) (fx_RimError_line : FldX K mg ["NoText"] "line") : DefOk P w K mg base "_law_told" 5 p__law_told d__law_told :=
  ⟨f, fd, fn__law_told F T G_read_web ix_RimError_NoText ix_RimError_ValueError ix_RimError_TooMany ix_RimError_NoTie ix_RimError_NoRow ix_RimError_NoPaper ix_RimError_NoAsk ix_RimError_NoAlong ix_RimError_Barred hx_RimError fx_RimError_line, mf, F.kp, F.binds (ps := p__law_told) fun _ _ _ _ _ _ us hl => match us, hl with | [_], _ => rfl⟩
abbrev s__law_signed : Stmt := top 26
abbrev N__law_signed : List Str := ["_law_tape_here", "_law_text", "_law_way", "_law_at", "_law_every", "_law_some", "_law_sign"]
abbrev p__law_signed : List Str := ["_law_tape_here", "_law_text"]
theorem sc__law_signed : FnScope N__law_signed p__law_signed (defScope s__law_signed) := ⟨rfl, rfl, rfl, by decide +kernel, rfl, by decide +kernel, by decide +kernel⟩
theorem fn__law_signed {f : Addr} {fd : FuncData} (F : Fun K "_law_signed" "_law_signed" s__law_signed f fd) (T : Txt mg) (G__law_draw : DefOk P w K mg base "_law_draw" 1 p__law_draw d__law_draw) : FnD P w K mg base 2 f fd p__law_signed d__law_signed := by
  refine fnD_of (k := 1) (N := N__law_signed) (W := [2, 3, 4, 5, 6]) (fb := b__law_signed) F sc__law_signed fun cdv A outer s H hgd hr => ?_
  have hu := hr.un
  have hu1 := room_u (n := 1) (k := 1) (u := (A.deeper _).units) (by decide) hu
  have hu40 := room_u (n := 40) (k := 1) (u := (A.deeper _).units) (by decide) hu
  have hu64 := room_u (n := 64) (k := 1) (u := (A.deeper _).units) (by decide) hu
  have hu65 := room_u (n := 65) (k := 1) (u := (A.deeper _).units) (by decide) hu
  exact dss_cons (ds_set (i := 2) sc__law_signed.nd rfl (Or.inl rfl) (de_callG G__law_draw hgd hr (by decide) (by rfl) (fCons_len (fCons_len (fNil_len))) (da_cons (de_var (pv 0)) (da_cons (de_int) (da_nil))))) (dss_cons (ds_set (i := 3) sc__law_signed.nd rfl (Or.inl rfl) (de_callG G__law_draw hgd hr (by decide) (by rfl) (fCons_len (fCons_len (fNil_len))) (da_cons (de_var (pv 0)) (da_cons (de_op ox_addX o2_addX (de_callB cx_len cs_len (by rfl) T.b_len (by first | rfl | decide +kernel) (da_cons (de_var (pv 1)) (da_nil))) (de_int)) (da_nil))))) (dss_cons (ds_set (i := 4) sc__law_signed.nd rfl (Or.inl rfl) (de_str)) (dss_cons (ds_set (i := 5) sc__law_signed.nd rfl (Or.inl rfl) (de_sub hu1 (de_lst (da_cons (de_str) (da_cons (de_var (pv 4)) (da_nil)))) (de_callG G__law_draw hgd hr (by decide) (by rfl) (fCons_len (fCons_len (fNil_len))) (da_cons (de_var (pv 0)) (da_cons (de_int) (da_nil)))) (fun _ _ => rfl))) (dss_cons (ds_set (i := 6) sc__law_signed.nd rfl (Or.inl rfl) (de_sub hu1 (de_var (pv 5)) (de_callG G__law_draw hgd hr (by decide) (by rfl) (fCons_len (fCons_len (fNil_len))) (da_cons (de_var (pv 0)) (da_cons (de_callB cx_len cs_len (by rfl) T.b_len (by first | rfl | decide +kernel) (da_cons (de_var (pv 5)) (da_nil))) (da_nil)))) (fun _ _ => rfl))) (dss_one (ds_ret (de_op ox_addX o2_addX (de_op ox_addX o2_addX (de_cutX (de_var (pv 1)) (do_none) (do_some (de_var (pv 3)))) (de_op op_mulS o2_mulT (de_var (pv 6)) (de_callTy call_int1 cs_int (by rfl) T.b_int (by first | rfl | decide +kernel) (da_cons (de_cmp (ox_ne hu64) o2_ne (de_var (pv 2)) (de_int) (nomark _)) (da_nil))))) (de_cutX (de_var (pv 1)) (do_some (de_op ox_addX o2_addX (de_var (pv 3)) (de_callTy call_int1 cs_int (by rfl) T.b_int (by first | rfl | decide +kernel) (da_cons (de_cmp op_gt (o2_cmp _) (de_var (pv 2)) (de_int) (nomark _)) (da_nil))))) (do_none)))))))))
theorem ok__law_signed {f : Addr} {fd : FuncData} (F : Fun K "_law_signed" "_law_signed" s__law_signed f fd) (mf : mg "_law_signed" = some (.ref f)) (T : Txt mg) (G__law_draw : DefOk P w K mg base "_law_draw" 1 p__law_draw d__law_draw) : DefOk P w K mg base "_law_signed" 2 p__law_signed d__law_signed :=
  ⟨f, fd, fn__law_signed F T G__law_draw, mf, F.kp, F.binds (ps := p__law_signed) fun _ _ _ _ _ _ us hl => match us, hl with | [_, _], _ => rfl⟩
abbrev s__law_worded : Stmt := top 27
abbrev N__law_worded : List Str := ["_law_tape_here", "_law_line", "_law_way", "_law_words", "_law_at", "_law_number_here", "_law_near", "_law_odd"]
abbrev p__law_worded : List Str := ["_law_tape_here", "_law_line"]
theorem sc__law_worded : FnScope N__law_worded p__law_worded (defScope s__law_worded) := ⟨rfl, rfl, rfl, by decide +kernel, rfl, by decide +kernel, by decide +kernel⟩
theorem fn__law_worded {f : Addr} {fd : FuncData} (F : Fun K "_law_worded" "_law_worded" s__law_worded f fd) (T : Txt mg) (G__law_draw : DefOk P w K mg base "_law_draw" 1 p__law_draw d__law_draw) (G__law_number : DefOk P w K mg base "_law_number" 1 p__law_number d__law_number) : FnD P w K mg base 2 f fd p__law_worded d__law_worded := by
  refine fnD_of (k := 1) (N := N__law_worded) (W := [2, 3, 4, 5, 6, 7, 3]) (fb := b__law_worded) F sc__law_worded fun cdv A outer s H hgd hr => ?_
  have hu := hr.un
  have hu1 := room_u (n := 1) (k := 1) (u := (A.deeper _).units) (by decide) hu
  have hu40 := room_u (n := 40) (k := 1) (u := (A.deeper _).units) (by decide) hu
  have hu64 := room_u (n := 64) (k := 1) (u := (A.deeper _).units) (by decide) hu
  have hu65 := room_u (n := 65) (k := 1) (u := (A.deeper _).units) (by decide) hu
  exact dss_cons (ds_set (i := 2) sc__law_worded.nd rfl (Or.inl rfl) (de_callG G__law_draw hgd hr (by decide) (by rfl) (fCons_len (fCons_len (fNil_len))) (da_cons (de_var (pv 0)) (da_cons (de_int) (da_nil))))) (dss_cons (ds_set (i := 3) sc__law_worded.nd rfl (Or.inl rfl) (de_methT ms_split (pe_bm PySem.F.plainAttrs_str PySem.F.slot_str_split PySem.F.type_str_split mt_split (DE.pe (de_var (pv 1))) (DA.pa (da_cons (de_str) (da_nil)))))) (dss_cons (ds_set (i := 4) sc__law_worded.nd rfl (Or.inl rfl) (de_callG G__law_draw hgd hr (by decide) (by rfl) (fCons_len (fCons_len (fNil_len))) (da_cons (de_var (pv 0)) (da_cons (de_callB cx_len cs_len (by rfl) T.b_len (by first | rfl | decide +kernel) (da_cons (de_var (pv 3)) (da_nil))) (da_nil))))) (dss_cons (ds_set (i := 5) sc__law_worded.nd rfl (Or.inl rfl) (de_callG G__law_number hgd hr (by decide) (by rfl) (fCons_len (fNil_len)) (da_cons (de_sub hu1 (de_var (pv 3)) (de_var (pv 4)) (fun _ _ => rfl)) (da_nil)))) (dss_cons (ds_set (i := 6) sc__law_worded.nd rfl (Or.inl rfl) (de_callTy call_str_int cs_str (by rfl) T.b_str (by first | rfl | decide +kernel) (da_cons (de_op ox_add o2_add (de_ifx (dt_cmp op_notN o2_isNotN (de_var (pv 5)) (de_non) (nomark _)) (de_var (pv 5)) (de_int)) (de_sub hu1 (de_lst (da_cons (de_int) (da_cons (de_neg (de_int)) (da_nil)))) (de_callG G__law_draw hgd hr (by decide) (by rfl) (fCons_len (fCons_len (fNil_len))) (da_cons (de_var (pv 0)) (da_cons (de_int) (da_nil)))) (fun _ _ => rfl))) (da_nil)))) (dss_cons (ds_set (i := 7) sc__law_worded.nd rfl (Or.inl rfl) (de_sub hu1 (de_lst (da_cons (de_str) (da_cons (de_str) (da_cons (de_str) (da_cons (de_str) (da_cons (de_str) (da_cons (de_str) (da_cons (de_str) (da_cons (de_str) (da_cons (de_str) (da_cons (de_str) (da_nil)))))))))))) (de_callG G__law_draw hgd hr (by decide) (by rfl) (fCons_len (fCons_len (fNil_len))) (da_cons (de_var (pv 0)) (da_cons (de_int) (da_nil)))) (fun _ _ => rfl))) (dss_cons (ds_if (dt_cmp (ox_eq hu64) o2_eq (de_var (pv 2)) (de_int) (nomark _)) (dss_one (ds_expr (de_mut (pe_bm PySem.F.plainAttrs_list PySem.F.slot_list_pop PySem.F.type_list_pop mt_popAt (DP.pe (dp_var (pv 3))) (DA.pa (da_cons (de_var (pv 4)) (da_nil)))) mu_popAt))) (dss_one (ds_if (dt_cmp (ox_eq hu64) o2_eq (de_var (pv 2)) (de_int) (nomark _)) (dss_one (ds_expr (de_mut (pe_bm PySem.F.plainAttrs_list PySem.F.slot_list_insert PySem.F.type_list_insert mt_insert (DP.pe (dp_var (pv 3))) (DA.pa (da_cons (de_var (pv 4)) (da_cons (de_sub hu1 (de_var (pv 3)) (de_var (pv 4)) (fun _ _ => rfl)) (da_nil))))) mu_insert))) (dss_one (ds_if (dt_cmp op_lt (o2_cmp _) (de_var (pv 2)) (de_int) (nomark _)) (dss_one (ds_store (ps_asg (DE.pe (de_sub hu1 (de_lst (da_cons (de_var (pv 6)) (da_cons (de_var (pv 7)) (da_nil)))) (de_op op_sub o2_sub (de_var (pv 2)) (de_int)) (fun _ _ => rfl))) (pg_sub (DP.pe (dp_var (pv 3))) (DE.pe (de_var (pv 4))) (set_all hu1))))) (dss_one (ds_if (dt_cmp (ox_eq hu64) o2_eq (de_var (pv 2)) (de_int) (nomark _)) (dss_one (ds_set (i := 3) sc__law_worded.nd rfl (Or.inl rfl) (de_op ox_add o2_add (de_op ox_add o2_add (de_cutX (de_var (pv 3)) (do_none) (do_some (de_var (pv 4)))) (de_rev (de_cutX (de_var (pv 3)) (do_some (de_var (pv 4))) (do_some (de_op ox_add o2_add (de_var (pv 4)) (de_int)))))) (de_cutX (de_var (pv 3)) (do_some (de_op ox_add o2_add (de_var (pv 4)) (de_int))) (do_none))))) (dss_one (ds_expr (de_mut (pe_bm PySem.F.plainAttrs_list PySem.F.slot_list_insert PySem.F.type_list_insert mt_insert (DP.pe (dp_var (pv 3))) (DA.pa (da_cons (de_var (pv 4)) (da_cons (de_var (pv 7)) (da_nil))))) mu_insert)))))))))) (dss_one (ds_ret (de_methT ms_join (pe_bm PySem.F.plainAttrs_str PySem.F.slot_str_join PySem.F.type_str_join mt_join (DE.pe (de_str)) (DA.pa (da_cons (de_var (pv 3)) (da_nil)))))))))))))
theorem ok__law_worded {f : Addr} {fd : FuncData} (F : Fun K "_law_worded" "_law_worded" s__law_worded f fd) (mf : mg "_law_worded" = some (.ref f)) (T : Txt mg) (G__law_draw : DefOk P w K mg base "_law_draw" 1 p__law_draw d__law_draw) (G__law_number : DefOk P w K mg base "_law_number" 1 p__law_number d__law_number) : DefOk P w K mg base "_law_worded" 2 p__law_worded d__law_worded :=
  ⟨f, fd, fn__law_worded F T G__law_draw G__law_number, mf, F.kp, F.binds (ps := p__law_worded) fun _ _ _ _ _ _ us hl => match us, hl with | [_, _], _ => rfl⟩
abbrev s__law_bent : Stmt := top 28
abbrev N__law_bent : List Str := ["_law_tape_here", "_law_lines", "_law_way", "_law_at", "_law_line", "_law_words", "_law_spot"]
abbrev p__law_bent : List Str := ["_law_tape_here", "_law_lines"]
theorem sc__law_bent : FnScope N__law_bent p__law_bent (defScope s__law_bent) := ⟨rfl, rfl, rfl, by decide +kernel, rfl, by decide +kernel, by decide +kernel⟩
theorem fn__law_bent {f : Addr} {fd : FuncData} (F : Fun K "_law_bent" "_law_bent" s__law_bent f fd) (T : Txt mg) (G__law_draw : DefOk P w K mg base "_law_draw" 1 p__law_draw d__law_draw) (G__law_signed : DefOk P w K mg base "_law_signed" 2 p__law_signed d__law_signed) (G__law_worded : DefOk P w K mg base "_law_worded" 2 p__law_worded d__law_worded) : FnD P w K mg base 3 f fd p__law_bent d__law_bent := by
  refine fnD_of (k := 2) (N := N__law_bent) (W := [2, 3, 4, 5, 6]) (fb := b__law_bent) F sc__law_bent fun cdv A outer s H hgd hr => ?_
  have hu := hr.un
  have hu1 := room_u (n := 1) (k := 2) (u := (A.deeper _).units) (by decide) hu
  have hu40 := room_u (n := 40) (k := 2) (u := (A.deeper _).units) (by decide) hu
  have hu64 := room_u (n := 64) (k := 2) (u := (A.deeper _).units) (by decide) hu
  have hu65 := room_u (n := 65) (k := 2) (u := (A.deeper _).units) (by decide) hu
  exact dss_cons (ds_set (i := 2) sc__law_bent.nd rfl (Or.inl rfl) (de_callG G__law_draw hgd hr (by decide) (by rfl) (fCons_len (fCons_len (fNil_len))) (da_cons (de_var (pv 0)) (da_cons (de_int) (da_nil))))) (dss_cons (ds_if (dt_cmp (ox_eq hu64) o2_eq (de_var (pv 1)) (de_lst (da_nil)) (nomark _)) (dss_one (ds_ret (de_lst (da_cons (de_str) (da_nil))))) (dss_nil)) (dss_cons (ds_set (i := 3) sc__law_bent.nd rfl (Or.inl rfl) (de_callG G__law_draw hgd hr (by decide) (by rfl) (fCons_len (fCons_len (fNil_len))) (da_cons (de_var (pv 0)) (da_cons (de_callB cx_len cs_len (by rfl) T.b_len (by first | rfl | decide +kernel) (da_cons (de_var (pv 1)) (da_nil))) (da_nil))))) (dss_cons (ds_set (i := 4) sc__law_bent.nd rfl (Or.inl rfl) (de_sub hu1 (de_var (pv 1)) (de_var (pv 3)) (fun _ _ => rfl))) (dss_cons (ds_if (dt_cmp op_lt (o2_cmp _) (de_var (pv 2)) (de_int) (nomark _)) (dss_one (ds_ret (de_op ox_addX o2_addX (de_op ox_addX o2_addX (de_cutX (de_var (pv 1)) (do_none) (do_some (de_var (pv 3)))) (de_lst (da_cons (de_callG G__law_worded hgd hr (by decide) (by rfl) (fCons_len (fCons_len (fNil_len))) (da_cons (de_var (pv 0)) (da_cons (de_var (pv 4)) (da_nil)))) (da_nil)))) (de_cutX (de_var (pv 1)) (do_some (de_op ox_addX o2_addX (de_var (pv 3)) (de_int))) (do_none))))) (dss_nil)) (dss_cons (ds_if (dt_cmp op_lt (o2_cmp _) (de_var (pv 2)) (de_int) (nomark _)) (dss_one (ds_ret (de_op ox_addX o2_addX (de_op ox_addX o2_addX (de_cutX (de_var (pv 1)) (do_none) (do_some (de_var (pv 3)))) (de_lst (da_cons (de_callG G__law_signed hgd hr (by decide) (by rfl) (fCons_len (fCons_len (fNil_len))) (da_cons (de_var (pv 0)) (da_cons (de_var (pv 4)) (da_nil)))) (da_nil)))) (de_cutX (de_var (pv 1)) (do_some (de_op ox_addX o2_addX (de_var (pv 3)) (de_int))) (do_none))))) (dss_nil)) (dss_cons (ds_if (dt_cmp (ox_eq hu64) o2_eq (de_var (pv 2)) (de_int) (nomark _)) (dss_one (ds_ret (de_op ox_addX o2_addX (de_cutX (de_var (pv 1)) (do_none) (do_some (de_var (pv 3)))) (de_cutX (de_var (pv 1)) (do_some (de_op ox_addX o2_addX (de_var (pv 3)) (de_int))) (do_none))))) (dss_nil)) (dss_cons (ds_if (dt_cmp (ox_eq hu64) o2_eq (de_var (pv 2)) (de_int) (nomark _)) (dss_one (ds_ret (de_op ox_addX o2_addX (de_op ox_addX o2_addX (de_cutX (de_var (pv 1)) (do_none) (do_some (de_var (pv 3)))) (de_lst (da_cons (de_var (pv 4)) (da_nil)))) (de_cutX (de_var (pv 1)) (do_some (de_var (pv 3))) (do_none))))) (dss_nil)) (dss_cons (ds_if (dt_cmp (ox_eq hu64) o2_eq (de_var (pv 2)) (de_int) (nomark _)) (dss_one (ds_ret (de_op ox_addX o2_addX (de_op ox_addX o2_addX (de_cutX (de_var (pv 1)) (do_none) (do_some (de_var (pv 3)))) (de_rev (de_cutX (de_var (pv 1)) (do_some (de_var (pv 3))) (do_some (de_op ox_addX o2_addX (de_var (pv 3)) (de_int)))))) (de_cutX (de_var (pv 1)) (do_some (de_op ox_addX o2_addX (de_var (pv 3)) (de_int))) (do_none))))) (dss_nil)) (dss_cons (ds_set (i := 5) sc__law_bent.nd rfl (Or.inl rfl) (de_methT ms_split (pe_bm PySem.F.plainAttrs_str PySem.F.slot_str_split PySem.F.type_str_split mt_split (DE.pe (de_var (pv 4))) (DA.pa (da_cons (de_str) (da_nil)))))) (dss_cons (ds_set (i := 6) sc__law_bent.nd rfl (Or.inl rfl) (de_callG G__law_draw hgd hr (by decide) (by rfl) (fCons_len (fCons_len (fNil_len))) (da_cons (de_var (pv 0)) (da_cons (de_op ox_addX o2_addX (de_callB cx_len cs_len (by rfl) T.b_len (by first | rfl | decide +kernel) (da_cons (de_var (pv 5)) (da_nil))) (de_int)) (da_nil))))) (dss_cons (ds_if (dt_cmp (ox_eq hu64) o2_eq (de_var (pv 6)) (de_int) (nomark _)) (dss_one (ds_ret (de_op ox_addX o2_addX (de_op ox_addX o2_addX (de_cutX (de_var (pv 1)) (do_none) (do_some (de_var (pv 3)))) (de_lst (da_cons (de_methT ms_join (pe_bm PySem.F.plainAttrs_str PySem.F.slot_str_join PySem.F.type_str_join mt_join (DE.pe (de_str)) (DA.pa (da_cons (de_cutX (de_var (pv 1)) (do_some (de_var (pv 3))) (do_some (de_op ox_addX o2_addX (de_var (pv 3)) (de_int)))) (da_nil))))) (da_nil)))) (de_cutX (de_var (pv 1)) (do_some (de_op ox_addX o2_addX (de_var (pv 3)) (de_int))) (do_none))))) (dss_nil)) (dss_one (ds_ret (de_op ox_addX o2_addX (de_op ox_addX o2_addX (de_cutX (de_var (pv 1)) (do_none) (do_some (de_var (pv 3)))) (de_lst (da_cons (de_methT ms_join (pe_bm PySem.F.plainAttrs_str PySem.F.slot_str_join PySem.F.type_str_join mt_join (DE.pe (de_str)) (DA.pa (da_cons (de_cutX (de_var (pv 5)) (do_none) (do_some (de_var (pv 6)))) (da_nil))))) (da_cons (de_methT ms_join (pe_bm PySem.F.plainAttrs_str PySem.F.slot_str_join PySem.F.type_str_join mt_join (DE.pe (de_str)) (DA.pa (da_cons (de_cutX (de_var (pv 5)) (do_some (de_var (pv 6))) (do_none)) (da_nil))))) (da_nil))))) (de_cutX (de_var (pv 1)) (do_some (de_op ox_addX o2_addX (de_var (pv 3)) (de_int))) (do_none))))))))))))))))
theorem ok__law_bent {f : Addr} {fd : FuncData} (F : Fun K "_law_bent" "_law_bent" s__law_bent f fd) (mf : mg "_law_bent" = some (.ref f)) (T : Txt mg) (G__law_draw : DefOk P w K mg base "_law_draw" 1 p__law_draw d__law_draw) (G__law_signed : DefOk P w K mg base "_law_signed" 2 p__law_signed d__law_signed) (G__law_worded : DefOk P w K mg base "_law_worded" 2 p__law_worded d__law_worded) : DefOk P w K mg base "_law_bent" 3 p__law_bent d__law_bent :=
  ⟨f, fd, fn__law_bent F T G__law_draw G__law_signed G__law_worded, mf, F.kp, F.binds (ps := p__law_bent) fun _ _ _ _ _ _ us hl => match us, hl with | [_, _], _ => rfl⟩
abbrev s_law : Stmt := top 29
abbrev N_law : List Str := ["_law_script", "_law_tape_here", "_law_k", "_law_web", "_law_due", "_law_turn", "_law_found", "_law_bent_here", "_law_lines", "_law_handed", "_law_row", "_law_dart"]
abbrev p_law : List Str := ["_law_script"]
theorem sc_law : FnScope N_law p_law (defScope s_law) := ⟨rfl, rfl, rfl, by decide +kernel, rfl, by decide +kernel, by decide +kernel⟩
theorem fn_law {f : Addr} {fd : FuncData} (F : Fun K "law" "law" s_law f fd) (T : Txt mg) (G__law_bent : DefOk P w K mg base "_law_bent" 3 p__law_bent d__law_bent) (G__law_told : DefOk P w K mg base "_law_told" 5 p__law_told d__law_told) (G__law_read : DefOk P w K mg base "_law_read" 2 p__law_read d__law_read) (G_web_lines : DefOk P w K mg base "web_lines" 1 p_web_lines d_web_lines) (G__law_any_web : DefOk P w K mg base "_law_any_web" 2 p__law_any_web d__law_any_web) (G__law_tape : DefOk P w K mg base "_law_tape" 1 p__law_tape d__law_tape) : FnD P w K mg base 6 f fd p_law d_law := by
  refine fnD_of (k := 5) (N := N_law) (W := [1, 2, 3, 4, 5, 6, 7, 8, 9]) (fb := b_law) F sc_law fun cdv A outer s H hgd hr => ?_
  have hu := hr.un
  have hu1 := room_u (n := 1) (k := 5) (u := (A.deeper _).units) (by decide) hu
  have hu40 := room_u (n := 40) (k := 5) (u := (A.deeper _).units) (by decide) hu
  have hu64 := room_u (n := 64) (k := 5) (u := (A.deeper _).units) (by decide) hu
  have hu65 := room_u (n := 65) (k := 5) (u := (A.deeper _).units) (by decide) hu
  exact dss_cons (ds_set (i := 1) sc_law.nd rfl (Or.inl rfl) (de_callG G__law_tape hgd hr (by decide) (by rfl) (fCons_len (fNil_len)) (da_cons (de_var (pv 0)) (da_nil)))) (dss_cons (ds_for PassesOwn.never rfl (di_rng1 (by rfl) T.b_range (da_cons (de_int) (da_nil))) (DG.dy (dg_name (pg_name (i := 2) sc_law.nd rfl (Or.inl rfl)))) (dss_cons (ds_set (i := 3) sc_law.nd rfl (Or.inl rfl) (de_callG G__law_any_web hgd hr (by decide) (by rfl) (fCons_len (fNil_len)) (da_cons (de_var (pv 1)) (da_nil)))) (dss_cons (ds_setLc (i := 4) (own := [("_law_row", 10)]) rfl sc_law.nd rfl rfl (sw_true rfl rfl rfl (by decide +kernel)) (di_seq (de_frz (de_var (pv 3)))) (blkOk_by (own := [("_law_row", 10)]) (N := N_law) (sc := defScope s_law) (by decide +kernel)) (fun _ _ _ _ _ => DG.dy (dg_name (pg_name (i := 10) sc_law.nd rfl (Or.inl rfl)))) (fun _ _ _ _ _ => dts_nil) (fun _ _ _ _ _ => de_methT ms_join (pe_bm PySem.F.plainAttrs_str PySem.F.slot_str_join PySem.F.type_str_join mt_join (DE.pe (de_str)) (DA.pa (da_cons (de_lc (own := [("_law_dart", 11)]) rfl sc_law.nd (di_seq (de_frz (de_var (pv 10)))) (blkOk_by (own := [("_law_dart", 11)]) (by kernel_rfl)) (fun _ _ _ _ _ => DG.dy (dg_name (pg_name (i := 11) sc_law.nd rfl (Or.inl rfl)))) (fun _ _ _ _ _ => dts_nil) (fun _ _ _ _ _ => de_callTy call_str_int cs_str (by rfl) T.b_str (by first | rfl | decide +kernel) (da_cons (de_var (pv 11)) (da_nil))) (by decide)) (da_nil))))) (by decide)) (dss_cons (ds_for PassesOwn.never rfl (di_rng1 (by rfl) T.b_range (da_cons (de_int) (da_nil))) (DG.dy (dg_name (pg_name (i := 5) sc_law.nd rfl (Or.inl rfl)))) (dss_cons (ds_set (i := 6) sc_law.nd rfl (Or.inl rfl) (de_callG G_web_lines hgd hr (by decide) (by rfl) (fCons_len (fNil_len)) (da_cons (de_var (pv 3)) (da_nil)))) (dss_cons (ds_if (DW.dt (dw_or (dt_not (dt_val (de_isi .list (by rfl) T.b_isinstance (by rfl) T.b_list (de_var (pv 6))))) (dw_or1 (dt_cmp (ox_ne hu64) o2_ne (de_callB (cx_repr hgd hu40) cs_repr (by rfl) T.b_repr (by first | rfl | decide +kernel) (da_cons (de_var (pv 6)) (da_nil))) (de_callB (cx_repr hgd hu40) cs_repr (by rfl) T.b_repr (by first | rfl | decide +kernel) (da_cons (de_var (pv 4)) (da_nil))) (nomark _))))) (dss_one (ds_ret (de_bl))) (dss_nil)) (dss_one (ds_expr (de_mut (pe_bm PySem.F.plainAttrs_list PySem.F.slot_list_append PySem.F.type_list_append mt_append (DP.pe (dp_var (pv 6))) (DA.pa (da_cons (de_str) (da_nil)))) mu_append)))))) (dss_cons (ds_set (i := 7) sc_law.nd rfl (Or.inl rfl) (de_callG G__law_bent hgd hr (by decide) (by rfl) (fCons_len (fCons_len (fNil_len))) (da_cons (de_var (pv 1)) (da_cons (de_var (pv 4)) (da_nil))))) (dss_one (ds_for PassesOwn.never rfl (di_seq (de_frz (de_lst (da_cons (de_var (pv 4)) (da_cons (de_var (pv 7)) (da_cons (de_callG G__law_bent hgd hr (by decide) (by rfl) (fCons_len (fCons_len (fNil_len))) (da_cons (de_var (pv 1)) (da_cons (de_var (pv 7)) (da_nil)))) (da_cons (de_callG G__law_bent hgd hr (by decide) (by rfl) (fCons_len (fCons_len (fNil_len))) (da_cons (de_var (pv 1)) (da_cons (de_var (pv 4)) (da_nil)))) (da_nil)))))))) (DG.dy (dg_name (pg_name (i := 8) sc_law.nd rfl (Or.inl rfl)))) (dss_cons (ds_set (i := 9) sc_law.nd rfl (Or.inl rfl) (de_callTy call_list_of cs_list (by rfl) T.b_list (by first | rfl | decide +kernel) (da_cons (de_var (pv 8)) (da_nil)))) (dss_one (ds_if (DW.dt (dw_or (dt_cmp (ox_ne hu64) o2_ne (de_callB (cx_repr hgd hu40) cs_repr (by rfl) T.b_repr (by first | rfl | decide +kernel) (da_cons (de_callG G__law_told hgd hr (by decide) (by rfl) (fCons_len (fNil_len)) (da_cons (de_var (pv 9)) (da_nil))) (da_nil))) (de_callB (cx_repr hgd hu40) cs_repr (by rfl) T.b_repr (by first | rfl | decide +kernel) (da_cons (de_callG G__law_read hgd hr (by decide) (by rfl) (fCons_len (fNil_len)) (da_cons (de_var (pv 8)) (da_nil))) (da_nil))) (nomark _)) (dw_or1 (dt_cmp (ox_ne hu64) o2_ne (de_var (pv 9)) (de_var (pv 8)) (nomark _))))) (dss_one (ds_ret (de_bl))) (dss_nil))))))))))) (dss_one (ds_ret (de_bl))))
abbrev si_NoText : Stmt := inClass (top 6) 0
theorem sci_NoText : FnScope ["self", "line"] ["self", "line"] (defScope si_NoText) := ⟨rfl, rfl, rfl, by decide +kernel, rfl, by decide +kernel, by decide +kernel⟩
theorem mk_NoText {C fI Cb : Addr} {fd : FuncData} (c : ClsX K mg "NoText" C fI) (B : BaseX K mg "RimError" Cb) (n_line : PySem.W.findIn K (.ref C) "line" = some none) (F : Fun K "__init__" "NoText.__init__" si_NoText fI fd) : MkX P w K mg base "NoText" ["line"] := by
  refine mk1 c (F.ok sci_NoText (fun vs H Q E h => ?_) (fun cdv A outer s H vs Q E hr h => ⟨_, ?_, doesI1 (z := "no such text") c.ox n_line h⟩)) (F.binds (ps := ["self", "line"]) fun _ _ _ _ _ _ us hl => match us, hl with | [_, _], _ => rfl)
  · obtain ⟨_, _, rfl, _⟩ := h; rfl
  · exact pss_cons (ps_expr (pe_baseinit B rfl (pa_cons (pv 0) (pa_cons pe_str pa_nil)))) (pss_one (ps_ost (pv 0) (pv 1)))
end
end K81
/-! Webs by their rows: places, next ones; comprehensions over lists of anything. -/
namespace DL
open PySem PySem.Spec L2
theorem lcD_of {α : Type} {vs : List Nat} {fg : FG} {ft : FT} {fe : FE} {ρ0 : Fm} {emb z : α → D} {p : α → Bool} : ∀ {xs : List α}, (∀ x ∈ xs, ∃ ρ1, fg (emb x) ρ0 = some ρ1 ∧ ∃ ρ2, ft ρ1 = some (p x, ρ2) ∧
    (p x = false → wipeF ρ2 vs = ρ0) ∧ (p x = true → ∃ r ρ3 ρ4, fe ρ2 = some (r, ρ3) ∧ take1 ρ3 r = some (z x, ρ4) ∧ wipeF ρ4 vs = ρ0)) → lcD vs fg ft fe (xs.map emb) ρ0 = some ((xs.filter p).map z, ρ0)
  | [], _ => rfl
  | x :: xs, h => by
    obtain ⟨ρ1, e1, ρ2, e2, hf, ht⟩ := h x List.mem_cons_self
    have ih := lcD_of (vs := vs) (fg := fg) (ft := ft) (fe := fe) (emb := emb) (z := z) (p := p) fun d' hd => h d' (List.mem_cons_of_mem _ hd)
    show (fg (emb x) ρ0).bind _ = _
    rw [e1]
    show (ft ρ1).bind _ = _
    rw [e2]
    cases hp : p x with
    | false =>
      rw [List.filter_cons_of_neg (by simp [hp])]
      show lcD vs fg ft fe (xs.map emb) (wipeF ρ2 vs) = _
      rw [hf hp, ih]
    | true =>
      rw [List.filter_cons_of_pos hp]
      obtain ⟨r, ρ3, ρ4, e3, e4, e5⟩ := ht hp
      show (fe ρ2).bind _ = _
      rw [e3]
      show (take1 ρ3 r).bind _ = _
      rw [e4]
      show (lcD vs fg ft fe (xs.map emb) (wipeF ρ4 vs)).map _ = _
      rw [e5, ih]
      rfl
theorem lcD_all {α : Type} {vs : List Nat} {fg : FG} {fe : FE} {ρ0 : Fm} {emb z : α → D} {xs : List α} (h : ∀ x ∈ xs, ∃ ρ1, fg (emb x) ρ0 = some ρ1 ∧ ∃ r ρ3 ρ4, fe ρ1 = some (r, ρ3) ∧ take1 ρ3 r = some (z x, ρ4) ∧ wipeF ρ4 vs = ρ0) :
    lcD vs fg fYes fe (xs.map emb) ρ0 = some (xs.map z, ρ0) := by
  have := lcD_of (vs := vs) (fg := fg) (ft := fYes) (fe := fe) (ρ0 := ρ0) (emb := emb) (z := z) (p := fun _ => true) (xs := xs) fun x hx => by
    obtain ⟨ρ1, e1, r⟩ := h x hx
    exact ⟨ρ1, e1, ρ1, rfl, (fun e => by cases e), fun _ => r⟩
  rw [List.filter_eq_self.mpr fun _ _ => rfl] at this
  exact this
theorem inS_ints (d : Int) : ∀ (r : List Int), inS (.int d) (intsD r) = some (decide (d ∈ r))
  | [] => by simp [inS]
  | i :: r => by
    show (toV (.int d)).bind (fun v => (toV (.int i)).bind fun w => (inS (.int d) (intsD r)).map fun b => eqV w v || b) = _
    rw [inS_ints d r]
    show some (eqV (.int i) (.int d) || decide (d ∈ r)) = _
    have : eqV (.int i) (.int d) = decide (d = i) := by
      unfold eqV
      by_cases h : d = i
      · subst h; simp
      · have h' : ¬ i = d := fun z => h z.symm
        simp [h, h']
    rw [this]
    by_cases h : d = i <;> simp [h]
theorem in_l {x : D} {d : Int} {r : List Int} (hx : isInts x r) : dIn (.int d) x = some (.bl (decide (d ∈ r))) := by
  rcases hx with rfl | rfl <;>
    (show ((inS (.int d) (intsD r)).orElse _).map _ = _
     rw [inS_ints]
     rfl)
theorem notIn_l {x : D} {d : Int} {r : List Int} (hx : isInts x r) : dNotIn (.int d) x = some (.bl (!decide (d ∈ r))) := by
  rcases hx with rfl | rfl <;>
    (show ((inS (.int d) (intsD r)).orElse _).map _ = _
     rw [inS_ints]
     rfl)
/-! ### index of True -/
/-! ### webs -/
structure IsWeb (w : List (List Int)) (n : Nat) : Prop where
  ne : ∀ r ∈ w, r ≠ []
  perm : w.flatten.Perm (up (2 * n))
  pos : 1 ≤ n
  le : n ≤ 12
def spotOf (w : List (List Int)) (d : Int) : Nat := w.findIdx fun r => decide (d ∈ r)
def rowOf (w : List (List Int)) (d : Int) : List Int := (w[spotOf w d]?).getD []
def nextOf (w : List (List Int)) (d : Int) : Int := ((rowOf w d)[((rowOf w d).idxOf d + 1) % (rowOf w d).length]?).getD 0
def otherOf (d : Int) : Int := if d.fmod 2 = 0 then d + 1 else d - 1
section
variable {w : List (List Int)} {n : Nat} (W : IsWeb w n)
include W
theorem IsWeb.nodup : w.flatten.Nodup := W.perm.nodup_iff.mpr (up_nodup _)
theorem IsWeb.mem {d : Int} : d ∈ w.flatten ↔ 0 ≤ d ∧ d < 2 * n := by
  rw [W.perm.mem_iff, up_mem]
  simp
theorem IsWeb.len : w.flatten.length = 2 * n := by rw [W.perm.length_eq, up_length]
theorem IsWeb.rows : w.length ≤ 24 := by
  have := rows_le W.ne
  rw [W.len] at this
  have := W.le
  omega
theorem IsWeb.row {r : List Int} (h : r ∈ w) : r.length ≤ 24 := by
  have := row_le h
  rw [W.len] at this
  have := W.le
  omega
theorem IsWeb.row_nodup {r : List Int} (h : r ∈ w) : r.Nodup := (List.pairwise_flatten.mp W.nodup).1 r h
/-- the row that it stands in, its place -/
theorem IsWeb.place {p : Nat} {r : List Int} {d : Int} (hp : w[p]? = some r) (hd : d ∈ r) : spotOf w d = p := by
  have hlt := (List.getElem?_eq_some_iff.mp hp).1
  have hr := (List.getElem?_eq_some_iff.mp hp).2
  unfold spotOf
  rw [List.findIdx_eq hlt]
  refine ⟨by rw [hr]; simpa using hd, fun j hj => ?_⟩
  have := (List.pairwise_flatten.mp W.nodup).2
  rw [List.pairwise_iff_getElem] at this
  have := this j p (by omega) hlt hj
  rw [hr] at this
  rw [decide_eq_false_iff_not]
  exact fun z => this d z d hd rfl
theorem IsWeb.at {d : Int} (h : d ∈ w.flatten) : ∃ p r, w[p]? = some r ∧ d ∈ r ∧ spotOf w d = p ∧ rowOf w d = r := by
  obtain ⟨r, hr, hd⟩ := List.mem_flatten.mp h
  obtain ⟨p, hlt, hp⟩ := List.mem_iff_getElem.mp hr
  have hp' : w[p]? = some r := by rw [List.getElem?_eq_getElem hlt, hp]
  have e := W.place hp' hd
  exact ⟨p, r, hp', hd, e, by unfold rowOf; rw [e, hp']; rfl⟩
end
end DL
/-! Loops by their count; dicts by their rows. -/
namespace DL
open PySem PySem.Spec L2
theorem ok_at {α : Type} {fg : FG} {fb : FS} {P : Fl × Fm → Prop} {emb : α → D} (xs : List α) (I : Nat → Fm → Prop) (step : ∀ p x ρ, xs[p]? = some x → I p ρ → Ok (fg (emb x) ρ) fun ρ1 => Ok (fb ρ1) fun x => match x.1 with
    | .nx => I (p + 1) x.2
    | .ct => I (p + 1) x.2
    | .bk => P (.nx, x.2)
    | .ret v => P (.ret v, x.2)) (done : ∀ ρ, I xs.length ρ → P (.nx, ρ)) {ρ : Fm} (h0 : I 0 ρ) : Ok (forD fg fb (xs.map emb) ρ) P := by
  refine ok_for (fun rest ρ => ∃ p, p ≤ xs.length ∧ rest = (xs.drop p).map emb ∧ I p ρ) ?_ ?_ ⟨0, Nat.zero_le _, rfl, h0⟩
  · rintro d r ρ ⟨p, hp, e, hI⟩
    cases hx : xs[p]? with
    | none =>
      rw [List.drop_eq_nil_of_le (List.getElem?_eq_none_iff.mp hx)] at e
      cases e
    | some x =>
      have hlt := (List.getElem?_eq_some_iff.mp hx).1
      rw [List.drop_eq_getElem_cons hlt, (List.getElem?_eq_some_iff.mp hx).2] at e
      injection e with e1 e2
      subst e1 e2
      refine ok_mono (step p x ρ hx hI) fun ρ1 h1 => ok_mono h1 fun y h2 => ?_
      obtain ⟨o, ρ2⟩ := y
      cases o with
      | nx => exact ⟨p + 1, hlt, rfl, h2⟩
      | ct => exact ⟨p + 1, hlt, rfl, h2⟩
      | bk => exact h2
      | ret v => exact h2
  · rintro ρ ⟨p, hp, e, hI⟩
    have hl : xs.length ≤ p := by
      have := congrArg List.length e
      simp at this
      omega
    have : p = xs.length := by omega
    subst this
    exact done ρ hI
theorem ok_iota {n : Nat} {fg : FG} {fb : FS} {P : Fl × Fm → Prop} (I : Nat → Fm → Prop) (step : ∀ p ρ, p < n → I p ρ → Ok (fg (.int (p : Nat)) ρ) fun ρ1 => Ok (fb ρ1) fun x => match x.1 with
    | .nx => I (p + 1) x.2
    | .ct => I (p + 1) x.2
    | .bk => P (.nx, x.2)
    | .ret v => P (.ret v, x.2)) (done : ∀ ρ, I n ρ → P (.nx, ρ)) {ρ : Fm} (h0 : I 0 ρ) : Ok (forD fg fb (iota 0 n) ρ) P := by
  have e : iota 0 n = (List.range n).map fun (i : Nat) => D.int (i : Int) := by simp [iota]
  rw [e]
  refine ok_at (List.range n) I (fun p x ρ hx hI => ?_) (fun ρ h => done ρ (by simpa using h)) h0
  obtain ⟨hlt, hx⟩ := List.getElem?_eq_some_iff.mp hx
  simp at hlt hx
  subst hx
  exact step p ρ hlt hI
/-! ### dicts with whole numbers as keys -/
def kvsOf (f : Int → D) (ds : List Int) : List (Key × D) := ds.map fun d => (Sum.inl d, f d)
@[simp] theorem kvs_len {f : Int → D} {ds : List Int} : (kvsOf f ds).length = ds.length := by simp [kvsOf]
@[simp] theorem kvs_nil {f : Int → D} : kvsOf f [] = [] := rfl
theorem kvs_any {f : Int → D} {d : Int} : ∀ {ds : List Int}, d ∉ ds → (kvsOf f ds).any (fun kv => decide (kv.1 = (Sum.inl d : Key))) = false
  | [], _ => rfl
  | e :: ds, h => by
    have h1 : e ≠ d := fun z => h (by simp [z])
    have h2 : d ∉ ds := fun z => h (List.mem_cons_of_mem _ z)
    have := kvs_any (f := f) h2
    simp only [kvsOf, List.map_cons, List.any_cons, Bool.or_eq_false_iff]
    exact ⟨decide_eq_false fun z => h1 (Sum.inl.inj z), this⟩
theorem put_new {f : Int → D} {d : Int} {ds : List Int} (h : d ∉ ds) (hi : imm (f d) = true) (hl : ds.length < 100000) : dStore (.dic (kvsOf f ds)) (.int d) (f d) = some (.dic (kvsOf f (ds ++ [d]))) := by
  show (if imm (f d) = true ∧ (kvsOf f ds).length < sizeLine then some (D.dic (kvPut (kvsOf f ds) (.inl d) (f d))) else none) = _
  rw [if_pos ⟨hi, Nat.lt_of_lt_of_le (by simpa using hl) (by decide : 100000 ≤ sizeLine)⟩]
  unfold kvPut
  rw [if_neg (by rw [kvs_any h]; decide)]
  simp [kvsOf]
theorem kv_get {f : Int → D} {d : Int} : ∀ {ds : List Int}, d ∈ ds → kvGet (kvsOf f ds) (.inl d) = some (f d)
  | e :: ds, h => by
    unfold kvGet
    simp only [kvsOf, List.map_cons, List.find?_cons]
    by_cases he : e = d
    · subst he; simp
    · have hd : d ∈ ds := by rcases List.mem_cons.mp h with z | z; exact absurd z.symm he; exact z
      have := kv_get (f := f) hd
      unfold kvGet at this
      have hh : decide ((Sum.inl e : Key) = .inl d) = false := decide_eq_false fun z => he (Sum.inl.inj z)
      rw [hh]
      exact this
theorem subs_dic {f : Int → D} {d : Int} {ds : List Int} (h : d ∈ ds) (hi : imm (f d) = true) : dSubs (.dic (kvsOf f ds)) (.int d) = some (f d) := by
  show ((DL.keyOf (.int d)).bind fun k => (kvGet (kvsOf f ds) k).bind fun d => if imm d = true then some d else none) = _
  show ((kvGet (kvsOf f ds) (.inl d)).bind fun d => if imm d = true then some d else none) = _
  rw [kv_get h]
  exact if_pos hi
section
variable {w : List (List Int)} {n : Nat} (W : IsWeb w n)
include W
theorem IsWeb.spots {p a : Nat} {r : List Int} {d : Int} (hp : w[p]? = some r) (ha : r[a]? = some d) : spotOf w d = p ∧ rowOf w d = r ∧ r.idxOf d = a := by
  have hd := List.mem_of_getElem? ha
  have e := W.place hp hd
  refine ⟨e, by unfold rowOf; rw [e, hp]; rfl, ?_⟩
  obtain ⟨hlt, hx⟩ := List.getElem?_eq_some_iff.mp ha
  rw [← hx]
  exact (W.row_nodup (List.mem_of_getElem? hp)).idxOf_getElem a hlt
theorem IsWeb.next {p a : Nat} {r : List Int} {d : Int} (hp : w[p]? = some r) (ha : r[a]? = some d) : (a + 1 < r.length → r[a + 1]? = some (nextOf w d)) ∧ (¬ a + 1 < r.length → r[0]? = some (nextOf w d)) := by
  obtain ⟨e1, e2, e3⟩ := W.spots hp ha
  obtain ⟨hlt, hx⟩ := List.getElem?_eq_some_iff.mp ha
  have hm : (a + 1) % r.length < r.length := Nat.mod_lt _ (by omega)
  have en : r[(a + 1) % r.length]? = some (nextOf w d) := by
    unfold nextOf
    rw [e2, e3, List.getElem?_eq_getElem hm]
    rfl
  refine ⟨fun h => by rwa [Nat.mod_eq_of_lt h] at en, fun h => ?_⟩
  have : a + 1 = r.length := by omega
  rwa [this, Nat.mod_self] at en
theorem IsWeb.split {p a : Nat} {r : List Int} {d : Int} (hp : w[p]? = some r) (ha : r[a]? = some d) : d ∉ (w.take p).flatten ++ r.take a ∧ ((w.take p).flatten ++ r.take a).length < 100000 := by
  obtain ⟨h1, h2⟩ := List.getElem?_eq_some_iff.mp hp
  obtain ⟨h3, h4⟩ := List.getElem?_eq_some_iff.mp ha
  have e1 : w = w.take p ++ r :: w.drop (p + 1) := by rw [← h2, ← List.drop_eq_getElem_cons h1, List.take_append_drop]
  have e2 : r = r.take a ++ d :: r.drop (a + 1) := by rw [← h4, ← List.drop_eq_getElem_cons h3, List.take_append_drop]
  have e3 : w.flatten = ((w.take p).flatten ++ r.take a) ++ d :: (r.drop (a + 1) ++ (w.drop (p + 1)).flatten) := by
    conv => lhs; rw [e1]
    rw [List.flatten_append, List.flatten_cons]
    conv => lhs; rw [e2]
    simp only [List.append_assoc, List.cons_append]
  have nd := W.nodup
  have hl := W.len
  have hn := W.le
  rw [e3] at nd hl
  refine ⟨fun z => (List.nodup_append.mp nd).2.2 d z d List.mem_cons_self rfl, ?_⟩
  rw [List.length_append] at hl
  omega
theorem take_row {p : Nat} {r : List Int} (hp : w[p]? = some r) : (w.take p).flatten ++ r = (w.take (p + 1)).flatten := by
  rw [List.take_add_one, hp]
  simp
end
end DL
namespace RM
open PySem PySem.Spec L2 DL
theorem draw_ok {d : D} {m : Int} (h : IsFeed d) (h1 : 1 ≤ m) (h2 : m < 1073741824) :
    Ok (d__law_draw [d, .int m]) fun ro => ∃ i d', ro.1 = .int i ∧ 0 ≤ i ∧ i < m ∧ IsFeed d' ∧ ro.2 = [some d', some (.int m)] := by
  obtain ⟨cs, a, l, t, rfl⟩ := h
  have hm : m ≠ 0 := by omega
  have hm' : m.natAbs < 1073741824 := by omega
  have fin : ∀ (x : Int) (a' l' t' : Int), ∃ i d', D.int (x.fmod m) = .int i ∧ 0 ≤ i ∧ i < m ∧ IsFeed d' ∧ [some (feedD cs a' l' t'), some (D.int m)] = [some d', some (.int m)] := fun x a' l' t' => ⟨_, _, rfl, Int.fmod_nonneg_of_pos x (by omega), Int.fmod_lt_of_pos x (by omega), ⟨cs, a', l', t', rfl⟩, rfl⟩
  by_cases hl : 0 < l
  · exact ok_mono (P := fun x => x = (D.int (l.fmod m), [some (feedD cs a (l.fdiv m) (t + 1)), some (D.int m)])) (by simp [d__law_draw, b__law_draw, denOf, hm, hm', hl]) fun x e => by rw [e]; exact fin _ _ _ _
  · have gen : ∃ x l', Ok (d__law_draw [feedD cs a l t, .int m]) fun y => y = (D.int (Int.fmod x m), [some (feedD cs (a + 1) l' (t + 1)), some (D.int m)]) := by
      by_cases hc : cs = []
      · subst hc
        exact ⟨_, l, by simp [d__law_draw, b__law_draw, denOf, hm, hm', hl]; rfl⟩
      · obtain ⟨c, ec⟩ := cell_at a hc
        have hlen : (cs.length : Int) ≠ 0 := by have := List.length_pos_iff.mpr hc; omega
        by_cases h3 : 1000000000000000000 ≤ c ∧ a < cs.length
        · exact ⟨c, c.fdiv m, by simp [d__law_draw, b__law_draw, denOf, hm, hm', hl, hc, ec, h3.1, h3.2, hlen]⟩
        · by_cases h4 : 1000000000000000000 ≤ c
          · have h5 : ¬ a < cs.length := fun z => h3 ⟨h4, z⟩
            exact ⟨_, l, by simp [d__law_draw, b__law_draw, denOf, hm, hm', hl, hc, ec, h4, h5, hlen]; rfl⟩
          · exact ⟨_, l, by simp [d__law_draw, b__law_draw, denOf, hm, hm', hl, hc, ec, h4, hlen]; rfl⟩
    obtain ⟨x, l', g⟩ := gen
    exact ok_mono g fun y e => by rw [e]; exact fin _ _ _ _
abbrev lstR (r : List Int) : D := .lst (intsD r)
abbrev flR (r : List Int) : D := .flst (intsD r)
theorem frzL_rows (rows : List (List Int)) : frzL (rows.map lstR) = some (rows.map flR) := by
  induction rows with
  | nil => rfl
  | cons r rows ih => simp [ih]
theorem immL_flR (rows : List (List Int)) : immL (rows.map flR) = true := by
  induction rows with
  | nil => rfl
  | cons r rows ih => simp [ih]
theorem begun_ok {rows : List (List Int)} (h : ∀ r ∈ rows, r ≠ [] ∧ r.length ≤ 1000) (hl : rows.length ≤ 1000) :
    Ok (d__law_begun [.lst (rows.map lstR)]) fun ro => ro.1 = webD (sortRows (rows.map turnRow)) := by
  simp [d__law_begun, b__law_begun, denOf, frzL_rows, immL_flR, big_ok, ok_bind]
  refine ok_mono (ok_for (P := fun x => ∃ o0 o2 o3, x = (.nx, [o0, some (.lst ((rows.map turnRow).map rowD)), o2, o3])) (fun rest ρ => ∃ done todo o0 o2 o3, rest = todo.map flR ∧ done ++ todo = rows ∧ ρ = [o0, some (.lst ((done.map turnRow).map rowD)), o2, o3]) ?_ ?_ ?_) ?_
  · rintro d r ρ ⟨done, todo, o0, o2, o3, e1, e2, rfl⟩
    cases todo with
    | nil => cases e1
    | cons q todo =>
      injection e1 with e1 e3
      subst e1 e3
      obtain ⟨hq, hq2⟩ := h q (by rw [← e2]; simp)
      have hlen : done.length ≤ 1000 := by rw [← e2] at hl; simp at hl; omega
      have c1 : cut (intsD q) (some ((q.idxOf (least q) : Nat) : Int)) none = intsD (q.drop (q.idxOf (least q))) := by rw [cut_from _ _ (by simp; exact List.idxOf_le_length), ← List.map_drop]
      have c2 : cut (intsD q) none (some ((q.idxOf (least q) : Nat) : Int)) = intsD (q.take (q.idxOf (least q))) := by rw [cut_to _ _ (by simp; exact List.idxOf_le_length), ← List.map_take]
      have m1 : dMm min [flR q] = some (.int (least q)) := min_of rfl hq
      have i1 := index_l (x := flR q) (.inr rfl) (least_mem hq)
      have ct : dAdd (.lst (intsD (q.drop (q.idxOf (least q))))) (.lst (intsD (q.take (q.idxOf (least q))))) = some (.lst (intsD (turnRow q))) := by
        rw [cat_l (immL_ints _) (immL_ints _) (big_ok (by simp; omega)), ← List.map_append]
        rfl
      have tp := tuple_l (immL_ints (turnRow q))
      have ap := append_l (ds := (done.map turnRow).map rowD) (y := .tup (intsD (turnRow q))) (big_lt (by simp; omega))
      simp [ap_index, ap_methR, m1, i1, c1, c2, ct, tp, ap, -List.map_map, -List.map_drop, -List.map_take]
      refine ⟨done ++ [q], todo, rfl, by simp [← e2], ?_⟩
      simp [rowD]
  · rintro ρ ⟨done, todo, o0, o2, o3, e1, e2, rfl⟩
    have : todo = [] := by cases todo with | nil => rfl | cons _ _ => cases e1
    subst this
    rw [List.append_nil] at e2
    subst e2
    exact ⟨_, _, _, rfl⟩
  · exact ⟨[], rows, _, _, _, rfl, rfl, rfl⟩
  · rintro x ⟨o0, o2, o3, rfl⟩
    have sr := sorted_rows (w := rows.map turnRow) fun r hr => by
      obtain ⟨q, hq, rfl⟩ := List.mem_map.mp hr
      intro z
      have := (turnRow_perm q).length_eq
      rw [z] at this
      exact (h q hq).1 (List.eq_nil_of_length_eq_zero this.symm)
    have tp := tuple_l (imm_rows (sortRows (rows.map turnRow)))
    simp [sr, tp, webD, -List.map_map]
end RM
namespace RM
open PySem PySem.Spec L2 DL
theorem draw_eq {d : D} {m : Int} (h : IsFeed d) (h1 : 1 ≤ m) (h2 : m < 1073741824) :
    ∃ i d', d__law_draw [d, .int m] = some (.int i, [some d', some (.int m)]) ∧ 0 ≤ i ∧ i < m ∧ IsFeed d' ∧ imm d' = false := by
  obtain ⟨⟨r, o⟩, e, i, d', e1, h0, h3, hf, e2⟩ := draw_ok h h1 h2
  cases e1
  cases e2
  exact ⟨i, d', e, h0, h3, hf, hf.imm⟩
def WInv (n2 : Nat) (rare : Int) (k : Nat) (ρ : Fm) : Prop := ∃ (f : D) (left : List Int) (pre : List (List Int)) (l : List Int) (o5 : Option D), ρ = [some f, some (.int 12), some (.lst (intsD left)), some (.int rare), some (.lst (pre.map lstR ++ [lstR l])), o5] ∧ IsFeed f ∧ (∀ r ∈ pre ++ [l], r ≠ []) ∧ ((pre ++ [l]).flatten ++ left).Perm (up n2) ∧ k = left.length
def WPost (n2 : Nat) (rare : Int) (x : Fl × Fm) : Prop := ∃ (f : D) (rows : List (List Int)) (o5 : Option D), x = (.nx, [some f, some (.int 12), some (.lst []), some (.int rare), some (.lst (rows.map lstR)), o5]) ∧ IsFeed f ∧ (∀ r ∈ rows, r ≠ []) ∧ rows.flatten.Perm (up n2)
theorem any_web_ok {d : D} (h : IsFeed d) : Ok (d__law_any_web [d, .int 12]) fun ro => ∃ (w : List (List Int)) (n : Nat) (d' : D), ro.1 = webD w ∧ 1 ≤ n ∧ n ≤ 12 ∧ (∀ r ∈ w, r ≠ []) ∧ w.flatten.Perm (up (2 * n)) ∧ IsFeed d' ∧ ro.2 = [some d', some (.int 12)] := by
  obtain ⟨i1, f1, e1, p1, q1, hf1, im1⟩ := draw_eq h (m := 12) (by decide) (by decide)
  obtain ⟨i2, f2, e2, p2, q2, hf2, im2⟩ := draw_eq hf1 (m := 5) (by decide) (by decide)
  have im0 := h.imm
  generalize hn : (2 + 2 * i1).toNat = n2
  have ok2 : okR (2 + 2 * i1) = true := okR_of' (by omega) (by omega)
  have hle : 2 + 2 * i1 ≤ 16777216 := by omega
  obtain ⟨i3, f3, e3, p3, q3, hf3, im3⟩ := draw_eq hf2 (m := (n2 : Int)) (by omega) (by omega)
  obtain ⟨c3, g3, m3⟩ := pop_ints (ns := up n2) (i := i3) p3 (by rw [up_length]; omega) (by rw [up_length]; omega)
  obtain ⟨rare, er, pr⟩ : ∃ rare : Int, dSubs (.lst [.int 2, .int 3, .int 6, .int 1, .int 25]) (.int i2) = some (.int rare) ∧ 1 ≤ rare ∧ rare ≤ 25 := by
    have : i2 = 0 ∨ i2 = 1 ∨ i2 = 2 ∨ i2 = 3 ∨ i2 = 4 := by omega
    rcases this with rfl | rfl | rfl | rfl | rfl <;> exact ⟨_, rfl, by decide, by decide⟩
  simp [d__law_any_web, b__law_any_web, denOf, e1, e2, im0, im1, im2, ok2, hn, hle, er, iota_up, up_length, e3, m3, im3, big_ok, ok_bind, -List.map_map]
  have hn2 : n2 ≤ 24 ∧ 2 ≤ n2 := by omega
  refine ok_mono (ok_while (P := WPost n2 rare) (WInv n2 rare) ?_ (k := n2 - 1) (by unfold fuel; omega) ?_) ?_
  · rintro k ρ ⟨f, left, pre, l, o5, rfl, hf, hne, hp, rfl⟩
    have hlen := hp.length_eq
    rw [up_length] at hlen
    simp only [List.length_append] at hlen
    have hrows := rows_le hne
    have hpl : pre.length + 1 ≤ 24 := by simp at hrows hlen; omega
    by_cases hl : left = []
    · subst hl
      simp [big_ok]
      exact ⟨f, pre ++ [l], o5, by simp, hf, hne, by simpa using hp⟩
    · have hl0 := List.length_pos_iff.mpr hl
      obtain ⟨i4, f4, e4, p4, q4, hf4, im4⟩ := draw_eq hf (m := (left.length : Int)) (by omega) (by omega)
      obtain ⟨c4, g4, m4⟩ := pop_ints (ns := left) (i := i4) p4 (by omega) (by omega)
      obtain ⟨i5, f5, e5, p5, q5, hf5, im5⟩ := draw_eq hf4 (m := rare) (by omega) (by omega)
      have imf := hf.imm
      have ep := erase_perm g4
      have el := List.length_eraseIdx_of_lt (l := left) (i := i4.toNat) (by omega)
      have lr : l.length ≤ 24 := by
        have := row_le (w := pre ++ [l]) (r := l) (by simp)
        omega
      by_cases h5 : i5 = 0
      · have ap := append_l (ds := pre.map lstR ++ [lstR l]) (y := .lst [.int c4]) (big_lt (by simp; omega))
        simp [big_ok, hl, e4, m4, imf, im4, im5, e5, h5, ap, -List.map_map]
        refine ⟨left.length - 1, by omega, f5, left.eraseIdx i4.toNat, pre ++ [l], [c4], _, by simp; rfl, hf5, ?_, ?_, el.symm⟩
        · intro r hr
          rcases List.mem_append.mp hr with z | z
          · exact hne r z
          · simp at z; rw [z]; simp
        · refine List.Perm.trans ?_ hp
          simp only [List.flatten_append, List.flatten_cons, List.flatten_nil, List.append_nil, List.append_assoc, List.singleton_append]
          exact ep.append_left _ |>.append_left _
      · have ap := append_l (ds := intsD l) (y := .int c4) (big_lt (by simp; omega))
        have gl := get_last (pre.map lstR) (lstR l) pre.length (by simp)
        have sl := set_last (pre.map lstR) (lstR l) (.lst (intsD l ++ [.int c4])) pre.length (by simp)
        simp [big_ok, hl, e4, m4, imf, im4, im5, e5, h5, ap, ap_pIx, ap_getIx, ap_setIx, ixN_m1, gl, sl, -List.map_map]
        refine ⟨left.length - 1, by omega, f5, left.eraseIdx i4.toNat, pre, l ++ [c4], _, by simp; rfl, hf5, ?_, ?_, el.symm⟩
        · intro r hr
          rcases List.mem_append.mp hr with z | z
          · exact hne r (List.mem_append_left _ z)
          · simp at z; rw [z]; simp
        · refine List.Perm.trans ?_ hp
          simp only [List.flatten_append, List.flatten_cons, List.flatten_nil, List.append_nil, List.append_assoc, List.singleton_append]
          exact ep.append_left _ |>.append_left _
  · refine ⟨f3, (up n2).eraseIdx i3.toNat, [], [c3], none, rfl, hf3, by simp, by simpa using erase_perm g3, ?_⟩
    rw [List.length_eraseIdx_of_lt (by rw [up_length]; omega), up_length]
  · rintro x ⟨f, rows, o5, rfl, hf, hne, hp⟩
    have hlen := hp.length_eq
    rw [up_length] at hlen
    have hrows := rows_le hne
    obtain ⟨⟨r, o⟩, e6, e7⟩ := begun_ok (rows := rows) (fun r hr => ⟨hne r hr, by have := row_le hr; omega⟩) (by omega)
    cases e7
    simp [e6]
    refine ⟨sortRows (rows.map turnRow), rfl, n2 / 2, by omega, by omega, ?_, ?_, f, hf, ?_⟩
    · intro r hr
      obtain ⟨q, hq, rfl⟩ := List.mem_map.mp ((sortRows_perm _).mem_iff.mp hr)
      exact turn_ne (hne q hq)
    · have : 2 * (n2 / 2) = n2 := by omega
      rw [this]
      exact ((sortRows_perm _).flatten.trans (turn_flat rows)).trans hp
    · cases o with
      | nil => exact ⟨rfl, rfl⟩
      | cons a os => simp
end RM
/-! What the program's small functions tell of a web. -/
namespace RM
open PySem PySem.Spec L2 DL
theorem other_ok (d : Int) : d_other_of [.int d] = some (.int (otherOf d), [some (.int d)]) := by
  have h := fmod_in d (m := 2) (by decide)
  have e : d + 1 - 2 * d.fmod 2 = otherOf d := by
    unfold otherOf
    split <;> omega
  simp [d_other_of, b_other_of, denOf, e]
end RM
namespace RM
open PySem PySem.Spec L2 DL
end RM
/-! More readings: backwards, kinds, sets, loops in place, zip; rules for comprehensions. -/
namespace DL
open PySem PySem.Spec L2
section
variable {ρ : Fm} {f : FS} {fe fa fb : FE} {fr : FA} {d : D} {ds : List D} {ns : List Int} {i j : Nat}
@[simp] theorem ap_rev : fRev fe ρ = (fe ρ).bind fun x => (cont x.2 x.1).bind fun d => (dRev d).map fun z => (.val z, x.2) := rfl
@[simp] theorem ap_isi {k : Kd} : fIsi k fe ρ = (fe ρ).bind fun x => (cont x.2 x.1).bind fun d => if isX d = true then none else some (.val (.bl (isK k d)), x.2) := rfl
@[simp] theorem isX_non : isX .non = false := rfl
@[simp] theorem isX_bl {b : Bool} : isX (.bl b) = false := rfl
@[simp] theorem isX_int {i : Int} : isX (.int i) = false := rfl
@[simp] theorem isX_str {x : Str} : isX (.str x) = false := rfl
@[simp] theorem isX_tup {ds : List D} : isX (.tup ds) = false := rfl
@[simp] theorem isX_lst {ds : List D} : isX (.lst ds) = false := rfl
@[simp] theorem isX_flst {ds : List D} : isX (.flst ds) = false := rfl
@[simp] theorem isX_dic {kvs : List (Key × D)} : isX (.dic kvs) = false := rfl
@[simp] theorem isX_row {r : List Int} : isX (rowD r) = false := rfl
@[simp] theorem isX_fdic {kvs : List (Key × D)} : isX (.fdic kvs) = false := rfl
@[simp] theorem ap_setLen : fSetLen fe ρ = (fe ρ).bind fun x => (cont x.2 x.1).bind fun d => (intsIn d).bind fun ns => if ns.length ≤ 4000 then some (.val (.int (ascend ns).length), x.2) else none := rfl
@[simp] theorem ap_setSorted : fSetSorted fe ρ = (fe ρ).bind fun x => (cont x.2 x.1).bind fun d => (intsIn d).bind fun ns => if ns.length ≤ 4000 ∧ (ascend ns).length < 64 then some (.val (.lst ((ascend ns).map .int)), x.2) else none := rfl
@[simp] theorem ap_forM : fForM i j f ρ = match slot ρ i with
  | some (.lst ds) => loopM i j f [] ds (ρ.set i none)
  | _ => none := rfl
@[simp] theorem ap_forN : fForN i j f ρ = match slot ρ i with
  | some (.lst ds) => loopM i j f [] ds (ρ.set i none)
  | _ => fFor (fSeqI (fVar i)) (fgName j) f ρ := rfl
@[simp] theorem ap_pick : fPick fa fb ρ = (fa ρ).bind fun x => (fb x.2).bind fun y => match x.1, cont y.2 y.1 with
  | .val (.lst ds), some (.int i) => (atI ds i).map fun d => (.val d, y.2)
  | _, _ => none := rfl
@[simp] theorem ap_zip : fZip fr ρ = (fr ρ).bind fun x => (conts x.2 x.1).bind fun ds => match ds with
  | [x1, y] => (fZip.seqS x1).bind fun ds => (fZip.seqS y).map fun es => (zipped ds es, x.2)
  | _ => none := rfl
@[simp] theorem seqS_t : fZip.seqS (.tup ds) = if immL ds = true then some ds else none := rfl
@[simp] theorem seqS_f : fZip.seqS (.flst ds) = if immL ds = true then some ds else none := rfl
@[simp] theorem ap_enum : fEnum fr ρ = (fr ρ).bind fun x => (conts x.2 x.1).bind fun ds => match ds with
  | [.tup ds] => if immL ds = true then some (counted ds, x.2) else none
  | [.flst ds] => if immL ds = true then some (counted ds, x.2) else none
  | _ => none := rfl
@[simp] theorem rev_t : dRev (.tup ds) = if immL ds = true then some (.tup ds.reverse) else none := rfl
@[simp] theorem rev_l : dRev (.lst ds) = if immL ds = true then some (.lst ds.reverse) else none := rfl
@[simp] theorem rev_f : dRev (.flst ds) = if immL ds = true then some (.lst ds.reverse) else none := rfl
@[simp] theorem intsIn_l : intsIn (.lst (ns.map .int)) = some ns := intsOf_ints ns
@[simp] theorem intsIn_f : intsIn (.flst (ns.map .int)) = some ns := intsOf_ints ns
@[simp] theorem intsIn_t : intsIn (.tup (ns.map .int)) = some ns := intsOf_ints ns
@[simp] theorem min2_int {i j : Int} : dMin2 [.int i, .int j] = some (.int (min i j)) := by
  show some (D.int (if j < i then j else i)) = _
  rw [Int.min_def]
  by_cases h : j < i
  · rw [if_pos h, if_neg (by omega)]
  · rw [if_neg h, if_pos (by omega)]
@[simp] theorem max2_int {i j : Int} : dMax2 [.int i, .int j] = some (.int (max i j)) := by
  show some (D.int (if j > i then j else i)) = _
  rw [Int.max_def]
  by_cases h : j > i
  · rw [if_pos h, if_pos (by omega)]
  · rw [if_neg h]
    by_cases h2 : i ≤ j
    · rw [if_pos h2, show i = j by omega]
    · rw [if_neg h2]
@[simp] theorem isB_bl {a b : Bool} : dIsB (.bl a) (.bl b) = some (.bl (decide (a = b))) := rfl
@[simp] theorem isNotB_bl {a b : Bool} : dIsNotB (.bl a) (.bl b) = some (.bl (!decide (a = b))) := rfl
@[simp] theorem int_int {i : Int} : dInt [.int i] = some (.int i) := rfl
@[simp] theorem int_bl {b : Bool} : dInt [.bl b] = some (.int (if b then 1 else 0)) := rfl
@[simp] theorem eq_bl {a b : Bool} : dEq (.bl a) (.bl b) = some (.bl (decide (a = b))) := by
  show some (D.bl (decide (V.bl a = V.bl b))) = _
  simp
@[simp] theorem ne_bl {a b : Bool} : dNe (.bl a) (.bl b) = some (.bl (!decide (a = b))) := by
  show some (D.bl (!decide (V.bl a = V.bl b))) = _
  simp
@[simp] theorem eq_str {i j : Str} : dEq (.str i) (.str j) = some (.bl (decide (i = j))) := by
  show some (D.bl (decide (V.str i = V.str j))) = _
  simp
@[simp] theorem sum_ints : dSum [.lst (ns.map .int)] = some (.int ns.sum) := by
  show (intsOf (ns.map .int)).map _ = _
  rw [intsOf_ints]; rfl
end
@[simp] theorem pLt_eq {i j : Int} : pLt i j = decide (i < j) := rfl
@[simp] theorem pLe_eq {i j : Int} : pLe i j = decide (i ≤ j) := rfl
@[simp] theorem pGt_eq {i j : Int} : pGt i j = decide (j < i) := rfl
@[simp] theorem pGe_eq {i j : Int} : pGe i j = decide (j ≤ i) := rfl
/-! ### loops in place -/
theorem ok_loopM {i j : Nat} {fb : FS} {P : Fl × Fm → Prop} (I : List D → List D → Fm → Prop)
    (step : ∀ done d rest ρ, I done (d :: rest) ρ → j < ρ.length ∧ Ok (fb (ρ.set j (some d))) fun x => ∃ d', slot x.2 j = some d' ∧ match x.1 with
      | .nx => I (done ++ [d']) rest (x.2.set j none)
      | .ct => I (done ++ [d']) rest (x.2.set j none)
      | .bk => False
      | .ret r => imm r = true ∧ P (.ret r, (x.2.set j none).set i (some (.lst (done ++ d' :: rest)))))
    (fin : ∀ done ρ, I done [] ρ → P (.nx, ρ.set i (some (.lst done)))) : ∀ {rest done : List D} {ρ : Fm}, I done rest ρ → Ok (loopM i j fb done rest ρ) P
  | [], done, ρ, h => ok_some.mpr (fin done ρ h)
  | d :: rest, done, ρ, h => by
    obtain ⟨lt, h1⟩ := step done d rest ρ h
    unfold loopM
    rw [if_pos lt]
    refine ok_bind.mpr (ok_mono h1 fun x h2 => ?_)
    obtain ⟨o, ρ2⟩ := x
    obtain ⟨d', e, h3⟩ := h2
    have e : slot ρ2 j = some d' := e
    show Ok ((slot ρ2 j).bind _) P
    rw [e]
    cases o with
    | nx => exact ok_loopM I step fin h3
    | ct => exact ok_loopM I step fin h3
    | bk => exact h3.elim
    | ret r =>
      show Ok (if imm r = true then _ else _) P
      rw [if_pos h3.1]
      exact ok_some.mpr h3.2
/-- each thing becomes another one, nothing else is changed -/
theorem loopM_map {α : Type} {i j : Nat} {fb : FS} {emb emb' : α → D} {ρ : Fm} (lt : j < ρ.length) : ∀ {xs : List α} (done : List D) (o : Option D), (∀ x ∈ xs, fb (ρ.set j (some (emb x))) = some (.nx, ρ.set j (some (emb' x)))) →
    ∃ o', loopM i j fb done (xs.map emb) (ρ.set j o) = some (.nx, (ρ.set j o').set i (some (.lst (done ++ xs.map emb'))))
  | [], done, o, _ => ⟨o, by simp [loopM]⟩
  | x :: xs, done, o, h => by
    obtain ⟨o', e⟩ := loopM_map (i := i) lt (done ++ [emb' x]) none fun y hy => h y (List.mem_cons_of_mem _ hy)
    refine ⟨o', ?_⟩
    have s1 : slot (ρ.set j (some (emb' x))) j = some (emb' x) := by unfold slot; rw [List.getElem?_set_self lt]
    simp only [List.map_cons, loopM, List.length_set, lt, if_true, List.set_set, h x List.mem_cons_self, Option.bind_some, s1]
    rw [e]
    simp
/-! ### comprehensions by an invariant -/
theorem ok_lc {α : Type} {vs : List Nat} {fg : FG} {ft : FT} {fe : FE} {emb : α → D} {Q : List D × Fm → Prop} {xs : List α} (I : Nat → List D → Fm → Prop)
    (step : ∀ p x acc ρ, xs[p]? = some x → I p acc ρ → Ok (fg (emb x) ρ) fun ρ1 => Ok (ft ρ1) fun t => if t.1 = true then Ok (fe t.2) fun r => Ok (take1 r.2 r.1) fun z => I (p + 1) (acc ++ [z.1]) (wipeF z.2 vs) else I (p + 1) acc (wipeF t.2 vs))
    (done : ∀ acc ρ, I xs.length acc ρ → Q (acc, ρ)) {ρ : Fm} (h0 : I 0 [] ρ) : Ok (lcD vs fg ft fe (xs.map emb) ρ) Q := by
  have go : ∀ (n p : Nat) (acc : List D) (ρ : Fm), xs.length - p = n → p ≤ xs.length → I p acc ρ → Ok (lcD vs fg ft fe ((xs.drop p).map emb) ρ) fun z => Q (acc ++ z.1, z.2) := by
    intro n
    induction n with
    | zero =>
      intro p acc ρ hn hp hI
      have : p = xs.length := by omega
      subst this
      rw [List.drop_length]
      refine ok_some.mpr ?_
      simpa using done acc ρ hI
    | succ n ih =>
      intro p acc ρ hn hp hI
      have lt : p < xs.length := by omega
      rw [List.drop_eq_getElem_cons lt]
      refine ok_bind.mpr (ok_mono (step p xs[p] acc ρ (List.getElem?_eq_getElem lt) hI) fun ρ1 h1 => ok_bind.mpr (ok_mono h1 fun t h2 => ?_))
      obtain ⟨b, ρ2⟩ := t
      cases b with
      | false =>
        exact ih (p + 1) acc _ (by omega) (by omega) h2
      | true =>
        refine ok_bind.mpr (ok_mono h2 fun r h3 => ok_bind.mpr (ok_mono h3 fun z h4 => ok_map.mpr (ok_mono (ih (p + 1) _ _ (by omega) (by omega) h4) fun y h5 => ?_)))
        simpa using h5
  simpa using go _ 0 [] ρ rfl (Nat.zero_le _) h0
theorem ok_lcMap {α : Type} {vs : List Nat} {fg : FG} {fe : FE} {ρ0 : Fm} {emb : α → D} {P : List D × Fm → Prop} (z : α → D) {xs : List α}
    (h : ∀ x ∈ xs, ∃ ρ1, fg (emb x) ρ0 = some ρ1 ∧ ∃ r ρ3 ρ4, fe ρ1 = some (r, ρ3) ∧ take1 ρ3 r = some (z x, ρ4) ∧ wipeF ρ4 vs = ρ0) (k : P (xs.map z, ρ0)) : Ok (lcD vs fg fYes fe (xs.map emb) ρ0) P := ⟨_, lcD_all h, k⟩
end DL
/-! Reading: tuples of ranges. -/
namespace DL
open PySem PySem.Spec L2
section
variable {ρ : Fm} {fa : FE} {fr : FA}
@[simp] theorem ap_tupRg1 : fTupRg1 fa ρ = (fa ρ).bind fun x => (cont x.2 x.1).bind fun d => match d with
  | .int j => if stepOk 0 j 1 = true then some (.val (.tup (stepD 0 1 (stepN 0 j 1))), x.2) else none
  | _ => none := rfl
@[simp] theorem ap_tupRg2 : fTupRg2 fr ρ = (fr ρ).bind fun x => (conts x.2 x.1).bind fun ds => (dSt2 ds).map fun z => (.val (.tup (stepD z.1 1 z.2)), x.2) := rfl
end
theorem st2 {i j : Int} (h : stepOk i j 1 = true) : dSt2 [.int i, .int j] = some (i, stepN i j 1) := if_pos h
end DL
/-! Reading: ranges by any step, lists emptied. -/
namespace DL
open PySem PySem.Spec L2
section
variable {ρ : Fm} {fr : FA}
@[simp] theorem ap_lstRg3 : fLstRg3 fr ρ = (fr ρ).bind fun x => (conts x.2 x.1).bind fun ds => (dSt ds).map fun z => (.val (.lst (stepD z.1 z.2.1 z.2.2)), x.2) := rfl
@[simp] theorem ap_lstRgC : fLstRgC fr ρ = (fr ρ).bind fun x => (conts x.2 x.1).bind fun ds => (dRg ds).map fun z => (.val (.lst (stepD z.1 z.2.1 z.2.2)), x.2) := rfl
@[simp] theorem ap_rng3 : fRng3 fr ρ = (fr ρ).bind fun x => (conts x.2 x.1).bind fun ds => (dRg ds).map fun z => (stepD z.1 z.2.1 z.2.2, x.2) := rfl
@[simp] theorem ap_tupRg3 : fTupRg3 fr ρ = (fr ρ).bind fun x => (conts x.2 x.1).bind fun ds => (dSt ds).map fun z => (.val (.tup (stepD z.1 z.2.1 z.2.2)), x.2) := rfl
@[simp] theorem mClear_l {ds : List D} : mClear (.lst ds) [] = some (.lst [], .non) := rfl
end
end DL
/-! Things of any kind, dicts among them, that are small enough to be shown. -/
namespace DL
open PySem PySem.Spec L2
structure Fit (k w : Nat) (d : D) : Prop where
  no : noExc d = true
  shows : (toP d).showable = true
  deep : (toP d).depth ≤ k
  short : (toP d).leavesShort 13 = true
  big : (toP d).bulk ≤ w
theorem Fit.mono {k k' w w' : Nat} {d : D} (h : Fit k w d) (hk : k ≤ k') (hw : w ≤ w') : Fit k' w' d := ⟨h.no, h.shows, Nat.le_trans h.deep hk, h.short, Nat.le_trans h.big hw⟩
end DL
/-! Reading: what may end with an exception. -/
namespace DL
open PySem PySem.Spec L2
section
variable {ρ : Fm} {fe : FE} {fr : FA} {ft : FT} {fs : FS} {fg : FG} {f g : FSX} {fx gx : FEX} {ax : FAX} {den : DenX} {i : Nat}
@[simp] theorem ap_xE : xE fe ρ = (fe ρ).map fun x => (.ok x.1, x.2) := rfl
@[simp] theorem ap_xA : xA fr ρ = (fr ρ).map fun x => (.ok x.1, x.2) := rfl
@[simp] theorem ap_xS : xS fs ρ = (fs ρ).map fun x => (.go x.1, x.2) := rfl
@[simp] theorem ap_xSeq : xSeq f g ρ = (f ρ).bind fun x => match x.1 with
  | .go .nx => g x.2
  | o => some (o, x.2) := rfl
@[simp] theorem ap_xIfS : xIfS ft f g ρ = (ft ρ).bind fun x => if x.1 then f x.2 else g x.2 := rfl
@[simp] theorem ap_xRet : xRet fx ρ = (fx ρ).bind fun x => match x.1 with
  | .ok r => (take1 x.2 r).map fun y => (.go (.ret y.1), y.2)
  | .up e => some (.up e, x.2) := rfl
@[simp] theorem ap_xAsg : xAsg fx fg ρ = (fx ρ).bind fun x => match x.1 with
  | .ok r => (take1 x.2 r).bind fun y => (fg y.1 y.2).map fun ρ3 => (.go .nx, ρ3)
  | .up e => some (.up e, x.2) := rfl
@[simp] theorem ap_xDrop : xDrop fx ρ = (fx ρ).map fun x => match x.1 with
  | .ok _ => (.go .nx, x.2)
  | .up e => (.up e, x.2) := rfl
@[simp] theorem ap_xCons : xCons fx ax ρ = (fx ρ).bind fun x => match x.1 with
  | .ok r => (ax x.2).map fun y => match y.1 with
    | .ok rs => (.ok (r :: rs), y.2)
    | .up e => (.up e, y.2)
  | .up e => some (.up e, x.2) := rfl
@[simp] theorem ap_xTup : xTup ax ρ = (ax ρ).bind fun x => match x.1 with
  | .ok rs => (takes x.2 rs).bind fun y => if y.1.length ≤ sizeLine then some (.ok (.val (.tup y.1)), y.2) else none
  | .up e => some (.up e, x.2) := rfl
@[simp] theorem ap_xCall : xCall den ax ρ = (ax ρ).bind fun x => match x.1 with
  | .up e => some (.up e, x.2)
  | .ok rs => (takes x.2 rs).bind fun y => (den y.1).map fun z => match z.1 with
    | .val r => (.ok (.val r), giveBack rs y.1 z.2 y.2)
    | .up e => (.up e, giveBack rs y.1 z.2 y.2) := rfl
@[simp] theorem ap_xRaise {x : Str} {fs : List Str} : xRaise x fs fr ρ = (fr ρ).bind fun z => (takes z.2 z.1).bind fun y => if immL y.1 = true ∧ y.1.length = fs.length then some (.up ⟨x, ((fs.map fun f => (.inr f : Key)).zip y.1).reverse⟩, y.2) else none := rfl
@[simp] theorem ap_fTry {ys : List Str} : fTry f ys fs ρ = (f ρ).bind fun x => match x.1 with
  | .go o => some (o, x.2)
  | .up e => if e.cls ∈ ys then fs x.2 else none := rfl
@[simp] theorem ap_fFld {a dd : Addr} {c f : Str} {kvs : List (Key × D)} (h : slot ρ i = some (.exc a c dd kvs)) : fFld a dd i f ρ = if (kvs.all fun kv => kv.1.isRight) = true then (kvGet kvs (.inr f)).bind fun d => if imm d = true then some (.val d, ρ) else none else none := by
  unfold fFld
  rw [h]
  by_cases q : (kvs.all fun kv => kv.1.isRight) = true
  · rw [if_pos q]
    exact if_pos ⟨rfl, rfl, q⟩
  · rw [if_neg q]
    exact if_neg fun z => q z.2.2
@[simp] theorem imm_exc {a dd : Addr} {c : Str} {kvs : List (Key × D)} : imm (.exc a c dd kvs) = immK kvs := rfl
end
end DL
/-! Reading: exceptions handed on. -/
namespace DL
open PySem PySem.Spec L2
section
variable {ρ : Fm} {fo : FE} {fr : FA} {i : Nat}
@[simp] theorem ap_fIsE {a dd : Addr} {c : Str} {told : Option Bool} : fIsE a c dd told i ρ = match slot ρ i with
  | some (.exc a' _ dd' _) => if a' = a ∧ dd' = dd then told.map fun b => (.val (.bl b), ρ) else none
  | _ => none := rfl
@[simp] theorem ap_countB : fCountB fo fr ρ = ((fo ρ).bind fun x => (cont x.2 x.1).bind lstOf).bind fun _ => fMethR dCntB fo fr ρ := rfl
end
end DL
/-! Plain things that stand still: numbers up to a bound, short texts, tuples, lists. -/
namespace DL
open PySem PySem.Spec L2
def shortS (x : Str) : Bool := (x.cps.toList.all fun c => decide (c < 16 ^ 8)) && decide (x.cps.size ≤ 50)
mutual
def pl (B : Nat) : D → Bool
  | .non => true | .bl _ => true
  | .int i => decide (i.natAbs ≤ B)
  | .str x => shortS x
  | .tup ds => plL B ds
  | .lst _ => false
  | .flst ds => plL B ds
  | .dic _ => false
  | .fdic kvs => plK B kvs
  | .exc _ _ _ _ => false
def plL (B : Nat) : List D → Bool
  | [] => true
  | d :: ds => pl B d && plL B ds
def plK (B : Nat) : List (Key × D) → Bool
  | [] => true
  | (.inl i, d) :: r => decide (i.natAbs ≤ B) && (pl B d && plK B r)
  | (.inr x, d) :: r => shortS x && (pl B d && plK B r)
end
mutual
theorem pl_mono {B B' : Nat} (h : B ≤ B') : ∀ (d : D), pl B d = true → pl B' d = true
  | .non, _ => rfl
  | .bl _, _ => rfl
  | .int i, q => by
    have q : decide (i.natAbs ≤ B) = true := q
    show decide (i.natAbs ≤ B') = true
    rw [decide_eq_true_iff] at q ⊢
    omega
  | .str x, q => q
  | .tup ds, q => plL_mono h ds q
  | .lst _, q => by cases q
  | .flst ds, q => plL_mono h ds q
  | .dic _, q => by cases q
  | .fdic kvs, q => plK_mono h kvs q
  | .exc _ _ _ _, q => by cases q
theorem plL_mono {B B' : Nat} (h : B ≤ B') : ∀ (ds : List D), plL B ds = true → plL B' ds = true
  | [], _ => rfl
  | d :: ds, q => by
    have q : (pl B d && plL B ds) = true := q
    rw [Bool.and_eq_true] at q
    show (pl B' d && plL B' ds) = true
    rw [pl_mono h d q.1, plL_mono h ds q.2]
    rfl
theorem plK_mono {B B' : Nat} (h : B ≤ B') : ∀ (ks : List (Key × D)), plK B ks = true → plK B' ks = true
  | [], _ => rfl
  | (.inl i, d) :: r, q => by
    have q : (decide (i.natAbs ≤ B) && (pl B d && plK B r)) = true := q
    rw [Bool.and_eq_true, Bool.and_eq_true, decide_eq_true_iff] at q
    show (decide (i.natAbs ≤ B') && (pl B' d && plK B' r)) = true
    rw [pl_mono h d q.2.1, plK_mono h r q.2.2, decide_eq_true (by omega)]
    rfl
  | (.inr x, d) :: r, q => by
    have q : (shortS x && (pl B d && plK B r)) = true := q
    rw [Bool.and_eq_true, Bool.and_eq_true] at q
    show (shortS x && (pl B' d && plK B' r)) = true
    rw [pl_mono h d q.2.1, plK_mono h r q.2.2, q.1]
    rfl
end
/-- a plain thing, so deep and so great at most -/
structure Pl (B k w : Nat) (d : D) : Prop where
  pl : pl B d = true
  deep : (toP d).depth ≤ k
  big : (toP d).bulk ≤ w
theorem Pl.mono {B B' k k' w w' : Nat} {d : D} (h : Pl B k w d) (hB : B ≤ B') (hk : k ≤ k') (hw : w ≤ w') : Pl B' k' w' d := ⟨pl_mono hB d h.pl, Nat.le_trans h.deep hk, Nat.le_trans h.big hw⟩
end DL
/-! Reading: a loop whose body may end with an exception. -/
namespace DL
open PySem PySem.Spec L2
@[simp] theorem ap_xFor {fi : FI} {fg : FG} {fb : FSX} {ρ : Fm} : xFor fi fg fb ρ = (fi ρ).bind fun x => forX fg fb x.1 x.2 := rfl
theorem okX_for {fg : FG} {fb : FSX} {P : FlX × Fm → Prop} (I : List D → Fm → Prop) (step : ∀ d r ρ, I (d :: r) ρ → Ok (fg d ρ) fun ρ1 => Ok (fb ρ1) fun x => match x.1 with
    | .go .nx => I r x.2
    | .go .ct => I r x.2
    | .go .bk => P (.go .nx, x.2)
    | .go (.ret v) => P (.go (.ret v), x.2)
    | .up e => P (.up e, x.2)) (done : ∀ ρ, I [] ρ → P (.go .nx, ρ)) : ∀ {ds : List D} {ρ : Fm}, I ds ρ → Ok (forX fg fb ds ρ) P
  | [], ρ, h => ok_some.mpr (done ρ h)
  | d :: ds, ρ, h => by
    refine ok_bind.mpr (ok_mono (step d ds ρ h) fun ρ1 h1 => ok_bind.mpr (ok_mono h1 fun x h2 => ?_))
    obtain ⟨o, ρ2⟩ := x
    match o, h2 with
    | .go .nx, h2 => exact okX_for I step done h2
    | .go .ct, h2 => exact okX_for I step done h2
    | .go .bk, h2 => exact ok_some.mpr h2
    | .go (.ret v), h2 => exact ok_some.mpr h2
    | .up e, h2 => exact ok_some.mpr h2
theorem okX_at {α : Type} {fg : FG} {fb : FSX} {P : FlX × Fm → Prop} {emb : α → D} (xs : List α) (I : Nat → Fm → Prop) (step : ∀ p x ρ, xs[p]? = some x → I p ρ → Ok (fg (emb x) ρ) fun ρ1 => Ok (fb ρ1) fun x => match x.1 with
    | .go .nx => I (p + 1) x.2
    | .go .ct => I (p + 1) x.2
    | .go .bk => P (.go .nx, x.2)
    | .go (.ret v) => P (.go (.ret v), x.2)
    | .up e => P (.up e, x.2)) (done : ∀ ρ, I xs.length ρ → P (.go .nx, ρ)) {ρ : Fm} (h0 : I 0 ρ) : Ok (forX fg fb (xs.map emb) ρ) P := by
  refine okX_for (fun rest ρ => ∃ p, p ≤ xs.length ∧ rest = (xs.drop p).map emb ∧ I p ρ) ?_ ?_ ⟨0, Nat.zero_le _, rfl, h0⟩
  · rintro d r ρ ⟨p, hp, e, hI⟩
    cases hx : xs[p]? with
    | none =>
      rw [List.drop_eq_nil_of_le (List.getElem?_eq_none_iff.mp hx)] at e
      cases e
    | some x =>
      have hlt := (List.getElem?_eq_some_iff.mp hx).1
      rw [List.drop_eq_getElem_cons hlt, (List.getElem?_eq_some_iff.mp hx).2] at e
      injection e with e1 e2
      subst e1 e2
      refine ok_mono (step p x ρ hx hI) fun ρ1 h1 => ok_mono h1 fun y h2 => ?_
      obtain ⟨o, ρ2⟩ := y
      match o, h2 with
      | .go .nx, h2 => exact ⟨p + 1, hlt, rfl, h2⟩
      | .go .ct, h2 => exact ⟨p + 1, hlt, rfl, h2⟩
      | .go .bk, h2 => exact h2
      | .go (.ret v), h2 => exact h2
      | .up e, h2 => exact h2
  · rintro ρ ⟨p, hp, e, hI⟩
    have hl : xs.length ≤ p := by
      have := congrArg List.length e
      simp at this
      omega
    have : p = xs.length := by omega
    subst this
    exact done ρ hI
end DL
/-! Rows of truths: all of them, is a false one among them. -/
namespace DL
open PySem PySem.Spec L2
theorem truths_map {α : Type} (f : α → Bool) : ∀ xs : List α, blsOf (xs.map fun x => D.bl (f x)) = some (xs.map f)
  | [] => rfl
  | x :: xs => by
    show (blsOf (xs.map fun x => D.bl (f x))).map (f x :: ·) = _
    rw [truths_map f xs]; rfl
theorem truths_all {α : Type} (f : α → Bool) (xs : List α) : dAll [.lst (xs.map fun x => D.bl (f x))] = some (.bl (xs.all f)) := by
  show (blsOf (xs.map fun x => D.bl (f x))).map (fun ns => D.bl (ns.all id)) = _
  rw [truths_map f xs]
  simp [List.all_map, Function.comp_def]
end DL
/-! The family of texts: draws. -/
namespace RZ
open PySem PySem.Spec L2 DL
@[simp] theorem ap_methT {g : D → List D → Option D} {fo : FE} {fr : FA} {ρ : Fm} : fMethT g fo fr ρ = ((fo ρ).bind fun x => (cont x.2 x.1).bind fun d => if isStr d = true then some d else none).bind fun _ => fMethR g fo fr ρ := rfl
@[simp] theorem ap_signI {fe : FE} {ρ : Fm} : fSignI fe ρ = (fe ρ).bind fun x => (cont x.2 x.1).bind fun d => match d with
  | .str s => some (signsD s, x.2)
  | _ => none := rfl
@[simp] theorem is_str {s : Str} : isStr (.str s) = true := rfl
/-- the tape -/
def tapeD (cs : List Int) (a l : Int) : D := .dic [(.inr "cells", .flst (cs.map .int)), (.inr "at", .int a), (.inr "left", .int l)]
@[simp] theorem tape_imm (cs : List Int) (a l : Int) : imm (tapeD cs a l) = false := rfl
@[simp] theorem tape_left (cs : List Int) (a l : Int) : dSubs (tapeD cs a l) (.str "left") = some (.int l) := rfl
@[simp] theorem tape_at (cs : List Int) (a l : Int) : dSubs (tapeD cs a l) (.str "at") = some (.int a) := rfl
@[simp] theorem tape_cells (cs : List Int) (a l : Int) : dSubs (tapeD cs a l) (.str "cells") = some (.flst (cs.map .int)) := by
  have i : imm (.flst (cs.map D.int)) = true := immL_ints cs
  show (if imm (.flst (cs.map D.int)) = true then some (D.flst (cs.map D.int)) else none) = _
  rw [if_pos i]
@[simp] theorem tput_left (cs : List Int) (a l u : Int) : dStore (tapeD cs a l) (.str "left") (.int u) = some (tapeD cs a u) := rfl
@[simp] theorem tput_at (cs : List Int) (a l u : Int) : dStore (tapeD cs a l) (.str "at") (.int u) = some (tapeD cs u l) := rfl
def IsZ (k : Nat) (d : D) : Prop := ∃ cs a l, d = tapeD cs a l ∧ 0 ≤ a ∧ a ≤ (k : Int)
theorem IsZ.imm {k : Nat} {d : D} (h : IsZ k d) : imm d = false := by obtain ⟨_, _, _, rfl, _⟩ := h; rfl
theorem IsZ.mono {k k' : Nat} {d : D} (h : IsZ k d) (hk : k ≤ k') : IsZ k' d := by
  obtain ⟨cs, a, l, e, h0, h1⟩ := h
  exact ⟨cs, a, l, e, h0, by omega⟩
theorem draw_eq {k : Nat} {d : D} {m : Int} (h : IsZ k d) (hk : k ≤ 100000) (h1 : 1 ≤ m) (h2 : m < 1073741824) :
    ∃ i d', RZ.d__law_draw [d, .int m] = some (.int i, [some d', some (.int m)]) ∧ 0 ≤ i ∧ i < m ∧ IsZ (k + 1) d' ∧ imm d' = false := by
  obtain ⟨cs, a, l, rfl, t0, t1⟩ := h
  have hm : m ≠ 0 := by omega
  have hm' : m.natAbs < 1073741824 := by omega
  suffices ∃ (x a' l' : Int), RZ.d__law_draw [tapeD cs a l, .int m] = some (.int (x.fmod m), [some (tapeD cs a' l'), some (.int m)]) ∧ 0 ≤ a' ∧ a' ≤ (k : Int) + 1 by
    obtain ⟨x, a', l', e, g0, g1⟩ := this
    exact ⟨_, _, e, Int.fmod_nonneg_of_pos x (by omega), Int.fmod_lt_of_pos x (by omega), ⟨_, _, _, rfl, g0, by omega⟩, rfl⟩
  have m1 : dMul (.int 7919) (.int a) = some (.int (7919 * a)) := mul_l (by decide) (by decide)
  have m2 : dMul (.int 2) (.int a) = some (.int (2 * a)) := mul_l (by decide) (by decide)
  have m3 : ∀ y : Int, dMul (.int (y.fmod 2147483647)) (.int (2 * a + 3)) = some (.int (y.fmod 2147483647 * (2 * a + 3))) := fun y => mul_r (by omega) (by omega)
  have p1 : ∀ c : Int, dPow (.int (c.fmod 1000003 + 7919 * a + 104729)) (.int 5) = some (.int ((c.fmod 1000003 + 7919 * a + 104729) ^ 5)) := fun c => by
    have := fmod_in c (m := 1000003) (by decide)
    exact pow_int ⟨by decide, by decide, by omega⟩
  have p2 : ∀ y : Int, dPow (.int (y.fmod 2147483647 * (2 * a + 3) + 69621)) (.int 3) = some (.int ((y.fmod 2147483647 * (2 * a + 3) + 69621) ^ 3)) := fun y => by
    have a1 := fmod_in y (m := 2147483647) (by decide)
    have a2 : y.fmod 2147483647 * (2 * a + 3) ≤ 2147483647 * (2 * a + 3) := Int.mul_le_mul_of_nonneg_right (by omega) (by omega)
    have a3 : 0 ≤ y.fmod 2147483647 * (2 * a + 3) := Int.mul_nonneg (by omega) (by omega)
    exact pow_int ⟨by decide, by decide, by omega⟩
  have z0 := p1 0
  rw [show (0 : Int).fmod 1000003 = 0 from rfl] at z0
  have z0 : dPow (.int (7919 * a + 104729)) (.int 5) = some (.int ((7919 * a + 104729) ^ 5)) := by
    rw [show (0 : Int) + 7919 * a + 104729 = 7919 * a + 104729 by omega] at z0
    exact z0
  by_cases hl : 0 < l
  · exact ⟨l, a, l.fdiv m, by simp [RZ.d__law_draw, RZ.b__law_draw, denOf, hm, hm', hl], t0, by omega⟩
  · by_cases hc : cs = []
    · subst hc
      exact ⟨_, a + 1, l, by simp [RZ.d__law_draw, RZ.b__law_draw, denOf, hm, hm', hl, m1, m2, m3, z0, p2]; rfl, by omega, by omega⟩
    · obtain ⟨c, ec⟩ := cell_at a hc
      have hlen : (cs.length : Int) ≠ 0 := by have := List.length_pos_iff.mpr hc; omega
      have hpos : 0 < cs.length := List.length_pos_iff.mpr hc
      by_cases h4 : 1000000000000000000 ≤ c
      · by_cases h3 : a < cs.length
        · exact ⟨c, a + 1, c.fdiv m, by simp [RZ.d__law_draw, RZ.b__law_draw, denOf, hm, hm', hl, hc, ec, h3, h4, hlen, hpos], by omega, by omega⟩
        · exact ⟨_, a + 1, l, by simp [RZ.d__law_draw, RZ.b__law_draw, denOf, hm, hm', hl, hc, ec, h3, h4, hlen, hpos, m1, m2, m3, p1, p2]; rfl, by omega, by omega⟩
      · exact ⟨_, a + 1, l, by simp [RZ.d__law_draw, RZ.b__law_draw, denOf, hm, hm', hl, hc, ec, h4, hlen, hpos, m1, m2, m3, p1, p2]; rfl, by omega, by omega⟩
theorem tape_ok (ns : List Int) : ∃ d, RZ.d__law_tape [.flst (ns.map .int)] = some (d, [some (.flst (ns.map .int))]) ∧ IsZ 0 d := by
  have e : cut (ns.map D.int) none (some 63) = (cut ns none (some 63)).map D.int := by simp [cut, List.map_take, List.map_drop]
  have n1 : ¬ Str.ofString "cells" = Str.ofString "at" := by decide
  have n2 : ¬ Str.ofString "cells" = Str.ofString "left" := by decide
  have n4 : ¬ Str.ofString "at" = Str.ofString "left" := by decide
  refine ⟨tapeD (cut ns none (some 63)) 0 0, ?_, _, _, _, rfl, Int.le_refl _, by omega⟩
  have ct : dCutX (.flst (ns.map D.int)) none (some 63) = some (.lst ((cut ns none (some 63)).map D.int)) := by
    rw [← e]
    show (if immL (ns.map D.int) = true then some (D.lst (cut (ns.map D.int) none (some 63))) else none) = _
    rw [if_pos (immL_ints ns)]
  have fz : frzD (.lst ((cut ns none (some 63)).map D.int)) = some (.flst ((cut ns none (some 63)).map D.int)) := by
    rw [frz_lst, frzL_id _ (immL_ints _)]; rfl
  simp [RZ.d__law_tape, RZ.b__law_tape, denOf, fCutX, ct, fz, tapeD, pairUp, DL.keyOf, n1, n2, n4]
end RZ
/-! The family of texts: words, the numbers that they write. -/
namespace RZ
open PySem PySem.Spec L2 DL
abbrev tl (x : Str) : List Nat := TL.tl x
theorem tl_inj {x y : Str} (h : x.cps.toList = y.cps.toList) : x = y := TL.ext_tl h
theorem len_cps (x : Str) : x.length = x.cps.toList.length := TL.len_tl x
/-- how heavy words are -/
def wt : List Str → Nat
  | [] => 0
  | w :: ws => w.length + 1 + wt ws
def wtL : List (List Nat) → Nat
  | [] => 0
  | w :: ws => w.length + 1 + wtL ws
theorem wt_tl : ∀ ws : List Str, wt ws = wtL (ws.map TL.tl)
  | [] => rfl
  | w :: ws => by
    show w.length + 1 + wt ws = (TL.tl w).length + 1 + wtL (ws.map TL.tl)
    rw [wt_tl ws, TL.len_tl]
theorem spl_wt : ∀ (l acc : List Nat), wtL (TL.spl [32] 0 acc l) = acc.length + l.length + 1
  | [], acc => by
    rw [TL.spl_nil]
    show acc.length + 1 + 0 = acc.length + 0 + 1
    omega
  | c :: r, acc => by
    cases h : TL.pre [32] (c :: r) with
    | true =>
      rw [TL.spl_hit h]
      show acc.length + 1 + wtL (TL.spl [32] ([32].length - 1) [] r) = acc.length + (r.length + 1) + 1
      have := spl_wt r []
      rw [show [32].length - 1 = 0 from rfl, this]
      simp only [List.length_nil]
      omega
    | false =>
      rw [TL.spl_miss h, spl_wt r]
      simp only [List.length_append, List.length_cons, List.length_nil]
      omega
def sp : Str := " "
theorem tl_sp : TL.tl sp = [32] := by decide
theorem sp_kind : sp.cps.all (· < 256) = true := by decide +kernel
/-- the words of a text -/
def wordsOf (x : Str) : List Str := Txt.split x sp
theorem words_spl (x : Str) : (wordsOf x).map TL.tl = TL.spl [32] 0 [] (TL.tl x) := by
  unfold wordsOf
  rw [TL.split_spl x sp (by rw [tl_sp]; simp) (TL.kind_ok sp_kind), tl_sp]
theorem words_wt (x : Str) : wt (wordsOf x) = x.length + 1 := by
  rw [wt_tl, words_spl, spl_wt, TL.len_tl]
  simp
theorem words_ne (x : Str) : wordsOf x ≠ [] := fun h => by
  have := words_wt x
  rw [h] at this
  have : (0 : Nat) = x.length + 1 := this
  omega
theorem wt_len : ∀ ws : List Str, ws.length ≤ wt ws
  | [] => Nat.le_refl _
  | w :: ws => by
    have := wt_len ws
    show ws.length + 1 ≤ w.length + 1 + wt ws
    omega
theorem wt_mem : ∀ {ws : List Str} {w : Str}, w ∈ ws → w.length + 1 ≤ wt ws
  | v :: ws, w, h => by
    show w.length + 1 ≤ v.length + 1 + wt ws
    rcases List.mem_cons.1 h with rfl | h
    · omega
    · have := wt_mem h
      omega
theorem wt_app : ∀ (a b : List Str), wt (a ++ b) = wt a + wt b
  | [], b => by show wt b = 0 + wt b; omega
  | w :: a, b => by
    show w.length + 1 + wt (a ++ b) = w.length + 1 + wt a + wt b
    rw [wt_app a b]; omega
theorem wt_sum : ∀ ws : List Str, (ws.map (·.length)).sum + ws.length * 1 = wt ws
  | [] => rfl
  | w :: ws => by
    have := wt_sum ws
    show (w.length :: ws.map (·.length)).sum + (ws.length + 1) * 1 = w.length + 1 + wt ws
    rw [List.sum_cons]
    omega
theorem joinL_len : ∀ (p : List (List Nat)), (TL.joinL [32] p).length ≤ wtL p
  | [] => Nat.le_refl _
  | [p] => by
    show p.length ≤ p.length + 1 + 0
    omega
  | p :: q :: r => by
    have := joinL_len (q :: r)
    show (p ++ ([32] ++ TL.joinL [32] (q :: r))).length ≤ p.length + 1 + wtL (q :: r)
    rw [List.length_append, List.length_append, List.length_singleton]
    omega
/-- words with blanks between -/
def joined (ws : List Str) : Str := Txt.join sp ws
theorem joined_len (ws : List Str) : (joined ws).length ≤ wt ws := by
  unfold joined
  rw [TL.len_tl, TL.join_eq, TL.tl_join, tl_sp, wt_tl]
  exact joinL_len _
theorem strs_of : ∀ ws : List Str, strsOf (ws.map D.str) = some ws
  | [] => rfl
  | w :: ws => by
    show (strsOf (ws.map D.str)).map (fun r => w :: r) = _
    rw [strs_of ws]; rfl
theorem imm_strs (ws : List Str) : immL (ws.map D.str) = true := immL_mem.mpr fun d hd => by
  obtain ⟨w, _, rfl⟩ := List.mem_map.1 hd
  rfl
theorem split_ok (x : Str) (h : x.length ≤ 100000) : dSplit (.str x) [.str sp] = some (.lst ((wordsOf x).map D.str)) := by
  have e : sizeLine = 16777216 := rfl
  exact if_pos ⟨by decide, by omega⟩
theorem join_ok {ws : List Str} (h : wt ws ≤ 100000) : dJoin (.str sp) [.lst (ws.map D.str)] = some (.str (joined ws)) := by
  show (strsOf (ws.map D.str)).bind _ = _
  rw [strs_of]
  show (if (ws.map (·.length)).sum + ws.length * sp.length ≤ 16777216 then some (D.str (Txt.join sp ws)) else none) = _
  have := wt_sum ws
  rw [if_pos (by rw [show sp.length = 1 from by decide]; omega)]
  rfl
/-! ### numbers -/
def isFig (c : Nat) : Bool := decide (48 ≤ c) && decide (c ≤ 57)
theorem figs_mem (c : Nat) : c ∈ ("0123456789" : Str).cps.toList ↔ 48 ≤ c ∧ c ≤ 57 := by
  have e : ("0123456789" : Str).cps.toList = [48, 49, 50, 51, 52, 53, 54, 55, 56, 57] := by decide
  rw [e]
  simp only [List.mem_cons, List.not_mem_nil, or_false]
  omega
/-- the number that a word's signs write -/
def numL (l : List Nat) : Option Nat := if 1 ≤ l.length ∧ l.length ≤ 4 ∧ l.all isFig = true ∧ ¬ (l.head? = some 48 ∧ l ≠ [48]) then some (NumText.digitsVal l) else none
def optD : Option Nat → D
  | none => .non
  | some i => .int (i : Nat)
theorem str_eq (a b : Str) : dEq (.str a) (.str b) = some (.bl (decide (a = b))) := by
  show some (D.bl (decide (V.str a = V.str b))) = _
  exact congrArg (fun b => some (D.bl b)) (decide_eq_decide.mpr ⟨V.str.inj, fun z => by rw [z]⟩)
theorem str_ne (a b : Str) : dNe (.str a) (.str b) = some (.bl (!decide (a = b))) := by
  show some (D.bl (!decide (V.str a = V.str b))) = _
  exact congrArg (fun b => some (D.bl (!b))) (decide_eq_decide.mpr ⟨V.str.inj, fun z => by rw [z]⟩)
theorem fig_in (c : Nat) : dIn (.str ⟨#[c]⟩) (.str "0123456789") = some (.bl (isFig c)) := by
  show some (D.bl (!(Builtin.Str.occurrences "0123456789" ⟨#[c]⟩ 0 ("0123456789" : Str).length 1).isEmpty)) = _
  rw [StrLaws.found_one]
  refine congrArg (fun b => some (D.bl b)) ?_
  unfold isFig
  rw [← Bool.decide_and]
  exact decide_eq_decide.mpr (figs_mem c)
theorem zero_eq {w : Str} : w = "0" ↔ w.cps.toList = [48] := by
  have e : ("0" : Str).cps.toList = [48] := by decide
  constructor
  · rintro rfl; exact e
  · intro h; exact tl_inj (h.trans e.symm)
theorem number_ok (w : Str) (hl : w.length ≤ 100000) : RZ.d_number_in_word [.str w] = some (optD (numL w.cps.toList), [some (.str w)]) := by
  obtain ⟨l, hw⟩ : ∃ l, l = w.cps.toList := ⟨_, rfl⟩
  have ll : w.length = l.length := by rw [hw]; exact len_cps w
  have ln : dLen [.str w] = some (.int (l.length : Nat)) := by
    unfold dLen
    rw [show dLenQ [.str w] = some (.int (w.length : Nat)) from if_pos (big_ok (by omega)), ll]
    rfl
  have lc := lcD_all (vs := [1]) (fg := fgName 1) (fe := fOp dIn (fVar 1) (fC (.str "0123456789"))) (ρ0 := [some (.str w), none]) (emb := fun c : Nat => D.str ⟨#[c]⟩) (z := fun c => D.bl (isFig c)) (xs := l) fun c _ => by
    have fi := fig_in c
    generalize (⟨#[c]⟩ : Str) = s at *
    obtain ⟨Y, hY⟩ : ∃ Y : Fm, Y = [some (.str w), some (.str s)] := ⟨_, rfl⟩
    exact ⟨Y, by simp [hY], .val (.bl (isFig c)), Y, Y, by simp [hY, fi], rfl, by simp [hY, wipeF]⟩
  have es : l.map (fun c : Nat => D.str ⟨#[c]⟩) = signsD w := by unfold signsD; rw [hw]
  rw [es] at lc
  have al := truths_all isFig l
  have lz : (l.map fun c => D.bl (isFig c)).length ≤ sizeLine := big_ok (by rw [List.length_map]; omega)
  rw [← hw]
  unfold numL
  by_cases c1 : 1 ≤ l.length ∧ l.length ≤ 4
  · obtain ⟨a1, a2⟩ := c1
    by_cases c2 : l.all isFig = true
    · rw [c2] at al
      obtain ⟨c, r, el⟩ : ∃ c r, l = c :: r := by
        cases l with
        | nil => simp at a1
        | cons c r => exact ⟨c, r, rfl⟩
      have g0 : dSubs (.str w) (.int 0) = some (.str ⟨#[c]⟩) := by
        have a0 : atI w.cps.toList 0 = some c := by
          rw [← hw, el]
          unfold atI
          rw [ixN_int (by omega) (by simp only [List.length_cons]; omega)]
          rfl
        have e : dIxS (.str w) (.int 0) = some (.str ⟨#[c]⟩) := by
          show (if w.length ≤ sizeLine then (atI w.cps.toList 0).map (fun c => D.str ⟨#[c]⟩) else none) = _
          rw [if_pos (big_ok (by omega)), a0]; rfl
        show ((dIxS (.str w) (.int 0)).orElse _).orElse _ = _
        rw [e]; rfl
      have e0 := str_eq ⟨#[c]⟩ "0"
      have n0 := str_ne w "0"
      have ec : ((⟨#[c]⟩ : Str) = "0") ↔ c = 48 := by
        rw [zero_eq]
        exact ⟨fun h => (List.cons.inj h).1, fun h => by rw [h]⟩
      have ew : (w = "0") ↔ l = [48] := by rw [hw]; exact zero_eq
      by_cases c3 : l.head? = some 48 ∧ l ≠ [48]
      · rw [if_neg (fun z => z.2.2.2 c3)]
        have d1 : c = 48 := by
          have := c3.1
          rw [el] at this
          exact Option.some.inj this
        rw [decide_eq_true (ec.mpr d1)] at e0
        rw [decide_eq_false (fun z => c3.2 (ew.mp z))] at n0
        generalize (l.map fun c => D.bl (isFig c)) = LL at *
        have b1 : (1 : Int) ≤ (l.length : Nat) := by omega
        have b2 : ((l.length : Nat) : Int) ≤ 4 := by omega
        simp [RZ.d_number_in_word, RZ.b_number_in_word, denOf, ln, fChain, b1, b2, lc, lz, al, g0, e0, n0, wipeF]
        rfl
      · rw [if_pos ⟨a1, a2, c2, c3⟩]
        have it : dIntS [.str w] = some (.int (NumText.digitsVal l : Nat)) := by
          have ad : NumText.AllDigits w.cps.toList := fun d hd => by
            rw [← hw] at hd
            have := List.all_eq_true.mp c2 d hd
            unfold isFig at this
            rwa [Bool.and_eq_true, decide_eq_true_iff, decide_eq_true_iff] at this
          have := PySem.intText_digits ad (by rw [← hw, el]; simp) (by omega)
          show (PySem.intText? w).bind _ = _
          rw [this, ← hw]
          exact if_pos (by omega)
        have b1 : (1 : Int) ≤ (l.length : Nat) := by omega
        have b2 : ((l.length : Nat) : Int) ≤ 4 := by omega
        generalize (l.map fun c => D.bl (isFig c)) = LL at *
        by_cases d1 : c = 48
        · have d2 : l = [48] := Classical.byContradiction fun z => c3 ⟨by rw [el, d1]; rfl, z⟩
          rw [decide_eq_true (ec.mpr d1)] at e0
          rw [decide_eq_true (ew.mpr d2)] at n0
          simp [RZ.d_number_in_word, RZ.b_number_in_word, denOf, ln, fChain, b1, b2, lc, lz, al, g0, e0, n0, it, wipeF]
          rfl
        · rw [decide_eq_false fun z => d1 (ec.mp z)] at e0
          simp [RZ.d_number_in_word, RZ.b_number_in_word, denOf, ln, fChain, b1, b2, lc, lz, al, g0, e0, it, wipeF]
          rfl
    · rw [if_neg (fun z => c2 z.2.2.1)]
      have c2 : l.all isFig = false := by simpa using c2
      rw [c2] at al
      have b1 : (1 : Int) ≤ (l.length : Nat) := by omega
      have b2 : ((l.length : Nat) : Int) ≤ 4 := by omega
      generalize (l.map fun c => D.bl (isFig c)) = LL at *
      simp [RZ.d_number_in_word, RZ.b_number_in_word, denOf, ln, fChain, b1, b2, lc, lz, al, wipeF]
      rfl
  · rw [if_neg (fun z => c1 ⟨z.1, z.2.1⟩)]
    by_cases b1 : (1 : Int) ≤ (l.length : Nat)
    · have b2 : ¬ ((l.length : Nat) : Int) ≤ 4 := fun z => c1 ⟨by omega, by omega⟩
      simp [RZ.d_number_in_word, RZ.b_number_in_word, denOf, ln, fChain, b1, b2]
      rfl
    · simp [RZ.d_number_in_word, RZ.b_number_in_word, denOf, ln, fChain, b1]
      rfl
end RZ
/-! meanings that many laws share; printed by gen.py, then kept -/
/-! meanings that many laws share; printed by gen.py, then kept -/
/-! meanings that many laws share; printed by gen.py, then kept -/
namespace RB
open PySem L2 DL
def b__law_draw : FS := fSeq (fStore (fOp dAdd (fOp dSubs (fVar 0) (fC (.int 3))) (fC (.int 1))) (fpVar 0) (fC (.int 3))) (fSeq (fIfS (fTest (fOp (dCmp pGt) (fOp dSubs (fVar 0) (fC (.int 2))) (fC (.int 0)))) (fSeq (fAsg (fOp dMod (fOp dSubs (fVar 0) (fC (.int 2))) (fVar 1)) (fgName 2)) (fSeq (fStore (fOp dDiv (fOp dSubs (fVar 0) (fC (.int 2))) (fVar 1)) (fpVar 0) (fC (.int 2))) (fRet (fVar 2)))) (fSkip)) (fSeq (fAsg (fC (.int 0)) (fgName 3)) (fSeq (fIfS (fTest (fOp dNe (fOp dSubs (fVar 0) (fC (.int 0))) (fLst (fNil)))) (fAsg (fOp dSubs (fOp dSubs (fVar 0) (fC (.int 0))) (fOp dMod (fOp dSubs (fVar 0) (fC (.int 1))) (fCall dLen (fCons (fOp dSubs (fVar 0) (fC (.int 0))) (fNil))))) (fgName 3)) (fSkip)) (fSeq (fStore (fOp dAdd (fOp dSubs (fVar 0) (fC (.int 1))) (fC (.int 1))) (fpVar 0) (fC (.int 1))) (fSeq (fIfS (fAnd (fTest (fOp (dCmp pGe) (fVar 3) (fOp dPow (fC (.int 10)) (fC (.int 18))))) (fTest (fOp (dCmp pLe) (fOp dSubs (fVar 0) (fC (.int 1))) (fCall dLen (fCons (fOp dSubs (fVar 0) (fC (.int 0))) (fNil)))))) (fSeq (fStore (fOp dDiv (fVar 3) (fVar 1)) (fpVar 0) (fC (.int 2))) (fRet (fOp dMod (fVar 3) (fVar 1)))) (fSkip)) (fSeq (fAsg (fOp dMod (fOp dMul (fOp dAdd (fOp dMod (fVar 3) (fC (.int 2147483647))) (fOp dSubs (fVar 0) (fC (.int 3)))) (fOp dAdd (fOp dMul (fC (.int 2)) (fOp dSubs (fVar 0) (fC (.int 3)))) (fC (.int 1)))) (fC (.int 2147483647))) (fgName 4)) (fSeq (fAsg (fOp dMod (fOp dPow (fOp dAdd (fOp dMod (fOp dPow (fVar 4) (fC (.int 5))) (fC (.int 2147483647))) (fOp dMul (fC (.int 7919)) (fOp dSubs (fVar 0) (fC (.int 3))))) (fC (.int 5))) (fC (.int 2147483629))) (fgName 4)) (fRet (fOp dMod (fOp dDiv (fVar 4) (fC (.int 64))) (fVar 1))))))))))
def d__law_draw : Den := denOf 5 2 [2, 3, 3, 4, 4] b__law_draw
def b__law_behind : FS := fSeq (fAsg (fDic0) (fgName 1)) (fSeq (fFor (fSeqI (fFrz (fVar 0))) (fgName 2) (fFor (fRng1 (fCons (fCall dLen (fCons (fVar 2) (fNil))) (fNil))) (fgName 3) (fStore (fOp dSubs (fVar 2) (fVar 3)) (fpVar 1) (fOp dSubs (fVar 2) (fOp dSub (fVar 3) (fC (.int 1))))))) (fRet (fVar 1)))
def d__law_behind : Den := denOf 4 1 [1, 2, 3] b__law_behind
def b__law_ring : FS := fSeq (fAsg (fLst (fCons (fVar 1) (fNil))) (fgName 2)) (fSeq (fAsg (fOp dSubs (fVar 0) (fCallD RM.d_other_of (fCons (fVar 1) (fNil)))) (fgName 3)) (fSeq (whileD (fTest (fOp dNe (fVar 3) (fVar 1))) (fSeq (fDrop (fMut isLst mAppend (fpVar 2) (fCons (fVar 3) (fNil)))) (fAsg (fOp dSubs (fVar 0) (fCallD RM.d_other_of (fCons (fVar 3) (fNil)))) (fgName 3))) fuel) (fRet (fVar 2))))
def d__law_ring : Den := denOf 4 2 [2, 3, 3] b__law_ring
def b__law_put : FS := fSeq (fAsg (fLst (fNil)) (fgName 3)) (fSeq (fFor (fSeqI (fFrz (fVar 0))) (fgName 4) (fSeq (fAsg (fIf (fTest (fOp dIn (fVar 2) (fVar 4))) (fIndex (fVar 4) (fCons (fVar 2) (fNil))) (fCall dLen (fCons (fVar 4) (fNil)))) (fgName 5)) (fDrop (fMut isLst mAppend (fpVar 3) (fCons (fFrz (fOp dAdd (fOp dAdd (fCut (fVar 4) (foNone) (foSome (fVar 5))) (fOp dMul (fLst (fCons (fVar 1) (fNil))) (fCall dInt (fCons (fOp dIn (fVar 2) (fVar 4)) (fNil))))) (fCut (fVar 4) (foSome (fVar 5)) (foNone)))) fNil))))) (fRet (fVar 3)))
def d__law_put : Den := denOf 6 3 [3, 4, 5] b__law_put
def b__law_drawn_rows : FS := fSeq (fAsg (fIf (fTest (fOp dEq (fCallD d__law_draw (fCons (fVar 0) (fCons (fC (.int 6)) (fNil)))) (fC (.int 0)))) (fLst (fCons (fLst (fCons (fC (.int 0)) (fCons (fC (.int 1)) (fNil)))) (fNil))) (fLst (fCons (fLst (fCons (fC (.int 0)) (fNil))) (fCons (fLst (fCons (fC (.int 1)) (fNil))) (fNil))))) (fgName 3)) (fSeq (fFor (fRng2 (fCons (fC (.int 1)) (fCons (fOp dAdd (fC (.int 1)) (fCallD d__law_draw (fCons (fVar 0) (fCons (fVar 1) (fNil))))) (fNil)))) (fgName 4) (fSeq (fAsg (fCallD d__law_draw (fCons (fVar 0) (fCons (fC (.int 5)) (fNil)))) (fgName 5)) (fSeq (fAsg (fCallD d__law_draw (fCons (fVar 0) (fCons (fOp dMul (fC (.int 2)) (fVar 4)) (fNil)))) (fgName 6)) (fIfS (fAnd (fTest (fOp (dCmp pLt) (fVar 5) (fC (.int 2)))) (fTest (fOp (dCmp pLt) (fCall dLen (fCons (fVar 3) (fNil))) (fVar 2)))) (fAsg (fOp dAdd (fCallD d__law_put (fCons (fVar 3) (fCons (fOp dMul (fC (.int 2)) (fVar 4)) (fCons (fVar 6) (fNil))))) (fLst (fCons (fFrz (fLst (fCons (fOp dAdd (fOp dMul (fC (.int 2)) (fVar 4)) (fC (.int 1))) (fNil)))) (fNil)))) (fgName 3)) (fSeq (fAsg (fCallD d__law_ring (fCons (fCallD d__law_behind (fCons (fVar 3) (fNil))) (fCons (fVar 6) (fNil)))) (fgName 7)) (fSeq (fAsg (fOp dSubs (fVar 7) (fCallD d__law_draw (fCons (fVar 0) (fCons (fCall dLen (fCons (fVar 7) (fNil))) (fNil))))) (fgName 8)) (fAsg (fCallD d__law_put (fCons (fCallD d__law_put (fCons (fVar 3) (fCons (fOp dMul (fC (.int 2)) (fVar 4)) (fCons (fVar 6) (fNil))))) (fCons (fOp dAdd (fOp dMul (fC (.int 2)) (fVar 4)) (fC (.int 1))) (fCons (fVar 8) (fNil))))) (fgName 3)))))))) (fRet (fVar 3)))
def d__law_drawn_rows : Den := denOf 9 3 [3, 4, 5, 6, 3, 7, 8, 3] b__law_drawn_rows
def b__law_as_web : FS := fSeq (fAsg (fLst (fNil)) (fgName 2)) (fSeq (fFor (fSeqI (fFrz (fVar 0))) (fgName 3) (fSeq (fAsg (fLc [6] (fSeqI (fFrz (fVar 3))) (fgName 6) (fYes) (fIf (fTest (fOp dEq (fOp dMod (fVar 6) (fC (.int 2))) (fC (.int 0)))) (fOp dSubs (fVar 1) (fOp dDiv (fVar 6) (fC (.int 2)))) (fCallD RM.d_other_of (fCons (fOp dSubs (fVar 1) (fOp dDiv (fVar 6) (fC (.int 2)))) (fNil))))) (fgName 4)) (fSeq (fAsg (fIndex (fVar 4) (fCons (fCall (dMm min) (fCons (fVar 4) (fNil))) (fNil))) (fgName 5)) (fDrop (fMut isLst mAppend (fpVar 2) (fCons (fCall dTuple (fCons (fOp dAdd (fCut (fVar 4) (foSome (fVar 5)) (foNone)) (fCut (fVar 4) (foNone) (foSome (fVar 5)))) (fNil))) (fNil))))))) (fRet (fCall dTuple (fCons (fCall dSorted (fCons (fVar 2) (fNil))) (fNil)))))
def d__law_as_web : Den := denOf 7 2 [2, 3, 4, 5] b__law_as_web
def b__law_web : FS := fSeq (fAsg (fCallD d__law_drawn_rows (fCons (fVar 0) (fCons (fVar 1) (fCons (fVar 2) (fNil))))) (fgName 3)) (fSeq (fAsg (fOp dDiv (fCall dSum (fCons (fLc [8] (fSeqI (fFrz (fVar 3))) (fgName 8) (fYes) (fCall dLen (fCons (fVar 8) (fNil)))) (fNil))) (fC (.int 2))) (fgName 4)) (fSeq (fAsg (fLc [7] (fRng1 (fCons (fVar 4) (fNil))) (fgName 7) (fYes) (fOp dMul (fC (.int 2)) (fVar 7))) (fgName 5)) (fSeq (fIfS (fTest (fOp dEq (fCallD d__law_draw (fCons (fVar 0) (fCons (fC (.int 2)) (fNil)))) (fC (.int 0)))) (fSeq (fAsg (fLstRg1 (fVar 4)) (fgName 6)) (fAsg (fLc [7] (fRng1 (fCons (fVar 4) (fNil))) (fgName 7) (fYes) (fOp dAdd (fOp dMul (fC (.int 2)) (fMut isLst mPopAt (fpVar 6) (fCons (fCallD d__law_draw (fCons (fVar 0) (fCons (fCall dLen (fCons (fVar 6) (fNil))) (fNil)))) (fNil)))) (fCallD d__law_draw (fCons (fVar 0) (fCons (fC (.int 2)) (fNil)))))) (fgName 5))) (fSkip)) (fRet (fCallD d__law_as_web (fCons (fVar 3) (fCons (fVar 5) (fNil))))))))
def d__law_web : Den := denOf 9 3 [3, 4, 5, 6, 5] b__law_web
end RB
/-! Rows of darts in plain Lean: a dart put ahead of another one, darts called otherwise, sums over darts. -/
namespace WA
open DL
/-- rows of the darts below m, each once, none void -/
structure Rows (rows : List (List Int)) (m : Nat) : Prop where
  ne : ∀ r ∈ rows, r ≠ []
  perm : rows.flatten.Perm (up m)
section
variable {rows : List (List Int)} {m : Nat} (R : Rows rows m)
include R
theorem Rows.nodup : rows.flatten.Nodup := R.perm.nodup_iff.mpr (up_nodup _)
theorem Rows.mem {d : Int} : d ∈ rows.flatten ↔ 0 ≤ d ∧ d < m := by rw [R.perm.mem_iff, up_mem]
theorem Rows.len : rows.flatten.length = m := by rw [R.perm.length_eq, up_length]
theorem Rows.few : rows.length ≤ m := by
  have := rows_le R.ne
  rwa [R.len] at this
theorem Rows.row {r : List Int} (h : r ∈ rows) : r.length ≤ m := by
  have := row_le h
  rwa [R.len] at this
theorem Rows.row_nodup {r : List Int} (h : r ∈ rows) : r.Nodup := (List.pairwise_flatten.mp R.nodup).1 r h
theorem Rows.row_mem {r : List Int} {d : Int} (h : r ∈ rows) (hd : d ∈ r) : 0 ≤ d ∧ d < m := R.mem.mp (List.mem_flatten.mpr ⟨r, h, hd⟩)
theorem Rows.at {d : Int} (h : 0 ≤ d ∧ d < m) : ∃ r ∈ rows, d ∈ r := List.mem_flatten.mp (R.mem.mpr h)
end
theorem up_succ (m : Nat) : up (m + 1) = up m ++ [(m : Int)] := by simp [up, List.range_succ]
/-! ### a fresh dart just ahead of a dart -/
def putRow (d f : Int) (r : List Int) : List Int := if d ∈ r then r.take (r.idxOf d) ++ f :: r.drop (r.idxOf d) else r
theorem putRow_ne {d f : Int} {r : List Int} (h : r ≠ []) : putRow d f r ≠ [] := by
  unfold putRow
  split
  · simp
  · exact h
theorem putRow_perm {d f : Int} {r : List Int} (h : d ∈ r) : (putRow d f r).Perm (f :: r) := by
  unfold putRow
  rw [if_pos h]
  refine List.perm_middle.trans ?_
  rw [List.take_append_drop]
theorem put_off {d f : Int} : ∀ {rows : List (List Int)}, d ∉ rows.flatten → rows.map (putRow d f) = rows
  | [], _ => rfl
  | r :: rows, h => by
    rw [List.flatten_cons, List.mem_append, not_or] at h
    rw [List.map_cons, put_off h.2]
    unfold putRow
    rw [if_neg h.1]
theorem put_flat {d f : Int} : ∀ {rows : List (List Int)}, rows.flatten.Nodup → d ∈ rows.flatten → (rows.map (putRow d f)).flatten.Perm (f :: rows.flatten)
  | [], _, h => by simp at h
  | r :: rows, nd, h => by
    rw [List.flatten_cons] at nd h ⊢
    rw [List.map_cons, List.flatten_cons]
    obtain ⟨n1, n2, n3⟩ := List.nodup_append.mp nd
    by_cases hr : d ∈ r
    · rw [put_off fun z => n3 d hr d z rfl]
      exact (putRow_perm hr).append_right _
    · have hd : d ∈ rows.flatten := (List.mem_append.mp h).resolve_left hr
      have e : putRow d f r = r := by unfold putRow; rw [if_neg hr]
      rw [e]
      exact ((put_flat n2 hd).append_left r).trans List.perm_middle
theorem Rows.put {rows : List (List Int)} {m : Nat} (R : Rows rows m) {d : Int} (h : 0 ≤ d ∧ d < m) : Rows (rows.map (putRow d m)) (m + 1) where
  ne r hr := by
    obtain ⟨q, hq, rfl⟩ := List.mem_map.mp hr
    exact putRow_ne (R.ne q hq)
  perm := by
    rw [up_succ]
    exact (put_flat R.nodup (R.mem.mpr h)).trans ((R.perm.cons _).trans (List.perm_append_singleton _ _).symm)
theorem Rows.grow {rows : List (List Int)} {m : Nat} (R : Rows rows m) : Rows (rows ++ [[(m : Int)]]) (m + 1) where
  ne r hr := by
    rcases List.mem_append.mp hr with z | z
    · exact R.ne r z
    · rw [List.mem_singleton.mp z]; simp
  perm := by
    rw [up_succ, List.flatten_append]
    exact R.perm.append_right _
/-! ### darts called otherwise -/
def callBy (C : List Int) (d : Int) : Int := C.getD d.toNat 0
theorem callBy_at {C : List Int} {d c : Int} (h0 : 0 ≤ d) (h : C[d.toNat]? = some c) : callBy C d = c := by
  unfold callBy
  rw [List.getD_eq_getElem?_getD, h]; rfl
theorem Rows.web {rows : List (List Int)} {n : Nat} (R : Rows rows (2 * n)) (h1 : 1 ≤ n) (h2 : n ≤ 12) : IsWeb rows n := ⟨R.ne, R.perm, h1, h2⟩
theorem rows_of {w : List (List Int)} {n : Nat} (W : IsWeb w n) : Rows w (2 * n) := ⟨W.ne, W.perm⟩
/-- the next dart around is of the rows -/
theorem next_mem {r : List Int} {d : Int} (h : d ∈ r) : ∃ x, r[(r.idxOf d + 1) % r.length]? = some x ∧ x ∈ r := by
  have h0 : 0 < r.length := List.length_pos_iff.mpr (List.ne_nil_of_mem h)
  have lt := Nat.mod_lt (r.idxOf d + 1) h0
  exact ⟨_, List.getElem?_eq_getElem lt, List.getElem_mem lt⟩
/-! ### ties' darts by pairs -/
def pairs (ts : List Int) : List Int := ts.flatMap fun t => [2 * t, 2 * t + 1]
theorem pairs_up (n : Nat) : pairs (up n) = up (2 * n) := by
  induction n with
  | zero => rfl
  | succ n ih =>
    rw [up_succ, show 2 * (n + 1) = 2 * n + 1 + 1 by omega, up_succ, up_succ]
    unfold pairs at ih ⊢
    rw [List.flatMap_append, ih]
    simp
theorem pairs_perm {a b : List Int} (h : a.Perm b) : (pairs a).Perm (pairs b) := h.flatMap_right _
theorem otherOf_even (t : Int) : otherOf (2 * t) = 2 * t + 1 := by
  have : (2 * t).fmod 2 = 0 := by rw [Int.fmod_eq_emod_of_nonneg _ (by decide)]; omega
  unfold otherOf
  rw [if_pos this]
theorem otherOf_odd (t : Int) : otherOf (2 * t + 1) = 2 * t := by
  have : ¬ (2 * t + 1).fmod 2 = 0 := by rw [Int.fmod_eq_emod_of_nonneg _ (by decide)]; omega
  unfold otherOf
  rw [if_neg this]
  omega
theorem other_in {m : Nat} {d : Int} (h : 0 ≤ d ∧ d < 2 * (m : Int)) : 0 ≤ otherOf d ∧ otherOf d < 2 * (m : Int) := by
  unfold otherOf
  have := Int.fmod_eq_emod_of_nonneg d (b := 2) (by decide)
  split <;> omega
/-! ### sums -/
def tot {α : Type} (g : α → Int) : List α → Int
  | [] => 0
  | a :: l => g a + tot g l
section
variable {α : Type} {g k : α → Int}
theorem tot_append (a b : List α) : tot g (a ++ b) = tot g a + tot g b := by
  induction a with
  | nil => simp [tot]
  | cons x a ih => simp only [List.cons_append, tot, ih]; omega
theorem tot_congr {a : List α} (h : ∀ x ∈ a, g x = k x) : tot g a = tot k a := by
  induction a with
  | nil => rfl
  | cons x a ih => simp only [tot, h x List.mem_cons_self, ih fun y hy => h y (List.mem_cons_of_mem _ hy)]
theorem tot_add (a : List α) : tot (fun x => g x + k x) a = tot g a + tot k a := by
  induction a with
  | nil => rfl
  | cons x a ih => simp only [tot, ih]; omega
theorem tot_zero (a : List α) : tot (fun _ => 0) a = 0 := by
  induction a with
  | nil => rfl
  | cons x a ih => simp only [tot, ih]; omega
theorem tot_one (a : List α) : tot (fun _ => 1) a = a.length := by
  induction a with
  | nil => rfl
  | cons x a ih => simp only [tot, ih, List.length_cons]; omega
end
end WA
/-! meanings that many laws share; printed by gen.py, then kept -/
namespace RP
open PySem L2 DL
end RP
/-! meanings that many laws share; printed by gen.py, then kept -/
namespace RD
open PySem L2 DL
def b__law_tape : FS := fRet (fLst (fCons (fFrz (fCall dList (fCons (fFrz (fCut (fVar 0) (foNone) (foSome (fC (.int 63))))) (fNil)))) (fCons (fC (.int 0)) (fCons (fC (.int 0)) (fCons (fC (.int 0)) (fNil))))))
def d__law_tape : Den := denOf 1 1 [] b__law_tape
def b__law_draw : FS := fSeq (fStore (fOp dAdd (fOp dSubs (fVar 0) (fC (.int 3))) (fC (.int 1))) (fpVar 0) (fC (.int 3))) (fSeq (fIfS (fTest (fOp (dCmp pGt) (fOp dSubs (fVar 0) (fC (.int 2))) (fC (.int 0)))) (fSeq (fAsg (fOp dMod (fOp dSubs (fVar 0) (fC (.int 2))) (fVar 1)) (fgName 2)) (fSeq (fStore (fOp dDiv (fOp dSubs (fVar 0) (fC (.int 2))) (fVar 1)) (fpVar 0) (fC (.int 2))) (fRet (fVar 2)))) (fSkip)) (fSeq (fAsg (fC (.int 5)) (fgName 3)) (fSeq (fIfS (fTest (fOp dNe (fOp dSubs (fVar 0) (fC (.int 0))) (fLst (fNil)))) (fAsg (fOp dSubs (fOp dSubs (fVar 0) (fC (.int 0))) (fOp dMod (fOp dSubs (fVar 0) (fC (.int 1))) (fCall dLen (fCons (fOp dSubs (fVar 0) (fC (.int 0))) (fNil))))) (fgName 3)) (fSkip)) (fSeq (fStore (fOp dAdd (fOp dSubs (fVar 0) (fC (.int 1))) (fC (.int 1))) (fpVar 0) (fC (.int 1))) (fSeq (fIfS (fAnd (fTest (fOp (dCmp pGe) (fVar 3) (fOp dPow (fC (.int 10)) (fC (.int 18))))) (fTest (fOp (dCmp pLe) (fOp dSubs (fVar 0) (fC (.int 1))) (fCall dLen (fCons (fOp dSubs (fVar 0) (fC (.int 0))) (fNil)))))) (fSeq (fStore (fOp dDiv (fVar 3) (fVar 1)) (fpVar 0) (fC (.int 2))) (fRet (fOp dMod (fVar 3) (fVar 1)))) (fSkip)) (fSeq (fAsg (fOp dMod (fOp dAdd (fOp dAdd (fOp dMul (fOp dMod (fVar 3) (fC (.int 2147483629))) (fOp dAdd (fOp dMul (fC (.int 2)) (fOp dSubs (fVar 0) (fC (.int 3)))) (fC (.int 1)))) (fOp dMul (fC (.int 7919)) (fOp dSubs (fVar 0) (fC (.int 3))))) (fC (.int 1))) (fC (.int 2147483647))) (fgName 4)) (fSeq (fAsg (fOp dMod (fOp dPow (fVar 4) (fC (.int 5))) (fC (.int 2147483647))) (fgName 4)) (fRet (fOp dMod (fOp dDiv (fVar 4) (fC (.int 64))) (fVar 1))))))))))
def d__law_draw : Den := denOf 5 2 [2, 3, 3, 4, 4] b__law_draw
def b__law_along : FS := fSeq (fForN 0 2 (fIfS (fTest (fOp dIn (fCallD RM.d_other_of (fCons (fVar 1) (fNil))) (fVar 2))) (fSeq (fAsg (fIndex (fCall dList (fCons (fVar 2) (fNil))) (fCons (fCallD RM.d_other_of (fCons (fVar 1) (fNil))) (fNil))) (fgName 3)) (fRet (fOp dSubs (fVar 2) (fOp dMod (fOp dAdd (fVar 3) (fC (.int 1))) (fCall dLen (fCons (fVar 2) (fNil))))))) (fSkip))) (fRet (fVar 1))
def d__law_along : Den := denOf 4 2 [2, 3] b__law_along
def b__law_settled : FS := fSeq (fAsg (fLstRg1 (fVar 2)) (fgName 3)) (fSeq (fAsg (fDic0) (fgName 4)) (fSeq (fFor (fRng1 (fCons (fVar 2) (fNil))) (fgName 5) (fSeq (fAsg (fOp dMul (fC (.int 2)) (fMut isLst mPopAt (fpVar 3) (fCons (fCallD d__law_draw (fCons (fVar 0) (fCons (fCall dLen (fCons (fVar 3) (fNil))) (fNil)))) (fNil)))) (fgName 6)) (fSeq (fAsg (fCallD d__law_draw (fCons (fVar 0) (fCons (fC (.int 2)) (fNil)))) (fgName 7)) (fSeq (fStore (fOp dAdd (fVar 6) (fVar 7)) (fpVar 4) (fOp dMul (fC (.int 2)) (fVar 5))) (fStore (fOp dSub (fOp dAdd (fVar 6) (fC (.int 1))) (fVar 7)) (fpVar 4) (fOp dAdd (fOp dMul (fC (.int 2)) (fVar 5)) (fC (.int 1)))))))) (fSeq (fAsg (fLst (fNil)) (fgName 8)) (fSeq (fFor (fSeqI (fFrz (fVar 1))) (fgName 9) (fSeq (fAsg (fLc [12] (fSeqI (fFrz (fVar 9))) (fgName 12) (fYes) (fOp dSubs (fVar 4) (fVar 12))) (fgName 10)) (fSeq (fAsg (fIndex (fVar 10) (fCons (fCall (dMm min) (fCons (fVar 10) (fNil))) (fNil))) (fgName 11)) (fDrop (fMut isLst mAppend (fpVar 8) (fCons (fCall dTuple (fCons (fOp dAdd (fCut (fVar 10) (foSome (fVar 11)) (foNone)) (fCut (fVar 10) (foNone) (foSome (fVar 11)))) (fNil))) (fNil))))))) (fRet (fCall dTuple (fCons (fCall dSorted (fCons (fVar 8) (fNil))) (fNil))))))))
def d__law_settled : Den := denOf 13 3 [3, 4, 5, 6, 7, 8, 9, 10, 11] b__law_settled
def b__law_web : FS := fSeq (fAsg (fPick (fLst (fCons (fLst (fCons (fLst (fCons (fC (.int 0)) (fNil))) (fCons (fLst (fCons (fC (.int 1)) (fNil))) (fNil)))) (fCons (fLst (fCons (fLst (fCons (fC (.int 0)) (fNil))) (fCons (fLst (fCons (fC (.int 1)) (fNil))) (fNil)))) (fCons (fLst (fCons (fLst (fCons (fC (.int 0)) (fNil))) (fCons (fLst (fCons (fC (.int 1)) (fNil))) (fNil)))) (fCons (fLst (fCons (fLst (fCons (fC (.int 0)) (fCons (fC (.int 1)) (fNil)))) (fNil))) (fNil)))))) (fCallD d__law_draw (fCons (fVar 0) (fCons (fC (.int 4)) (fNil))))) (fgName 3)) (fSeq (fAsg (fOp dAdd (fC (.int 1)) (fCallD d__law_draw (fCons (fVar 0) (fCons (fVar 1) (fNil))))) (fgName 4)) (fSeq (fFor (fRng2 (fCons (fC (.int 1)) (fCons (fVar 4) (fNil)))) (fgName 5) (fSeq (fAsg (fCallD d__law_draw (fCons (fVar 0) (fCons (fOp dMul (fC (.int 2)) (fVar 5)) (fNil)))) (fgName 6)) (fSeq (fAsg (fBl (fAnd (fTest (fOp (dCmp pLt) (fCallD d__law_draw (fCons (fVar 0) (fCons (fC (.int 5)) (fNil)))) (fC (.int 2)))) (fTest (fOp (dCmp pLt) (fCall dLen (fCons (fVar 3) (fNil))) (fVar 2))))) (fgName 7)) (fSeq (fAsg (fVar 6) (fgName 8)) (fSeq (fFor (fRng1 (fCons (fIf (fTest (fVar 7)) (fC (.int 0)) (fCallD d__law_draw (fCons (fVar 0) (fCons (fOp dMul (fC (.int 2)) (fVar 5)) (fNil))))) (fNil))) (fgName 9) (fAsg (fCallD d__law_along (fCons (fVar 3) (fCons (fVar 8) (fNil)))) (fgName 8))) (fSeq (fForM 3 10 (fIfS (fTest (fOp dIn (fVar 6) (fVar 10))) (fDrop (fMut isLst mInsert (fpVar 10) (fCons (fIndex (fVar 10) (fCons (fVar 6) (fNil))) (fCons (fOp dMul (fC (.int 2)) (fVar 5)) (fNil))))) (fSkip))) (fSeq (fIfS (fTest (fVar 7)) (fDrop (fMut isLst mAppend (fpVar 3) (fCons (fLst (fCons (fOp dAdd (fOp dMul (fC (.int 2)) (fVar 5)) (fC (.int 1))) (fNil))) (fNil)))) (fSkip)) (fForM 3 10 (fIfS (fAnd (fTest (fOp dIn (fVar 8) (fVar 10))) (fNot (fTest (fVar 7)))) (fDrop (fMut isLst mInsert (fpVar 10) (fCons (fIndex (fVar 10) (fCons (fVar 8) (fNil))) (fCons (fOp dAdd (fOp dMul (fC (.int 2)) (fVar 5)) (fC (.int 1))) (fNil))))) (fSkip)))))))))) (fRet (fCallD d__law_settled (fCons (fVar 0) (fCons (fVar 3) (fCons (fVar 4) (fNil))))))))
def d__law_web : Den := denOf 11 3 [3, 4, 5, 6, 7, 8, 9, 8, 10, 10] b__law_web
end RD
/-! The fourth family's tape, draws. -/
namespace RD
open PySem PySem.Spec L2 DL WA
def tapeD (cs : List Int) (a l t : Int) : D := .lst [.flst (cs.map .int), .int a, .int l, .int t]
def IsTape (d : D) : Prop := ∃ cs a l t, d = tapeD cs a l t
@[simp] theorem tape_imm (cs : List Int) (a l t : Int) : imm (tapeD cs a l t) = false := rfl
@[simp] theorem tape_0 (cs : List Int) (a l t : Int) : dSubs (tapeD cs a l t) (.int 0) = some (.flst (cs.map .int)) := dSubs_seq (ds := [.flst (cs.map .int), .int a, .int l, .int t]) rfl (by decide) rfl (immL_ints _)
@[simp] theorem tape_1 (cs : List Int) (a l t : Int) : dSubs (tapeD cs a l t) (.int 1) = some (.int a) := rfl
@[simp] theorem tape_2 (cs : List Int) (a l t : Int) : dSubs (tapeD cs a l t) (.int 2) = some (.int l) := rfl
@[simp] theorem tape_3 (cs : List Int) (a l t : Int) : dSubs (tapeD cs a l t) (.int 3) = some (.int t) := rfl
@[simp] theorem tput_1 (cs : List Int) (a l t u : Int) : dStore (tapeD cs a l t) (.int 1) (.int u) = some (tapeD cs u l t) := rfl
@[simp] theorem tput_2 (cs : List Int) (a l t u : Int) : dStore (tapeD cs a l t) (.int 2) (.int u) = some (tapeD cs a u t) := rfl
@[simp] theorem tput_3 (cs : List Int) (a l t u : Int) : dStore (tapeD cs a l t) (.int 3) (.int u) = some (tapeD cs a l u) := rfl
theorem IsTape.imm {d : D} (h : IsTape d) : imm d = false := by obtain ⟨_, _, _, _, rfl⟩ := h; rfl
theorem mul_fm9 {x y : Int} : dMul (.int (x.fmod 2147483629)) (.int y) = some (.int (x.fmod 2147483629 * y)) := by
  have := fmod_in x (m := 2147483629) (by decide)
  exact mul_l (by omega) (by omega)
theorem draw_eq {d : D} {m : Int} (h : IsTape d) (h1 : 1 ≤ m) (h2 : m < 1073741824) :
    ∃ i d', d__law_draw [d, .int m] = some (.int i, [some d', some (.int m)]) ∧ 0 ≤ i ∧ i < m ∧ IsTape d' ∧ imm d' = false := by
  obtain ⟨cs, a, l, t, rfl⟩ := h
  have hm : m ≠ 0 := by omega
  have hm' : m.natAbs < 1073741824 := by omega
  suffices ∃ (x a' l' t' : Int), d__law_draw [tapeD cs a l t, .int m] = some (.int (x.fmod m), [some (tapeD cs a' l' t'), some (.int m)]) by
    obtain ⟨x, a', l', t', e⟩ := this
    exact ⟨_, _, e, Int.fmod_nonneg_of_pos x (by omega), Int.fmod_lt_of_pos x (by omega), ⟨_, _, _, _, rfl⟩, rfl⟩
  by_cases hl : 0 < l
  · exact ⟨l, a, l.fdiv m, t + 1, by simp [d__law_draw, b__law_draw, denOf, hm, hm', hl]⟩
  · by_cases hc : cs = []
    · subst hc
      exact ⟨_, a + 1, l, t + 1, by simp [d__law_draw, b__law_draw, denOf, hm, hm', hl, mul_fm9]; rfl⟩
    · obtain ⟨c, ec⟩ := cell_at a hc
      have hlen : (cs.length : Int) ≠ 0 := by have := List.length_pos_iff.mpr hc; omega
      by_cases h4 : 1000000000000000000 ≤ c
      · by_cases h3 : a + 1 ≤ cs.length
        · exact ⟨c, a + 1, c.fdiv m, t + 1, by simp [d__law_draw, b__law_draw, denOf, hm, hm', hl, hc, ec, h3, h4, hlen]⟩
        · exact ⟨_, a + 1, l, t + 1, by simp [d__law_draw, b__law_draw, denOf, hm, hm', hl, hc, ec, h3, h4, hlen, mul_fm9]; rfl⟩
      · exact ⟨_, a + 1, l, t + 1, by simp [d__law_draw, b__law_draw, denOf, hm, hm', hl, hc, ec, h4, hlen, mul_fm9]; rfl⟩
theorem tape_ok (ns : List Int) : ∃ d, d__law_tape [.flst (ns.map .int)] = some (d, [some (.flst (ns.map .int))]) ∧ IsTape d := by
  have e : cut (ns.map D.int) none (some 63) = (cut ns none (some 63)).map .int := by unfold cut; simp
  have l1 : dList [.flst ((cut ns none (some 63)).map .int)] = some (.lst ((cut ns none (some 63)).map .int)) := if_pos (immL_ints _)
  refine ⟨tapeD (cut ns none (some 63)) 0 0 0, ?_, ⟨_, _, _, _, rfl⟩⟩
  simp [d__law_tape, b__law_tape, denOf, e, l1, big_ok, tapeD]
end RD
/-! Pieces of meanings that many laws share: a row begun with its least, names of darts in a dict, ties popped by draws. -/
namespace WB
open PySem PySem.Spec L2 DL WA RM
/-- row.index(min(row)), row[at:] + row[:at], of a list -/
theorem begin_l {q : List Int} (hq : q ≠ []) (hl : q.length ≤ 1000) :
    dMm min [lstR q] = some (.int (least q)) ∧ dIndexL (lstR q) [.int (least q)] = some (.int (q.idxOf (least q) : Nat)) ∧
    cut (intsD q) (some ((q.idxOf (least q) : Nat) : Int)) none = intsD (q.drop (q.idxOf (least q))) ∧ cut (intsD q) none (some ((q.idxOf (least q) : Nat) : Int)) = intsD (q.take (q.idxOf (least q))) ∧
    dAdd (.lst (intsD (q.drop (q.idxOf (least q))))) (.lst (intsD (q.take (q.idxOf (least q))))) = some (.lst (intsD (turnRow q))) ∧ dTuple [.lst (intsD (turnRow q))] = some (rowD (turnRow q)) := by
  refine ⟨min_of rfl hq, index_l (.inl rfl) (least_mem hq), ?_, ?_, ?_, tuple_l (immL_ints _)⟩
  · rw [cut_from _ _ (by simp; exact List.idxOf_le_length), ← List.map_drop]
  · rw [cut_to _ _ (by simp; exact List.idxOf_le_length), ← List.map_take]
  · rw [cat_l (immL_ints _) (immL_ints _) (big_ok (by simp; omega)), ← List.map_append]; rfl
/-- the darts of a sorted web are those of its rows -/
theorem sorted_begun {rows : List (List Int)} (h : ∀ r ∈ rows, r ≠ []) : dSorted [.lst ((rows.map turnRow).map rowD)] = some (.lst ((sortRows (rows.map turnRow)).map rowD)) ∧
    dTuple [.lst ((sortRows (rows.map turnRow)).map rowD)] = some (webD (sortRows (rows.map turnRow))) := by
  refine ⟨sorted_rows fun r hr => ?_, tuple_l (imm_rows _)⟩
  obtain ⟨q, hq, rfl⟩ := List.mem_map.mp hr
  exact turn_ne (h q hq)
/-! ### names in a dict -/
abbrev dicC (C : List Int) : D := .dic (kvsOf (fun d => .int (callBy C d)) (up C.length))
theorem kvs_congr {f g : Int → D} : ∀ {ds : List Int}, (∀ d ∈ ds, f d = g d) → kvsOf f ds = kvsOf g ds
  | [], _ => rfl
  | d :: ds, h => by
    have := kvs_congr (f := f) (g := g) fun x hx => h x (List.mem_cons_of_mem d hx)
    unfold kvsOf at this ⊢
    rw [List.map_cons, List.map_cons, this, h d List.mem_cons_self]
theorem callBy_more {C E : List Int} {d : Int} (h0 : 0 ≤ d) (h : d < C.length) : callBy (C ++ E) d = callBy C d := by
  unfold callBy
  rw [List.getD_eq_getElem?_getD, List.getD_eq_getElem?_getD, List.getElem?_append_left (by omega)]
theorem callBy_new {C E : List Int} {x : Int} : callBy (C ++ x :: E) C.length = x := by
  unfold callBy
  simp
theorem dic_put {C : List Int} {x : Int} (h : C.length < 100000) : dStore (dicC C) (.int C.length) (.int x) = some (dicC (C ++ [x])) := by
  have e : dicC C = .dic (kvsOf (fun d => .int (callBy (C ++ [x]) d)) (up C.length)) := by
    unfold dicC
    rw [kvs_congr fun d hd => ?_]
    obtain ⟨h0, h1⟩ := up_mem.mp hd
    simp only [callBy_more h0 h1]
  rw [e]
  have new : (C.length : Int) ∉ up C.length := fun z => by have := up_mem.mp z; omega
  have := put_new (f := fun d => D.int (callBy (C ++ [x]) d)) new rfl (by rw [up_length]; exact h)
  rw [callBy_new, ← up_succ] at this
  rw [this]
  unfold dicC
  rw [List.length_append]; rfl
theorem dic_get {C : List Int} {d : Int} (h0 : 0 ≤ d) (h1 : d < C.length) : dSubs (dicC C) (.int d) = some (.int (callBy C d)) := subs_dic (up_mem.mpr ⟨h0, h1⟩) rfl
/-! ### ties called by draws -/
/-- names of the darts of the ties so far, of n in all; what is left of the ties -/
structure Named (n : Nat) (C left : List Int) : Prop where
  perm : (C ++ pairs left).Perm (up (2 * n))
  even : C.length = 2 * (n - left.length)
  less : left.length ≤ n
  tied : ∀ (t : Nat), 2 * t < C.length → callBy C (2 * t + 1 : Nat) = otherOf (callBy C (2 * t : Nat))
theorem named_begin (n : Nat) : Named n [] (up n) := ⟨by rw [List.nil_append, pairs_up], by rw [up_length]; simp, by rw [up_length]; exact Nat.le_refl _, fun t h => by simp at h⟩
theorem named_step {n : Nat} {C left : List Int} (N : Named n C left) {i : Nat} {c u : Int} (hc : left[i]? = some c) (hu : u = 0 ∨ u = 1) : Named n (C ++ [2 * c + u, 2 * c + 1 - u]) (left.eraseIdx i) := by
  have lt := (List.getElem?_eq_some_iff.mp hc).1
  have ln := List.length_eraseIdx_of_lt lt
  have hl := N.less
  have he := N.even
  have two : [2 * c + u, 2 * c + 1 - u].Perm [2 * c, 2 * c + 1] := by
    rcases hu with rfl | rfl
    · simp
    · have e1 : 2 * c + 1 - 1 = 2 * c := by omega
      rw [e1]
      exact List.Perm.swap _ _ _
  refine ⟨?_, by rw [List.length_append, ln, he]; simp; omega, by omega, fun t ht => ?_⟩
  · refine List.Perm.trans ?_ N.perm
    rw [List.append_assoc]
    refine List.Perm.append_left _ ((two.append_right _).trans ?_)
    exact (pairs_perm (erase_perm hc)).symm.symm
  · rw [List.length_append] at ht
    by_cases h : 2 * t < C.length
    · have h2 : 2 * t + 1 < C.length := by omega
      rw [callBy_more (by omega) (by omega), callBy_more (by omega) (by omega)]
      exact N.tied t h
    · have e : 2 * t = C.length := by simp at ht; omega
      have a1 : callBy (C ++ [2 * c + u, 2 * c + 1 - u]) (2 * t : Nat) = 2 * c + u := by rw [e]; exact callBy_new
      have a2 : callBy (C ++ [2 * c + u, 2 * c + 1 - u]) (2 * t + 1 : Nat) = 2 * c + 1 - u := by
        rw [e, show C ++ [2 * c + u, 2 * c + 1 - u] = (C ++ [2 * c + u]) ++ [2 * c + 1 - u] by simp, show C.length + 1 = (C ++ [2 * c + u]).length by simp]
        exact callBy_new
      rw [a1, a2]
      rcases hu with rfl | rfl
      · rw [show 2 * c + 0 = 2 * c by omega, otherOf_even]; omega
      · rw [otherOf_odd]; omega
theorem Named.whole {n : Nat} {C : List Int} (N : Named n C []) : C.Perm (up (2 * n)) ∧ C.length = 2 * n := by
  have := N.perm
  simp only [pairs, List.flatMap_nil, List.append_nil] at this
  exact ⟨this, by rw [this.length_eq, up_length]⟩
end WB
/-! The faces of a web, as the program walks them. -/
namespace RM
open PySem PySem.Spec L2 DL
/-- the next dart along the face -/
def along (w : List (List Int)) (d : Int) : Int := nextOf w (otherOf d)
/-- on from a, till one that was seen: what is seen then, the ring -/
def ringOn (w : List (List Int)) : Nat → List Int → List Int → Int → List Int × List Int
  | 0, seen, ring, _ => (seen, ring)
  | k + 1, seen, ring, a => if a ∈ seen then (seen, ring) else ringOn w k (seen ++ [a]) (ring ++ [a]) (along w a)
/-- the walk's step at a dart: what is seen, the rings so far -/
def faceStep (w : List (List Int)) (m : Nat) (st : List Int × List (List Int)) (d : Int) : List Int × List (List Int) :=
  if d ∈ st.1 then st else ((ringOn w (m - st.1.length + 1) st.1 [] d).1, st.2 ++ [(ringOn w (m - st.1.length + 1) st.1 [] d).2])
/-- seen ones: unlike darts of so many -/
def Seen (m : Nat) (l : List Int) : Prop := l.Nodup ∧ ∀ d ∈ l, 0 ≤ d ∧ d < m
theorem Seen.len {m : Nat} {l : List Int} (h : Seen m l) : l.length ≤ m := by
  have sub : l ⊆ up m := fun d hd => up_mem.mpr (h.2 d hd)
  have := h.1.length_le_of_subset sub
  rwa [up_length] at this
theorem Seen.add {m : Nat} {l : List Int} {d : Int} (h : Seen m l) (hd : 0 ≤ d ∧ d < m) (n : d ∉ l) : Seen m (l ++ [d]) := by
  refine ⟨List.nodup_append.mpr ⟨h.1, by simp, fun a ha b hb => ?_⟩, fun a ha => ?_⟩
  · rw [List.mem_singleton.mp hb]
    exact fun z => n (z ▸ ha)
  · rcases List.mem_append.mp ha with q | q
    · exact h.2 a q
    · rw [List.mem_singleton.mp q]; exact hd
section
variable {w : List (List Int)} {n : Nat} (W : IsWeb w n)
include W
theorem other_in {d : Int} (h : 0 ≤ d ∧ d < 2 * n) : 0 ≤ otherOf d ∧ otherOf d < 2 * n := by
  have m2 := fmod_in d (m := 2) (by decide)
  have e := Int.fmod_add_mul_fdiv d 2
  unfold otherOf
  split <;> omega
theorem next_in {d : Int} (h : 0 ≤ d ∧ d < 2 * n) : 0 ≤ nextOf w d ∧ nextOf w d < 2 * n := by
  obtain ⟨p, r, hp, hd, _, _⟩ := W.at (W.mem.mpr h)
  obtain ⟨a, hlt, ha⟩ := List.mem_iff_getElem.mp hd
  obtain ⟨n1, n2⟩ := W.next hp (show r[a]? = some d by rw [List.getElem?_eq_getElem hlt, ha])
  have inr : nextOf w d ∈ r := (Decidable.em (a + 1 < r.length)).elim (fun c => List.mem_of_getElem? (n1 c)) fun c => List.mem_of_getElem? (n2 c)
  exact W.mem.mp (List.mem_flatten.mpr ⟨r, List.mem_of_getElem? hp, inr⟩)
theorem along_in {d : Int} (h : 0 ≤ d ∧ d < 2 * n) : 0 ≤ along w d ∧ along w d < 2 * n := next_in W (other_in W h)
end
end RM
namespace RM
open PySem PySem.Spec L2 DL
end RM
/-! The walk along a face comes back to where it began. -/
namespace RM
open PySem PySem.Spec L2 DL
theorem other_twice {d : Int} : otherOf (otherOf d) = d := by
  have e := Int.fmod_add_mul_fdiv d 2
  have m := fmod_in d (m := 2) (by decide)
  by_cases h : d.fmod 2 = 0
  · have o : otherOf d = d + 1 := if_pos h
    have e1 : (d + 1).fmod 2 = 1 := by
      have q := Int.fmod_add_mul_fdiv (d + 1) 2
      have r := fmod_in (d + 1) (m := 2) (by decide)
      omega
    rw [o]
    unfold otherOf
    rw [e1, if_neg (by decide)]
    omega
  · have o : otherOf d = d - 1 := if_neg h
    have e1 : (d - 1).fmod 2 = 0 := by
      have q := Int.fmod_add_mul_fdiv (d - 1) 2
      have r := fmod_in (d - 1) (m := 2) (by decide)
      omega
    rw [o]
    unfold otherOf
    rw [e1, if_pos rfl]
    omega
section
variable {w : List (List Int)} {n : Nat} (W : IsWeb w n)
include W
theorem next_inj {c d : Int} (hc : 0 ≤ c ∧ c < 2 * n) (hd : 0 ≤ d ∧ d < 2 * n) (e : nextOf w c = nextOf w d) : c = d := by
  -- where they stand, and where the next ones stand
  have spot : ∀ {x : Int}, 0 ≤ x ∧ x < 2 * n → ∃ (p a : Nat) (r : List Int), w[p]? = some r ∧ r[a]? = some x ∧ r[(a + 1) % r.length]? = some (nextOf w x) := by
    intro x hx
    obtain ⟨p, r, hp, hm, _, _⟩ := W.at (W.mem.mpr hx)
    obtain ⟨a, lt, ha⟩ := List.mem_iff_getElem.mp hm
    have ha' : r[a]? = some x := by rw [List.getElem?_eq_getElem lt, ha]
    obtain ⟨n1, n2⟩ := W.next hp ha'
    refine ⟨p, a, r, hp, ha', ?_⟩
    by_cases z : a + 1 < r.length
    · rw [Nat.mod_eq_of_lt z]; exact n1 z
    · rw [show a + 1 = r.length by omega, Nat.mod_self]; exact n2 z
  obtain ⟨p, a, r, hp, ha, na⟩ := spot hc
  obtain ⟨q, b, t, hq, hb, nb⟩ := spot hd
  have s1 := W.spots hp na
  rw [e] at s1
  have s2 := W.spots hq nb
  have pq : p = q := s1.1.symm.trans s2.1
  subst pq
  have rt : r = t := Option.some.inj (hp.symm.trans hq)
  subst rt
  have ab := s1.2.2.symm.trans s2.2.2
  have la := (List.getElem?_eq_some_iff.mp ha).1
  have lb := (List.getElem?_eq_some_iff.mp hb).1
  have : a = b := by
    by_cases x : a + 1 < r.length <;> by_cases y : b + 1 < r.length
    · rw [Nat.mod_eq_of_lt x, Nat.mod_eq_of_lt y] at ab; omega
    · rw [Nat.mod_eq_of_lt x, show b + 1 = r.length by omega, Nat.mod_self] at ab; omega
    · rw [Nat.mod_eq_of_lt y, show a + 1 = r.length by omega, Nat.mod_self] at ab; omega
    · omega
  subst this
  exact Option.some.inj (ha.symm.trans hb)
theorem along_inj {c d : Int} (hc : 0 ≤ c ∧ c < 2 * n) (hd : 0 ≤ d ∧ d < 2 * n) (e : along w c = along w d) : c = d := by
  have := next_inj W (other_in W hc) (other_in W hd) e
  rw [← other_twice (d := c), this, other_twice]
end
end RM
/-! Rings: the walk from an unseen dart comes back to it; the faces by their least unseen darts. -/
namespace RM
open PySem PySem.Spec L2 DL
/-- k steps on -/
def it (f : Int → Int) (d : Int) : Nat → Int
  | 0 => d
  | k + 1 => f (it f d k)
/-- the first k darts of the walk -/
def chain (f : Int → Int) (d : Int) (k : Nat) : List Int := (List.range k).map (it f d)
theorem chain_succ (f : Int → Int) (d : Int) (k : Nat) : chain f d (k + 1) = chain f d k ++ [it f d k] := by simp [chain, List.range_succ]
theorem chain_len (f : Int → Int) (d : Int) (k : Nat) : (chain f d k).length = k := by simp [chain]
theorem chain_mem {f : Int → Int} {d x : Int} {k : Nat} : x ∈ chain f d k ↔ ∃ i, i < k ∧ it f d i = x := by simp [chain]
/-- what leads into l is of l -/
def Closed (w : List (List Int)) (n : Nat) (l : List Int) : Prop := ∀ x, 0 ≤ x ∧ x < 2 * (n : Int) → along w x ∈ l → x ∈ l
/-- a whole ring of d -/
structure Ring (w : List (List Int)) (n : Nat) (d : Int) (j : Nat) : Prop where
  pos : 1 ≤ j
  back : it (along w) d j = d
  once : (chain (along w) d j).Nodup
section
variable {w : List (List Int)} {n : Nat} (W : IsWeb w n)
include W
theorem it_in {d : Int} (h : 0 ≤ d ∧ d < 2 * n) : ∀ k, 0 ≤ it (along w) d k ∧ it (along w) d k < 2 * n
  | 0 => h
  | k + 1 => along_in W (it_in h k)
theorem ringOn_ends {seen : List Int} {d : Int} (hs : Seen (2 * n) seen) (cl : Closed w n seen) (hd : 0 ≤ d ∧ d < 2 * n) (hu : d ∉ seen) : ∀ (fuel k : Nat), Seen (2 * n) (seen ++ chain (along w) d k) → 2 * n < fuel + (seen.length + k) →
    (1 ≤ k → it (along w) d k ∉ seen) → ∃ j, Ring w n d j ∧ Seen (2 * n) (seen ++ chain (along w) d j) ∧ ringOn w fuel (seen ++ chain (along w) d k) (chain (along w) d k) (it (along w) d k) = (seen ++ chain (along w) d j, chain (along w) d j)
  | 0, k, hk, hf, _ => by
    have := hk.len
    rw [List.length_append, chain_len] at this
    omega
  | fuel + 1, k, hk, hf, hn => by
    have ink := it_in W hd k
    by_cases hm : it (along w) d k ∈ seen ++ chain (along w) d k
    · -- it was met: of the chain, and its beginning
      have new : it (along w) d k ∉ seen := by
        cases k with
        | zero => exact hu
        | succ k => exact hn (Nat.succ_pos k)
      have hc : it (along w) d k ∈ chain (along w) d k := (List.mem_append.mp hm).resolve_left new
      obtain ⟨i, hi, ei⟩ := chain_mem.mp hc
      have once : (chain (along w) d k).Nodup := (List.nodup_append.mp hk.1).2.1
      have first : i = 0 := by
        cases i with
        | zero => rfl
        | succ i =>
          exfalso
          obtain ⟨k', rfl⟩ : ∃ k', k = k' + 1 := ⟨k - 1, by omega⟩
          have e : it (along w) d i = it (along w) d k' := along_inj W (it_in W hd i) (it_in W hd k') ei
          have c2 := once
          rw [chain_succ] at c2
          exact (List.nodup_append.mp c2).2.2 (it (along w) d i) (chain_mem.mpr ⟨i, by omega, rfl⟩) (it (along w) d k') List.mem_cons_self e
      subst first
      exact ⟨k, ⟨by omega, ei.symm, once⟩, hk, if_pos hm⟩
    · have more := hk.add (d := it (along w) d k) (by omega) hm
      have next : it (along w) d (k + 1) ∉ seen := fun z => hm (List.mem_append_left _ (cl _ ink z))
      rw [List.append_assoc, ← chain_succ] at more
      obtain ⟨j, r1, r2, r3⟩ := ringOn_ends hs cl hd hu fuel (k + 1) more (by omega) (fun _ => next)
      refine ⟨j, r1, r2, ?_⟩
      rw [← r3]
      show (if _ then _ else _) = _
      rw [if_neg hm, List.append_assoc, ← chain_succ]
      rfl
/-- the step at an unseen dart -/
theorem step_ring {seen : List Int} {found : List (List Int)} {d : Int} (hs : Seen (2 * n) seen) (cl : Closed w n seen) (hd : 0 ≤ d ∧ d < 2 * n) (hu : d ∉ seen) :
    ∃ j, Ring w n d j ∧ Seen (2 * n) (seen ++ chain (along w) d j) ∧ faceStep w (2 * n) (seen, found) d = (seen ++ chain (along w) d j, found ++ [chain (along w) d j]) := by
  have := hs.len
  obtain ⟨j, r1, r2, r3⟩ := ringOn_ends W hs cl hd hu (2 * n - seen.length + 1) 0 (by simpa [chain] using hs) (by omega) (fun z => absurd z (by decide))
  have e : ringOn w (2 * n - seen.length + 1) seen [] d = (seen ++ chain (along w) d j, chain (along w) d j) := by simpa [chain, it] using r3
  exact ⟨j, r1, r2, by unfold faceStep; rw [if_neg hu, e]⟩
end
/-! ### by the least unseen -/
end RM
/-! What the faces are: whole rings, all darts among them, each once. -/
namespace RM
open PySem PySem.Spec L2 DL
end RM
/-! Webs that are grown or drawn in tie by tie; loops over whole numbers from some one on. -/
namespace WC
open PySem PySem.Spec L2 DL WA RM WB
/-- rows of so many ties, tie by tie grown or drawn in -/
inductive Grown : List (List Int) → Nat → Prop where
  | two : Grown [[0], [1]] 1
  | loop : Grown [[0, 1]] 1
  | grow {rows : List (List Int)} {n : Nat} {d : Int} (g : Grown rows n) (h0 : 0 ≤ d) (h1 : d < 2 * (n : Int)) : Grown (rows.map (putRow d ((2 * n : Nat) : Int)) ++ [[((2 * n + 1 : Nat) : Int)]]) (n + 1)
  | draw {rows : List (List Int)} {n : Nat} {d e : Int} (g : Grown rows n) (h0 : 0 ≤ d) (h1 : d < 2 * (n : Int)) (k : Nat) (he : e = it (along rows) d k) : Grown ((rows.map (putRow d ((2 * n : Nat) : Int))).map (putRow e ((2 * n + 1 : Nat) : Int))) (n + 1)
theorem rows_two : Rows [[0], [1]] 2 := ⟨by simp, by decide⟩
theorem rows_loop : Rows [[0, 1]] 2 := ⟨by simp, by decide⟩
theorem grown_rows : ∀ {rows : List (List Int)} {n : Nat}, Grown rows n → n ≤ 12 → Rows rows (2 * n) ∧ 1 ≤ n := by
  intro rows n g
  induction g with
  | two => exact fun _ => ⟨rows_two, by decide⟩
  | loop => exact fun _ => ⟨rows_loop, by decide⟩
  | grow g h0 h1 ih =>
    intro h
    obtain ⟨R, h2⟩ := ih (by omega)
    exact ⟨(R.put ⟨h0, by omega⟩).grow, by omega⟩
  | draw g h0 h1 k he ih =>
    rename_i rows n d e
    intro h
    obtain ⟨R, h2⟩ := ih (by omega)
    have W := R.web h2 (by omega)
    have := it_in W (d := d) ⟨h0, h1⟩ k
    rw [← he] at this
    exact ⟨(R.put ⟨h0, by omega⟩).put ⟨by omega, by omega⟩, by omega⟩
theorem Grown.web {rows : List (List Int)} {n : Nat} (g : Grown rows n) (h : n ≤ 12) : IsWeb rows n := let ⟨R, h1⟩ := grown_rows g h; R.web h1 h
/-! ### loops -/
theorem ok_iotaL {n : Nat} {lo : Int} {fg : FG} {fb : FS} {P : Fl × Fm → Prop} (I : Nat → Fm → Prop) (step : ∀ p ρ, p < n → I p ρ → Ok (fg (.int (lo + (p : Nat))) ρ) fun ρ1 => Ok (fb ρ1) fun x => match x.1 with
    | .nx => I (p + 1) x.2
    | .ct => I (p + 1) x.2
    | .bk => P (.nx, x.2)
    | .ret v => P (.ret v, x.2)) (done : ∀ ρ, I n ρ → P (.nx, ρ)) {ρ : Fm} (h0 : I 0 ρ) : Ok (forD fg fb (iota lo n) ρ) P := by
  have e : iota lo n = (List.range n).map fun (i : Nat) => D.int (lo + (i : Int)) := by simp [iota]
  rw [e]
  refine ok_at (List.range n) I (fun p x ρ hx hI => ?_) (fun ρ h => done ρ (by simpa using h)) h0
  obtain ⟨hlt, hx⟩ := List.getElem?_eq_some_iff.mp hx
  simp at hlt hx
  subst hx
  exact step p ρ hlt hI
theorem insert_row {r : List Int} {d f : Int} (h : d ∈ r) (hl : r.length ≤ 1000) : mInsert (lstR r) [.int (r.idxOf d : Nat), .int f] = some (lstR (putRow d f r), .non) := by
  have lt := List.idxOf_le_length (l := r) (a := d)
  show (if (intsD r).length < sizeLine ∧ (0 : Int) ≤ (r.idxOf d : Nat) ∧ ((r.idxOf d : Nat) : Int) < 2 ^ 63 then _ else _) = _
  rw [if_pos ⟨big_lt (by simp; omega), by omega, by omega⟩]
  unfold putRow
  rw [if_pos h]
  simp [lstR]
/-- a loop in place in which each thing becomes another one -/
theorem ok_loopMap {α : Type} {i j : Nat} {fb : FS} {P : Fl × Fm → Prop} {emb : α → D} (emb' : α → D) {xs : List α} {ρ : Fm} (lt : j < ρ.length)
    (h : ∀ x ∈ xs, fb (ρ.set j (some (emb x))) = some (.nx, ρ.set j (some (emb' x)))) (k : ∀ o', P (.nx, (ρ.set j o').set i (some (.lst (xs.map emb'))))) : Ok (loopM i j fb [] (xs.map emb) ρ) P := by
  have e0 : ρ = ρ.set j (ρ[j]'lt) := by rw [List.set_getElem_self]
  have h' : ∀ x ∈ xs, fb (ρ.set j (some (emb x))) = some (.nx, ρ.set j (some (emb' x))) := h
  obtain ⟨o', e⟩ := loopM_map (i := i) lt (xs := xs) [] (ρ[j]'lt) h'
  rw [← e0] at e
  exact ⟨_, e, k o'⟩
end WC
/-! The fourth family's webs. -/
namespace RD
open PySem PySem.Spec L2 DL WA RM WB WC
/-- the item behind another one, around -/
theorem subs_behind {x : D} {r : List Int} {d : Int} (hs : seqOf x = some (intsD r)) (h : d ∈ r) : ∃ e, e ∈ r ∧ r[(r.idxOf d + 1) % r.length]? = some e ∧ dSubs x (.int (((r.idxOf d : Nat) + 1 : Int).fmod r.length)) = some (.int e) := by
  obtain ⟨e, h1, h2⟩ := next_mem h
  have h0 : 0 < r.length := List.length_pos_iff.mpr (List.ne_nil_of_mem h)
  have em : ((r.idxOf d : Nat) + 1 : Int).fmod r.length = ((r.idxOf d + 1) % r.length : Nat) := by
    rw [Int.fmod_eq_emod_of_nonneg _ (by omega), Int.natCast_emod]; rfl
  refine ⟨e, h2, h1, ?_⟩
  rw [em]
  exact dSubs_seq hs (by omega) (by rw [Int.toNat_natCast, List.getElem?_map, h1]; rfl) rfl
def AlP (rows : List (List Int)) (d : Int) (x : Fl × Fm) : Prop := ∃ o2 o3, x = (.ret (.int (along rows d)), [some (.lst (rows.map lstR)), some (.int d), o2, o3])
theorem along_lst {rows : List (List Int)} {n : Nat} (W : IsWeb rows n) {d : Int} (hd : 0 ≤ d ∧ d < 2 * (n : Int)) : d__law_along [.lst (rows.map lstR), .int d] = some (.int (along rows d), [some (.lst (rows.map lstR)), some (.int d)]) := by
  have main : Ok (d__law_along [.lst (rows.map lstR), .int d]) fun ro => ro = (.int (along rows d), [some (.lst (rows.map lstR)), some (.int d)]) := by
    have ho := RM.other_in W hd
    obtain ⟨P, r0, hP, hdP, e1, e2⟩ := W.at (W.mem.mpr ho)
    have ltP := (List.getElem?_eq_some_iff.mp hP).1
    simp [d__law_along, b__law_along, denOf, ok_bind]
    refine ok_mono (ok_loopM (P := AlP rows d) (fun done rest ρ => ∃ k, k ≤ P ∧ ∃ o2 o3, done = (rows.take k).map lstR ∧ rest = (rows.drop k).map lstR ∧ ρ = [none, some (.int d), o2, o3]) ?_ ?_ ⟨0, Nat.zero_le _, none, none, rfl, rfl, rfl⟩) ?_
    · rintro done x rest ρ ⟨k, hkP, o2, o3, rfl, hr, rfl⟩
      refine ⟨by simp, ?_⟩
      have lt : k < rows.length := by omega
      rw [List.drop_eq_getElem_cons lt] at hr
      injection hr with h1 h2
      obtain ⟨r, hk⟩ : ∃ r, rows[k]? = some r := ⟨_, List.getElem?_eq_getElem lt⟩
      have hg : rows[k] = r := (List.getElem?_eq_some_iff.mp hk).2
      rw [hg] at h1
      subst h1 h2
      have oth := RM.other_ok d
      have rin := in_l (x := lstR r) (d := otherOf d) (.inl rfl)
      have wl : List.take k (rows.map lstR) ++ lstR r :: List.drop (k + 1) (rows.map lstR) = rows.map lstR := by
        rw [← List.map_take, ← List.map_drop, ← List.map_cons, ← List.map_append, ← hg, ← List.drop_eq_getElem_cons lt, List.take_append_drop]
      by_cases hm : otherOf d ∈ r
      · have eP : P = k := e1.symm.trans (W.place hk hm)
        have er : r0 = r := by rw [eP] at hP; rw [hP] at hk; exact Option.some.inj hk
        rw [er] at e2
        have ll : dList [lstR r] = some (lstR r) := if_pos (immL_ints r)
        have ix := index_l (x := lstR r) (.inl rfl) hm
        obtain ⟨e, h1, h3, h2⟩ := subs_behind (x := lstR r) rfl hm
        have hl0 : r ≠ [] := List.ne_nil_of_mem hm
        have ee : e = along rows d := by
          unfold along nextOf
          rw [e2, h3]; rfl
        subst ee
        simp [oth, rin, hm, ll, ap_index, ap_methR, ix, h2, hl0]
        exact ⟨none, _, by rw [wl]⟩
      · have ne : k ≠ P := fun z => by subst z; rw [hP] at hk; cases hk; exact hm hdP
        simp [oth, rin, hm]
        refine ⟨k + 1, by omega, ?_, ?_⟩
        · rw [← List.map_take, ← List.map_take, List.take_add_one, hk]
          simp
        · rfl
    · rintro done ρ ⟨k, hkP, o2, o3, rfl, hr, rfl⟩
      rw [List.drop_eq_getElem_cons (by omega)] at hr
      cases hr
    · rintro x ⟨o2, o3, rfl⟩
      simp
  obtain ⟨x, e, rfl⟩ := main
  exact e
end RD
/-! The fourth family's rows settled: a web. -/
namespace RD
open PySem PySem.Spec L2 DL WA RM WB
/-- the web of rows whose darts are called so -/
def calledWeb (C : List Int) (rows : List (List Int)) : List (List Int) := sortRows ((rows.map fun r => r.map (callBy C)).map turnRow)
def SeI (rows : List (List Int)) (n : Nat) (p : Nat) (ρ : Fm) : Prop := ∃ (f : D) (left C : List Int) (o5 o6 o7 : Option D), ρ = [some f, some (.lst (rows.map lstR)), some (.int n), some (.lst (intsD left)), some (dicC C), o5, o6, o7, none, none, none, none, none] ∧
  IsTape f ∧ Named n C left ∧ left.length = n - p
def SeJ (rows : List (List Int)) (n : Nat) (C : List Int) (f : D) (p : Nat) (ρ : Fm) : Prop := ∃ (o3 o5 o6 o7 o9 o10 o11 : Option D), ρ = [some f, some (.flst (rows.map flR)), some (.int n), o3, some (dicC C), o5, o6, o7,
  some (.lst ((((rows.take p).map fun r => r.map (callBy C)).map turnRow).map rowD)), o9, o10, o11, none]
theorem settled_ok {d : D} {rows : List (List Int)} {n : Nat} (h : IsTape d) (R : Rows rows (2 * n)) (h1 : 1 ≤ n) (h2 : n ≤ 12) :
    ∃ C f, d__law_settled [d, .lst (rows.map lstR), .int n] = some (webD (calledWeb C rows), [some f, some (.flst (rows.map flR)), some (.int n)]) ∧ Named n C [] ∧ IsTape f := by
  have main : Ok (d__law_settled [d, .lst (rows.map lstR), .int n]) fun x => ∃ C f, x = (webD (calledWeb C rows), [some f, some (.flst (rows.map flR)), some (.int n)]) ∧ Named n C [] ∧ IsTape f := by
    have im := h.imm
    have ok1 : okR (n : Int) = true := okR_of' (by omega) (by omega)
    have le : (n : Int) ≤ 16777216 := by omega
    have few := R.few
    simp [d__law_settled, b__law_settled, denOf, ok1, ok_bind, le]
    refine ok_mono (ok_iota (P := fun x => x.1 = .nx ∧ SeI rows n n x.2) (SeI rows n) ?_ (fun ρ h => ⟨rfl, h⟩) ⟨d, up n, [], none, none, none, by rw [← iota_up]; rfl, h, named_begin n, by rw [up_length]; rfl⟩) ?_
    · rintro p ρ hp ⟨f, left, C, o5, o6, o7, rfl, hf, N, hl⟩
      have imf := hf.imm
      obtain ⟨i1, f1, e1, p1, q1, hf1, im1⟩ := draw_eq hf (m := (left.length : Int)) (by omega) (by omega)
      obtain ⟨c, g1, m1⟩ := pop_ints (ns := left) (i := i1) p1 (by omega) (by omega)
      obtain ⟨u, f2, e2, p2, q2, hf2, im2⟩ := draw_eq hf1 (m := 2) (by decide) (by decide)
      have hC := N.even
      have a1 := dic_put (C := C) (x := 2 * c + u) (by omega)
      have a2 := dic_put (C := C ++ [2 * c + u]) (x := 2 * c + 1 - u) (by simp; omega)
      have k1 : (C.length : Int) = 2 * p := by omega
      have k2 : ((C ++ [2 * c + u]).length : Int) = 2 * (p : Int) + 1 := by simp; omega
      rw [k1] at a1
      rw [k2] at a2
      have ll : left ≠ [] := fun z => by rw [z] at hl; simp at hl; omega
      simp [e1, imf, im1, m1, e2, im2, a1, a2]
      have := List.length_eraseIdx_of_lt (l := left) (i := i1.toNat) (by omega)
      exact ⟨f2, left.eraseIdx i1.toNat, C ++ [2 * c + u, 2 * c + 1 - u], _, _, _, by simp; exact ⟨rfl, rfl, rfl⟩, hf2, named_step N g1 (by omega), by omega⟩
    · rintro ⟨o, ρ⟩ ⟨ho, f, left, C, o5, o6, o7, e, hf, N, hl⟩
      have ho : o = .nx := ho
      subst ho
      have e : ρ = _ := e
      subst e
      have ln : left = [] := List.eq_nil_of_length_eq_zero (by omega)
      subst ln
      obtain ⟨hp, hC⟩ := N.whole
      have imf := hf.imm
      simp [frzL_rows, immL_flR, ok_bind]
      refine ok_mono (ok_at (P := fun x => x.1 = .nx ∧ SeJ rows n C f rows.length x.2) (emb := flR) rows (SeJ rows n C f) ?_ (fun ρ h => ⟨rfl, h⟩) ⟨_, _, _, _, _, _, _, rfl⟩) ?_
      · rintro p r ρ hr ⟨o3, o5, o6, o7, o9, o10, o11, rfl⟩
        have hm := List.mem_of_getElem? hr
        have hne := R.ne r hm
        have hrl := R.row hm
        have lt := (List.getElem?_eq_some_iff.mp hr).1
        have lc : ∀ (ρ0 : Fm) (hlen : 12 < ρ0.length) (h4 : slot ρ0 4 = some (dicC C)) (h12 : ρ0[12]? = some none), lcD [12] (fgName 12) fYes (fOp dSubs (fVar 4) (fVar 12)) (r.map D.int) ρ0 = some ((r.map (callBy C)).map D.int, ρ0) := by
          intro ρ0 hlen h4 h12
          rw [List.map_map]
          refine lcD_all (emb := D.int) (z := fun x => D.int (callBy C x)) fun x hx => ?_
          obtain ⟨x0, x1⟩ := R.row_mem hm hx
          have g := dic_get (C := C) x0 (by omega)
          have s4 : slot (ρ0.set 12 (some (D.int x))) 4 = some (dicC C) := by unfold slot at h4 ⊢; rw [List.getElem?_set_ne (by decide)]; exact h4
          have s12 : slot (ρ0.set 12 (some (D.int x))) 12 = some (D.int x) := by unfold slot; rw [List.getElem?_set_self hlen]
          have back : (ρ0.set 12 (some (D.int x))).set 12 none = ρ0 := by
            rw [List.set_set]
            apply List.ext_getElem?
            intro k
            by_cases z : 12 = k
            · subst z; rw [List.getElem?_set_self hlen, h12]
            · rw [List.getElem?_set_ne z]
          exact ⟨_, by simp [hlen]; rfl, .val (.int (callBy C x)), _, _, by simp [s4, s12, g]; rfl, rfl, by simp [wipeF, back]⟩
        have hq : r.map (callBy C) ≠ [] := fun z => hne (List.map_eq_nil_iff.mp z)
        obtain ⟨b1, b2, b3, b4, b5, b6⟩ := begin_l (q := r.map (callBy C)) hq (by simp; omega)
        have lc' := lc [some f, some (.flst (rows.map flR)), some (.int n), o3, some (dicC C), o5, o6, o7, some (.lst ((((rows.take p).map fun r => r.map (callBy C)).map turnRow).map rowD)), some (flR r), o10, o11, none] (by simp) rfl rfl
        have ap := append_l (ds := (((rows.take p).map fun r => r.map (callBy C)).map turnRow).map rowD) (y := rowD (turnRow (r.map (callBy C)))) (big_lt (by simp; omega))
        have tk : rows.take (p + 1) = rows.take p ++ [r] := by rw [List.take_add_one, hr]; rfl
        generalize hg : r.map (callBy C) = q at *
        generalize ha : (((rows.take p).map fun r => r.map (callBy C)).map turnRow).map rowD = acc at *
        simp [wipeF, lc', ap_index, ap_methR, b1, b2, b3, b4, b5, b6, ap, big_ok, show q.length ≤ 100000 by rw [← hg]; simp; omega, -List.map_drop, -List.map_take]
        exact ⟨_, _, _, _, _, _, _, by rw [tk]; simp only [List.map_append, List.map_cons, List.map_nil, hg, ha]; rfl⟩
      · rintro ⟨o, ρ⟩ ⟨ho, o3, o5, o6, o7, o9, o10, o11, e⟩
        have ho : o = .nx := ho
        subst ho
        have e : ρ = _ := e
        subst e
        obtain ⟨s1, s2⟩ := sorted_begun (rows := rows.map fun r => r.map (callBy C)) fun r hr => by
          obtain ⟨q, hq, rfl⟩ := List.mem_map.mp hr
          exact fun z => R.ne q hq (List.map_eq_nil_iff.mp z)
        rw [List.take_length]
        simp [s1, s2, -List.map_map]
        first | exact ⟨C, f, rfl, N, hf⟩ | exact ⟨C, f, ⟨rfl, rfl⟩, N, hf⟩ | (trace_state; exact ⟨C, rfl, N, hf⟩)
  obtain ⟨x, e, C, f, rfl, N, hf⟩ := main
  exact ⟨C, f, e, N, hf⟩
end RD
/-! The fourth family's webs: grown tie by tie, then settled. -/
namespace RD
open PySem PySem.Spec L2 DL WA RM WB WC
def WeI (mo pl : Int) (many : Nat) (p : Nat) (ρ : Fm) : Prop := ∃ (f : D) (rows : List (List Int)) (o5 o6 o7 o8 o9 o10 : Option D), ρ = [some f, some (.int mo), some (.int pl), some (.lst (rows.map lstR)), some (.int many), o5, o6, o7, o8, o9, o10] ∧ IsTape f ∧ Grown rows (p + 1)
def OtI (f : D) (mo pl : Int) (rows : List (List Int)) (many : Int) (t one : Int) (g : Bool) (p : Nat) (ρ : Fm) : Prop := ∃ o9 o10, ρ = [some f, some (.int mo), some (.int pl), some (.lst (rows.map lstR)), some (.int many), some (.int t), some (.int one), some (.bl g), some (.int (it (along rows) one p)), o9, o10]
theorem first_rows {i : Int} (h0 : 0 ≤ i) (h1 : i < 4) : ∃ rows, Grown rows 1 ∧ atI [D.lst [.lst [.int 0], .lst [.int 1]], .lst [.lst [.int 0], .lst [.int 1]], .lst [.lst [.int 0], .lst [.int 1]], .lst [.lst [.int 0, .int 1]]] i = some (.lst (rows.map lstR)) := by
  have : i = 0 ∨ i = 1 ∨ i = 2 ∨ i = 3 := by omega
  rcases this with rfl | rfl | rfl | rfl
  · exact ⟨_, .two, rfl⟩
  · exact ⟨_, .two, rfl⟩
  · exact ⟨_, .two, rfl⟩
  · exact ⟨_, .loop, rfl⟩
theorem web_ok {d : D} {mo pl : Int} (h : IsTape d) (h1 : 1 ≤ mo) (h2 : mo ≤ 12) : ∃ (rows : List (List Int)) (n : Nat) (C : List Int) (f : D), d__law_web [d, .int mo, .int pl] = some (webD (calledWeb C rows), [some f, some (.int mo), some (.int pl)]) ∧
    Grown rows n ∧ 1 ≤ n ∧ (n : Int) ≤ mo ∧ Named n C [] ∧ IsTape f := by
  have main : Ok (d__law_web [d, .int mo, .int pl]) fun x => ∃ (rows : List (List Int)) (n : Nat) (C : List Int) (f : D), x = (webD (calledWeb C rows), [some f, some (.int mo), some (.int pl)]) ∧ Grown rows n ∧ 1 ≤ n ∧ (n : Int) ≤ mo ∧ Named n C [] ∧ IsTape f := by
    have im := h.imm
    obtain ⟨i1, f1, e1, p1, q1, hf1, im1⟩ := draw_eq h (m := 4) (by decide) (by decide)
    obtain ⟨rows0, G0, a0⟩ := first_rows p1 q1
    obtain ⟨i2, f2, e2, p2, q2, hf2, im2⟩ := draw_eq hf1 (m := mo) (by omega) (by omega)
    obtain ⟨many, hmany⟩ : ∃ many : Nat, (many : Int) = 1 + i2 := ⟨(1 + i2).toNat, by omega⟩
    have ok1 : okR (1 + i2) = true := okR_of' (by omega) (by omega)
    have ok0 : okR 1 = true := rfl
    have ok00 : okR 0 = true := rfl
    simp [d__law_web, b__law_web, denOf, e1, im, im1, big_ok, a0, e2, im2, ok1, ok0, ok_bind]
    have ln : (1 + i2).toNat - 1 = many - 1 := by omega
    rw [ln]
    refine ok_mono (ok_iotaL (n := many - 1) (P := fun x => x.1 = .nx ∧ WeI mo pl many (many - 1) x.2) (WeI mo pl many) ?_ (fun ρ h => ⟨rfl, h⟩) ⟨f2, rows0, none, none, none, none, none, none, by rw [hmany], hf2, G0⟩) ?_
    · rintro p ρ hp ⟨f, rows, o5, o6, o7, o8, o9, o10, rfl, hf, G⟩
      have imf := hf.imm
      have W := G.web (by omega)
      obtain ⟨one, f3, e3, p3, q3, hf3, im3⟩ := draw_eq hf (m := 2 * (1 + (p : Int))) (by omega) (by omega)
      obtain ⟨i4, f4, e4, p4, q4, hf4, im4⟩ := draw_eq hf3 (m := 5) (by decide) (by decide)
      obtain ⟨i5, f5, e5, p5, q5, hf5, im5⟩ := draw_eq hf4 (m := 2 * (1 + (p : Int))) (by omega) (by omega)
      have ones : 0 ≤ one ∧ one < 2 * ((p + 1 : Nat) : Int) := by omega
      have lr : ∀ r ∈ rows, r.length ≤ 24 := fun r hr => W.row hr
      have lrows : rows.length ≤ 24 := W.rows
      have ok5 : okR i5 = true := okR_of' (by omega) (by omega)
      obtain ⟨t, ht⟩ : ∃ t : Int, 2 * (1 + (p : Int)) = t := ⟨_, rfl⟩
      have t1 : ((2 * (p + 1) : Nat) : Int) = t := by omega
      have t2 : ((2 * (p + 1) + 1 : Nat) : Int) = t + 1 := by omega
      rw [ht] at e3 e5
      have rowf : ∀ (d f : Int) (r : List Int), r.length ≤ 24 → (dIn (.int d) (lstR r) = some (.bl (decide (d ∈ r)))) ∧ (d ∈ r → dIndexL (lstR r) [.int d] = some (.int (r.idxOf d : Nat)) ∧ mInsert (lstR r) [.int (r.idxOf d : Nat), .int f] = some (lstR (putRow d f r), .non)) ∧
          (d ∉ r → putRow d f r = r) := fun d f r hr => ⟨in_l (.inl rfl), fun hm => ⟨index_l (.inl rfl) hm, insert_row hm (by omega)⟩, fun hm => by unfold putRow; rw [if_neg hm]⟩
      by_cases hg : i4 < 2 ∧ (rows.length : Int) < pl
      · -- grown
        have ap := append_l (ds := (rows.map (putRow one t)).map lstR) (y := lstR [t + 1]) (big_lt (by simp; omega))
        simp [ht, e3, imf, im3, e4, im4, hg.1, hg.2, ok00, iota, forD, ok_bind]
        refine ok_loopMap (fun r => lstR (putRow one t r)) (by simp) (fun r hr => ?_) fun o' => ?_
        · obtain ⟨r1, r2, r3⟩ := rowf one t r (lr r hr)
          by_cases hm : one ∈ r
          · obtain ⟨r4, r5⟩ := r2 hm
            simp [r1, hm, ap_index, ap_methR, r4, ht, r5]
          · simp [r1, hm, r3 hm]
        have ap' : mAppend (.lst (rows.map fun r => lstR (putRow one t r))) [.lst [.int (t + 1)]] = some (.lst ((rows.map (putRow one t) ++ [[t + 1]]).map lstR), .non) := by
          rw [List.map_map] at ap
          rw [List.map_append, List.map_map]
          exact ap
        simp [ht, ap', big_ok, ok_bind, -List.map_append, -List.map_map]
        refine ok_loopMap lstR (by simp) (fun r hr => ?_) fun o'' => ?_
        · have rin := in_l (x := lstR r) (d := one) (.inl rfl)
          by_cases hm : one ∈ r <;> simp [rin, hm]
        simp [-List.map_append, -List.map_map]
        exact ⟨f4, _, _, _, _, _, _, _, rfl, hf4, by have := G.grow p3 ones.2; rwa [t1, t2] at this⟩
      · have hg' : ¬ i4 < 2 ∨ ¬ (rows.length : Int) < pl := by
          by_cases z : i4 < 2
          · exact .inr fun y => hg ⟨z, y⟩
          · exact .inl z
        have hb : ∀ ρ : Fm, (if i4 < 2 then some (decide ((rows.length : Int) < pl), ρ) else some (false, ρ)) = some (false, ρ) := by
          intro ρ
          rcases hg' with z | z <;> simp [z]
        have fin : Ok (forD (fgName 9) (fAsg (fCallD d__law_along (fCons (fVar 3) (fCons (fVar 8) fNil))) (fgName 8)) (iota 0 i5.toNat) [some f5, some (.int mo), some (.int pl), some (.lst (rows.map lstR)), some (.int many), some (.int (1 + (p : Int))), some (.int one), some (.bl false), some (.int one), o9, o10])
            fun x => x.1 = .nx ∧ OtI f5 mo pl rows many (1 + (p : Int)) one false i5.toNat x.2 := by
          refine ok_iota (OtI f5 mo pl rows many (1 + (p : Int)) one false) ?_ (fun ρ h => ⟨rfl, h⟩) ⟨o9, o10, rfl⟩
          rintro k ρ hk ⟨o9, o10, rfl⟩
          have al := along_lst W (RM.it_in W ones k)
          simp [al]
          exact ⟨_, _, rfl⟩
        simp [ht, e3, imf, im3, e4, im4, hb, e5, im5, ok5, ok_bind]
        refine ok_mono fin ?_
        rintro ⟨o, ρ⟩ ⟨ho, o9, o10, e⟩
        have ho : o = .nx := ho
        subst ho
        have e : ρ = _ := e
        subst e
        have otherIn := RM.it_in W ones i5.toNat
        generalize hot : it (along rows) one i5.toNat = other at otherIn
        simp [ok_bind]
        refine ok_loopMap (fun r => lstR (putRow one t r)) (by simp) (fun r hr => ?_) fun o' => ?_
        · obtain ⟨r1, r2, r3⟩ := rowf one t r (lr r hr)
          by_cases hm : one ∈ r
          · obtain ⟨r4, r5⟩ := r2 hm
            simp [r1, hm, ap_index, ap_methR, r4, ht, r5]
          · simp [r1, hm, r3 hm]
        have mm : (rows.map fun r => lstR (putRow one t r)) = (rows.map (putRow one t)).map lstR := by rw [List.map_map]; rfl
        rw [mm]
        simp [ok_bind, -List.map_map]
        have R1 : Rows (rows.map (putRow one t)) (2 * (p + 1) + 1) := by
          have := (rows_of W).put (d := one) ⟨p3, by omega⟩
          rwa [t1] at this
        refine ok_loopMap (fun r => lstR (putRow other (t + 1) r)) (by simp) (fun r hr => ?_) fun o'' => ?_
        · obtain ⟨r1, r2, r3⟩ := rowf other (t + 1) r (by have := R1.row hr; omega)
          by_cases hm : other ∈ r
          · obtain ⟨r4, r5⟩ := r2 hm
            simp [r1, hm, ap_index, ap_methR, r4, ht, r5]
          · simp [r1, hm, r3 hm]
        have mm2 : ((rows.map (putRow one t)).map fun r => lstR (putRow other (t + 1) r)) = ((rows.map (putRow one t)).map (putRow other (t + 1))).map lstR := by rw [List.map_map (l := rows.map (putRow one t))]; rfl
        rw [mm2]
        simp [-List.map_map]
        exact ⟨f5, _, _, _, _, _, _, _, rfl, hf5, by have := G.draw p3 ones.2 i5.toNat hot.symm; rwa [t1, t2] at this⟩
    · rintro ⟨o, ρ⟩ ⟨ho, f, rows, o5, o6, o7, o8, o9, o10, e, hf, G⟩
      have ho : o = .nx := ho
      subst ho
      have e : ρ = _ := e
      subst e
      have hmn : many - 1 + 1 = many := by omega
      rw [hmn] at G
      have W := G.web (by omega)
      obtain ⟨C, g, e8, N, hg⟩ := settled_ok hf (rows_of W) W.pos W.le
      have imf := hf.imm
      simp [e8, imf]
      exact ⟨rows, many, C, g, by simp, G, by omega, by omega, N, hg⟩
  obtain ⟨x, e, rows, n, C, f, rfl, r⟩ := main
  exact ⟨rows, n, C, f, e, r⟩
end RD
/-! What goes across a side: the program's counts. -/
namespace RP
open PySem PySem.Spec L2 DL WA RM WB WC
def pairD (a : Int × Int) : D := .tup [.int a.1, .int a.2]
abbrev asksD (as : List (Int × Int)) : D := .tup (as.map pairD)
/-- just one of both is in it -/
def parted (s : List Int) (a : Int × Int) : Bool := !decide (decide (a.1 ∈ s) = decide (a.2 ∈ s))
/-- the ends of a tie -/
def endsAt (w : List (List Int)) (t : Int) : Int × Int := (spotOf w (2 * t), spotOf w (2 * t + 1))
def itemAt (rs : List Int) (t : Int) : Int := rs.getD t.toNat 0
theorem itemAt_get {rs : List Int} {t : Int} (h0 : 0 ≤ t) (h1 : t < rs.length) : rs[t.toNat]? = some (itemAt rs t) := by
  unfold itemAt
  rw [List.getD_eq_getElem?_getD, List.getElem?_eq_getElem (by omega)]; rfl
theorem pair_0 (a : Int × Int) : dSubs (pairD a) (.int 0) = some (.int a.1) := rfl
theorem pair_1 (a : Int × Int) : dSubs (pairD a) (.int 1) = some (.int a.2) := rfl
theorem imm_pair (a : Int × Int) : imm (pairD a) = true := rfl
theorem tot_up_succ (g : Int → Int) (p : Nat) : tot g (up (p + 1)) = tot g (up p) + g p := by
  rw [up_succ, tot_append]
  simp [tot]
end RP
/-! The fourth family's ties, rooms, asks. -/
namespace RD
open PySem PySem.Spec L2 DL WA RM WB WC RP
/-! ### asks -/
end RD
/-! The fourth family's own counts across a side. -/
namespace RD
open PySem PySem.Spec L2 DL WA RM WB WC RP
section
variable {w : List (List Int)} {n : Nat} (W : IsWeb w n)
def spotsD (w : List (List Int)) (l : List Int) : D := .dic (kvsOf (fun d => .int (spotOf w d : Nat)) l)
@[simp] theorem imm_spots (w : List (List Int)) (l : List Int) : imm (spotsD w l) = false := rfl
include W
end
end RD
/-! meanings that many laws share; printed by gen.py, then kept -/
namespace RF
open PySem L2 DL
def b__law_web : FS := fSeq (fAsg (fPick (fLst (fCons (fLst (fCons (fLst (fCons (fC (.int 0)) (fNil))) (fCons (fLst (fCons (fC (.int 1)) (fNil))) (fNil)))) (fCons (fLst (fCons (fLst (fCons (fC (.int 0)) (fNil))) (fCons (fLst (fCons (fC (.int 1)) (fNil))) (fNil)))) (fCons (fLst (fCons (fLst (fCons (fC (.int 0)) (fNil))) (fCons (fLst (fCons (fC (.int 1)) (fNil))) (fNil)))) (fCons (fLst (fCons (fLst (fCons (fC (.int 0)) (fCons (fC (.int 1)) (fNil)))) (fNil))) (fNil)))))) (fCallD RD.d__law_draw (fCons (fVar 0) (fCons (fC (.int 4)) (fNil))))) (fgName 4)) (fSeq (fAsg (fCall dMax2 (fCons (fVar 3) (fCons (fOp dAdd (fC (.int 1)) (fCallD RD.d__law_draw (fCons (fVar 0) (fCons (fVar 1) (fNil))))) (fNil)))) (fgName 5)) (fSeq (fFor (fRng2 (fCons (fC (.int 1)) (fCons (fVar 5) (fNil)))) (fgName 6) (fSeq (fAsg (fCallD RD.d__law_draw (fCons (fVar 0) (fCons (fOp dMul (fC (.int 2)) (fVar 6)) (fNil)))) (fgName 7)) (fSeq (fAsg (fBl (fOr (fTest (fOp (dCmp pLt) (fCall dLen (fCons (fVar 4) (fNil))) (fVar 3))) (fTest (fBl (fAnd (fTest (fOp (dCmp pLt) (fCallD RD.d__law_draw (fCons (fVar 0) (fCons (fC (.int 5)) (fNil)))) (fC (.int 2)))) (fTest (fOp (dCmp pLt) (fCall dLen (fCons (fVar 4) (fNil))) (fVar 2)))))))) (fgName 8)) (fSeq (fAsg (fVar 7) (fgName 9)) (fSeq (fFor (fRng1 (fCons (fIf (fTest (fVar 8)) (fC (.int 0)) (fCallD RD.d__law_draw (fCons (fVar 0) (fCons (fOp dMul (fC (.int 2)) (fVar 6)) (fNil))))) (fNil))) (fgName 10) (fAsg (fCallD RD.d__law_along (fCons (fVar 4) (fCons (fVar 9) (fNil)))) (fgName 9))) (fSeq (fForM 4 11 (fIfS (fTest (fOp dIn (fVar 7) (fVar 11))) (fDrop (fMut isLst mInsert (fpVar 11) (fCons (fIndex (fVar 11) (fCons (fVar 7) (fNil))) (fCons (fOp dMul (fC (.int 2)) (fVar 6)) (fNil))))) (fSkip))) (fSeq (fIfS (fTest (fVar 8)) (fDrop (fMut isLst mAppend (fpVar 4) (fCons (fLst (fCons (fOp dAdd (fOp dMul (fC (.int 2)) (fVar 6)) (fC (.int 1))) (fNil))) (fNil)))) (fSkip)) (fForM 4 11 (fIfS (fAnd (fTest (fOp dIn (fVar 9) (fVar 11))) (fNot (fTest (fVar 8)))) (fDrop (fMut isLst mInsert (fpVar 11) (fCons (fIndex (fVar 11) (fCons (fVar 9) (fNil))) (fCons (fOp dAdd (fOp dMul (fC (.int 2)) (fVar 6)) (fC (.int 1))) (fNil))))) (fSkip)))))))))) (fRet (fCallD RD.d__law_settled (fCons (fVar 0) (fCons (fVar 4) (fCons (fVar 5) (fNil))))))))
def d__law_web : Den := denOf 12 4 [4, 5, 6, 7, 8, 9, 10, 9, 11, 11] b__law_web
end RF
/-! The fourth family's faces, by its own going along; its rims, and the program's. -/
namespace RF
open PySem PySem.Spec L2 DL WA RM WB WC RP RD
end RF
/-! The second family's draws: their count goes into what is drawn, so it is bounded. -/
namespace RB
open PySem PySem.Spec L2 DL WA RM WB WC RD RF
/-- a tape from which at most k draws were made -/
def IsTk (k : Nat) (d : D) : Prop := ∃ cs a l t, d = tapeD cs a l t ∧ 0 ≤ t ∧ t ≤ (k : Int)
theorem IsTk.imm {k : Nat} {d : D} (h : IsTk k d) : imm d = false := by obtain ⟨_, _, _, _, rfl, _⟩ := h; rfl
theorem IsTk.mono {k k' : Nat} {d : D} (h : IsTk k d) (hk : k ≤ k') : IsTk k' d := by
  obtain ⟨cs, a, l, t, e, h0, h1⟩ := h
  exact ⟨cs, a, l, t, e, h0, by omega⟩
theorem draw_eq {k : Nat} {d : D} {m : Int} (h : IsTk k d) (hk : k ≤ 100000) (h1 : 1 ≤ m) (h2 : m < 1073741824) :
    ∃ i d', RB.d__law_draw [d, .int m] = some (.int i, [some d', some (.int m)]) ∧ 0 ≤ i ∧ i < m ∧ IsTk (k + 1) d' ∧ imm d' = false := by
  obtain ⟨cs, a, l, t, rfl, t0, t1⟩ := h
  have hm : m ≠ 0 := by omega
  have hm' : m.natAbs < 1073741824 := by omega
  suffices ∃ (x a' l' : Int), RB.d__law_draw [tapeD cs a l t, .int m] = some (.int (x.fmod m), [some (tapeD cs a' l' (t + 1)), some (.int m)]) by
    obtain ⟨x, a', l', e⟩ := this
    exact ⟨_, _, e, Int.fmod_nonneg_of_pos x (by omega), Int.fmod_lt_of_pos x (by omega), ⟨_, _, _, _, rfl, by omega, by omega⟩, rfl⟩
  have mixed : ∀ c : Int, dMul (.int (c.fmod 2147483647 + (t + 1))) (.int (2 * (t + 1) + 1)) = some (.int ((c.fmod 2147483647 + (t + 1)) * (2 * (t + 1) + 1))) := fun c => mul_r (by omega) (by omega)
  have mixed0 : dMul (.int (t + 1)) (.int (2 * (t + 1) + 1)) = some (.int ((t + 1) * (2 * (t + 1) + 1))) := mul_r (by omega) (by omega)
  have powed : ∀ c : Int, dPow (.int (c.fmod 2147483647 + 7919 * (t + 1))) (.int 5) = some (.int ((c.fmod 2147483647 + 7919 * (t + 1)) ^ 5)) := fun c => by
    have := fmod_in c (m := 2147483647) (by decide)
    exact pow_int ⟨by decide, by decide, by omega⟩
  by_cases hl : 0 < l
  · exact ⟨l, a, l.fdiv m, by simp [RB.d__law_draw, RB.b__law_draw, denOf, hm, hm', hl]⟩
  · by_cases hc : cs = []
    · subst hc
      exact ⟨_, a + 1, l, by simp [RB.d__law_draw, RB.b__law_draw, denOf, hm, hm', hl, mixed0, powed]; rfl⟩
    · obtain ⟨c, ec⟩ := cell_at a hc
      have hlen : (cs.length : Int) ≠ 0 := by have := List.length_pos_iff.mpr hc; omega
      by_cases h4 : 1000000000000000000 ≤ c
      · by_cases h3 : a + 1 ≤ cs.length
        · exact ⟨c, a + 1, c.fdiv m, by simp [RB.d__law_draw, RB.b__law_draw, denOf, hm, hm', hl, hc, ec, h3, h4, hlen]⟩
        · exact ⟨_, a + 1, l, by simp [RB.d__law_draw, RB.b__law_draw, denOf, hm, hm', hl, hc, ec, h3, h4, hlen, mixed, powed]; rfl⟩
      · exact ⟨_, a + 1, l, by simp [RB.d__law_draw, RB.b__law_draw, denOf, hm, hm', hl, hc, ec, h4, hlen, mixed, powed]; rfl⟩
end RB
/-! What is behind each dart, in a dict; rings by it; darts put ahead. -/
namespace RB
open PySem PySem.Spec L2 DL WA RM WB WC RD RF
/-- a row from its last dart on -/
def rot (r : List Int) : List Int := r.drop (r.length - 1) ++ r.take (r.length - 1)
theorem rot_perm (r : List Int) : (rot r).Perm r := by
  unfold rot
  have := List.perm_append_comm (l₁ := r.drop (r.length - 1)) (l₂ := r.take (r.length - 1))
  rwa [List.take_append_drop] at this
theorem rot_len (r : List Int) : (rot r).length = r.length := (rot_perm r).length_eq
theorem rot_0 {r : List Int} (h : r ≠ []) : (rot r)[0]? = r[r.length - 1]? := by
  have := List.length_pos_iff.mpr h
  unfold rot
  rw [List.getElem?_append_left (by simp; omega), List.getElem?_drop]
  rfl
theorem rot_s {r : List Int} {k : Nat} (h : k + 1 < r.length) : (rot r)[k + 1]? = r[k]? := by
  unfold rot
  rw [List.getElem?_append_right (by simp; omega), List.getElem?_take_of_lt (by simp; omega)]
  congr 1
  simp
  omega
theorem sub_last {x : D} {r : List Int} {d : Int} (hs : seqOf x = some (intsD r)) (h : r[r.length - 1]? = some d) : dSubs x (.int (-1)) = some (.int d) := by
  have pos : 0 < r.length := by have := (List.getElem?_eq_some_iff.mp h).1; omega
  have e : dIxQ x (.int (-1)) = some (.int d) := by
    show (seqOf x).bind _ = _
    rw [hs]
    show ((atI (intsD r) (-1)).bind fun d => if imm d = true then some d else none) = _
    unfold atI
    rw [ixN_last (by simpa using pos)]
    simp [h]
  unfold dSubs dIx
  cases x <;> simp [seqOf] at hs <;> (simp [dIxS, e])
section
variable {rows : List (List Int)} {n : Nat} (W : IsWeb rows n)
include W
theorem rot_web : IsWeb (rows.map rot) n := by
  refine ⟨fun r hr => ?_, ?_, W.pos, W.le⟩
  · obtain ⟨q, hq, rfl⟩ := List.mem_map.mp hr
    intro z
    have := congrArg List.length z
    rw [rot_len] at this
    exact W.ne q hq (List.eq_nil_of_length_eq_zero this)
  · refine List.Perm.trans ?_ W.perm
    clear W
    induction rows with
    | nil => exact .refl _
    | cons r rows ih => rw [List.map_cons, List.flatten_cons, List.flatten_cons]; exact (rot_perm r).append ih
def behindD (rows : List (List Int)) (keys : List Int) : D := .dic (kvsOf (fun d => .int (nextOf rows d)) keys)
def BeI (x0 : D) (rows : List (List Int)) (p : Nat) (ρ : Fm) : Prop := ∃ o2 o3, ρ = [some x0, some (behindD rows ((rows.map rot).take p).flatten), o2, o3]
def BeJ (x0 : D) (rows : List (List Int)) (r : List Int) (p a : Nat) (ρ : Fm) : Prop := ∃ o3, ρ = [some x0, some (behindD rows (((rows.map rot).take p).flatten ++ (rot r).take a)), some (flR r), o3]
theorem behind_ok {x : D} (hx : frzD x = some (.flst (rows.map flR))) :
    RB.d__law_behind [x] = some (behindD rows (rows.map rot).flatten, [some (.flst (rows.map flR))]) := by
  have main : Ok (RB.d__law_behind [x]) fun z => z = (behindD rows (rows.map rot).flatten, [some (.flst (rows.map flR))]) := by
    have V := rot_web W
    have im := immL_flR rows
    simp [RB.d__law_behind, RB.b__law_behind, denOf, hx, im, ok_bind]
    refine ok_mono (ok_at (P := fun z => z.1 = .nx ∧ BeI (.flst (rows.map flR)) rows rows.length z.2) (emb := flR) rows (BeI (.flst (rows.map flR)) rows) ?_ (fun ρ h => ⟨rfl, h⟩) ⟨none, none, by simp [behindD]⟩) ?_
    · rintro p r ρ hp ⟨o2, o3, rfl⟩
      have rr := W.row (List.mem_of_getElem? hp)
      have hne := W.ne r (List.mem_of_getElem? hp)
      have pos := List.length_pos_iff.mpr hne
      have ok1 : okR (r.length : Int) = true := okR_of' (by omega) (by omega)
      have hq : (rows.map rot)[p]? = some (rot r) := by rw [List.getElem?_map, hp]; rfl
      simp [ok1, ok_bind]
      refine ok_mono (ok_iota (n := r.length) (P := fun z => z.1 = .nx ∧ BeJ (.flst (rows.map flR)) rows r p r.length z.2) (BeJ (.flst (rows.map flR)) rows r p) ?_ (fun ρ h => ⟨rfl, h⟩) ⟨o3, by simp [behindD]⟩) ?_
      · rintro a ρ ha ⟨o3, rfl⟩
        obtain ⟨d, hk⟩ : ∃ d, (rot r)[a]? = some d := ⟨_, List.getElem?_eq_getElem (by rw [rot_len]; exact ha)⟩
        obtain ⟨new, few⟩ := V.split hq hk
        have both : dSubs (flR r) (.int a) = some (.int (nextOf rows d)) ∧ dSubs (flR r) (.int ((a : Int) - 1)) = some (.int d) := by
          cases a with
          | zero =>
            rw [rot_0 hne] at hk
            have nx := (W.next hp hk).2 (by omega)
            exact ⟨dSubs_seq (ds := intsD r) rfl (by decide) (by rw [List.getElem?_map]; exact congrArg (Option.map D.int) nx) rfl, sub_last rfl hk⟩
          | succ b =>
            rw [rot_s ha] at hk
            have nx := (W.next hp hk).1 ha
            refine ⟨dSubs_seq (ds := intsD r) rfl (by omega) (by rw [Int.toNat_natCast, List.getElem?_map]; exact congrArg (Option.map D.int) nx) rfl, ?_⟩
            rw [show ((b + 1 : Nat) : Int) - 1 = b by omega]
            exact dSubs_seq (ds := intsD r) rfl (by omega) (by rw [Int.toNat_natCast, List.getElem?_map]; exact congrArg (Option.map D.int) hk) rfl
        obtain ⟨s1, s2⟩ := both
        have put := put_new (f := fun d => D.int (nextOf rows d)) new rfl few
        have tk : (rot r).take (a + 1) = (rot r).take a ++ [d] := by rw [List.take_add_one, hk]; rfl
        simp [s1, s2, behindD, put]
        exact ⟨_, by rw [tk, ← List.append_assoc]; rfl⟩
      · rintro ⟨o, ρ⟩ ⟨ho, o3, e⟩
        have ho : o = .nx := ho
        subst ho
        have e : ρ = _ := e
        subst e
        rw [List.take_of_length_le (l := rot r) (by rw [rot_len]; omega), take_row V hq]
        exact ⟨_, _, rfl⟩
    · rintro ⟨o, ρ⟩ ⟨ho, o2, o3, e⟩
      have ho : o = .nx := ho
      subst ho
      have e : ρ = _ := e
      subst e
      rw [List.take_of_length_le (by simp)]
      simp [behindD]
  obtain ⟨z, e, rfl⟩ := main
  exact e
/-! ### rings -/
theorem behind_get {d : Int} (h : 0 ≤ d ∧ d < 2 * (n : Int)) : dSubs (behindD rows (rows.map rot).flatten) (.int d) = some (.int (nextOf rows d)) := subs_dic ((rot_web W).mem.mpr h) rfl
theorem behind_imm (keys : List Int) : imm (behindD rows keys) = false := rfl
theorem ring_of {d : Int} (h : 0 ≤ d ∧ d < 2 * (n : Int)) : ∃ j, Ring rows n d j ∧ j ≤ 2 * n := by
  obtain ⟨j, R, S, _⟩ := step_ring W (seen := []) (found := []) ⟨List.nodup_nil, fun _ h => (nomatch h)⟩ (fun _ _ h => (nomatch h)) h (by simp)
  have := S.len
  rw [List.length_append, chain_len] at this
  exact ⟨j, R, by simp at this; omega⟩
omit W in
theorem ring_new {d : Int} {j i : Nat} (R : Ring rows n d j) (h : i + 1 < j) : it (along rows) d (i + 1) ≠ d := fun z => by
  have o := R.once
  unfold chain at o
  have := List.pairwise_iff_getElem.mp (List.pairwise_map.mp (List.nodup_iff_pairwise_ne.mp o)) 0 (i + 1) (by simp; omega) (by simp; omega) (by omega)
  simp at this
  exact this z.symm
def RiB (rows : List (List Int)) (x : D) (d : Int) (j : Nat) (k : Nat) (ρ : Fm) : Prop := ∃ i, i + 1 + k = j ∧ ρ = [some x, some (.int d), some (.lst (intsD (chain (along rows) d (i + 1)))), some (.int (it (along rows) d (i + 1)))]
theorem ring_ok {d : Int} (h : 0 ≤ d ∧ d < 2 * (n : Int)) : ∃ j, Ring rows n d j ∧ j ≤ 2 * n ∧ RB.d__law_ring [behindD rows (rows.map rot).flatten, .int d] =
    some (.lst (intsD (chain (along rows) d j)), [some (behindD rows (rows.map rot).flatten), some (.int d)]) := by
  obtain ⟨j, R, hj⟩ := ring_of W h
  have hn := W.le
  refine ⟨j, R, hj, ?_⟩
  have main : Ok (RB.d__law_ring [behindD rows (rows.map rot).flatten, .int d]) fun z => z = (.lst (intsD (chain (along rows) d j)), [some (behindD rows (rows.map rot).flatten), some (.int d)]) := by
    have oth := RM.other_ok d
    have g0 := behind_get W (RM.other_in W h)
    generalize hB : behindD rows (rows.map rot).flatten = B at g0
    have e1 : nextOf rows (otherOf d) = it (along rows) d 1 := rfl
    have c1 : intsD (chain (along rows) d (0 + 1)) = [.int d] := by simp [chain, it]
    rw [e1] at g0
    simp [RB.d__law_ring, RB.b__law_ring, denOf, oth, g0, big_ok, ok_bind]
    refine ok_mono (ok_while (P := fun z => ∃ a, z = (.nx, [some B, some (.int d), some (.lst (intsD (chain (along rows) d j))), a])) (RiB rows B d j) ?_ (k := j - 1) (by unfold fuel; omega) ⟨0, by have := R.pos; omega, by rw [c1]⟩) ?_
    · rintro k ρ ⟨i, hij, rfl⟩
      by_cases hk : k = 0
      · have ej : it (along rows) d (i + 1) = d := by rw [show i + 1 = j by omega]; exact R.back
        simp [ej]
        rw [show i + 1 = j by omega]
      · have ej := ring_new R (i := i) (by omega)
        have ink := it_in W h (i + 1)
        have oth := RM.other_ok (it (along rows) d (i + 1))
        have g := behind_get W (RM.other_in W ink)
        rw [hB] at g
        have e2 : nextOf rows (otherOf (it (along rows) d (i + 1))) = it (along rows) d (i + 2) := rfl
        rw [e2] at g
        have ap := append_l (ds := intsD (chain (along rows) d (i + 1))) (y := .int (it (along rows) d (i + 1))) (big_lt (by simp [chain_len]; omega))
        simp [ej, ap, oth, g]
        refine ⟨k - 1, by omega, i + 1, by omega, ?_⟩
        rw [chain_succ (along rows) d (i + 1)]
        simp
    · rintro z ⟨a, rfl⟩
      simp
  obtain ⟨z, e, rfl⟩ := main
  exact e
end
/-! ### a dart put ahead of another one -/
def PuI (rows : List (List Int)) (f d : Int) (p : Nat) (ρ : Fm) : Prop := ∃ o4 o5, ρ = [some (.flst (rows.map flR)), some (.int f), some (.int d), some (.lst (((rows.take p).map (putRow d f)).map flR)), o4, o5]
theorem put_ok {x : D} {rows : List (List Int)} {f d : Int} (hx : frzD x = some (.flst (rows.map flR))) (hl : rows.length ≤ 1000) (hr : ∀ r ∈ rows, r.length ≤ 1000) :
    RB.d__law_put [x, .int f, .int d] = some (.lst ((rows.map (putRow d f)).map flR), [some (.flst (rows.map flR)), some (.int f), some (.int d)]) := by
  have main : Ok (RB.d__law_put [x, .int f, .int d]) fun z => z = (.lst ((rows.map (putRow d f)).map flR), [some (.flst (rows.map flR)), some (.int f), some (.int d)]) := by
    have im := immL_flR rows
    simp [RB.d__law_put, RB.b__law_put, denOf, hx, im, big_ok, ok_bind]
    refine ok_mono (ok_at (P := fun z => z.1 = .nx ∧ PuI rows f d rows.length z.2) (emb := flR) rows (PuI rows f d) ?_ (fun ρ h => ⟨rfl, h⟩) ⟨none, none, rfl⟩) ?_
    · rintro p r ρ hp ⟨o4, o5, rfl⟩
      have rl := hr r (List.mem_of_getElem? hp)
      have lt := (List.getElem?_eq_some_iff.mp hp).1
      have tk : rows.take (p + 1) = rows.take p ++ [r] := by rw [List.take_add_one, hp]; rfl
      have rin := in_l (x := flR r) (d := d) (.inr rfl)
      have ap := append_l (ds := ((rows.take p).map (putRow d f)).map flR) (y := flR (putRow d f r)) (big_lt (by simp; omega))
      by_cases hm : d ∈ r
      · have ix := index_l (x := flR r) (.inr rfl) hm
        have le := List.idxOf_le_length (l := r) (a := d)
        have c1 := cut_to (intsD r) (r.idxOf d) (by simpa using le)
        have c2 := cut_from (intsD r) (r.idxOf d) (by simpa using le)
        have m1 : dMul (.lst [.int f]) (.int 1) = some (.lst [.int f]) := rfl
        rw [← List.map_take] at c1
        rw [← List.map_drop] at c2
        have k1 := cat_l (a := intsD (r.take (r.idxOf d))) (b := [.int f]) (immL_ints _) rfl (big_ok (by simp; omega))
        have k2 := cat_l (a := intsD (r.take (r.idxOf d)) ++ [.int f]) (b := intsD (r.drop (r.idxOf d))) (by rw [immL_append', immL_ints]; rfl) (immL_ints _) (big_ok (by simp; omega))
        have pr : intsD (r.take (r.idxOf d)) ++ [.int f] ++ intsD (r.drop (r.idxOf d)) = intsD (putRow d f r) := by
          unfold putRow
          rw [if_pos hm]
          simp
        rw [pr] at k2
        simp [rin, hm, ap_index, ap_methR, ix, c1, c2, m1, k1, k2, ap, big_ok, -List.map_take, -List.map_drop, -List.map_append, -List.map_map]
        exact ⟨_, _, by rw [tk]; simp; exact ⟨rfl, rfl⟩⟩
      · have c1 := cut_to (intsD r) r.length (by simp)
        have c2 := cut_from (intsD r) r.length (by simp)
        have m0 : dMul (.lst [.int f]) (.int 0) = some (.lst []) := rfl
        rw [List.take_of_length_le (by simp)] at c1
        rw [List.drop_eq_nil_of_le (by simp)] at c2
        have k1 := cat_l (a := intsD r) (b := []) (immL_ints _) rfl (big_ok (by simp; omega))
        have pr : putRow d f r = r := by unfold putRow; rw [if_neg hm]
        rw [List.append_nil] at k1
        rw [pr] at ap
        simp [rin, hm, c1, c2, m0, k1, ap, big_ok, -List.map_take, -List.map_drop, -List.map_append, -List.map_map]
        exact ⟨_, _, by rw [tk]; simp [pr]; exact ⟨rfl, rfl⟩⟩
    · rintro ⟨o, ρ⟩ ⟨ho, o4, o5, e⟩
      have ho : o = .nx := ho
      subst ho
      have e : ρ = _ := e
      subst e
      simp
  obtain ⟨z, e, rfl⟩ := main
  exact e
end RB
/-! The second family's webs: rows grown tie by tie. -/
namespace RB
open PySem PySem.Spec L2 DL WA RM WB WC RD RF
theorem frz_fl (rows : List (List Int)) : frzL (rows.map flR) = some (rows.map flR) := frzL_id _ (immL_flR rows)
/-- rows as they stand: those of the beginning, those put together later -/
def RowsD (x : D) (rows : List (List Int)) : Prop := x = .lst (rows.map lstR) ∨ x = .lst (rows.map flR) ∨ x = .flst (rows.map flR)
theorem RowsD.frz {x : D} {rows : List (List Int)} (h : RowsD x rows) : frzD x = some (.flst (rows.map flR)) := by
  rcases h with rfl | rfl | rfl
  · simp [frzL_rows]
  · simp [frz_fl]
  · simp [frz_fl]
theorem RowsD.len {x : D} {rows : List (List Int)} (h : RowsD x rows) : dLen [x] = some (.int rows.length) := by
  rcases h with rfl | rfl | rfl <;> simp
theorem cat_rows {a b : List (List Int)} (h : a.length + b.length ≤ 1000) : dAdd (.lst (a.map flR)) (.lst (b.map flR)) = some (.lst ((a ++ b).map flR)) := by
  rw [cat_l (immL_flR a) (immL_flR b) (big_ok (by simp; omega)), List.map_append]
def DrI (mo pl : Int) (k p : Nat) (ρ : Fm) : Prop := ∃ (f x : D) (rows : List (List Int)) (o5 o6 o7 o8 : Option D) (t : Option D), ρ = [some f, some (.int mo), some (.int pl), some x, t, o5, o6, o7, o8] ∧ RowsD x rows ∧ IsTk (k + 2 + 3 * p) f ∧ Grown rows (p + 1)
theorem drawn_rows_ok {d : D} {mo pl : Int} {k : Nat} (h : IsTk k d) (hk : k ≤ 90000) (h1 : 1 ≤ mo) (h2 : mo ≤ 12) : ∃ (x : D) (rows : List (List Int)) (n : Nat) (f : D), RB.d__law_drawn_rows [d, .int mo, .int pl] = some (x, [some f, some (.int mo), some (.int pl)]) ∧
    RowsD x rows ∧ Grown rows n ∧ 1 ≤ n ∧ (n : Int) ≤ mo ∧ IsTk (k + 2 + 3 * 12) f := by
  have main : Ok (RB.d__law_drawn_rows [d, .int mo, .int pl]) fun z => ∃ (x : D) (rows : List (List Int)) (n : Nat) (f : D), z = (x, [some f, some (.int mo), some (.int pl)]) ∧ RowsD x rows ∧ Grown rows n ∧ 1 ≤ n ∧ (n : Int) ≤ mo ∧ IsTk (k + 2 + 3 * 12) f := by
    have im := h.imm
    obtain ⟨i1, f1, e1, p1, q1, hf1, im1⟩ := RB.draw_eq h (m := 6) (by omega) (by decide) (by decide)
    obtain ⟨i2, f2, e2, p2, q2, hf2, im2⟩ := RB.draw_eq hf1 (m := mo) (by omega) (by omega) (by omega)
    obtain ⟨many, hmany⟩ : ∃ many : Nat, (many : Int) = i2 := ⟨i2.toNat, by omega⟩
    subst hmany
    -- the first tie
    obtain ⟨x0, rows0, hx0, G0, ex0⟩ : ∃ (x0 : D) (rows0 : List (List Int)), RowsD x0 rows0 ∧ Grown rows0 1 ∧ fIf (fTest (fOp dEq (fCallD RB.d__law_draw (fCons (fVar 0) (fCons (fC (.int 6)) (fNil)))) (fC (.int 0)))) (fLst (fCons (fLst (fCons (fC (.int 0)) (fCons (fC (.int 1)) (fNil)))) (fNil))) (fLst (fCons (fLst (fCons (fC (.int 0)) (fNil))) (fCons (fLst (fCons (fC (.int 1)) (fNil))) (fNil))))
        [some d, some (.int mo), some (.int pl), none, none, none, none, none, none] = some (.val x0, [some f1, some (.int mo), some (.int pl), none, none, none, none, none, none]) := by
      by_cases c : i1 = 0
      · exact ⟨_, [[0, 1]], .inl rfl, .loop, by simp [e1, im, im1, c, big_ok]⟩
      · exact ⟨_, [[0], [1]], .inl rfl, .two, by simp [e1, im, im1, c, big_ok]⟩
    have ok0 : okR 1 = true := rfl
    have ok1 : okR (1 + (many : Int)) = true := okR_of' (by omega) (by omega)
    have ln : (1 + (many : Int)).toNat - 1 = many := by omega
    simp [RB.d__law_drawn_rows, RB.b__law_drawn_rows, denOf, ex0, e2, im1, im2, ok0, ok1, ok_bind, -ap_if]
    rw [ln]
    refine ok_mono (ok_iotaL (n := many) (P := fun z => z.1 = .nx ∧ DrI mo pl k many z.2) (DrI mo pl k) ?_ (fun ρ h => ⟨rfl, h⟩) ⟨f2, x0, rows0, none, none, none, none, none, rfl, hx0, hf2, G0⟩) ?_
    · rintro p ρ hp ⟨f, x, rows, o5, o6, o7, o8, t0, rfl, hx, hf, G⟩
      have imf := hf.imm
      have W := G.web (by omega)
      have hl := W.rows
      obtain ⟨way, f3, e3, p3, q3, hf3, im3⟩ := RB.draw_eq hf (m := 5) (by omega) (by decide) (by decide)
      obtain ⟨one, f4, e4, p4, q4, hf4, im4⟩ := RB.draw_eq hf3 (m := 2 * (1 + (p : Int))) (by omega) (by omega) (by omega)
      obtain ⟨t, ht⟩ : ∃ t : Int, 2 * (1 + (p : Int)) = t := ⟨_, rfl⟩
      have t1 : ((2 * (p + 1) : Nat) : Int) = t := by omega
      have t2 : ((2 * (p + 1) + 1 : Nat) : Int) = t + 1 := by omega
      rw [ht] at e4
      have one_in : 0 ≤ one ∧ one < 2 * ((p + 1 : Nat) : Int) := by omega
      have hlen := hx.len
      have p3' := one_in.1
      have q3' := one_in.2
      have put := put_ok (f := t) (d := one) hx.frz (by omega) fun r hr => by have := W.row hr; omega
      by_cases hg : way < 2 ∧ (rows.length : Int) < pl
      · have cat := cat_rows (a := rows.map (putRow one t)) (b := [[t + 1]]) (by simp; omega)
        have cat' : dAdd (.lst ((rows.map (putRow one t)).map flR)) (.lst [.flst [.int (t + 1)]]) = some (.lst ((rows.map (putRow one t) ++ [[t + 1]]).map flR)) := cat
        have GG := G.grow p3' q3'
        rw [t1, t2] at GG
        generalize hR : rows.map (putRow one t) ++ [[t + 1]] = R at cat' GG
        generalize hQ : (rows.map (putRow one t)).map flR = Q at cat' put
        rcases hx with rfl | rfl | rfl <;>
          (simp [ht, e3, imf, im3, e4, im4, hg.1, hg.2, put, cat', immL_flR, big_ok, ok_bind]
           exact ⟨f4, _, R, _, _, _, _, _, rfl, .inr (.inl rfl), hf4.mono (by omega), GG⟩)
      · have hb : ∀ ρ : Fm, (if way < 2 then some (decide ((rows.length : Int) < pl), ρ) else some (false, ρ)) = some (false, ρ) := by
          intro ρ
          by_cases z : way < 2
          · have : ¬ (rows.length : Int) < pl := fun y => hg ⟨z, y⟩
            simp [z, this]
          · simp [z]
        have beh := behind_ok W hx.frz
        obtain ⟨j, Rg, hj, ring⟩ := ring_ok W one_in
        have jp := Rg.pos
        obtain ⟨i5, f5, e5, p5, q5, hf5, im5⟩ := RB.draw_eq hf4 (m := (j : Int)) (by omega) (by omega) (by omega)
        have it5 : dSubs (.lst (intsD (chain (along rows) one j))) (.int i5) = some (.int (it (along rows) one i5.toNat)) := dSubs_seq (ds := intsD (chain (along rows) one j)) rfl p5 (by
          rw [List.getElem?_map]
          unfold chain
          rw [List.getElem?_map, List.getElem?_range (by omega)]; rfl) rfl
        have lnc : dLen [.lst (intsD (chain (along rows) one j))] = some (.int j) := by simp [chain_len]
        have GG := G.draw p3' q3' i5.toNat rfl
        rw [t1, t2] at GG
        have R1 : Rows (rows.map (putRow one t)) (2 * (p + 1) + 1) := by
          have := (rows_of W).put (d := one) ⟨p3', by omega⟩
          rwa [t1] at this
        have put2 := put_ok (x := .lst ((rows.map (putRow one t)).map flR)) (f := t + 1) (d := it (along rows) one i5.toNat) (by simp only [frz_lst, frz_fl]; rfl) (by simp; omega) fun r hr => by have := R1.row hr; omega
        have put1 := put_ok (x := .flst (rows.map flR)) (rows := rows) (f := t) (d := one) (by simp only [frz_flst, frz_fl]; rfl) (by omega) fun r hr => by have := W.row hr; omega
        generalize it (along rows) one i5.toNat = other at it5 GG put2
        generalize chain (along rows) one j = C at ring it5 lnc
        have bi := behind_imm W (rows.map rot).flatten
        generalize behindD rows (rows.map rot).flatten = B at beh ring bi
        have imB : imm B = false := bi
        rcases hx with rfl | rfl | rfl <;>
          (simp [ht, e3, imf, im3, e4, im4, hlen, hb, beh, ring, it5, lnc, e5, im5, put1, put2, immL_flR, imB, ok_bind, -len_lst, -len_flst, -List.map_map]
           exact ⟨f5, _, _, _, _, _, _, _, rfl, .inr (.inl rfl), hf5.mono (by omega), GG⟩)
    · rintro ⟨o, ρ⟩ ⟨ho, f, x, rows, o5, o6, o7, o8, t0, e, hx, hf, G⟩
      have ho : o = .nx := ho
      subst ho
      have e : ρ = _ := e
      subst e
      have imf := hf.imm
      rcases hx with rfl | rfl | rfl <;> simp [immL_flR]
      · exact ⟨_, rows, _, _, ⟨rfl, rfl⟩, .inl rfl, G, by omega, by omega, hf.mono (by omega)⟩
      · exact ⟨_, rows, _, _, ⟨rfl, rfl⟩, .inr (.inl rfl), G, by omega, by omega, hf.mono (by omega)⟩
      · exact ⟨_, rows, _, _, ⟨rfl, rfl⟩, .inr (.inr rfl), G, by omega, by omega, hf.mono (by omega)⟩
  obtain ⟨z, e, x, rows, n, f, rfl, r⟩ := main
  exact ⟨x, rows, n, f, e, r⟩
end RB
/-! The second family's webs: darts called by a list of even darts' names; then as webs. -/
namespace RB
open PySem PySem.Spec L2 DL WA RM WB WC RP RD RF
/-- the names of all darts, by those of the even ones -/
def namesOf (T : List Int) : List Int := T.flatMap fun e => [e, otherOf e]
theorem names_add (T : List Int) (e : Int) : namesOf (T ++ [e]) = namesOf T ++ [e, otherOf e] := by simp [namesOf]
theorem names_at : ∀ (T : List Int) (t : Nat), t < T.length → callBy (namesOf T) (2 * t : Nat) = itemAt T t ∧ callBy (namesOf T) (2 * t + 1 : Nat) = otherOf (itemAt T t)
  | [], t, h => by simp at h
  | e :: T, 0, _ => by simp [namesOf, callBy, itemAt]
  | e :: T, t + 1, h => by
    obtain ⟨a, b⟩ := names_at T t (by simpa using h)
    have e1 : namesOf (e :: T) = e :: otherOf e :: namesOf T := by simp [namesOf]
    have e2 : itemAt (e :: T) ((t + 1 : Nat) : Int) = itemAt T t := by unfold itemAt; simp
    rw [e1, e2, ← b, ← a]
    unfold callBy
    refine ⟨?_, ?_⟩
    · rw [Int.toNat_natCast, Int.toNat_natCast, show 2 * (t + 1) = 2 * t + 1 + 1 by omega, List.getD_cons_succ, List.getD_cons_succ]
    · rw [Int.toNat_natCast, Int.toNat_natCast, show 2 * (t + 1) + 1 = 2 * t + 1 + 1 + 1 by omega, List.getD_cons_succ, List.getD_cons_succ]
theorem names_dart {T : List Int} {d : Int} (h0 : 0 ≤ d) (h1 : d < 2 * (T.length : Int)) : callBy (namesOf T) d = if d.fmod 2 = 0 then itemAt T (d.fdiv 2) else otherOf (itemAt T (d.fdiv 2)) := by
  have e1 : d.fdiv 2 = d / 2 := Int.fdiv_eq_ediv_of_nonneg _ (by decide)
  have e2 : d.fmod 2 = d % 2 := Int.fmod_eq_emod_of_nonneg _ (by decide)
  obtain ⟨t, ht⟩ : ∃ t : Nat, (t : Int) = d / 2 := ⟨(d / 2).toNat, by omega⟩
  obtain ⟨a, b⟩ := names_at T t (by omega)
  rw [e1, e2, ← ht]
  by_cases c : d % 2 = 0
  · rw [if_pos c, ← a]; congr 1; omega
  · rw [if_neg c, ← b]; congr 1; omega
/-- so the names of ties turn out as pairs -/
theorem pair_names {c u : Int} (hu : u = 0 ∨ u = 1) : [2 * c + u, 2 * c + 1 - u] = [2 * c + u, otherOf (2 * c + u)] := by
  rcases hu with rfl | rfl
  · rw [show 2 * c + 0 = 2 * c by omega, otherOf_even]; simp
  · rw [otherOf_odd]; congr 2; omega
theorem names_evens (n : Nat) : namesOf ((up n).map fun t => 2 * t) = up (2 * n) := by
  rw [← pairs_up]
  unfold namesOf pairs
  rw [List.flatMap_map]
  congr 1
  funext t
  rw [otherOf_even]
/-! ### as a web -/
def AwI (x : D) (rows : List (List Int)) (T : List Int) (p : Nat) (ρ : Fm) : Prop := ∃ o3 o4 o5, ρ = [some (.flst (rows.map flR)), some (.lst (intsD T)), some (.lst ((((rows.take p).map fun r => r.map (callBy (namesOf T))).map turnRow).map rowD)), o3, o4, o5, none]
theorem as_web_ok {x : D} {rows : List (List Int)} {n : Nat} {T : List Int} (hx : RowsD x rows) (R : Rows rows (2 * n)) (hT : T.length = n) (h2 : n ≤ 12) :
    RB.d__law_as_web [x, .lst (intsD T)] = some (webD (calledWeb (namesOf T) rows), [some (.flst (rows.map flR)), some (.lst (intsD T))]) := by
  have main : Ok (RB.d__law_as_web [x, .lst (intsD T)]) fun z => z = (webD (calledWeb (namesOf T) rows), [some (.flst (rows.map flR)), some (.lst (intsD T))]) := by
    have few := R.few
    have fz := hx.frz
    have im := immL_flR rows
    simp [RB.d__law_as_web, RB.b__law_as_web, denOf, fz, im, big_ok, ok_bind]
    refine ok_mono (ok_at (P := fun z => z.1 = .nx ∧ AwI x rows T rows.length z.2) (emb := flR) rows (AwI x rows T) ?_ (fun ρ h => ⟨rfl, h⟩) ⟨_, _, _, rfl⟩) ?_
    · rintro p r ρ hr ⟨o3, o4, o5, rfl⟩
      have hm := List.mem_of_getElem? hr
      have hne := R.ne r hm
      have hrl := R.row hm
      have lt := (List.getElem?_eq_some_iff.mp hr).1
      simp [wipeF, ok_bind, -List.map_map, -List.map_take]
      refine ok_lcMap (fun d => .int (callBy (namesOf T) d)) (fun d hd => ?_) ?_
      · obtain ⟨d0, d1⟩ := R.row_mem hm hd
        have e1 : d.fdiv 2 = d / 2 := Int.fdiv_eq_ediv_of_nonneg _ (by decide)
        have nm := names_dart (T := T) d0 (by omega)
        have s : dSubs (.lst (intsD T)) (.int (d.fdiv 2)) = some (.int (itemAt T (d.fdiv 2))) := dSubs_seq (ds := intsD T) rfl (by omega) (by rw [List.getElem?_map, itemAt_get (by omega) (by omega)]; rfl) rfl
        have oth := RM.other_ok (itemAt T (d.fdiv 2))
        by_cases c : d.fmod 2 = 0
        · rw [if_pos c] at nm
          exact ⟨_, by simp; rfl, .val (.int (callBy (namesOf T) d)), _, _, by simp [c, s, nm]; rfl, rfl, by simp [wipeF]⟩
        · rw [if_neg c] at nm
          exact ⟨_, by simp; rfl, .val (.int (callBy (namesOf T) d)), _, _, by simp [c, s, nm, oth]; rfl, rfl, by simp [wipeF]⟩
      · have e : r.map (fun d => D.int (callBy (namesOf T) d)) = intsD (r.map (callBy (namesOf T))) := by simp
        have hq : r.map (callBy (namesOf T)) ≠ [] := fun z => hne (List.map_eq_nil_iff.mp z)
        obtain ⟨b1, b2, b3, b4, b5, b6⟩ := begin_l (q := r.map (callBy (namesOf T))) hq (by simp; omega)
        have ap := append_l (ds := (((rows.take p).map fun r => r.map (callBy (namesOf T))).map turnRow).map rowD) (y := rowD (turnRow (r.map (callBy (namesOf T))))) (big_lt (by simp; omega))
        have tk : rows.take (p + 1) = rows.take p ++ [r] := by rw [List.take_add_one, hr]; rfl
        have ql : (r.map (callBy (namesOf T))).length ≤ 100000 := by simp; omega
        rw [e]
        generalize hg : r.map (callBy (namesOf T)) = q at *
        generalize ha : (((rows.take p).map fun r => r.map (callBy (namesOf T))).map turnRow).map rowD = acc at *
        simp [big_ok ql, ap_index, ap_methR, b1, b2, b3, b4, b5, b6, ap, -List.map_drop, -List.map_take, -List.map_map]
        exact ⟨_, _, _, by rw [tk]; simp only [List.map_append, List.map_cons, List.map_nil, hg, ha]; rfl⟩
    · rintro ⟨o, ρ⟩ ⟨ho, o3, o4, o5, e⟩
      have ho : o = .nx := ho
      subst ho
      have e : ρ = _ := e
      subst e
      obtain ⟨s1, s2⟩ := sorted_begun (rows := rows.map fun r => r.map (callBy (namesOf T))) fun r hr => by
        obtain ⟨q, hq, rfl⟩ := List.mem_map.mp hr
        exact fun z => R.ne q hq (List.map_eq_nil_iff.mp z)
      rw [List.take_length]
      simp [s1, s2, calledWeb, -List.map_map]
  obtain ⟨z, e, rfl⟩ := main
  exact e
/-! ### a web -/
/-- popped ties, twice each and a draw of two: names of even darts -/
def TuI (n k : Nat) (A : Option D → Option D → Fm) (p : Nat) (acc : List D) (ρ : Fm) : Prop := ∃ (f : D) (left T : List Int), acc = intsD T ∧ ρ = A (some f) (some (.lst (intsD left))) ∧ IsTk (k + 2 * p) f ∧ Named n (namesOf T) left ∧ left.length = n - p ∧ T.length = p
theorem turn_step {n : Nat} {T left : List Int} (N : Named n (namesOf T) left) {i : Nat} {c u : Int} (hc : left[i]? = some c) (hu : u = 0 ∨ u = 1) : Named n (namesOf (T ++ [2 * c + u])) (left.eraseIdx i) := by
  have := named_step N hc hu
  rwa [pair_names hu, ← names_add] at this
def WbP (mo pl : Int) (k : Nat) (z : D × Fm) : Prop := ∃ (rows : List (List Int)) (n : Nat) (C : List Int) (f : D), z = (webD (calledWeb C rows), [some f, some (.int mo), some (.int pl)]) ∧ Grown rows n ∧ 1 ≤ n ∧ (n : Int) ≤ mo ∧ Named n C [] ∧ IsTk (k + 100) f
theorem web_ok {d : D} {mo pl : Int} {k : Nat} (h : IsTk k d) (hk : k ≤ 80000) (h1 : 1 ≤ mo) (h2 : mo ≤ 12) : Ok (RB.d__law_web [d, .int mo, .int pl]) (WbP mo pl k) := by
  have im := h.imm
  obtain ⟨x, rows, n, f1, e1, hx, G, n1, n2, hf1⟩ := drawn_rows_ok (pl := pl) h (by omega) h1 h2
  have im1 := hf1.imm
  have R := rows_of (G.web (by omega))
  have hn : n ≤ 12 := by omega
  obtain ⟨i2, f2, e2, p2, q2, hf2, im2⟩ := RB.draw_eq hf1 (m := 2) (by omega) (by decide) (by decide)
  have few := R.few
  have ok1 : okR (n : Int) = true := okR_of' (by omega) (by omega)
  have le1 : (n : Int) ≤ 16777216 := by omega
  simp [RB.d__law_web, RB.b__law_web, denOf, e1, im, hx.frz, immL_flR, wipeF, ok_bind]
  refine ok_lcMap (emb := flR) (fun r => .int (r.length : Nat)) (fun r hr => ⟨_, by simp; rfl, .val (.int (r.length : Nat)), _, _, by simp; rfl, rfl, by simp [wipeF]⟩) ?_
  have e : rows.map (fun r => D.int (r.length : Nat)) = intsD (rows.map fun r => (r.length : Int)) := by simp
  have sm : (rows.map fun r => (r.length : Int)).sum = 2 * n := by
    have := R.len
    rw [List.length_flatten] at this
    have c : ∀ l : List (List Int), (l.map fun r => ((r.length : Nat) : Int)).sum = ((l.map List.length).sum : Nat) := by
      intro l
      induction l with
      | nil => rfl
      | cons a l ih => simp [ih]
    rw [c, this]; simp
  have dv : (2 * (n : Int)).fdiv 2 = n := by rw [Int.fdiv_eq_ediv_of_nonneg _ (by decide)]; omega
  rw [e]
  simp [big_ok (n := rows.length) (by omega), sm, dv, ok1, iota_up, wipeF, ok_bind, -List.map_map]
  refine ok_lcMap (emb := D.int) (fun t => .int (2 * t)) (fun t ht => ⟨_, by simp; rfl, .val (.int (2 * t)), _, _, by simp; rfl, rfl, by simp [wipeF]⟩) ?_
  have e2' : (up n).map (fun t => D.int (2 * t)) = intsD ((up n).map fun t => 2 * t) := by simp
  have uplen := up_length n
  rw [e2']
  have N0 : Named n (namesOf ((up n).map fun t => 2 * t)) [] := by
    rw [names_evens]
    refine ⟨by simp [pairs], by rw [up_length]; simp, by simp, fun t ht => ?_⟩
    rw [up_length] at ht
    have a : ∀ m : Nat, m < 2 * n → callBy (up (2 * n)) (m : Nat) = m := fun m hm => callBy_at (by omega) (by simp [up, hm])
    rw [a _ (by omega), a _ ht]
    have := otherOf_even (t : Int)
    push_cast
    rw [this]
  have L0 : ((up n).map fun t => 2 * t).length = n := by simp [up_length]
  generalize (up n).map (fun t => 2 * t) = T0 at N0 L0
  by_cases c : i2 = 0
  · simp [e2, im1, im2, c, ok1, le1, L0, iota_up, big_ok (n := n) (by omega), wipeF, ok_bind, -List.map_map]
    refine ok_mono (ok_lc (emb := D.int) (xs := up n) (Q := fun z => TuI n (k + 39) (fun f l => [f, some (.int mo), some (.int pl), some (.flst (rows.map flR)), some (.int n), some (.lst (intsD T0)), l, none, none]) n z.1 z.2) (TuI n (k + 39) (fun f l => [f, some (.int mo), some (.int pl), some (.flst (rows.map flR)), some (.int n), some (.lst (intsD T0)), l, none, none])) ?_ (fun acc ρ h => by rwa [up_length] at h)
      ⟨f2, up n, [], rfl, rfl, hf2.mono (by omega), named_begin n, by rw [up_length]; rfl, rfl⟩) ?_
    · rintro p y acc ρ hp ⟨f, left, T, rfl, rfl, hf, N, hl, hT⟩
      have hpn := (List.getElem?_eq_some_iff.mp hp).1
      rw [up_length] at hpn
      have imf := hf.imm
      obtain ⟨i5, f5, e5, p5, q5, hf5, im5⟩ := RB.draw_eq hf (m := (left.length : Int)) (by omega) (by omega) (by omega)
      obtain ⟨c5, g5, m5⟩ := pop_ints (ns := left) (i := i5) p5 (by omega) (by omega)
      obtain ⟨u, f6, e6, p6, q6, hf6, im6⟩ := RB.draw_eq hf5 (m := 2) (by omega) (by decide) (by decide)
      have := List.length_eraseIdx_of_lt (l := left) (i := i5.toNat) (by omega)
      have ll : left ≠ [] := fun z => by rw [z] at hl; simp at hl; omega
      simp [e5, imf, im5, m5, e6, im6, wipeF, ll]
      exact ⟨f6, left.eraseIdx i5.toNat, T ++ [2 * c5 + u], by simp, rfl, hf6.mono (by omega), turn_step N g5 (by omega), by omega, by simp [hT]⟩
    · rintro ⟨acc, ρ⟩ ⟨f, left, T, ea, er, hf, N, hl, hT⟩
      have ea : acc = _ := ea
      have er : ρ = _ := er
      subst ea er
      have ln : left = [] := List.eq_nil_of_length_eq_zero (by omega)
      subst ln
      have imf := hf.imm
      have aw := as_web_ok (T := T) (x := .flst (rows.map flR)) (.inr (.inr rfl)) R hT hn
      simp [hT, big_ok (n := n) (by omega), aw, immL_flR, -List.map_map]
      exact ⟨rows, n, namesOf T, f, rfl, G, n1, n2, N, hf.mono (by omega)⟩
  · have aw := as_web_ok (T := T0) (x := .flst (rows.map flR)) (.inr (.inr rfl)) R L0 hn
    simp [e2, im1, im2, c, L0, big_ok (n := n) (by omega), aw, immL_flR, -List.map_map]
    exact ⟨rows, n, namesOf T0, f2, rfl, G, n1, n2, N0, hf2.mono (by omega)⟩
end RB
/-! Small facts of data: cuts of lists, texts of rows, pairs. -/
namespace WD
open PySem PySem.Spec L2 DL WA RM WB WC RP
theorem spot_lt {w : List (List Int)} {n : Nat} (W : IsWeb w n) {d : Int} (h : 0 ≤ d ∧ d < 2 * (n : Int)) : spotOf w d < w.length := by
  obtain ⟨p, r, hp, _, e, _⟩ := W.at (W.mem.mpr h)
  rw [e]
  exact (List.getElem?_eq_some_iff.mp hp).1
end WD
/-! Sums over a web's darts place by place; lists of numbers by their places; odd and even. -/
namespace WE
open PySem PySem.Spec L2 DL WA RM WB WC WD RP
/-! ### lists by a function of their places -/
def lstF (L : Nat) (σ : Int → Int) : D := .lst (intsD ((up L).map σ))
@[simp] theorem imm_lstF (L : Nat) (σ : Int → Int) : imm (lstF L σ) = false := rfl
/-! ### odd and even -/
/-! ### a place's darts -/
theorem tot_pick {L : Nat} {q v : Int} (g : Int → Int) (h0 : 0 ≤ q) (h1 : q < L) : tot (fun x => g x * if q = x then v else 0) (up L) = g q * v := by
  induction L with
  | zero => omega
  | succ L ih =>
    rw [tot_up_succ]
    by_cases h : q = (L : Int)
    · subst h
      have : tot (fun x => g x * if (L : Int) = x then v else 0) (up L) = 0 := by
        have := tot_congr (g := fun x => g x * if (L : Int) = x then v else 0) (k := fun _ => 0) (a := up L) fun x hx => by
          have := up_mem.mp hx
          show g x * (if (L : Int) = x then v else 0) = 0
          rw [if_neg (by omega), Int.mul_zero]
        rw [this, tot_zero]
      rw [this, if_pos rfl]; omega
    · rw [ih (by omega), if_neg h]; omega
end WE
/-! The places where rooms and asks come to an odd number: the program's count. -/
namespace RP
open PySem PySem.Spec L2 DL WA RM WB WC WD WE
end RP
/-! The second family's lengths; ends of ties, the program's and the laws'. -/
namespace RB
open PySem PySem.Spec L2 DL WA RM WB WC RP RD RF WE
/-! ### ends -/
abbrev endsL (w : List (List Int)) (n : Nat) : D := .lst (((up n).map (endsAt w)).map pairD)
end RB
/-! How far places are, tie by tie till nothing turns: in plain Lean. -/
namespace RB
open PySem PySem.Spec L2 DL WA RM WB WC RP RD RF WE
abbrev Far := Int → Option Int
def oD : Option Int → D
  | none => .non
  | some v => .int v
def lstO (L : Nat) (σ : Far) : D := .lst ((up L).map fun x => oD (σ x))
@[simp] theorem lstO_imm (L : Nat) (σ : Far) : imm (lstO L σ) = false := rfl
def setAt (σ : Far) (q : Int) (v : Int) : Far := fun x => if x = q then some v else σ x
/-! ### compared -/
/-! ### steps, sweeps -/
abbrev St := Far × Far × Bool
def hereAt (w : List (List Int)) (p : Nat) : Int := if p % 2 = 0 then (endsAt w (p / 2 : Nat)).1 else (endsAt w (p / 2 : Nat)).2
def thereAt (w : List (List Int)) (p : Nat) : Int := if p % 2 = 0 then (endsAt w (p / 2 : Nat)).2 else (endsAt w (p / 2 : Nat)).1
def stepBy (w : List (List Int)) (rs : List Int) (s : St) (p : Nat) : St := match s.1 (hereAt w p) with
  | none => s
  | some f => if (match s.1 (thereAt w p) with | none => true | some g => decide (f + itemAt rs (p / 2 : Nat) < g)) = true then (setAt s.1 (thereAt w p) (f + itemAt rs (p / 2 : Nat)), setAt s.2.1 (thereAt w p) p, true) else s
/-! ### what falls -/
def pot (L : Nat) (σ : Far) : Int := tot (fun x => match σ x with | none => 1000 | some v => v) (up L)
def cnt (L : Nat) (σ : Far) : Int := tot (fun x => if (σ x).isSome = true then 1 else 0) (up L)
theorem tot_upd {L : Nat} {q v : Int} (g : Int → Int) (h0 : 0 ≤ q) (h1 : q < L) : tot (fun x => if x = q then v else g x) (up L) = tot g (up L) + (v - g q) := by
  have e : tot (fun x => if x = q then v else g x) (up L) = tot (fun x => g x + 1 * (if q = x then v - g q else 0)) (up L) := tot_congr fun x _ => by
    by_cases h : x = q
    · subst h; simp; omega
    · have h' : ¬ q = x := fun z => h z.symm
      simp [h, h']
  rw [e, tot_add, tot_pick (fun _ => 1) h0 h1]
  omega
def valOf : Option Int → Int
  | none => 1000
  | some v => v
theorem pot_set {L : Nat} {σ : Far} {q v : Int} (h0 : 0 ≤ q) (h1 : q < L) : pot L (setAt σ q v) = pot L σ + (v - valOf (σ q)) := by
  have e1 : pot L (setAt σ q v) = tot (fun x => if x = q then v else valOf (σ x)) (up L) := tot_congr fun x _ => by
    unfold setAt
    by_cases h : x = q <;> simp [h]
    cases σ x <;> rfl
  have e2 : pot L σ = tot (fun x => valOf (σ x)) (up L) := tot_congr fun x _ => by cases σ x <;> rfl
  rw [e1, e2]
  exact tot_upd (fun x => valOf (σ x)) h0 h1
theorem cnt_set {L : Nat} {σ : Far} {q v : Int} (h0 : 0 ≤ q) (h1 : q < L) : cnt L (setAt σ q v) = cnt L σ + (1 - if (σ q).isSome = true then 1 else 0) := by
  have e1 : cnt L (setAt σ q v) = tot (fun x => if x = q then 1 else (if (σ x).isSome = true then 1 else 0)) (up L) := tot_congr fun x _ => by
    unfold setAt
    by_cases h : x = q <;> simp [h]
  rw [e1]
  exact tot_upd (fun x => if (σ x).isSome = true then 1 else 0) h0 h1
theorem tot_le {g k : Int → Int} {l : List Int} (h : ∀ x ∈ l, g x ≤ k x) : tot g l ≤ tot k l := by
  induction l with
  | nil => exact Int.le_refl _
  | cons x l ih =>
    have := h x List.mem_cons_self
    have := ih fun y hy => h y (List.mem_cons_of_mem _ hy)
    simp only [tot]
    omega
theorem cnt_le (L : Nat) (σ : Far) : cnt L σ ≤ L := by
  have := tot_le (g := fun x => if (σ x).isSome = true then 1 else 0) (k := fun _ => 1) (l := up L) fun x _ => by
    show (if _ then (1 : Int) else 0) ≤ 1
    split <;> omega
  rw [tot_one, up_length] at this
  exact this
structure Good (L : Nat) (σ : Far) : Prop where
  some1 : 1 ≤ cnt L σ
  small : ∀ x v, σ x = some v → 0 ≤ v ∧ v ≤ 6 * (cnt L σ - 1)
theorem Good.low {L : Nat} {σ : Far} (h : Good L σ) (hL : L ≤ 24) {x v : Int} (e : σ x = some v) : 0 ≤ v ∧ v ≤ 138 := by
  have := h.small x v e
  have := cnt_le L σ
  omega
theorem Good.step {w : List (List Int)} {rs : List Int} {L : Nat} {s : St} {p : Nat} (h : Good L s.1) (hL : L ≤ 24) (hr : 0 ≤ itemAt rs (p / 2 : Nat) ∧ itemAt rs (p / 2 : Nat) ≤ 6) (ht : 0 ≤ thereAt w p ∧ thereAt w p < L) :
    Good L (stepBy w rs s p).1 ∧ (stepBy w rs s p = s ∨ (stepBy w rs s p).2.2 = true ∧ pot L (stepBy w rs s p).1 < pot L s.1) := by
  unfold stepBy
  generalize itemAt rs ((p / 2 : Nat) : Int) = l at hr ⊢
  cases e : s.1 (hereAt w p) with
  | none => exact ⟨h, .inl rfl⟩
  | some f =>
    have hf := h.small _ _ e
    have lf := h.low hL e
    simp only
    cases e2 : s.1 (thereAt w p) with
    | none =>
      simp only [if_true]
      have hp := pot_set (σ := s.1) (v := f + l) ht.1 ht.2
      have hc := cnt_set (σ := s.1) (v := f + l) ht.1 ht.2
      rw [e2] at hp hc
      simp [valOf] at hp hc
      have s1 := h.some1
      refine ⟨⟨by omega, fun x v hx => ?_⟩, .inr ⟨trivial, by omega⟩⟩
      unfold setAt at hx
      split at hx
      · cases hx; omega
      · have := h.small x v hx; omega
    | some g =>
      by_cases c : f + l < g
      · simp only [c, decide_true, if_true]
        have hp := pot_set (σ := s.1) (v := f + l) ht.1 ht.2
        have hc := cnt_set (σ := s.1) (v := f + l) ht.1 ht.2
        rw [e2] at hp hc
        simp [valOf] at hp hc
        have s1 := h.some1
        have sg := h.small _ _ e2
        refine ⟨⟨by omega, fun x v hx => ?_⟩, .inr ⟨trivial, by omega⟩⟩
        unfold setAt at hx
        split at hx
        · cases hx; omega
        · have := h.small x v hx; omega
      · simp only [c, decide_false]
        exact ⟨h, .inl rfl⟩
end RB
/-! How far places are: the program's walk, the laws'. -/
namespace RB
open PySem PySem.Spec L2 DL WA RM WB WC RP RD RF WE
@[simp] theorem isNotN_oD (o : Option Int) : dIsNotN (oD o) .non = some (.bl o.isSome) := by cases o <;> rfl
@[simp] theorem isN_oD (o : Option Int) : dIsN (oD o) .non = some (.bl (!o.isSome)) := by cases o <;> rfl
@[simp] theorem isNotN_int (i : Int) : dIsNotN (.int i) .non = some (.bl true) := rfl
@[simp] theorem isN_int (i : Int) : dIsN (.int i) .non = some (.bl false) := rfl
@[simp] theorem isNotN_non : dIsNotN .non .non = some (.bl false) := rfl
@[simp] theorem isN_non : dIsN .non .non = some (.bl true) := rfl
end RB
/-! Distances told; the chain of places. -/
namespace RB
open PySem PySem.Spec L2 DL WA RM WB WC RP RD RF WE WD
/-! ### a chain of places -/
end RB
/-! Webs that are grown hang together. -/
namespace WF
open PySem PySem.Spec L2 DL WA RM WB WC RD
/-- who goes around rows and across ties comes everywhere -/
def Hangs (rows : List (List Int)) (n : Nat) : Prop := ∀ P : Int → Prop, (∀ r ∈ rows, ∀ x ∈ r, ∀ y ∈ r, P x → P y) → (∀ d, 0 ≤ d ∧ d < 2 * (n : Int) → P d → P (otherOf d)) → ∀ a b, 0 ≤ a ∧ a < 2 * (n : Int) → 0 ≤ b ∧ b < 2 * (n : Int) → P a → P b
end WF
/-! How places are come to: back by the darts they were come to by last, at the end. -/
namespace RB
open PySem PySem.Spec L2 DL WA RM WB WC RP RD RF WE
abbrev lenAt (rs : List Int) (p : Nat) : Int := itemAt rs (p / 2 : Nat)
/-- o: the places that were come to, the last ones first -/
structure Came (w : List (List Int)) (n : Nat) (rs : List Int) (one : Int) (σ τ : Far) (o : List Int) : Prop where
  once : o.Nodup
  mem : ∀ x, x ∈ o ↔ (σ x).isSome = true
  base : σ one = some 0
  back : ∀ x ∈ o, x ≠ one → ∃ (p : Nat) (v u : Int), p < 2 * n ∧ τ x = some (p : Int) ∧ thereAt w p = x ∧ σ x = some v ∧ σ (hereAt w p) = some u ∧ u + lenAt rs p ≤ v ∧ (u + lenAt rs p = v → [x, hereAt w p].Sublist o)
theorem sub_erase {x y t : Int} {o : List Int} (h : [x, y].Sublist o) (hx : x ≠ t) (hy : y ≠ t) : [x, y].Sublist (t :: o.erase t) := by
  have := h.erase t
  rw [List.erase_of_not_mem (by simp; exact ⟨fun z => hx z.symm, fun z => hy z.symm⟩)] at this
  exact this.cons t
theorem Came.set {w : List (List Int)} {n : Nat} {rs : List Int} {one : Int} {σ τ : Far} {o : List Int} (c : Came w n rs one σ τ o) (nn : ∀ x v, σ x = some v → 0 ≤ v) {p : Nat} (hp : p < 2 * n) (hl : 0 ≤ lenAt rs p) {f : Int} (hf : σ (hereAt w p) = some f)
    (less : ∀ g, σ (thereAt w p) = some g → f + lenAt rs p < g) : Came w n rs one (setAt σ (thereAt w p) (f + lenAt rs p)) (setAt τ (thereAt w p) p) (thereAt w p :: o.erase (thereAt w p)) := by
  have f0 := nn _ _ hf
  have notOne : thereAt w p ≠ one := fun z => by
    have := less 0 (by rw [z]; exact c.base)
    omega
  have apart : hereAt w p ≠ thereAt w p := fun z => by
    rw [z] at hf
    have := less f hf
    omega
  have hIn : hereAt w p ∈ o := (c.mem _).mpr (by rw [hf]; rfl)
  refine ⟨?_, fun x => ?_, ?_, fun x hx h1 => ?_⟩
  · exact List.nodup_cons.mpr ⟨fun z => (c.once.mem_erase_iff.mp z).1 rfl, c.once.erase _⟩
  · rw [List.mem_cons]
    unfold setAt
    by_cases e : x = thereAt w p
    · simp [e]
    · rw [if_neg e, ← c.mem x, c.once.mem_erase_iff]
      simp [e]
  · unfold setAt
    rw [if_neg fun z => notOne z.symm]
    exact c.base
  · by_cases e : x = thereAt w p
    · subst e
      refine ⟨p, f + lenAt rs p, f, hp, if_pos rfl, rfl, if_pos rfl, ?_, Int.le_refl _, fun _ => ?_⟩
      · unfold setAt; rw [if_neg apart]; exact hf
      · exact List.Sublist.cons_cons _ (List.singleton_sublist.mpr (c.once.mem_erase_iff.mpr ⟨apart, hIn⟩))
    · have hx' : x ∈ o := by
        rcases List.mem_cons.mp hx with z | z
        · exact absurd z e
        · exact (c.once.mem_erase_iff.mp z).2
      obtain ⟨q, v, u, b1, b2, b3, b4, b5, b6, b7⟩ := c.back x hx' h1
      by_cases ey : hereAt w q = thereAt w p
      · have := less u (by rw [← ey]; exact b5)
        refine ⟨q, v, f + lenAt rs p, b1, ?_, b3, ?_, ?_, by omega, fun z => by omega⟩
        · unfold setAt; rw [if_neg e]; exact b2
        · unfold setAt; rw [if_neg e]; exact b4
        · unfold setAt; rw [if_pos ey]
      · refine ⟨q, v, u, b1, ?_, b3, ?_, ?_, b6, fun z => sub_erase (b7 z) e ey⟩
        · unfold setAt; rw [if_neg e]; exact b2
        · unfold setAt; rw [if_neg e]; exact b4
        · unfold setAt; rw [if_neg ey]; exact b5
theorem Came.step {w : List (List Int)} {n : Nat} {rs : List Int} {one : Int} {s : St} {o : List Int} (c : Came w n rs one s.1 s.2.1 o) (nn : ∀ x v, s.1 x = some v → 0 ≤ v) {p : Nat} (hp : p < 2 * n) (hl : 0 ≤ lenAt rs p) :
    ∃ o', Came w n rs one (stepBy w rs s p).1 (stepBy w rs s p).2.1 o' := by
  unfold stepBy
  cases e : s.1 (hereAt w p) with
  | none => exact ⟨o, c⟩
  | some f =>
    simp only
    cases e2 : s.1 (thereAt w p) with
    | none => exact ⟨_, c.set nn hp hl e fun g hg => by rw [e2] at hg; cases hg⟩
    | some g =>
      by_cases d : f + itemAt rs (p / 2 : Nat) < g
      · simp only [d, decide_true, if_true]
        exact ⟨_, c.set nn hp hl e fun g' hg => by rw [e2] at hg; cases hg; exact d⟩
      · simp only [d, decide_false]
        exact ⟨o, c⟩
end RB
/-! A least way, back from its end. -/
namespace RB
open PySem PySem.Spec L2 DL WA RM WB WC RP RD RF WE WF
end RB
/-! The second family's webs hang together; a chain's two ends. -/
namespace RB
open PySem PySem.Spec L2 DL WA RM WB WC RP RD RF WE WF
end RB
/-! The third family's draws: the count of cells goes into what is drawn. -/
namespace RC
open PySem PySem.Spec L2 DL WA RM WB WC
def feed3 (cs : List Int) (a l : Int) : D := .lst [.flst (cs.map .int), .int a, .int l]
/-- a feed of which at most k cells were taken -/
def IsF (k : Nat) (d : D) : Prop := ∃ cs a l, d = feed3 cs a l ∧ 0 ≤ a ∧ a ≤ (k : Int)
@[simp] theorem feed3_imm (cs : List Int) (a l : Int) : imm (feed3 cs a l) = false := rfl
@[simp] theorem feed3_0 (cs : List Int) (a l : Int) : dSubs (feed3 cs a l) (.int 0) = some (.flst (cs.map .int)) := dSubs_seq (ds := [.flst (cs.map .int), .int a, .int l]) rfl (by decide) rfl (immL_ints _)
@[simp] theorem feed3_1 (cs : List Int) (a l : Int) : dSubs (feed3 cs a l) (.int 1) = some (.int a) := rfl
@[simp] theorem feed3_2 (cs : List Int) (a l : Int) : dSubs (feed3 cs a l) (.int 2) = some (.int l) := rfl
@[simp] theorem feed3_p1 (cs : List Int) (a l u : Int) : dStore (feed3 cs a l) (.int 1) (.int u) = some (feed3 cs u l) := rfl
@[simp] theorem feed3_p2 (cs : List Int) (a l u : Int) : dStore (feed3 cs a l) (.int 2) (.int u) = some (feed3 cs a u) := rfl
theorem IsF.imm {k : Nat} {d : D} (h : IsF k d) : imm d = false := by obtain ⟨_, _, _, rfl, _⟩ := h; rfl
theorem IsF.mono {k k' : Nat} {d : D} (h : IsF k d) (hk : k ≤ k') : IsF k' d := by
  obtain ⟨cs, a, l, e, h0, h1⟩ := h
  exact ⟨cs, a, l, e, h0, by omega⟩
end RC
/-! The third family: what is behind a dart; rings; darts laid ahead. -/
namespace RC
open PySem PySem.Spec L2 DL WA RM WB WC RD RB
/-- rows that are only read: as a list's lists, or as a web -/
def Reads (x y : D) (emb : List Int → D) (rows : List (List Int)) : Prop := frzD x = some y ∧ ((emb = flR ∧ y = .flst (rows.map flR)) ∨ (emb = rowD ∧ y = webD rows))
theorem Reads.frz {x y : D} {emb : List Int → D} {rows : List (List Int)} (h : Reads x y emb rows) : frzD x = some y := h.1
theorem Reads.imm {x y : D} {emb : List Int → D} {rows : List (List Int)} (h : Reads x y emb rows) : imm y = true := by
  rcases h.2 with ⟨_, rfl⟩ | ⟨_, rfl⟩
  · exact immL_flR rows
  · exact imm_rows rows
/-! ### a dart laid ahead of another one -/
end RC
/-! The third family: turns, webs called by them. -/
namespace RC
open PySem PySem.Spec L2 DL WA RM WB WC RP RD RB
/-! ### a row begun with its least -/
/-- a turn as it stands -/
def TurnD (t : D) (T : List Int) : Prop := t = .lst (intsD T) ∨ t = rowD T
theorem TurnD.seq {t : D} {T : List Int} (h : TurnD t T) : seqOf t = some (intsD T) := by rcases h with rfl | rfl <;> rfl
end RC
/-! The third family: drawn turns, drawn webs. -/
/-! Webs numbered from a dart: places entered one behind the other. -/
namespace RC
open PySem PySem.Spec L2 DL WA RM WB WC RP RD RB WF
/-! ### one place behind the other -/
structure St where
  ev : List Int
  en : List (List Int)
end RC
/-! The first ask off a rim: the program's, the law's own. -/
namespace RF
open PySem PySem.Spec L2 DL WA RM WB WC RP RD
def offR (ps : List Int) (a : Int × Int) : Bool := decide (a.1 ∉ ps) || decide (a.2 ∉ ps)
def firstOff (ps : List Int) (as : List (Int × Int)) : D := match as.findIdx? (offR ps) with
  | some k => .int (k : Nat)
  | none => .non
theorem off_first {ps : List Int} {as : List (Int × Int)} {k : Nat} {a : Int × Int} (h : as[k]? = some a) (ha : offR ps a = true) (hn : ∀ x ∈ as.take k, offR ps x = false) : firstOff ps as = .int (k : Nat) := by
  obtain ⟨lt, e⟩ := List.getElem?_eq_some_iff.mp h
  have : as.findIdx? (offR ps) = some k := by
    rw [List.findIdx?_eq_some_iff_getElem]
    refine ⟨lt, by rw [e]; exact ha, fun j hj => ?_⟩
    have := hn as[j] (List.mem_take_iff_getElem.mpr ⟨j, by omega, rfl⟩)
    simp [this]
  unfold firstOff
  rw [this]
theorem off_none {ps : List Int} {as : List (Int × Int)} (hn : ∀ x ∈ as, offR ps x = false) : firstOff ps as = .non := by
  have : as.findIdx? (offR ps) = none := by
    rw [List.findIdx?_eq_none_iff]
    exact fun x hx => hn x hx
  unfold firstOff
  rw [this]
theorem take_next {α : Type} {l : List α} {k : Nat} {a : α} {P : α → Prop} (h : l[k]? = some a) (hp : ∀ x ∈ l.take k, P x) (ha : P a) : ∀ x ∈ l.take (k + 1), P x := by
  rw [List.take_add_one, h]
  intro x hx
  rcases List.mem_append.mp hx with z | z
  · exact hp x z
  · simp at z; exact z ▸ ha
def bDue : FS := fSeq (fFor (fRng1 (fCons (fCall dLen (fCons (fVar 1) (fNil))) (fNil))) (fgName 2) (fIfS (fOr (fTest (fOp dNotIn (fOp dSubs (fOp dSubs (fVar 1) (fVar 2)) (fC (.int 0))) (fVar 0))) (fTest (fOp dNotIn (fOp dSubs (fOp dSubs (fVar 1) (fVar 2)) (fC (.int 1))) (fVar 0)))) (fRet (fVar 2)) (fSkip))) (fRet (fC .non))
def DuI (y : D) (ps : List Int) (as : List (Int × Int)) (k : Nat) (ρ : Fm) : Prop := ∃ o2, ρ = [some y, some (asksD as), o2] ∧ ∀ x ∈ as.take k, offR ps x = false
def DuP (y : D) (ps : List Int) (as : List (Int × Int)) (x : Fl × Fm) : Prop := ∃ o2, x.2 = [some y, some (asksD as), o2] ∧ ((x.1 = .nx ∧ firstOff ps as = .non) ∨ x.1 = .ret (firstOff ps as))
theorem subs_ask {as : List (Int × Int)} {k : Nat} {a : Int × Int} (h : as[k]? = some a) : dSubs (asksD as) (.int k) = some (pairD a) := dSubs_seq rfl (by omega) (by rw [Int.toNat_natCast, List.getElem?_map, h]; rfl) (imm_pair a)
theorem due_ok {y : D} {ps : List Int} (hy : isInts y ps) {as : List (Int × Int)} (hl : as.length ≤ 1000) {due : Den} (hb : due = denOf 3 2 [2] bDue) : due [y, asksD as] = some (firstOff ps as, [some y, some (asksD as)]) := by
  subst hb
  have main : Ok (denOf 3 2 [2] bDue [y, asksD as]) fun x => x = (firstOff ps as, [some y, some (asksD as)]) := by
    have ok1 : okR (as.length : Int) = true := okR_of' (by omega) (by omega)
    simp [bDue, denOf, ok1, ok_bind]
    refine ok_mono (ok_iota (n := as.length) (P := DuP y ps as) (DuI y ps as) ?_ ?_ ⟨none, rfl, fun x h => by simp at h⟩) ?_
    · rintro p ρ hp ⟨o2, rfl, hn⟩
      have ha : as[p]? = some as[p] := List.getElem?_eq_getElem hp
      generalize as[p] = a at ha
      have s := subs_ask ha
      have n1 : dNotIn (.int a.1) y = some (.bl (!decide (a.1 ∈ ps))) := notIn_l hy
      have n2 : dNotIn (.int a.2) y = some (.bl (!decide (a.2 ∈ ps))) := notIn_l hy
      by_cases c1 : a.1 ∈ ps
      · by_cases c2 : a.2 ∈ ps
        · simp [s, pair_0, pair_1, n1, n2, c1, c2]
          exact ⟨_, rfl, take_next ha hn (by simp [offR, c1, c2])⟩
        · have := off_first ha (by simp [offR, c2]) hn
          simp [s, pair_0, pair_1, n1, n2, c1, c2]
          exact ⟨_, rfl, .inr (by rw [this])⟩
      · have := off_first ha (by simp [offR, c1]) hn
        simp [s, pair_0, pair_1, n1, c1]
        exact ⟨_, rfl, .inr (by rw [this])⟩
    · rintro ρ ⟨o2, rfl, hn⟩
      rw [List.take_length] at hn
      exact ⟨_, rfl, .inl ⟨rfl, off_none hn⟩⟩
    · rintro ⟨o, ρ⟩ ⟨o2, e, h⟩
      have e : ρ = _ := e
      subst e
      rcases h with ⟨ho, e1⟩ | ho
      · have ho : o = .nx := ho
        subst ho
        simp [e1]
      · have ho : o = _ := ho
        subst ho
        simp
  obtain ⟨x, e, rfl⟩ := main
  exact e
end RF
/-! Webs numbered from a dart by the program; likeness of rows. -/
/-! The turn by which darts are the even ones; numbered from a dart by the laws. -/
/-! Numbered from a dart by the laws. -/
/-! Rows begun otherwise; rows in order; webs whose darts are called otherwise. -/
namespace RC
open PySem PySem.Spec L2 DL WA RM WB WC RP RD RB WF
/-! ### begun otherwise -/
/-! ### rows in order -/
/-! ### called otherwise -/
/-- what may call darts: one for each, ties kept -/
structure Calls (n : Nat) (f : Int → Int) : Prop where
  rng : ∀ d, 0 ≤ d ∧ d < 2 * (n : Int) → 0 ≤ f d ∧ f d < 2 * (n : Int)
  inj : ∀ d e, (0 ≤ d ∧ d < 2 * (n : Int)) → (0 ≤ e ∧ e < 2 * (n : Int)) → f d = f e → d = e
  oth : ∀ d, 0 ≤ d ∧ d < 2 * (n : Int) → f (otherOf d) = otherOf (f d)
theorem Calls.comp {n : Nat} {f g : Int → Int} (F : Calls n f) (G : Calls n g) : Calls n fun d => g (f d) :=
  ⟨fun d hd => G.rng _ (F.rng d hd), fun d e hd he h => F.inj d e hd he (G.inj _ _ (F.rng d hd) (F.rng e he) h), fun d hd => by rw [F.oth d hd, G.oth _ (F.rng d hd)]⟩
end RC
/-! Numbering goes along with other names. -/
/-! What comes of a web by numbering; mirrored webs; likeness of webs; sorted numbers. -/
/-! Ends of ties, ties across a side, darts of ties at places. -/
namespace RE
open PySem PySem.Spec L2 DL WA RM WB WC RP RD RB WE WF
theorem up_get' {n p : Nat} (h : p < n) : (up n)[p]? = some (p : Int) := by
  unfold up
  rw [List.getElem?_map, List.getElem?_range h]; rfl
theorem filter_up_len (q : Int → Bool) (p : Nat) : ((up p).filter q).length ≤ p := by
  have := List.length_filter_le q (up p)
  rwa [up_length] at this
section
variable {w : List (List Int)} {n : Nat}
/-! ### across -/
def EndsD (x : D) (w : List (List Int)) (n : Nat) : Prop := (x = endsL w n ∨ x = .flst (((up n).map (endsAt w)).map pairD))
theorem EndsD.get {x : D} (h : EndsD x w n) {t : Nat} (ht : t < n) : dSubs x (.int t) = some (pairD (endsAt w t)) := by
  rcases h with rfl | rfl <;> exact dSubs_seq rfl (by omega) (by rw [Int.toNat_natCast, List.getElem?_map, List.getElem?_map, up_get' ht]; rfl) rfl
theorem EndsD.len {x : D} (h : EndsD x w n) : dLen [x] = some (.int n) := by
  rcases h with rfl | rfl <;> simp [up_length]
/-! ### even -/
end
end RE
/-! Labels of places: alike just where ties join them. -/
namespace RE
open PySem PySem.Spec L2 DL WA RM WB WC RP RD RB WE WF
/-! ### sorted numbers -/
def leB (a b : Int) : Bool := decide (a ≤ b)
def srt (l : List Int) : List Int := l.mergeSort leB
theorem srt_perm (l : List Int) : (srt l).Perm l := List.mergeSort_perm l leB
theorem srt_rises (l : List Int) : (srt l).Pairwise (· ≤ ·) := by
  have := List.pairwise_mergeSort (le := leB) (fun a b c h1 h2 => by
    unfold leB at *
    simp only [decide_eq_true_iff] at *
    omega) (fun a b => by
    unfold leB
    rw [Bool.or_eq_true, decide_eq_true_iff, decide_eq_true_iff]
    omega) l
  exact this.imp fun h => of_decide_eq_true h
theorem rises_one {a b : List Int} (p : a.Perm b) (ha : a.Pairwise (· ≤ ·)) (hb : b.Pairwise (· ≤ ·)) : a = b :=
  p.eq_of_pairwise (fun x y _ _ h1 h2 => Int.le_antisymm h1 h2) ha hb
theorem srt_of {l s : List Int} (p : l.Perm s) (hs : s.Pairwise (· ≤ ·)) : srt l = s := rises_one ((srt_perm l).trans p) (srt_rises l) hs
theorem sorted_ints (l : List Int) : dSorted [.lst (intsD l)] = some (.lst (intsD (srt l))) := by
  have each : ∀ d ∈ (intsD l).map toP, ∃ i : Int, d = .int i := fun d hd => by
    simp at hd
    obtain ⟨i, _, rfl⟩ := hd
    exact ⟨i, rfl⟩
  have s1 : sortable ((intsD l).map toP) = true := by
    unfold sortable
    rw [Bool.or_eq_true]
    refine .inr (List.all_eq_true.mpr fun d hd => ?_)
    obtain ⟨i, rfl⟩ := each d hd
    rfl
  have s2 : allAlike ((intsD l).map toP) = true := List.all_eq_true.mpr fun d hd => List.all_eq_true.mpr fun e he => by
    obtain ⟨i, rfl⟩ := each d hd
    obtain ⟨j, rfl⟩ := each e he
    rfl
  have s3 : ∀ d ∈ intsD l, (toP d).depth ≤ 32 := fun d hd => by
    obtain ⟨i, _, rfl⟩ := List.mem_map.1 hd
    exact Nat.zero_le _
  have s4 : (intsD l).mergeSort (PySem.W.dataLe false toP) = intsD (srt l) := by
    have le := PySem.W.dataLe_int (fun i : Int => i)
    exact (List.map_mergeSort (f := D.int) fun a _ b _ => (congrFun (congrFun le a) b).symm).symm
  show (if noDicL (intsD l) = true ∧ immL (intsD l) = true ∧ sortable ((intsD l).map toP) = true ∧ allAlike ((intsD l).map toP) = true ∧ (∀ d ∈ intsD l, (toP d).depth ≤ 32) then some (D.lst ((intsD l).mergeSort (PySem.W.dataLe false toP))) else none) = _
  rw [if_pos ⟨noDic_ints l, immL_ints l, s1, s2, s3⟩, s4]
/-! ### joined by ties -/
inductive Jn (E : Int → Int × Int) (ts : List Int) : Int → Int → Prop
  | refl (a : Int) : Jn E ts a a
  | symm {a b : Int} : Jn E ts a b → Jn E ts b a
  | trans {a b c : Int} : Jn E ts a b → Jn E ts b c → Jn E ts a c
  | tie {t : Int} : t ∈ ts → Jn E ts (E t).1 (E t).2
theorem Jn.mono {E : Int → Int × Int} {ts us : List Int} (h : ∀ t ∈ ts, t ∈ us) {a b : Int} (j : Jn E ts a b) : Jn E us a b := by
  induction j with
  | refl a => exact .refl a
  | symm _ ih => exact .symm ih
  | trans _ _ i1 i2 => exact .trans i1 i2
  | tie m => exact .tie (h _ m)
/-- what ties keep, joining keeps -/
theorem Jn.keeps {E : Int → Int × Int} {ts : List Int} {P : Int → Prop} (h : ∀ t ∈ ts, P (E t).1 ↔ P (E t).2) {a b : Int} (j : Jn E ts a b) : P a ↔ P b := by
  induction j with
  | refl a => exact Iff.rfl
  | symm _ ih => exact ih.symm
  | trans _ _ i1 i2 => exact i1.trans i2
  | tie m => exact h _ m
/-! ### the law's labels -/
section
variable {w : List (List Int)} {n : Nat}
/-- ties as a list or a tuple, how they come and how they are left -/
def TiesD (x y : D) (ts : List Int) : Prop := frzD x = some y ∧ (y = .flst (intsD ts) ∨ y = rowD ts)
theorem TiesD.seq {x y : D} {ts : List Int} (h : TiesD x y ts) : ∀ ρ : Fm, ∀ i, slot ρ i = some x → fSeqI (fFrz (fVar i)) ρ = some (intsD ts, ρ.set i (some y)) := by
  intro ρ i e
  rcases h with ⟨h, rfl | rfl⟩
  · simp [e, h]
  · simp [e, h, rowD]
/-! ### the program's labels -/
end
end RE
/-! The side across which just some ties go: the program's search. -/
namespace RE
open PySem PySem.Spec L2 DL WA RM WB WC RP RD RB WE WF
def spI (w : List (List Int)) (d : Int) : Int := spotOf w d
theorem dart_tie {d : Int} (h : 0 ≤ d) : (d = 2 * d.fdiv 2 ∧ otherOf d = 2 * d.fdiv 2 + 1) ∨ (d = 2 * d.fdiv 2 + 1 ∧ otherOf d = 2 * d.fdiv 2) := by
  have e1 : d.fdiv 2 = d / 2 := Int.fdiv_eq_ediv_of_nonneg _ (by decide)
  rw [e1]
  have hd : d = 2 * (d / 2) ∨ d = 2 * (d / 2) + 1 := by omega
  rcases hd with z | z
  · left
    exact ⟨z, (congrArg otherOf z).trans (otherOf_even _)⟩
  · right
    exact ⟨z, (congrArg otherOf z).trans (otherOf_odd _)⟩
theorem tie_in {n : Nat} {d : Int} (h : 0 ≤ d ∧ d < 2 * (n : Int)) : 0 ≤ d.fdiv 2 ∧ d.fdiv 2 < n := by
  rw [Int.fdiv_eq_ediv_of_nonneg _ (by decide)]
  omega
theorem parted_dart {w : List (List Int)} {S : List Int} {d : Int} (h : 0 ≤ d) : parted S (endsAt w (d.fdiv 2)) = (decide (spI w d ∈ S) != decide (spI w (otherOf d) ∈ S)) := by
  have pe : parted S (endsAt w (d.fdiv 2)) = (decide (spI w (2 * d.fdiv 2) ∈ S) != decide (spI w (2 * d.fdiv 2 + 1) ∈ S)) := by
    unfold parted endsAt spI
    generalize decide (((spotOf w (2 * d.fdiv 2) : Nat) : Int) ∈ S) = a
    generalize decide (((spotOf w (2 * d.fdiv 2 + 1) : Nat) : Int) ∈ S) = b
    cases a <;> cases b <;> rfl
  rw [pe]
  rcases dart_tie h with ⟨a, b⟩ | ⟨a, b⟩
  · rw [b, ← a]
  · rw [b, ← a]
    generalize decide (spI w d ∈ S) = x
    generalize decide (spI w (2 * d.fdiv 2) ∈ S) = y
    cases x <;> cases y <;> rfl
def xb (a b : Bool) : Bool := a != b
/-- just these ties part it -/
def Parts (w : List (List Int)) (n : Nat) (ts S : List Int) : Prop := 0 ∉ S ∧ ∀ t, 0 ≤ t ∧ t < (n : Int) → parted S (endsAt w t) = decide (t ∈ ts)
theorem Parts.dart {w : List (List Int)} {n : Nat} {ts S : List Int} (h : Parts w n ts S) {d : Int} (hd : 0 ≤ d ∧ d < 2 * (n : Int)) : decide (spI w (otherOf d) ∈ S) = xb (decide (spI w d ∈ S)) (decide (d.fdiv 2 ∈ ts)) := by
  have a := parted_dart (w := w) (S := S) hd.1
  rw [h.2 _ (tie_in hd)] at a
  rw [a]
  generalize decide (spI w d ∈ S) = x
  generalize decide (spI w (otherOf d) ∈ S) = y
  cases x <;> cases y <;> rfl
def DoneS (w : List (List Int)) (ts wt : List Int) (c : Int → Bool) (d : Int) : Prop := spI w d ∈ wt ∧ spI w (otherOf d) ∈ wt ∧ c (spI w (otherOf d)) = (xb (c (spI w d)) (decide (d.fdiv 2 ∈ ts)))
structure Sd (w : List (List Int)) (n : Nat) (ts wt : List Int) (c : Int → Bool) : Prop where
  seen : Seen w.length wt
  zero : wt[0]? = some 0
  c0 : c 0 = false
  sound : ∀ S, Parts w n ts S → ∀ p ∈ wt, c p = decide (p ∈ S)
def updB (c : Int → Bool) (q : Int) (b : Bool) : Int → Bool := fun p => if p = q then b else c p
section
variable {w : List (List Int)} {n : Nat} {ts wt : List Int} {c : Int → Bool}
theorem sp_in (W : IsWeb w n) {d : Int} (h : 0 ≤ d ∧ d < 2 * (n : Int)) : 0 ≤ spI w d ∧ spI w d < w.length := by
  have := WD.spot_lt W h
  unfold spI
  omega
theorem Sd.add (W : IsWeb w n) (h : Sd w n ts wt c) {d : Int} (hd : 0 ≤ d ∧ d < 2 * (n : Int)) (hp : spI w d ∈ wt) (hq : spI w (otherOf d) ∉ wt) :
    Sd w n ts (wt ++ [spI w (otherOf d)]) (updB c (spI w (otherOf d)) (xb (c (spI w d)) (decide (d.fdiv 2 ∈ ts)))) where
  seen := h.seen.add (sp_in W (other_in hd)) hq
  zero := by
    rw [List.getElem?_append_left (by have := (List.getElem?_eq_some_iff.mp h.zero).1; exact this)]
    exact h.zero
  c0 := by
    unfold updB
    rw [if_neg fun z => hq (by rw [← z]; exact List.mem_of_getElem? h.zero)]
    exact h.c0
  sound S hS p hm := by
    unfold updB
    rcases List.mem_append.1 hm with m | m
    · rw [if_neg fun z => hq (by rw [← z]; exact m)]
      exact h.sound S hS p m
    · rw [List.mem_singleton.1 m, if_pos rfl, hS.dart hd, h.sound S hS _ hp]
theorem DoneS.more {e q : Int} {b : Bool} (h : DoneS w ts wt c e) (hq : q ∉ wt) : DoneS w ts (wt ++ [q]) (updB c q b) e := by
  obtain ⟨h1, h2, h3⟩ := h
  refine ⟨List.mem_append_left _ h1, List.mem_append_left _ h2, ?_⟩
  unfold updB
  rw [if_neg fun z => hq (by rw [← z]; exact h2), if_neg fun z => hq (by rw [← z]; exact h1)]
  exact h3
/-- all darts at the first i places waiting are done -/
def Upto (w : List (List Int)) (n : Nat) (ts wt : List Int) (c : Int → Bool) (i : Nat) : Prop := ∀ j < i, ∀ d, 0 ≤ d ∧ d < 2 * (n : Int) → wt[j]? = some (spI w d) → DoneS w ts wt c d
theorem Upto.more {i : Nat} {q : Int} {b : Bool} (h : Upto w n ts wt c i) (hi : i ≤ wt.length) (hq : q ∉ wt) : Upto w n ts (wt ++ [q]) (updB c q b) i := fun j hj d hd e => by
  rw [List.getElem?_append_left (by omega)] at e
  exact (h j hj d hd e).more hq
theorem Upto.all (W : IsWeb w n) (H : Hangs w n) (s : Sd w n ts wt c) (h : Upto w n ts wt c wt.length) : ∀ d, 0 ≤ d ∧ d < 2 * (n : Int) → DoneS w ts wt c d := by
  have don : ∀ d, 0 ≤ d ∧ d < 2 * (n : Int) → spI w d ∈ wt → DoneS w ts wt c d := fun d hd m => by
    obtain ⟨j, lt, e⟩ := List.getElem_of_mem m
    exact h j lt d hd (by rw [List.getElem?_eq_getElem lt, e])
  -- a dart at place 0
  have z0 : (0 : Int) ∈ wt := List.mem_of_getElem? s.zero
  have l0 := (s.seen.2 0 z0).2
  obtain ⟨r, hr⟩ : ∃ r, w[0]? = some r := ⟨_, List.getElem?_eq_getElem (by omega)⟩
  obtain ⟨a, ha⟩ : ∃ a, a ∈ r := List.exists_mem_of_ne_nil r (W.ne r (List.mem_of_getElem? hr))
  have ra : 0 ≤ a ∧ a < 2 * (n : Int) := W.mem.mp (List.mem_flatten.mpr ⟨r, List.mem_of_getElem? hr, ha⟩)
  have sa : spI w a = 0 := by
    unfold spI
    rw [W.place hr ha]; rfl
  intro d hd
  refine don d hd (H (fun x => spI w x ∈ wt) (fun r hr x hx y hy m => ?_) (fun x hx m => (don x hx m).2.1) a d ra hd (by
    show spI w a ∈ wt
    rw [sa]; exact z0))
  obtain ⟨p, hp⟩ := List.getElem?_of_mem hr
  have e : spI w x = spI w y := by
    unfold spI
    rw [W.place hp hx, W.place hp hy]
  show spI w y ∈ wt
  rw [← e]; exact m
/-! ### dicts by place -/
/-! ### the walk -/
end
end RE
/-! All sides, the law's search; whether places hang: program and law. -/
namespace RE
open PySem PySem.Spec L2 DL WA RM WB WC RP RD RB WE WF
/-! ### all sides -/
section
variable {w : List (List Int)} {n : Nat}
/-! ### the side -/
/-- ties, rising -/
def Ties (n : Nat) (ts : List Int) : Prop := ts = (up n).filter fun t => decide (t ∈ ts)
theorem Ties.rng {ts : List Int} (h : Ties n ts) : ∀ t ∈ ts, 0 ≤ t ∧ t < (n : Int) := fun t ht => by
  unfold Ties at h
  rw [h] at ht
  exact up_mem.mp (List.mem_filter.1 ht).1
theorem Ties.few {ts : List Int} (h : Ties n ts) : ts.length ≤ n := by
  unfold Ties at h
  rw [h]
  exact filter_up_len _ n
end
end RE
/-! Places that hang by ties within: program and law; some numbers by draws. -/
namespace RE
open PySem PySem.Spec L2 DL WA RM WB WC RP RD RB WE WF
theorem len_sub : ∀ {a b : List Int}, a.Nodup → (∀ x ∈ a, x ∈ b) → a.length ≤ b.length
  | [], b, _, _ => Nat.zero_le _
  | x :: a, b, nd, sub => by
    have m := sub x List.mem_cons_self
    have nd := List.nodup_cons.1 nd
    have := len_sub (b := b.erase x) nd.2 fun y hy => (List.mem_erase_of_ne fun z => nd.1 (by rw [← z]; exact hy)).mpr (sub y (List.mem_cons_of_mem _ hy))
    rw [List.length_erase_of_mem m] at this
    have := List.length_pos_of_mem m
    simp
    omega
theorem same_len {a b : List Int} (ha : a.Nodup) (hb : b.Nodup) (sub : ∀ x ∈ a, x ∈ b) : a.length = b.length ↔ ∀ x ∈ b, x ∈ a := by
  constructor
  · intro e x hx
    refine Decidable.byContradiction fun no => ?_
    have := len_sub (a := x :: a) (b := b) (List.nodup_cons.mpr ⟨no, ha⟩) fun y hy => by
      rcases List.mem_cons.1 hy with rfl | hy
      · exact hx
      · exact sub y hy
    simp at this
    omega
  · intro h
    have h1 := len_sub ha sub
    have h2 := len_sub hb h
    omega
/-- the ties within a side -/
def inner (w : List (List Int)) (n : Nat) (S : List Int) : List Int := (up n).filter fun t => decide ((endsAt w t).1 ∈ S) && decide ((endsAt w t).2 ∈ S)
theorem inner_mem {w : List (List Int)} {n : Nat} {S : List Int} {t : Int} : t ∈ inner w n S ↔ (0 ≤ t ∧ t < (n : Int)) ∧ (endsAt w t).1 ∈ S ∧ (endsAt w t).2 ∈ S := by
  unfold inner
  rw [List.mem_filter, up_mem, Bool.and_eq_true, decide_eq_true_iff, decide_eq_true_iff]
/-- the ends of a dart's tie are the places of both darts -/
theorem dart_ends {w : List (List Int)} {d : Int} (h : 0 ≤ d) : ((endsAt w (d.fdiv 2)).1 = spI w d ∧ (endsAt w (d.fdiv 2)).2 = spI w (otherOf d)) ∨ ((endsAt w (d.fdiv 2)).2 = spI w d ∧ (endsAt w (d.fdiv 2)).1 = spI w (otherOf d)) := by
  rcases dart_tie h with ⟨a, b⟩ | ⟨a, b⟩
  · left
    unfold endsAt
    rw [b, ← a]
    exact ⟨rfl, rfl⟩
  · right
    unfold endsAt
    rw [b, ← a]
    exact ⟨rfl, rfl⟩
theorem jn_dart {w : List (List Int)} {ts : List Int} {d : Int} (h : 0 ≤ d) (m : d.fdiv 2 ∈ ts) : Jn (endsAt w) ts (spI w d) (spI w (otherOf d)) := by
  have t := Jn.tie (E := endsAt w) m
  rcases dart_ends (w := w) h with ⟨a, b⟩ | ⟨a, b⟩
  · rwa [a, b] at t
  · rw [a, b] at t
    exact t.symm
structure Hg (w : List (List Int)) (n : Nat) (S : List Int) (q0 : Int) (wt : List Int) : Prop where
  nd : wt.Nodup
  sub : ∀ p ∈ wt, p ∈ S
  zero : q0 ∈ wt
  jn : ∀ p ∈ wt, Jn (endsAt w) (inner w n S) q0 p
section
variable {w : List (List Int)} {n : Nat} {S wt : List Int} {q0 : Int}
theorem tie_within {d : Int} (hd : 0 ≤ d ∧ d < 2 * (n : Int)) (h1 : spI w d ∈ S) (h2 : spI w (otherOf d) ∈ S) : d.fdiv 2 ∈ inner w n S := by
  refine inner_mem.mpr ⟨tie_in hd, ?_⟩
  rcases dart_ends (w := w) hd.1 with ⟨a, b⟩ | ⟨a, b⟩ <;> rw [a, b]
  · exact ⟨h1, h2⟩
  · exact ⟨h2, h1⟩
theorem Hg.add (h : Hg w n S q0 wt) {d : Int} (hd : 0 ≤ d ∧ d < 2 * (n : Int)) (hp : spI w d ∈ wt) (hq : spI w (otherOf d) ∈ S) (no : spI w (otherOf d) ∉ wt) : Hg w n S q0 (wt ++ [spI w (otherOf d)]) where
  nd := List.nodup_append.mpr ⟨h.nd, by simp, fun a ha b hb e => no (by rw [List.mem_singleton.1 hb] at e; rw [← e]; exact ha)⟩
  sub p m := (List.mem_append.1 m).elim (h.sub p) fun m => by rw [List.mem_singleton.1 m]; exact hq
  zero := List.mem_append_left _ h.zero
  jn p m := (List.mem_append.1 m).elim (h.jn p) fun m => by
    rw [List.mem_singleton.1 m]
    exact (h.jn _ hp).trans (jn_dart hd.1 (tie_within hd (h.sub _ hp) hq))
def UptoH (w : List (List Int)) (n : Nat) (S wt : List Int) (i : Nat) : Prop := ∀ j < i, ∀ d, 0 ≤ d ∧ d < 2 * (n : Int) → wt[j]? = some (spI w d) → spI w (otherOf d) ∈ S → spI w (otherOf d) ∈ wt
theorem UptoH.more {i : Nat} {q : Int} (h : UptoH w n S wt i) (hi : i ≤ wt.length) : UptoH w n S (wt ++ [q]) i := fun j hj d hd e m => by
  rw [List.getElem?_append_left (by omega)] at e
  exact List.mem_append_left _ (h j hj d hd e m)
theorem Hg.whole (h : Hg w n S q0 wt) (u : UptoH w n S wt wt.length) : ∀ p, p ∈ wt ↔ Jn (endsAt w) (inner w n S) q0 p := by
  have dn : ∀ d, 0 ≤ d ∧ d < 2 * (n : Int) → spI w d ∈ wt → spI w (otherOf d) ∈ S → spI w (otherOf d) ∈ wt := fun d hd m => by
    obtain ⟨j, lt, e⟩ := List.getElem_of_mem m
    exact u j lt d hd (by rw [List.getElem?_eq_getElem lt, e])
  intro p
  refine ⟨h.jn p, fun j => ?_⟩
  refine (j.keeps (P := fun x => x ∈ wt) fun t ht => ?_).mp h.zero
  obtain ⟨r, a, b⟩ := inner_mem.mp ht
  have o1 := otherOf_even t
  have o2 := otherOf_odd t
  constructor
  · intro m
    have := dn (2 * t) (by omega) m
    rw [o1] at this
    exact this b
  · intro m
    have := dn (2 * t + 1) (by omega) m
    rw [o2] at this
    exact this a
/-! ### the law's -/
/-! ### some numbers -/
end
end RE
/-! The family of texts: the twenty-four numbers, numbers in words. -/
namespace RZ
open PySem PySem.Spec L2 DL
/-- how a number is written -/
def wd (i : Nat) : Str := toString (i : Int)
def words24 : List Str := (List.range 24).map wd
theorem wd_one : ∀ i ∈ List.range 10, (wd i).cps.toList = [i + 48] := by decide +kernel
theorem wd_two : ∀ i ∈ List.range 24, i < 10 ∨ (wd i).cps.toList = [i / 10 + 48, i % 10 + 48] := by decide +kernel
theorem num_wd : ∀ i ∈ List.range 24, numL (wd i).cps.toList = some i := by decide +kernel
theorem num_inv {l : List Nat} {i : Nat} (h : numL l = some i) (hi : i < 24) : l = (wd i).cps.toList := by
  unfold numL at h
  split at h
  · rename_i c
    obtain ⟨c1, c2, c3, c4⟩ := c
    have h := Option.some.inj h
    have fig : ∀ x ∈ l, 48 ≤ x ∧ x ≤ 57 := fun x hx => by
      have := List.all_eq_true.mp c3 x hx
      unfold isFig at this
      rwa [Bool.and_eq_true, decide_eq_true_iff, decide_eq_true_iff] at this
    match l, c1, c2, c4, fig, h with
    | [a], _, _, _, fig, h =>
      have fa := fig a (by simp)
      have h : 0 * 10 + (a - 48) = i := h
      rw [wd_one i (List.mem_range.mpr (by omega))]
      have : a = i + 48 := by omega
      rw [this]
    | [a, b], _, _, c4, fig, h =>
      have fa := fig a (by simp)
      have fb := fig b (by simp)
      have h : (0 * 10 + (a - 48)) * 10 + (b - 48) = i := h
      have na : a ≠ 48 := fun z => c4 ⟨by rw [z]; rfl, by simp⟩
      rcases wd_two i (List.mem_range.mpr hi) with z | z
      · omega
      · rw [z]
        have e1 : a = i / 10 + 48 := by omega
        have e2 : b = i % 10 + 48 := by omega
        rw [← e1, ← e2]
    | [a, b, c], _, _, c4, fig, h =>
      have fa := fig a (by simp)
      have h : ((0 * 10 + (a - 48)) * 10 + (b - 48)) * 10 + (c - 48) = i := h
      have na : a ≠ 48 := fun z => c4 ⟨by rw [z]; rfl, by simp⟩
      omega
    | [a, b, c, d], _, _, c4, fig, h =>
      have fa := fig a (by simp)
      have h : (((0 * 10 + (a - 48)) * 10 + (b - 48)) * 10 + (c - 48)) * 10 + (d - 48) = i := h
      have na : a ≠ 48 := fun z => c4 ⟨by rw [z]; rfl, by simp⟩
      omega
  · cases h
def numW (w : Str) : Option Nat := numL w.cps.toList
/-- the number below 24 that a word writes -/
def good (w : Str) : Option Nat := match numW w with
  | some i => if i < 24 then some i else none
  | none => none
theorem good_iff {w : Str} {i : Nat} : good w = some i ↔ i < 24 ∧ w = wd i := by
  unfold good numW
  constructor
  · intro h
    split at h
    · rename_i j e
      split at h
      · rename_i hj
        cases h
        exact ⟨hj, tl_inj (num_inv e hj)⟩
      · cases h
    · cases h
  · rintro ⟨hi, rfl⟩
    rw [num_wd i (List.mem_range.mpr hi)]
    exact if_pos hi
theorem good_num {w : Str} {i : Nat} (h : good w = some i) : numW w = some i := by
  obtain ⟨hi, rfl⟩ := good_iff.mp h
  exact num_wd i (List.mem_range.mpr hi)
theorem words_mem {w : Str} : w ∈ words24 ↔ ∃ i, good w = some i := by
  unfold words24
  rw [List.mem_map]
  constructor
  · rintro ⟨i, hi, rfl⟩
    exact ⟨i, good_iff.mpr ⟨List.mem_range.mp hi, rfl⟩⟩
  · rintro ⟨i, h⟩
    obtain ⟨hi, rfl⟩ := good_iff.mp h
    exact ⟨i, List.mem_range.mpr hi, rfl⟩
/-! ### program: numbers in words -/
theorem inS_non : ∀ ns : List (Option Nat), inS .non (ns.map optD) = some (decide (none ∈ ns))
  | [] => rfl
  | n :: ns => by
    have ih := inS_non ns
    cases n with
    | none =>
      show (toV .non).bind (fun v => (toV .non).bind fun w => (inS .non (ns.map optD)).map fun b => eqV w v || b) = _
      rw [ih]
      show some (eqV .non .non || decide (none ∈ ns)) = _
      have : eqV .non .non = true := rfl
      rw [this, Bool.true_or, decide_eq_true (by simp)]
    | some i =>
      show (toV .non).bind (fun v => (toV (.int (i : Nat))).bind fun w => (inS .non (ns.map optD)).map fun b => eqV w v || b) = _
      rw [ih]
      show some (eqV (.int (i : Nat)) .non || decide (none ∈ ns)) = _
      have : eqV (.int (i : Nat)) .non = false := rfl
      rw [this, Bool.false_or]
      exact congrArg some (decide_eq_decide.mpr (by simp))
theorem none_in (ns : List (Option Nat)) : dIn .non (.lst (ns.map optD)) = some (.bl (decide (none ∈ ns))) := by
  show (((toV .non).bind fun _ => inS .non (ns.map optD)).orElse _).map _ = _
  show ((inS .non (ns.map optD)).orElse _).map _ = _
  rw [inS_non]
  rfl
/-- what is told of words -/
def numsD (ws : List Str) : D := if none ∈ ws.map numW then .non else .lst ((ws.map numW).map optD)
theorem nums_ok {ws : List Str} (h : wt ws ≤ 100000) : RZ.d_numbers_in_words [.lst (ws.map D.str)] = some (numsD ws, [some (.flst (ws.map D.str))]) := by
  have fz : frzD (.lst (ws.map D.str)) = some (.flst (ws.map D.str)) := by
    rw [frz_lst, frzL_id _ (imm_strs ws)]; rfl
  have il := imm_strs ws
  have lw := wt_len ws
  have lc := lcD_all (vs := [2]) (fg := fgName 2) (fe := fCallD RZ.d_number_in_word (fCons (fVar 2) (fNil))) (ρ0 := [some (.flst (ws.map D.str)), none, none]) (emb := D.str) (z := fun w => optD (numW w)) (xs := ws) fun w hw => by
    have e := number_ok w (by have := wt_mem hw; omega)
    have i : imm (optD (numL w.cps.toList)) = true := by cases numL w.cps.toList <;> rfl
    show ∃ ρ1, _
    generalize D.flst (ws.map D.str) = SL at *
    obtain ⟨Y, hY⟩ : ∃ Y : Fm, Y = [some SL, none, some (.str w)] := ⟨_, rfl⟩
    refine ⟨Y, by simp [hY], .val (optD (numW w)), Y, Y, by simp [hY, e, numW], rfl, by simp [hY, wipeF]⟩
  have em : ws.map (fun w => optD (numW w)) = (ws.map numW).map optD := by rw [List.map_map]; rfl
  rw [em] at lc
  have lz : ((ws.map numW).map optD).length ≤ sizeLine := big_ok (by rw [List.length_map, List.length_map]; omega)
  have ni := none_in (ws.map numW)
  unfold numsD
  by_cases c : none ∈ ws.map numW
  · rw [if_pos c]
    rw [decide_eq_true c] at ni
    generalize (ws.map numW).map optD = NL at *
    generalize ws.map D.str = SL at *
    simp [RZ.d_numbers_in_words, RZ.b_numbers_in_words, denOf, fz, il, lc, lz, ni, wipeF]
  · rw [if_neg c]
    rw [decide_eq_false c] at ni
    generalize (ws.map numW).map optD = NL at *
    generalize ws.map D.str = SL at *
    simp [RZ.d_numbers_in_words, RZ.b_numbers_in_words, denOf, fz, il, lc, lz, ni, wipeF]
/-- words that all write numbers -/
theorem nums_all : ∀ {ws : List Str}, none ∉ ws.map numW → ∃ ns : List Nat, ws.map numW = ns.map some ∧ ns.length = ws.length
  | [], _ => ⟨[], rfl, rfl⟩
  | w :: ws, h => by
    rw [List.map_cons, List.mem_cons, not_or] at h
    obtain ⟨ns, e, l⟩ := nums_all h.2
    cases q : numW w with
    | none => exact absurd q.symm h.1
    | some i => exact ⟨i :: ns, by rw [List.map_cons, e, q]; rfl, by simp [l]⟩
theorem opt_ints (ns : List Nat) : (ns.map some).map optD = intsD (ns.map fun (i : Nat) => (i : Int)) := by
  rw [intsD, List.map_map, List.map_map]; rfl
/-! ### the tuple that a text writes -/
/-- the numbers below 24 that words write, if all do -/
def goods : List Str → Option (List Int)
  | [] => some []
  | w :: ws => (good w).bind fun i => (goods ws).map fun r => (i : Int) :: r
def tupD : Option (List Int) → D
  | none => .non
  | some r => rowD r
theorem goods_nums : ∀ {ws : List Str} {ns : List Nat}, ws.map numW = ns.map some → goods ws = if ns.all (fun i => decide (i < 24)) = true then some (ns.map fun (i : Nat) => (i : Int)) else none
  | [], [], _ => rfl
  | w :: ws, n :: ns, h => by
    obtain ⟨h1, h2⟩ := List.cons.inj h
    have ih := goods_nums h2
    show (good w).bind (fun i => (goods ws).map fun r => (i : Int) :: r) = _
    rw [ih]
    unfold good
    rw [h1]
    by_cases c : n < 24
    · by_cases d : ns.all (fun i => decide (i < 24)) = true
      · rw [if_pos d, if_pos (by rw [List.all_cons, d, decide_eq_true c]; rfl)]
        show (if n < 24 then some n else none).bind _ = _
        rw [if_pos c]; rfl
      · rw [if_neg d, if_neg (fun z => d (by rw [List.all_cons, Bool.and_eq_true] at z; exact z.2))]
        show (if n < 24 then some n else none).bind _ = _
        rw [if_pos c]; rfl
    · rw [if_neg (c := (n :: ns).all _ = true) (fun z => c (by rw [List.all_cons, Bool.and_eq_true] at z; exact of_decide_eq_true z.1))]
      show (if n < 24 then some n else none).bind _ = _
      rw [if_neg c]; rfl
theorem goods_none : ∀ {ws : List Str}, none ∈ ws.map numW → goods ws = none
  | w :: ws, h => by
    show (good w).bind (fun i => (goods ws).map fun r => (i : Int) :: r) = _
    rw [List.map_cons, List.mem_cons] at h
    cases q : good w with
    | none => rfl
    | some i =>
      rcases h with z | z
      · rw [good_num q] at z; cases z
      · rw [goods_none z]; rfl
theorem max_from : ∀ (ns : List Int) (a : Int), (ns.foldl max a < 24 ↔ a < 24 ∧ ∀ n ∈ ns, n < 24)
  | [], a => by simp
  | n :: ns, a => by
    show ns.foldl max (max a n) < 24 ↔ _
    rw [max_from ns (max a n)]
    constructor
    · rintro ⟨h1, h2⟩
      refine ⟨by omega, fun x hx => ?_⟩
      rcases List.mem_cons.1 hx with rfl | hx
      · omega
      · exact h2 x hx
    · rintro ⟨h1, h2⟩
      have := h2 n List.mem_cons_self
      exact ⟨by omega, fun x hx => h2 x (List.mem_cons_of_mem _ hx)⟩
theorem max_is {ns : List Int} (h : ns ≠ []) : ∃ m, dMm max [.lst (intsD ns)] = some (.int m) ∧ (m < 24 ↔ ∀ n ∈ ns, n < 24) := by
  cases ns with
  | nil => exact absurd rfl h
  | cons n ns =>
    refine ⟨ns.foldl max n, ?_, ?_⟩
    · show (intsOf (intsD (n :: ns))).bind _ = _
      rw [intsOf_ints]; rfl
    · rw [max_from]
      constructor
      · rintro ⟨a, b⟩ x hx
        rcases List.mem_cons.1 hx with rfl | hx
        · exact a
        · exact b x hx
      · intro a
        exact ⟨a n List.mem_cons_self, fun x hx => a x (List.mem_cons_of_mem _ hx)⟩
end RZ
/-! The family of texts: texts of few plain signs; lists of texts. -/
namespace RZ
open PySem PySem.Spec L2 DL
/-- so long at most, plain signs -/
structure Tb (L : Nat) (x : Str) : Prop where
  len : x.length ≤ L
  sgn : ∀ c ∈ x.cps.toList, c < 256
theorem Tb.mono {L M : Nat} {x : Str} (h : Tb L x) (k : L ≤ M) : Tb M x := ⟨Nat.le_trans h.len k, h.sgn⟩
theorem cps_app (a b : Str) : (a ++ b).cps.toList = a.cps.toList ++ b.cps.toList := TL.tl_append a b
theorem Tb.app {L M : Nat} {x y : Str} (h : Tb L x) (g : Tb M y) : Tb (L + M) (x ++ y) := by
  constructor
  · rw [len_cps, cps_app, List.length_append, ← len_cps, ← len_cps]
    have := h.len
    have := g.len
    omega
  · intro c hc
    rw [cps_app] at hc
    exact (List.mem_append.1 hc).elim (h.sgn c) (g.sgn c)
def tbB (L : Nat) (x : Str) : Bool := decide (x.length ≤ L) && x.cps.toList.all fun c => decide (c < 256)
theorem tb_of {L : Nat} {x : Str} (h : tbB L x = true) : Tb L x := by
  unfold tbB at h
  rw [Bool.and_eq_true, decide_eq_true_iff, List.all_eq_true] at h
  exact ⟨h.1, fun c hc => of_decide_eq_true (h.2 c hc)⟩
theorem wd_tb : ∀ i ∈ List.range 100, tbB 2 (wd i) = true := by decide +kernel
theorem tb_wd {i : Nat} (h : i < 100) : Tb 2 (wd i) := tb_of (wd_tb i (List.mem_range.mpr h))
theorem spl_sgn : ∀ (l acc : List Nat), ∀ p ∈ TL.spl [32] 0 acc l, ∀ c ∈ p, c ∈ acc ∨ c ∈ l
  | [], acc, p, hp, c, hc => by
    rw [TL.spl_nil] at hp
    rw [List.mem_singleton.1 hp] at hc
    exact .inl hc
  | d :: r, acc, p, hp, c, hc => by
    cases h : TL.pre [32] (d :: r) with
    | true =>
      rw [TL.spl_hit h] at hp
      rcases List.mem_cons.1 hp with z | z
      · rw [z] at hc; exact .inl hc
      · rcases spl_sgn r [] p z c hc with y | y
        · cases y
        · exact .inr (List.mem_cons_of_mem _ y)
    | false =>
      rw [TL.spl_miss h] at hp
      rcases spl_sgn r (acc ++ [d]) p hp c hc with y | y
      · rcases List.mem_append.1 y with z | z
        · exact .inl z
        · rw [List.mem_singleton.1 z]; exact .inr List.mem_cons_self
      · exact .inr (List.mem_cons_of_mem _ y)
/-- words of plain signs, so heavy at most -/
structure Ws (L : Nat) (ws : List Str) : Prop where
  wt : wt ws ≤ L
  sgn : ∀ w ∈ ws, ∀ c ∈ w.cps.toList, c < 256
theorem Ws.mono {L M : Nat} {ws : List Str} (h : Ws L ws) (k : L ≤ M) : Ws M ws := ⟨Nat.le_trans h.wt k, h.sgn⟩
theorem Ws.mem {L : Nat} {ws : List Str} (h : Ws L ws) {w : Str} (m : w ∈ ws) : Tb L w := ⟨by have := wt_mem m; have := h.wt; omega, h.sgn w m⟩
theorem Tb.words {L : Nat} {x : Str} (h : Tb L x) : Ws (L + 1) (wordsOf x) := by
  refine ⟨by rw [words_wt]; have := h.len; omega, fun w hw c hc => ?_⟩
  have m : w.cps.toList ∈ (wordsOf x).map TL.tl := List.mem_map.mpr ⟨w, hw, rfl⟩
  rw [words_spl] at m
  rcases spl_sgn _ _ _ m c hc with y | y
  · cases y
  · exact h.sgn c y
theorem joinL_sgn : ∀ (p : List (List Nat)), ∀ c ∈ TL.joinL [32] p, c = 32 ∨ ∃ l ∈ p, c ∈ l
  | [], c, h => nomatch h
  | [p], c, h => .inr ⟨p, by simp, h⟩
  | p :: q :: r, c, h => by
    have h : c ∈ p ++ ([32] ++ TL.joinL [32] (q :: r)) := h
    rcases List.mem_append.1 h with z | z
    · exact .inr ⟨p, by simp, z⟩
    · rcases List.mem_append.1 z with y | y
      · exact .inl (List.mem_singleton.1 y)
      · rcases joinL_sgn (q :: r) c y with x | ⟨l, hl, hc⟩
        · exact .inl x
        · exact .inr ⟨l, List.mem_cons_of_mem _ hl, hc⟩
theorem Ws.joined {L : Nat} {ws : List Str} (h : Ws L ws) : Tb L (joined ws) := by
  refine ⟨Nat.le_trans (joined_len ws) h.wt, fun c hc => ?_⟩
  unfold RZ.joined at hc
  have hc : c ∈ TL.tl (Txt.join sp ws) := hc
  rw [TL.join_eq, TL.tl_join, tl_sp] at hc
  rcases joinL_sgn _ c hc with z | ⟨l, hl, hc⟩
  · omega
  · obtain ⟨w, hw, rfl⟩ := List.mem_map.1 hl
    exact h.sgn w hw c hc
theorem Ws.of {L : Nat} {ws : List Str} (h : ∀ w ∈ ws, Tb L w) : Ws (ws.length * (L + 1)) ws := by
  refine ⟨?_, fun w hw => (h w hw).sgn⟩
  induction ws with
  | nil => exact Nat.zero_le _
  | cons w ws ih =>
    have a := (h w List.mem_cons_self).len
    have b := ih fun v hv => h v (List.mem_cons_of_mem _ hv)
    show w.length + 1 + RZ.wt ws ≤ (ws.length + 1) * (L + 1)
    rw [Nat.succ_mul]
    omega
theorem Ws.app {L M : Nat} {a b : List Str} (h : Ws L a) (g : Ws M b) : Ws (L + M) (a ++ b) := ⟨by rw [wt_app]; have := h.wt; have := g.wt; omega, fun w hw => (List.mem_append.1 hw).elim (h.sgn w) (g.sgn w)⟩
theorem Ws.one {L : Nat} {w : Str} (h : Tb L w) : Ws (L + 1) [w] := by
  refine ⟨?_, fun v hv => by rw [List.mem_singleton.1 hv]; exact h.sgn⟩
  show w.length + 1 + 0 ≤ L + 1
  have := h.len
  omega
theorem Ws.split {L : Nat} {a b : List Str} (h : Ws L (a ++ b)) : ∃ M N, M + N ≤ L ∧ Ws M a ∧ Ws N b := by
  refine ⟨RZ.wt a, RZ.wt b, by rw [← wt_app]; exact h.wt, ⟨Nat.le_refl _, fun w hw => h.sgn w (List.mem_append_left _ hw)⟩, ⟨Nat.le_refl _, fun w hw => h.sgn w (List.mem_append_right _ hw)⟩⟩
/-! ### among texts -/
theorem inS_strs (w : Str) : ∀ ss : List Str, inS (.str w) (ss.map D.str) = some (decide (w ∈ ss))
  | [] => rfl
  | s :: ss => by
    have ih := inS_strs w ss
    show (toV (.str w)).bind (fun v => (toV (.str s)).bind fun u => (inS (.str w) (ss.map D.str)).map fun b => eqV u v || b) = _
    rw [ih]
    show some (eqV (.str s) (.str w) || decide (w ∈ ss)) = _
    have : eqV (.str s) (.str w) = decide (w = s) := by
      unfold eqV
      by_cases h : w = s
      · subst h; simp
      · have h' : ¬ s = w := fun z => h z.symm
        simp [h, h']
    rw [this, ← Bool.decide_or]
    exact congrArg some (decide_eq_decide.mpr List.mem_cons.symm)
theorem in_strs (w : Str) (ss : List Str) : dIn (.str w) (.lst (ss.map D.str)) = some (.bl (decide (w ∈ ss))) ∧ dNotIn (.str w) (.lst (ss.map D.str)) = some (.bl (!decide (w ∈ ss))) := by
  constructor
  · show ((inS (.str w) (ss.map D.str)).orElse _).map _ = _
    rw [inS_strs]; rfl
  · show ((inS (.str w) (ss.map D.str)).orElse _).map _ = _
    rw [inS_strs]; rfl
theorem toPL_strs : ∀ ss : List Str, toPL (ss.map D.str) = ss.map PyData.str
  | [] => rfl
  | s :: ss => by
    show toP (.str s) :: toPL (ss.map D.str) = _
    rw [toPL_strs ss]; rfl
theorem small_str {s : Str} (h : ∀ c ∈ s.cps.toList, c < 256) : small (.str s) = true := by
  show decide (PyData.canLay0 (.str s) = true) = true
  refine decide_eq_true ?_
  rw [PyData.canLay0]
  unfold PyData.strOk
  rw [Array.all_eq_true_iff_forall_mem]
  intro c hc
  have := h c (Array.mem_toList_iff.mpr hc)
  exact decide_eq_true (by omega)
theorem small_strs {ss : List Str} (h : ∀ w ∈ ss, ∀ c ∈ w.cps.toList, c < 256) : small (.lst (ss.map D.str)) = true := smallL_mem.mpr fun d hd => by
  obtain ⟨w, hw, rfl⟩ := List.mem_map.1 hd
  exact small_str (h w hw)
theorem shaped_strs {ss : List Str} (h : ∀ w ∈ ss, ∀ c ∈ w.cps.toList, c < 256) : noDicL (ss.map D.str) = true ∧ SeqAt.shaped (.list (toPL (ss.map D.str))) = true := by
  obtain ⟨a, b, _⟩ := small_all _ (small_strs h)
  refine ⟨a, ?_⟩
  unfold SeqAt.shaped
  have dp : (PyData.list (toPL (ss.map D.str))).depth ≤ 64 := by
    rw [PyData.depth]
    have := depthAll_le (k := 0) fun d (hd : d ∈ ss.map D.str) => by
      obtain ⟨w, _, rfl⟩ := List.mem_map.1 hd
      show (PyData.str w).depth ≤ 0
      rw [PyData.depth]; exact Nat.le_refl _
    omega
  rw [show PyData.canLay0 (.list (toPL (ss.map D.str))) = true from b, decide_eq_true dp]
  rfl
theorem idx24 : ∀ i ∈ List.range 24, idxD (words24.map PyData.str) (.str (wd i)) = some i := by decide +kernel
theorem words24_sgn : ∀ w ∈ words24, ∀ c ∈ w.cps.toList, c < 256 := fun w hw => by
  unfold words24 at hw
  obtain ⟨i, hi, rfl⟩ := List.mem_map.1 hw
  exact (tb_wd (by have := List.mem_range.mp hi; omega)).sgn
theorem index24 {i : Nat} (h : i < 24) : dIndexL (.lst (words24.map D.str)) [.str (wd i)] = some (.int (i : Nat)) := by
  obtain ⟨nd, sh⟩ := shaped_strs words24_sgn
  obtain ⟨_, s2, _⟩ := small_all _ (small_str (tb_wd (i := i) (by omega)).sgn)
  have sw : SeqAt.shaped (toP (.str (wd i))) = true := by
    unfold SeqAt.shaped
    have dp : (toP (.str (wd i))).depth ≤ 64 := by
      show (PyData.str (wd i)).depth ≤ 64
      rw [PyData.depth]; decide
    rw [s2, decide_eq_true dp]
    rfl
  show (if noDicL (words24.map D.str) = true ∧ noDic (.str (wd i)) = true ∧ SeqAt.shaped (.list (toPL (words24.map D.str))) = true ∧ SeqAt.shaped (toP (.str (wd i))) = true then (idxD (toPL (words24.map D.str)) (toP (.str (wd i)))).map fun j => D.int (j : Nat) else none) = _
  rw [if_pos ⟨nd, rfl, sh, sw⟩, toPL_strs]
  show (idxD (words24.map PyData.str) (.str (wd i))).map _ = _
  rw [idx24 i (List.mem_range.mpr h)]
  rfl
/-- str of the numbers below m -/
theorem str_wd {i : Nat} (h : i < 1000000) : dStr [.int (i : Nat)] = some (.str (wd i)) := by
  refine if_pos ?_
  by_cases c : i = 0
  · subst c; decide
  · have : ((i : Nat) : Int).natAbs = i := by omega
    rw [this]
    exact (Nat.log2_lt c).mpr (Nat.lt_of_lt_of_le h (Nat.le_trans (by decide : 1000000 ≤ 2 ^ 20) (Nat.pow_le_pow_right (by decide) (by decide))))
end RZ
/-! The family of texts: the tuple that is read, the tuple that is due. -/
namespace RZ
open PySem PySem.Spec L2 DL
theorem imm_rw (r : List Int) : imm (rowD r) = true := immL_ints r
theorem goods_wd : ∀ {ws : List Str} {r : List Int}, goods ws = some r → ∃ is : List Nat, ws = is.map wd ∧ r = is.map (fun (i : Nat) => (i : Int)) ∧ ∀ i ∈ is, i < 24
  | [], r, h => by cases h; exact ⟨[], rfl, rfl, by simp⟩
  | w :: ws, r, h => by
    have h : (good w).bind (fun i => (goods ws).map fun r => (i : Int) :: r) = some r := h
    obtain ⟨i, e1, h⟩ := Option.bind_eq_some_iff.mp h
    obtain ⟨t, e2, rfl⟩ := Option.map_eq_some_iff.mp h
    obtain ⟨is, rfl, rfl, m⟩ := goods_wd e2
    obtain ⟨hi, rfl⟩ := good_iff.mp e1
    refine ⟨i :: is, rfl, rfl, fun j hj => ?_⟩
    rcases List.mem_cons.1 hj with rfl | hj
    · exact hi
    · exact m j hj
end RZ
/-! The family of texts: a sign otherwise. -/
namespace RZ
open PySem PySem.Spec L2 DL
@[simp] theorem ap_cutX {fe : FE} {ρ : Fm} {fl fh : Fm → Option (Option Int × Fm)} : fCutX fe fl fh ρ = (fe ρ).bind fun x => (fl x.2).bind fun l => (fh l.2).bind fun h => (cont h.2 x.1).bind fun d => (dCutX d l.1 h.1).map fun z => (.val z, h.2) := rfl
theorem cutX_str {z : Str} (h : z.length ≤ 100000) (lo hi : Option Int) : dCutX (.str z) lo hi = some (.str (cutS z lo hi)) := if_pos (big_ok (by omega))
theorem addX_str {a b : Str} (h : a.length + b.length ≤ 100000) : dAddX (.str a) (.str b) = some (.str (a ++ b)) := by
  have e : dAdd (.str a) (.str b) = some (.str (a ++ b)) := by
    unfold dAdd
    have e1 : dAddI (.str a) (.str b) = none := rfl
    have e2 : dAddS (.str a) (.str b) = some (.str (a ++ b)) := if_pos (big_ok (by omega))
    rw [e1, e2]; rfl
  unfold dAddX
  rw [e]; rfl
theorem cps_to (z : Str) (p : Nat) : (cutS z none (some (p : Int))).cps.toList = z.cps.toList.take (min p z.length) := by
  unfold cutS
  rw [HT.sIx_nat]
  show (z.cps.toList.drop 0).take (min p z.length - 0) = _
  rw [List.drop_zero, Nat.sub_zero]
theorem cps_from (z : Str) (p : Nat) : (cutS z (some (p : Int)) none).cps.toList = z.cps.toList.drop (min p z.length) := by
  unfold cutS
  rw [HT.sIx_nat]
  show (z.cps.toList.drop (min p z.length)).take (z.length - min p z.length) = _
  rw [List.take_of_length_le]
  rw [List.length_drop, Array.length_toList]
  exact Nat.le_refl _
theorem Tb.to {L : Nat} {z : Str} (h : Tb L z) (p : Nat) : Tb (min p z.length) (cutS z none (some (p : Int))) := ⟨by
  rw [len_cps, cps_to, List.length_take]; omega, fun c hc => by
  rw [cps_to] at hc; exact h.sgn c (List.mem_of_mem_take hc)⟩
theorem Tb.from {L : Nat} {z : Str} (h : Tb L z) (p : Nat) : Tb (z.length - min p z.length) (cutS z (some (p : Int)) none) := ⟨by
  rw [len_cps, cps_from, List.length_drop, ← len_cps]; exact Nat.le_refl _, fun c hc => by
  rw [cps_from] at hc; exact h.sgn c (List.mem_of_mem_drop hc)⟩
/-- a sign of a text -/
theorem sub_str {L : Nat} {s : Str} (h : Tb L s) (hL : L ≤ 100000) {j : Int} (h0 : 0 ≤ j) (h1 : j < s.length) : ∃ x : Str, dSubs (.str s) (.int j) = some (.str x) ∧ Tb 1 x := by
  obtain ⟨p, rfl⟩ : ∃ p : Nat, j = p := ⟨j.toNat, by omega⟩
  have hl := len_cps s
  have hp : p < s.cps.toList.length := by omega
  refine ⟨⟨#[s.cps.toList[p]]⟩, ?_, by show 1 ≤ 1; omega, fun c hc => ?_⟩
  · have a0 : atI s.cps.toList p = some s.cps.toList[p] := by
      unfold atI
      rw [ixN_int (by omega) (by omega)]
      show s.cps.toList[(p : Int).toNat]? = _
      rw [Int.toNat_natCast, List.getElem?_eq_getElem hp]
    have e : dIxS (.str s) (.int p) = some (.str ⟨#[s.cps.toList[p]]⟩) := by
      show (if s.length ≤ sizeLine then (atI s.cps.toList p).map (fun c => D.str ⟨#[c]⟩) else none) = _
      rw [if_pos (big_ok (by have := h.len; omega)), a0]; rfl
    show ((dIxS (.str s) (.int p)).orElse _).orElse _ = _
    rw [e]; rfl
  · have hc : c ∈ [s.cps.toList[p]] := hc
    rw [List.mem_singleton.1 hc]
    exact h.sgn _ (List.getElem_mem hp)
theorem Tb.void : Tb 0 "" := ⟨by decide, by decide⟩
/-- a sign, or none -/
theorem mul_bit {x : Str} (h : Tb 1 x) (b : Bool) : ∃ y : Str, dMulT (.str x) (.int (if b then 1 else 0)) = some (.str y) ∧ Tb 1 y := by
  have hl := h.len
  cases b with
  | false => exact ⟨Txt.mul x 0, if_pos ⟨by decide, by decide, by omega⟩, Tb.void.mono (by decide)⟩
  | true => exact ⟨Txt.mul x 1, if_pos ⟨by decide, by decide, by omega⟩, h⟩
def figs : Str := "0123456789 -/+"
def every : Str := " !\"#$&'()*+,-./0123456789:;<=>?@ABCDEFGHIJKLMNOPQRSTUVWXYZ[\\]^_`abcdefghijklmnopqrstuvwxyz{|}~"
theorem tb_figs : Tb 100 figs := tb_of (by decide +kernel)
theorem tb_every : Tb 100 every := tb_of (by decide +kernel)
theorem int_bl (b : Bool) : dInt [.bl b] = some (.int (if b then 1 else 0)) := by cases b <;> rfl
theorem addX_int (i j : Int) : dAddX (.int i) (.int j) = some (.int (i + j)) := rfl
theorem signed_ok {k L : Nat} {d : D} {x : Str} (h : IsZ k d) (hk : k ≤ 90000) (hx : Tb L x) (hL : L ≤ 40000) : ∃ (y : Str) (d' : D), RZ.d__law_signed [d, .str x] = some (.str y, [some d', some (.str x)]) ∧ Tb (L + 1) y ∧ IsZ (k + 4) d' := by
  have hl := hx.len
  obtain ⟨i1, d1, e1, a1, b1, h1, im1⟩ := draw_eq h (m := 3) (by omega) (by decide) (by decide)
  obtain ⟨i2, d2, e2, a2, b2, h2, im2⟩ := draw_eq h1 (m := (x.length : Nat) + 1) (by omega) (by omega) (by omega)
  obtain ⟨i3, d3, e3, a3, b3, h3, im3⟩ := draw_eq h2 (m := 2) (by omega) (by decide) (by decide)
  obtain ⟨p, rfl⟩ : ∃ p : Nat, i2 = p := ⟨i2.toNat, by omega⟩
  have ⟨S, hS, tS, pS⟩ : ∃ S : Str, dSubs (.lst [.str figs, .str every]) (.int i3) = some (.str S) ∧ Tb 100 S ∧ 1 ≤ S.length := by
    by_cases c : i3 = 0
    · subst c; exact ⟨figs, rfl, tb_figs, by decide +kernel⟩
    · have : i3 = 1 := by omega
      subst this; exact ⟨every, rfl, tb_every, by decide +kernel⟩
  have lS := tS.len
  obtain ⟨i4, d4, e4, a4, b4, h4, im4⟩ := draw_eq h3 (m := (S.length : Nat)) (by omega) (by omega) (by omega)
  obtain ⟨sg, hsg, tsg⟩ := sub_str tS (by omega) a4 b4
  have dl : ∀ z : Str, z.length ≤ 100000 → dLen [.str z] = some (.int (z.length : Nat)) := fun z hz => by
    unfold dLen
    rw [show dLenQ [.str z] = some (.int (z.length : Nat)) from if_pos (big_ok (by omega))]
    rfl
  have dlx := dl x (by omega)
  have dlS := dl S (by omega)
  have im0 := h.imm
  obtain ⟨q1, hq1⟩ : ∃ b : Bool, b = !decide (i1 = 1) := ⟨_, rfl⟩
  obtain ⟨q2, hq2⟩ : ∃ b : Bool, b = decide (0 < i1) := ⟨_, rfl⟩
  have ne1 : dNe (.int i1) (.int 1) = some (.bl q1) := by
    rw [hq1]
    show some (D.bl (!decide (V.int i1 = V.int 1))) = _
    exact congrArg (fun b => some (D.bl (!b))) (decide_eq_decide.mpr ⟨V.int.inj, fun z => by rw [z]⟩)
  have gt1 : dCmp pGt (.int i1) (.int 0) = some (.bl q2) := by rw [hq2]; rfl
  obtain ⟨m, hm, tm⟩ := mul_bit tsg q1
  have c1 := cutX_str (z := x) (by omega) none (some ((p : Nat) : Int))
  have q2n : ∃ n : Nat, ((p : Nat) : Int) + (if q2 then 1 else 0) = n ∧ p ≤ n := by
    cases q2 with
    | false => exact ⟨p, by simp, by omega⟩
    | true => exact ⟨p + 1, by simp, by omega⟩
  obtain ⟨n, hn, pn⟩ := q2n
  have c2 := cutX_str (z := x) (by omega) (some ((n : Nat) : Int)) none
  have t1 := hx.to p
  have t2 := hx.from n
  have s1 := addX_str (a := cutS x none (some ((p : Nat) : Int))) (b := m) (by have := t1.len; have := tm.len; omega)
  have t12 := t1.app tm
  have s2 := addX_str (a := cutS x none (some ((p : Nat) : Int)) ++ m) (b := cutS x (some ((n : Nat) : Int)) none) (by have := t12.len; have := t2.len; omega)
  have t3 := t12.app t2
  refine ⟨_, d4, ?_, t3.mono (by omega), h4⟩
  have ib1 := int_bl q1
  have ib2 := int_bl q2
  generalize cutS x none (some ((p : Nat) : Int)) = A at *
  generalize cutS x (some ((n : Nat) : Int)) none = B at *
  have hS : dSubs (.lst [.str "0123456789 -/+", .str " !\"#$&'()*+,-./0123456789:;<=>?@ABCDEFGHIJKLMNOPQRSTUVWXYZ[\\]^_`abcdefghijklmnopqrstuvwxyz{|}~"]) (.int i3) = some (.str S) := hS
  have z1 : dAddX (.int (x.length : Nat)) (.int 1) = some (.int ((x.length : Nat) + 1)) := addX_int _ _
  have z2 : dAddX (.int (p : Nat)) (.int (if q2 then 1 else 0)) = some (.int (n : Nat)) := by rw [addX_int, hn]
  generalize (if q1 then (1 : Int) else 0) = w1 at *
  generalize (if q2 then (1 : Int) else 0) = w2 at *
  simp [RZ.d__law_signed, RZ.b__law_signed, denOf, e1, e2, e3, e4, im0, im1, im2, im3, im4, dlx, dlS, hS, hsg, ne1, gt1, ib1, ib2, hm, c1, c2, s1, s2, z1, z2, big_ok]
end RZ
/-! The family of texts: lists of texts with one thing otherwise. -/
namespace RZ
open PySem PySem.Spec L2 DL
abbrev strL (ws : List Str) : D := .lst (ws.map D.str)
theorem cut_to' {α : Type} (xs : List α) (k : Nat) : cut xs none (some (k : Int)) = xs.take k := by
  unfold cut
  rw [HT.sIx_nat]
  show (xs.drop 0).take (min k xs.length - 0) = _
  rw [List.drop_zero, Nat.sub_zero, ← List.take_take, List.take_length]
theorem cut_from' {α : Type} (xs : List α) (k : Nat) : cut xs (some (k : Int)) none = xs.drop k := by
  unfold cut
  rw [HT.sIx_nat]
  show (xs.drop (min k xs.length)).take (xs.length - min k xs.length) = _
  rw [List.take_of_length_le (by simp)]
  by_cases h : k ≤ xs.length
  · rw [Nat.min_eq_left h]
  · rw [Nat.min_eq_right (by omega), List.drop_length, List.drop_of_length_le (by omega)]
theorem cut_mid {α : Type} (xs : List α) (k j : Nat) : cut xs (some (k : Int)) (some (j : Int)) = (xs.drop k).take (j - k) := by
  unfold cut
  rw [HT.sIx_nat, HT.sIx_nat]
  by_cases h : k ≤ xs.length
  · rw [Nat.min_eq_left h]
    by_cases g : j ≤ xs.length
    · rw [Nat.min_eq_left g]
    · rw [Nat.min_eq_right (by omega), List.take_of_length_le (by rw [List.length_drop]; exact Nat.le_refl _), List.take_of_length_le (by rw [List.length_drop]; omega)]
  · rw [Nat.min_eq_right (show xs.length ≤ k by omega), List.drop_length, List.drop_of_length_le (by omega)]
    simp
section
variable {ws vs : List Str} {L M : Nat}
theorem cutL (lo hi : Option Int) : dCutX (strL ws) lo hi = some (strL (cut ws lo hi)) := by
  show (if immL (ws.map D.str) = true then some (D.lst (cut (ws.map D.str) lo hi)) else none) = _
  rw [if_pos (imm_strs ws)]
  unfold cut
  rw [List.length_map, ← List.map_drop, ← List.map_take]
theorem toL (k : Nat) : dCutX (strL ws) none (some (k : Int)) = some (strL (ws.take k)) := by rw [cutL, cut_to']
theorem fromL (k : Nat) : dCutX (strL ws) (some (k : Int)) none = some (strL (ws.drop k)) := by rw [cutL, cut_from']
theorem midL (k j : Nat) : dCutX (strL ws) (some (k : Int)) (some (j : Int)) = some (strL ((ws.drop k).take (j - k))) := by rw [cutL, cut_mid]
theorem revL : dRev (strL ws) = some (strL ws.reverse) := by
  show (if immL (ws.map D.str) = true then some (D.lst (ws.map D.str).reverse) else none) = _
  rw [if_pos (imm_strs ws)]
  show _ = some (D.lst (ws.reverse.map D.str))
  rw [List.map_reverse]
theorem catX (h : ws.length + vs.length ≤ 100000) : dAddX (strL ws) (strL vs) = some (strL (ws ++ vs)) ∧ dAdd (strL ws) (strL vs) = some (strL (ws ++ vs)) := by
  have e : dAdd (strL ws) (strL vs) = some (strL (ws ++ vs)) := by
    unfold dAdd
    have e1 : dAddI (strL ws) (strL vs) = none := rfl
    have e2 : dAddS (strL ws) (strL vs) = none := rfl
    have e3 : dCatL (strL ws) (strL vs) = some (strL (ws ++ vs)) := by
      show (if (immL (ws.map D.str) && immL (vs.map D.str)) = true ∧ (ws.map D.str).length + (vs.map D.str).length ≤ sizeLine then some (D.lst (ws.map D.str ++ vs.map D.str)) else none) = _
      rw [imm_strs, imm_strs, if_pos ⟨rfl, by rw [List.length_map, List.length_map]; exact big_ok (by omega)⟩, ← List.map_append]
    rw [e1, e2, e3]; rfl
  refine ⟨?_, e⟩
  unfold dAddX
  rw [e]; rfl
theorem subL {i : Int} (h0 : 0 ≤ i) (h1 : i < ws.length) : ∃ w, w ∈ ws ∧ ws[i.toNat]? = some w ∧ dSubs (strL ws) (.int i) = some (.str w) := by
  have hlt : i.toNat < ws.length := by omega
  exact ⟨ws[i.toNat], List.getElem_mem hlt, List.getElem?_eq_getElem hlt, dSubs_seq (ds := ws.map D.str) rfl h0 (by rw [List.getElem?_map, List.getElem?_eq_getElem hlt]; rfl) rfl⟩
theorem popL {i : Int} (h0 : 0 ≤ i) (h1 : i < ws.length) (hl : ws.length ≤ 100000) : ∃ w, mPopAt (strL ws) [.int i] = some (strL (ws.eraseIdx i.toNat), .str w) := by
  have hlt : i.toNat < ws.length := by omega
  refine ⟨ws[i.toNat], ?_⟩
  show (if i.natAbs < 2 ^ 63 then _ else _) = _
  rw [if_pos (by omega), ixN_int h0 (by rw [List.length_map]; omega)]
  show Option.map _ ((ws.map D.str)[i.toNat]?) = _
  rw [List.getElem?_map, List.getElem?_eq_getElem hlt]
  show some (D.lst ((ws.map D.str).eraseIdx i.toNat), _) = _
  rw [map_erase]
theorem insL {i : Int} (h0 : 0 ≤ i) (h1 : i ≤ ws.length) (hl : ws.length ≤ 100000) (y : Str) : mInsert (strL ws) [.int i, .str y] = some (strL (ws.take i.toNat ++ [y] ++ ws.drop i.toNat), .non) := by
  have e : sizeLine = 16777216 := rfl
  show (if (ws.map D.str).length < sizeLine ∧ 0 ≤ i ∧ i < 2 ^ 63 then some (D.lst ((ws.map D.str).take i.toNat ++ [D.str y] ++ (ws.map D.str).drop i.toNat), D.non) else none) = _
  rw [if_pos ⟨by rw [List.length_map]; omega, h0, by omega⟩]
  show _ = some (D.lst ((ws.take i.toNat ++ [y] ++ ws.drop i.toNat).map D.str), D.non)
  rw [List.map_append, List.map_append, List.map_take, List.map_drop]
  rfl
theorem putL {i : Int} (h0 : 0 ≤ i) (h1 : i < ws.length) (y : Str) : dStore (strL ws) (.int i) (.str y) = some (strL (ws.set i.toNat y)) := by
  show ((ixN (ws.map D.str).length i).bind fun j => if j < (ws.map D.str).length then some (D.lst ((ws.map D.str).set j (.str _))) else none) = _
  rw [ixN_int h0 (by rw [List.length_map]; omega)]
  show (if i.toNat < (ws.map D.str).length then _ else none) = _
  rw [if_pos (by rw [List.length_map]; omega)]
  show _ = some (D.lst ((ws.set i.toNat y).map D.str))
  rw [List.map_set]
theorem Ws.erase (h : Ws L ws) (k : Nat) : Ws L (ws.eraseIdx k) := by
  refine ⟨?_, fun w hw => h.sgn w (List.mem_of_mem_eraseIdx hw)⟩
  refine Nat.le_trans ?_ h.wt
  have : ∀ (ws : List Str) (k : Nat), RZ.wt (ws.eraseIdx k) ≤ RZ.wt ws := by
    intro ws
    induction ws with
    | nil => intro k; simp
    | cons w ws ih =>
      intro k
      cases k with
      | zero => show RZ.wt ws ≤ w.length + 1 + RZ.wt ws; omega
      | succ k =>
        have := ih k
        show w.length + 1 + RZ.wt (ws.eraseIdx k) ≤ w.length + 1 + RZ.wt ws
        omega
  exact this ws k
theorem Ws.cuts (h : Ws L ws) (k : Nat) : ∃ M N, M + N ≤ L ∧ Ws M (ws.take k) ∧ Ws N (ws.drop k) := by
  have h' : Ws L (ws.take k ++ ws.drop k) := by rw [List.take_append_drop]; exact h
  exact h'.split
theorem Ws.ins (h : Ws L ws) {y : Str} (g : Tb M y) (k : Nat) : Ws (L + M + 1) (ws.take k ++ [y] ++ ws.drop k) := by
  obtain ⟨A, B, hAB, a, b⟩ := h.cuts k
  exact ((a.app (Ws.one g)).app b).mono (by omega)
theorem Ws.put (h : Ws L ws) {y : Str} (g : Tb M y) (k : Nat) : Ws (L + M + 1) (ws.set k y) := by
  constructor
  · have hw := h.wt
    have hy := g.len
    have : ∀ (ws : List Str) (k : Nat), RZ.wt (ws.set k y) ≤ RZ.wt ws + (y.length + 1) := by
      intro ws
      induction ws with
      | nil => intro k; simp [RZ.wt]
      | cons w ws ih =>
        intro k
        cases k with
        | zero => show y.length + 1 + RZ.wt ws ≤ w.length + 1 + RZ.wt ws + (y.length + 1); omega
        | succ k =>
          have := ih k
          show w.length + 1 + RZ.wt (ws.set k y) ≤ w.length + 1 + RZ.wt ws + (y.length + 1)
          omega
    have := this ws k
    omega
  · intro w hw
    rcases List.mem_or_eq_of_mem_set hw with z | z
    · exact h.sgn w z
    · rw [z]; exact g.sgn
theorem wt_rev (a : List Str) : RZ.wt a.reverse = RZ.wt a := by
  induction a with
  | nil => rfl
  | cons w a ih =>
    rw [List.reverse_cons, wt_app, ih]
    show RZ.wt a + (w.length + 1 + 0) = w.length + 1 + RZ.wt a
    omega
theorem Ws.rev (h : Ws L ws) : Ws L ws.reverse := ⟨by rw [wt_rev]; exact h.wt, fun w hw => h.sgn w (List.mem_reverse.mp hw)⟩
/-- two neighbours changed about -/
theorem Ws.swap (h : Ws L ws) (k : Nat) : Ws L (ws.take k ++ ((ws.drop k).take 2).reverse ++ ws.drop (k + 2)) := by
  obtain ⟨A, B, hAB, a, b⟩ := h.cuts k
  obtain ⟨C, D, hCD, c, d⟩ := b.cuts 2
  rw [List.drop_drop] at d
  exact ((a.app c.rev).app d).mono (by omega)
end
end RZ
/-! The family of texts: numbers written. -/
namespace RZ
open PySem PySem.Spec L2 DL
theorem lc_strs {v : Nat} {ρ0 : Fm} (lt : v < ρ0.length) (hw : wipeF ρ0 [v] = ρ0) {is : List Nat} (h : ∀ i ∈ is, i < 1000000) :
    lcD [v] (fgName v) fYes (fCall dStr (fCons (fVar v) (fNil))) (is.map fun i : Nat => D.int (i : Int)) ρ0 = some ((is.map wd).map D.str, ρ0) := by
  have r := lcD_all (vs := [v]) (fg := fgName v) (fe := fCall dStr (fCons (fVar v) (fNil))) (ρ0 := ρ0) (emb := fun i : Nat => D.int (i : Int)) (z := fun i => D.str (wd i)) (xs := is) fun i hi => by
    have e := str_wd (h i hi)
    have s : slot (ρ0.set v (some (.int (i : Nat)))) v = some (.int (i : Nat)) := by unfold slot; rw [List.getElem?_set_self lt]
    refine ⟨ρ0.set v (some (.int (i : Nat))), by simp [lt], .val (.str (wd i)), ρ0.set v (some (.int (i : Nat))), ρ0.set v (some (.int (i : Nat))), ?_, rfl, ?_⟩
    · have f : fVar v (ρ0.set v (some (.int (i : Nat)))) = some (.var v, ρ0.set v (some (.int (i : Nat)))) := ap_var s
      generalize ρ0.set v (some (.int (i : Nat))) = ρ at *
      simp [f, s, e]
    · show (ρ0.set v (some (.int (i : Nat)))).set v none = ρ0
      rw [List.set_set]
      exact hw
  have : is.map (fun i => D.str (wd i)) = (is.map wd).map D.str := by rw [List.map_map]; rfl
  rw [this] at r
  exact r
abbrev rowN (is : List Nat) : D := .tup (is.map fun i : Nat => D.int (i : Int))
theorem imm_rowN (is : List Nat) : imm (rowN is) = true := immL_mem.mpr fun d hd => by
  obtain ⟨i, _, rfl⟩ := List.mem_map.1 hd
  rfl
theorem tb_joined {is : List Nat} (h : ∀ i ∈ is, i < 100) : Ws (is.length * 3) (is.map wd) ∧ Tb (is.length * 3) (joined (is.map wd)) := by
  have W : Ws (is.length * 3) (is.map wd) := by
    have := Ws.of (L := 2) (ws := is.map wd) fun w hw => by
      obtain ⟨i, hi, rfl⟩ := List.mem_map.1 hw
      exact tb_wd (h i hi)
    rw [List.length_map] at this
    exact this
  exact ⟨W, W.joined⟩
end RZ
/-! The family of texts: lines of webs, read. -/
namespace RZ
open PySem PySem.Spec L2 DL
noncomputable section
def b_least_unmet : FS := fSeq (fAsg (fC (.int 0)) (fgName 1)) (fSeq (whileD (fTest (fOp dIn (fVar 1) (fVar 0))) (fAsg (fOp dAdd (fVar 1) (fC (.int 1))) (fgName 1)) fuel) (fRet (fVar 1)))
def d_least_unmet : Den := denOf 2 1 [1, 1] b_least_unmet
def b_row_in_line : FS := fSeq (fAsg (fCallD RZ.d_numbers_in_words (fCons (fMethT dSplit (fVar 0) (fCons (fC (.str " ")) (fNil))) (fNil))) (fgName 2)) (fSeq (fIfS (fOr (fTest (fOp dIsN (fVar 2) (fC .non))) (fOr (fTest (fOp (dCmp pGe) (fCall (dMm max) (fCons (fVar 2) (fNil))) (fC (.int 24)))) (fTest (fOp (dCmp pLt) (fSetLen (fVar 2)) (fCall dLen (fCons (fVar 2) (fNil))))))) (fRet (fC .non)) (fSkip)) (fSeq (fIfS (fOr (fTest (fCall dAny (fCons (fLc [3] (fSeqI (fFrz (fVar 2))) (fgName 3) (fYes) (fOp dIn (fVar 3) (fVar 1))) (fNil)))) (fTest (fOp dNe (fOp dSubs (fVar 2) (fC (.int 0))) (fCallD d_least_unmet (fCons (fVar 1) (fNil)))))) (fRet (fC .non)) (fSkip)) (fRet (fCall dTuple (fCons (fVar 2) (fNil))))))
def d_row_in_line : Den := denOf 4 2 [2] b_row_in_line
def b_read_web : FSX := xSeq (xS (fAsg (fLst (fNil)) (fgName 1))) (xSeq (xS (fAsg (fLst (fNil)) (fgName 2))) (xSeq (xFor (fEnum (fCons (fFrz (fVar 0)) fNil)) (fgTup 2 (fgCons (fgName 3) (fgCons (fgName 4) (fgNil)))) (xSeq (xS (fAsg (fCallD d_row_in_line (fCons (fVar 4) (fCons (fVar 1) (fNil)))) (fgName 5))) (xSeq (xIfS (fTest (fOp dIsN (fVar 5) (fC .non))) (xRaise "NoText" ["line"] (fCons (fVar 3) (fNil))) (xS fSkip)) (xSeq (xS (fDrop (fMut isLst mAppend (fpVar 2) (fCons (fVar 5) (fNil))))) (xS (fDrop (fMut isLst mExtend (fpVar 1) (fCons (fCall dList (fCons (fVar 5) (fNil))) (fNil))))))))) (xSeq (xIfS (fOr (fTest (fOp dEq (fVar 1) (fLst (fNil)))) (fOr (fTest (fOp dEq (fOp dMod (fCall dLen (fCons (fVar 1) (fNil))) (fC (.int 2))) (fC (.int 1)))) (fTest (fOp (dCmp pGe) (fCall (dMm max) (fCons (fVar 1) (fNil))) (fCall dLen (fCons (fVar 1) (fNil))))))) (xRaise "NoText" ["line"] (fCons (fCall dLen (fCons (fVar 0) (fNil))) (fNil))) (xS fSkip)) (xS (fRet (fCall dTuple (fCons (fVar 2) (fNil))))))))
def d_read_web : DenX := denX 6 1 [1, 2, 3, 4, 5] b_read_web
def b__law_read : FS := fSeq (fAsg (fLst (fNil)) (fgName 1)) (fSeq (fAsg (fLst (fNil)) (fgName 2)) (fSeq (fFor (fRng1 (fCons (fCall dLen (fCons (fVar 0) (fNil))) (fNil))) (fgName 3) (fSeq (fAsg (fLc [5] (fSeqI (fFrz (fMethT dSplit (fOp dSubs (fVar 0) (fVar 3)) (fCons (fC (.str " ")) (fNil))))) (fgName 5) (fYes) (fCallD RZ.d__law_number (fCons (fVar 5) (fNil)))) (fgName 4)) (fSeq (fIfS (fOr (fTest (fOp dIn (fC .non) (fVar 4))) (fOr (fTest (fOp (dCmp pLt) (fSetLen (fVar 4)) (fCall dLen (fCons (fVar 4) (fNil))))) (fTest (fOp dNe (fLc [6] (fSeqI (fFrz (fVar 4))) (fgName 6) (fTest (fOp dIn (fVar 6) (fVar 1))) (fVar 6)) (fLst (fNil)))))) (fRet (fTup (fCons (fC (.str "line")) (fCons (fVar 3) (fNil))))) (fSkip)) (fSeq (fIfS (fTest (fOp dNe (fLc [6] (fRng1 (fCons (fOp dSubs (fVar 4) (fC (.int 0))) (fNil))) (fgName 6) (fTest (fOp dNotIn (fVar 6) (fVar 1))) (fVar 6)) (fLst (fNil)))) (fRet (fTup (fCons (fC (.str "line")) (fCons (fVar 3) (fNil))))) (fSkip)) (fSeq (fDrop (fMut isLst mAppend (fpVar 2) (fCons (fCall dTuple (fCons (fVar 4) (fNil))) (fNil)))) (fAsg (fOp dCatS (fVar 1) (fVar 4)) (fgName 1))))))) (fSeq (fIfS (fOr (fTest (fOp dEq (fVar 1) (fLst (fNil)))) (fOr (fTest (fOp dEq (fOp dMod (fCall dLen (fCons (fVar 1) (fNil))) (fC (.int 2))) (fC (.int 1)))) (fTest (fOp dNe (fCall dSorted (fCons (fVar 1) (fNil))) (fLstRg1 (fCall dLen (fCons (fVar 1) (fNil)))))))) (fRet (fTup (fCons (fC (.str "line")) (fCons (fCall dLen (fCons (fVar 0) (fNil))) (fNil))))) (fSkip)) (fRet (fTup (fCons (fC (.str "web")) (fCons (fCall dTuple (fCons (fVar 2) (fNil))) (fNil))))))))
def d__law_read : Den := denOf 7 1 [1, 2, 3, 4, 1] b__law_read
def b__law_told : FS := fSeq (fAsg (fC .non) (fgName 1)) (fSeq (fTryAs (xAsg (xTup (xCons (xE (fC (.str "web"))) (xCons (xCall d_read_web (xA (fCons (fVar 0) (fNil)))) (xA (fNil))))) (fgName 1)) ["NoText"] 2 (fun a c dd => fSeq (fAsg (fTup (fCons (fC (.str "odd")) (fCons (fC (.int 0)) (fNil)))) (fgName 1)) (fSeq (fAsg (fIsE a c dd (anyIs [[("NoText", false)], [("NoText", false)], [("NoText", false)], [("NoText", false)], [("NoText", false)], [("NoText", false)], [("NoText", false)]] c) 2) (fgName 3)) (fIfS (fAnd (fTest (fIsE a c dd (List.lookup c [("NoText", true)]) 2)) (fAnd (fTest (fIsE a c dd (List.lookup c [("NoText", true)]) 2)) (fNot (fTest (fVar 3))))) (fAsg (fTup (fCons (fC (.str "line")) (fCons (fFld a dd 2 "line") (fNil)))) (fgName 1)) (fSkip))))) (fRet (fVar 1)))
def d__law_told : Den := denOf 4 1 [1, 1, 2, 1, 3, 1] b__law_told
end
/-! ### what is met -/
def Met (met : List Int) : Prop := met.Nodup ∧ ∀ d ∈ met, 0 ≤ d ∧ d < 24
theorem Met.len {met : List Int} (h : Met met) : met.length ≤ 24 := by
  have := RE.len_sub h.1 (b := up 24) fun x hx => up_mem.mpr (h.2 x hx)
  rwa [up_length] at this
theorem in_met (d : Int) (r : List Int) : dIn (.int d) (.lst (intsD r)) = some (.bl (decide (d ∈ r))) ∧ dNotIn (.int d) (.lst (intsD r)) = some (.bl (!decide (d ∈ r))) := by
  constructor
  · show ((inS (.int d) (intsD r)).orElse _).map _ = _
    rw [inS_ints]; rfl
  · show ((inS (.int d) (intsD r)).orElse _).map _ = _
    rw [inS_ints]; rfl
def LuI (met : List Int) (k : Nat) (ρ : Fm) : Prop := ∃ m : Nat, ρ = [some (.lst (intsD met)), some (.int (m : Nat))] ∧ (∀ j < m, ((j : Nat) : Int) ∈ met) ∧ m + k = 30
theorem least_ok {met : List Int} (h : Met met) : ∃ m : Nat, RZ.d_least_unmet [.lst (intsD met)] = some (.int (m : Nat), [some (.lst (intsD met))]) ∧ ((m : Nat) : Int) ∉ met ∧ ∀ j < m, ((j : Nat) : Int) ∈ met := by
  have main : Ok (RZ.d_least_unmet [.lst (intsD met)]) fun z => ∃ m : Nat, z = (.int (m : Nat), [some (.lst (intsD met))]) ∧ ((m : Nat) : Int) ∉ met ∧ ∀ j < m, ((j : Nat) : Int) ∈ met := by
    have im : imm (.lst (intsD met)) = false := rfl
    simp [RZ.d_least_unmet, RZ.b_least_unmet, denOf, ok_bind]
    refine ok_while (LuI met) (fun k ρ hI => ?_) (k := 30) (by decide) ⟨0, rfl, by simp, rfl⟩
    obtain ⟨m, rfl, a, hk⟩ := hI
    have ii := (in_met (m : Int) met).1
    have ad : dAdd (.int (m : Nat)) (.int 1) = some (.int ((m + 1 : Nat) : Int)) := rfl
    generalize hM : D.lst (intsD met) = MM at *
    by_cases c : ((m : Nat) : Int) ∈ met
    · rw [decide_eq_true c] at ii
      have := h.2 _ c
      simp [ii, ad]
      refine ⟨k - 1, by omega, m + 1, by rw [hM]; simp, fun j hj => ?_, by omega⟩
      rcases Nat.lt_succ_iff_lt_or_eq.mp hj with q | q
      · exact a j q
      · rw [q]; exact c
    · rw [decide_eq_false c] at ii
      simp [ii]
      exact ⟨m, rfl, c, a⟩
  obtain ⟨z, e, m, rfl, r⟩ := main
  exact ⟨m, e, r⟩
theorem ascend_short' : ∀ {l : List Int}, ¬ l.Nodup → (ascend l).length < l.length
  | [], h => (h List.nodup_nil).elim
  | a :: l, h => by
    have nd : (ascend (a :: l)).Nodup := (ascend_rises _).imp fun h => by omega
    by_cases m : a ∈ l
    · have := RE.len_sub nd (b := l) fun x hx => (List.mem_cons.mp (ascend_mem.mp hx)).elim (fun e => by rw [e]; exact m) id
      rw [List.length_cons]
      omega
    · have ih := ascend_short' (l := l) fun q => h (List.nodup_cons.mpr ⟨m, q⟩)
      have := RE.len_sub nd (b := a :: ascend l) fun x hx => (List.mem_cons.mp (ascend_mem.mp hx)).elim (fun e => by rw [e]; exact List.mem_cons_self) fun q => List.mem_cons_of_mem _ (ascend_mem.mpr q)
      rw [List.length_cons] at this ⊢
      omega
theorem nd_len {l : List Int} (h : l.Nodup) : (ascend l).length = l.length := by
  have nd : (ascend l).Nodup := (ascend_rises l).imp fun h => by omega
  have a := RE.len_sub nd (b := l) fun x hx => ascend_mem.mp hx
  have b := RE.len_sub h (b := ascend l) fun x hx => ascend_mem.mpr hx
  omega
theorem truths_any {α : Type} (f : α → Bool) (xs : List α) : dAny [.lst (xs.map fun x => D.bl (f x))] = some (.bl (xs.any f)) := by
  show (blsOf (xs.map fun x => D.bl (f x))).map (fun ns => D.bl (ns.any id)) = _
  rw [truths_map f xs]
  simp [List.any_map, Function.comp_def]
/-- the row that a line writes behind what is met -/
def rowF (x : Str) (met : List Int) : Option (List Int) := match goods (RZ.wordsOf x) with
  | none => none
  | some r => if r.Nodup ∧ (∀ d ∈ r, d ∉ met) ∧ (∀ j ∈ up (r.headD 0).toNat, j ∈ met) then some r else none
theorem row_some {x : Str} {met r : List Int} (h : rowF x met = some r) : goods (RZ.wordsOf x) = some r ∧ r.Nodup ∧ (∀ d ∈ r, d ∉ met) ∧ (∀ j ∈ up (r.headD 0).toNat, j ∈ met) := by
  unfold rowF at h
  cases g : goods (RZ.wordsOf x) with
  | none => rw [g] at h; cases h
  | some q =>
    rw [g] at h
    simp only at h
    split at h
    · rename_i z; cases h; exact ⟨rfl, z⟩
    · cases h
theorem goods_rng {ws : List Str} {r : List Int} (h : goods ws = some r) : r.length = ws.length ∧ ∀ d ∈ r, 0 ≤ d ∧ d < 24 := by
  obtain ⟨is, rfl, rfl, q⟩ := goods_wd h
  refine ⟨by simp, fun d hd => ?_⟩
  obtain ⟨i, hi, rfl⟩ := List.mem_map.1 hd
  have := q i hi
  omega
theorem row_ok {x : Str} {met : List Int} (hx : x.length ≤ 3000) (hm : Met met) : RZ.d_row_in_line [.str x, .lst (intsD met)] = some (tupD (rowF x met), [some (.str x), some (.lst (intsD met))]) := by
  have main : Ok (RZ.d_row_in_line [.str x, .lst (intsD met)]) fun z => z = (tupD (rowF x met), [some (.str x), some (.lst (intsD met))]) := by
    have sp' : dSplit (.str x) [.str " "] = some (strL (RZ.wordsOf x)) := split_ok x (by omega)
    have ww := words_wt x
    have no : RZ.d_numbers_in_words [strL (RZ.wordsOf x)] = some (numsD (RZ.wordsOf x), [some (.flst ((RZ.wordsOf x).map D.str))]) := nums_ok (ws := RZ.wordsOf x) (by omega)
    have lw := wt_len (RZ.wordsOf x)
    have wn := words_ne x
    have im : imm (.lst (intsD met)) = false := rfl
    have iS : imm (strL (RZ.wordsOf x)) = false := rfl
    unfold rowF
    generalize RZ.wordsOf x = ws at *
    unfold numsD at no
    by_cases c1 : none ∈ ws.map numW
    · rw [if_pos c1] at no
      rw [goods_none c1]
      have ni : dIsN .non .non = some (.bl true) := rfl
      show Ok _ fun z => z = (D.non, _)
      generalize strL ws = SL at *
      generalize D.lst (intsD met) = MM at *
      simp [RZ.d_row_in_line, RZ.b_row_in_line, denOf, sp', no, fMethR, ni, im, iS, ok_bind]
    · rw [if_neg c1] at no
      obtain ⟨ns, en, ln⟩ := nums_all c1
      rw [en, opt_ints] at no
      have gn := goods_nums en
      generalize hr : ns.map (fun (i : Nat) => (i : Int)) = r at *
      have lr : r.length = ws.length := by rw [← hr, List.length_map, ln]
      have nn : r ≠ [] := fun z => by
        rw [z] at lr
        exact wn (List.eq_nil_of_length_eq_zero lr.symm)
      obtain ⟨m, em, imx⟩ := max_is nn
      have all : ns.all (fun i => decide (i < 24)) = true ↔ m < 24 := by
        rw [imx, List.all_eq_true]
        constructor
        · intro a n hn
          rw [← hr] at hn
          obtain ⟨i, hi, rfl⟩ := List.mem_map.1 hn
          have := of_decide_eq_true (a i hi)
          omega
        · intro a i hi
          have := a (i : Int) (by rw [← hr]; exact List.mem_map.mpr ⟨i, hi, rfl⟩)
          exact decide_eq_true (by omega)
      have ni : dIsN (.lst (intsD r)) .non = some (.bl false) := rfl
      have dl : dLen [.lst (intsD r)] = some (.int (ws.length : Nat)) := by
        show some (D.int ((intsD r).length : Nat)) = _
        rw [List.length_map, lr]
      have iL : imm (.lst (intsD r)) = false := rfl
      by_cases c2 : m < 24
      · rw [if_pos (all.mpr c2)] at gn
        rw [gn]
        obtain ⟨lgr, rg⟩ := goods_rng gn
        have b2 : ¬ (24 : Int) ≤ m := by omega
        have ts : intsIn (.lst (intsD r)) = some r := intsOf_ints r
        have l4 : r.length ≤ 4000 := by omega
        have fz : frzL (intsD r) = some (intsD r) := frzL_id _ (immL_ints r)
        have ii : immL (intsD r) = true := immL_ints r
        obtain ⟨r0, r', er⟩ : ∃ r0 r', r = r0 :: r' := by
          cases hq : r with
          | nil => exact absurd hq nn
          | cons a b => exact ⟨a, b, rfl⟩
        have hd0 : r.headD 0 = r0 := by rw [er]; rfl
        have g0 : dSubs (.flst (intsD r)) (.int 0) = some (.int r0) := dSubs_seq (ds := intsD r) rfl (by decide) (by rw [er]; rfl) rfl
        have tp : dTuple [.flst (intsD r)] = some (rowD r) := by
          show (if immL (intsD r) = true then some (D.tup (intsD r)) else none) = _
          rw [if_pos ii]; rfl
        obtain ⟨lu, e5, n5, a5⟩ := least_ok hm
        have lc := lcD_all (vs := [3]) (fg := fgName 3) (fe := fOp dIn (fVar 3) (fVar 1)) (ρ0 := [some (.str x), some (.lst (intsD met)), some (.flst (intsD r)), none]) (emb := D.int) (z := fun d => D.bl (decide (d ∈ met))) (xs := r) fun d _ => by
          have ie := (in_met d met).1
          generalize D.lst (intsD met) = MM at *
          generalize D.flst (intsD r) = NF at *
          obtain ⟨Y, hY⟩ : ∃ Y : Fm, Y = [some (.str x), some MM, some NF, some (.int d)] := ⟨_, rfl⟩
          exact ⟨Y, by simp [hY], .val (.bl (decide (d ∈ met))), Y, Y, by simp [hY, ie], rfl, by simp [hY, wipeF]⟩
        have lc : lcD [3] (fgName 3) fYes (fOp dIn (fVar 3) (fVar 1)) (intsD r) [some (.str x), some (.lst (intsD met)), some (.flst (intsD r)), none] = some (r.map fun d => D.bl (decide (d ∈ met)), [some (.str x), some (.lst (intsD met)), some (.flst (intsD r)), none]) := lc
        have lz : (r.map fun d => D.bl (decide (d ∈ met))).length ≤ sizeLine := big_ok (by rw [List.length_map]; omega)
        have an := truths_any (fun d => decide (d ∈ met)) r
        have nE : dNe (.int r0) (.int (lu : Nat)) = some (.bl (!decide (r0 = (lu : Nat)))) := by
          show some (D.bl (!decide (V.int r0 = V.int (lu : Nat)))) = _
          exact congrArg (fun b => some (D.bl (!b))) (decide_eq_decide.mpr ⟨V.int.inj, fun z => by rw [z]⟩)
        have b3 : r.Nodup → ¬ (ascend r).length < ws.length := fun z => by rw [nd_len z, lr]; omega
        have b3' : ¬ r.Nodup → (ascend r).length < ws.length := fun z => by have := ascend_short' z; omega
        have ir : imm (rowD r) = true := imm_rw r
        have iF : imm (.flst (intsD r)) = true := immL_ints r
        have dlF : dLen [.flst (intsD r)] = some (.int (ws.length : Nat)) := by
          show some (D.int ((intsD r).length : Nat)) = _
          rw [List.length_map, lr]
        generalize (r.map fun d => D.bl (decide (d ∈ met))) = BL at *
        by_cases c3 : r.Nodup
        · have b3 := b3 c3
          by_cases c4 : ∀ d ∈ r, d ∉ met
          · have c4' : r.any (fun d => decide (d ∈ met)) = false := by
              rw [List.any_eq_false]
              intro d hd
              simp [c4 d hd]
            rw [c4'] at an
            by_cases c5 : ∀ j ∈ up (r.headD 0).toNat, j ∈ met
            · have q : r0 = (lu : Nat) := by
                have r00 := (rg r0 (by rw [er]; simp)).1
                have r0n := c4 r0 (by rw [er]; simp)
                rw [hd0] at c5
                rcases Int.lt_trichotomy r0 (lu : Nat) with z | z | z
                · exact absurd (by have := a5 r0.toNat (by omega); rwa [Int.toNat_of_nonneg r00] at this) r0n
                · exact z
                · exact absurd (c5 (lu : Nat) (up_mem.mpr (by omega))) n5
              rw [decide_eq_true q] at nE
              show Ok _ fun z => z = (tupD (if r.Nodup ∧ (∀ d ∈ r, d ∉ met) ∧ (∀ j ∈ up (r.headD 0).toNat, j ∈ met) then some r else none), _)
              rw [if_pos ⟨c3, c4, c5⟩]
              show Ok _ fun z => z = (rowD r, _)
              generalize rowD r = RR at *
              generalize strL ws = SL at *
              generalize D.lst (intsD met) = MM at *
              generalize intsD r = IR at *
              simp [RZ.d_row_in_line, RZ.b_row_in_line, denOf, sp', no, fMethR, ni, im, iS, iL, em, b2, ts, l4, dl, b3, fz, ii, lc, lz, an, g0, e5, nE, tp, ir, iF, wipeF, ok_bind]
            · have q : r0 ≠ (lu : Nat) := fun z => c5 fun j hj => by
                rw [hd0] at hj
                have := up_mem.mp hj
                have := a5 j.toNat (by omega)
                rwa [Int.toNat_of_nonneg (by omega)] at this
              rw [decide_eq_false q] at nE
              show Ok _ fun z => z = (tupD (if r.Nodup ∧ (∀ d ∈ r, d ∉ met) ∧ (∀ j ∈ up (r.headD 0).toNat, j ∈ met) then some r else none), _)
              rw [if_neg fun z => c5 z.2.2]
              show Ok _ fun z => z = (D.non, _)
              generalize strL ws = SL at *
              generalize D.lst (intsD met) = MM at *
              generalize intsD r = IR at *
              simp [RZ.d_row_in_line, RZ.b_row_in_line, denOf, sp', no, fMethR, ni, im, iS, iL, em, b2, ts, l4, dl, b3, fz, ii, lc, lz, an, g0, e5, nE, wipeF, ok_bind]
          · have c4' : r.any (fun d => decide (d ∈ met)) = true := by
              rw [List.any_eq_true]
              refine Classical.byContradiction fun z => c4 fun d hd hm => z ⟨d, hd, decide_eq_true hm⟩
            rw [c4'] at an
            show Ok _ fun z => z = (tupD (if r.Nodup ∧ (∀ d ∈ r, d ∉ met) ∧ (∀ j ∈ up (r.headD 0).toNat, j ∈ met) then some r else none), _)
            rw [if_neg fun z => c4 z.2.1]
            show Ok _ fun z => z = (D.non, _)
            generalize strL ws = SL at *
            generalize D.lst (intsD met) = MM at *
            generalize intsD r = IR at *
            simp [RZ.d_row_in_line, RZ.b_row_in_line, denOf, sp', no, fMethR, ni, im, iS, iL, em, b2, ts, l4, dl, b3, fz, ii, lc, lz, an, wipeF, ok_bind]
        · have b3 := b3' c3
          show Ok _ fun z => z = (tupD (if r.Nodup ∧ (∀ d ∈ r, d ∉ met) ∧ (∀ j ∈ up (r.headD 0).toNat, j ∈ met) then some r else none), _)
          rw [if_neg fun z => c3 z.1]
          show Ok _ fun z => z = (D.non, _)
          generalize strL ws = SL at *
          generalize D.lst (intsD met) = MM at *
          generalize intsD r = IR at *
          simp [RZ.d_row_in_line, RZ.b_row_in_line, denOf, sp', no, fMethR, ni, im, iS, iL, em, b2, ts, l4, dl, b3, wipeF, ok_bind]
      · rw [if_neg (fun z => c2 (all.mp z))] at gn
        rw [gn]
        have b2 : (24 : Int) ≤ m := by omega
        show Ok _ fun z => z = (D.non, _)
        generalize strL ws = SL at *
        generalize D.lst (intsD r) = NL at *
        generalize D.lst (intsD met) = MM at *
        simp [RZ.d_row_in_line, RZ.b_row_in_line, denOf, sp', no, fMethR, ni, im, iS, iL, em, b2, ok_bind]
  obtain ⟨z, e, rfl⟩ := main
  exact e
end RZ
/-! The family of texts: lines of webs, read by program and law. -/
namespace RZ
open PySem PySem.Spec L2 DL
theorem lnumber_ok (w : Str) : RZ.d__law_number [.str w] = some (optD (good w), [some (.str w)]) := by
  have ok24 : okR (24 : Int) = true := by decide
  have lc1 := lc_strs (v := 2) (ρ0 := [some (.str w), none, none]) (by simp) rfl (is := List.range 24) fun i hi => by have := List.mem_range.mp hi; omega
  have e1 : (List.range 24).map (fun i : Nat => D.int (i : Int)) = iota 0 24 := by simp [iota]
  rw [e1] at lc1
  have lc1 : lcD [2] (fgName 2) fYes (fCall dStr (fCons (fVar 2) (fNil))) (iota 0 24) [some (.str w), none, none] = some (words24.map D.str, [some (.str w), none, none]) := lc1
  have lz1 : (words24.map D.str).length ≤ sizeLine := big_ok (by decide)
  have ni := (in_strs w words24).1
  have lf : imm (.lst (words24.map D.str)) = false := rfl
  cases g : good w with
  | none =>
    have n : w ∉ words24 := fun h => by
      obtain ⟨i, e⟩ := words_mem.mp h
      rw [g] at e; cases e
    rw [decide_eq_false n] at ni
    generalize words24.map D.str = W24 at *
    simp [RZ.d__law_number, RZ.b__law_number, denOf, ok24, lc1, lz1, lf, ni, optD, wipeF]
  | some i =>
    have m : w ∈ words24 := words_mem.mpr ⟨i, g⟩
    obtain ⟨hi, rfl⟩ := good_iff.mp g
    rw [decide_eq_true m] at ni
    have ix := index24 hi
    generalize words24.map D.str = W24 at *
    simp [RZ.d__law_number, RZ.b__law_number, denOf, ok24, lc1, lz1, lf, ni, ap_index, ap_methR, ix, optD, wipeF]
theorem goods_opt : ∀ {ws : List Str}, (goods ws = none ↔ none ∈ ws.map good)
  | [] => by simp [goods]
  | w :: ws => by
    show (good w).bind (fun i => (goods ws).map fun r => (i : Int) :: r) = none ↔ _
    have ih := @goods_opt ws
    cases g : good w with
    | none => simp [g]
    | some i =>
      rw [List.map_cons, g]
      cases h : goods ws with
      | none =>
        have := ih.mp h
        simp [this]
      | some r =>
        have : none ∉ ws.map good := fun z => by rw [ih.mpr z] at h; cases h
        simp [this]
theorem goods_all : ∀ {ws : List Str} {r : List Int}, goods ws = some r → (ws.map good).map optD = intsD r
  | [], r, h => by cases h; rfl
  | w :: ws, r, h => by
    have h : (good w).bind (fun i => (goods ws).map fun r => (i : Int) :: r) = some r := h
    obtain ⟨i, e1, h⟩ := Option.bind_eq_some_iff.mp h
    obtain ⟨t, e2, rfl⟩ := Option.map_eq_some_iff.mp h
    show optD (good w) :: (ws.map good).map optD = D.int i :: intsD t
    rw [e1, goods_all e2]; rfl
/-! ### reading line by line -/
/-- what lines write behind what is met: the first line that can't stand, or all that is met, the rows -/
def walkF : List Str → Nat → List Int → List (List Int) → Nat ⊕ (List Int × List (List Int))
  | [], k, met, rows => .inr (met, rows)
  | x :: xs, k, met, rows => match rowF x met with
    | none => .inl k
    | some r => walkF xs (k + 1) (met ++ r) (rows ++ [r])
theorem Met.more {met r : List Int} {x : Str} (h : Met met) (e : rowF x met = some r) : Met (met ++ r) ∧ r ≠ [] := by
  obtain ⟨g, nd, dj, _⟩ := row_some e
  obtain ⟨l, rg⟩ := goods_rng g
  refine ⟨⟨List.nodup_append.mpr ⟨h.1, nd, fun a ha b hb e => dj b hb (by rw [← e]; exact ha)⟩, fun d hd => (List.mem_append.1 hd).elim (h.2 d) (rg d)⟩, fun z => ?_⟩
  rw [z] at l
  exact words_ne x (List.eq_nil_of_length_eq_zero l.symm)
/-- the rows of what is met -/
structure Rws (met : List Int) (rows : List (List Int)) : Prop where
  mt : Met met
  flat : rows.flatten = met
  ne : ∀ r ∈ rows, r ≠ []
theorem Rws.more {met r : List Int} {rows : List (List Int)} {x : Str} (h : Rws met rows) (e : rowF x met = some r) : Rws (met ++ r) (rows ++ [r]) := by
  obtain ⟨a, b⟩ := h.mt.more e
  refine ⟨a, by rw [List.flatten_append, h.flat]; simp, fun q hq => ?_⟩
  rcases List.mem_append.1 hq with z | z
  · exact h.ne q z
  · rw [List.mem_singleton.1 z]; exact b
theorem Rws.start : Rws [] [] := ⟨⟨List.nodup_nil, by simp⟩, rfl, by simp⟩
theorem Rws.few {met : List Int} {rows : List (List Int)} (h : Rws met rows) : rows.length ≤ 24 := by
  have l := h.mt.len
  rw [← h.flat] at l
  have : ∀ rs : List (List Int), (∀ r ∈ rs, r ≠ []) → rs.length ≤ rs.flatten.length := by
    intro rs
    induction rs with
    | nil => simp
    | cons r rs ih =>
      intro q
      have := ih fun z hz => q z (List.mem_cons_of_mem _ hz)
      have := List.length_pos_iff.mpr (q r List.mem_cons_self)
      rw [List.flatten_cons, List.length_append, List.length_cons]
      omega
  have := this rows h.ne
  omega
def fullB (met : List Int) : Bool := !decide (met = []) && decide (met.length % 2 = 0) && met.all fun d => decide (d < (met.length : Nat))
/-- the web that lines write, or the line -/
def readF (ls : List Str) : Nat ⊕ List (List Int) := match walkF ls 0 [] [] with
  | .inl k => .inl k
  | .inr (met, rows) => if fullB met = true then .inr rows else .inl ls.length
theorem walk_step {ls : List Str} {p : Nat} {x : Str} (h : ls[p]? = some x) (met : List Int) (rows : List (List Int)) : walkF (ls.drop p) p met rows = match rowF x met with
    | none => .inl p
    | some r => walkF (ls.drop (p + 1)) (p + 1) (met ++ r) (rows ++ [r]) := by
  have lt := (List.getElem?_eq_some_iff.mp h).1
  rw [List.drop_eq_getElem_cons lt, (List.getElem?_eq_some_iff.mp h).2]
  rfl
theorem walk_rws : ∀ {ls : List Str} {k : Nat} {met : List Int} {rows : List (List Int)} {m : List Int} {R : List (List Int)}, Rws met rows → walkF ls k met rows = .inr (m, R) → Rws m R
  | [], k, met, rows, m, R, h, e => by cases e; exact h
  | x :: xs, k, met, rows, m, R, h, e => by
    cases q : rowF x met with
    | none => simp only [walkF, q] at e; cases e
    | some r =>
      simp only [walkF, q] at e
      exact walk_rws (h.more q) e
end RZ
/-! The family of texts: read_web. -/
namespace RZ
open PySem PySem.Spec L2 DL
def prs (ls : List Str) : List (Nat × Str) := ls.mapIdx fun i x => (i, x)
theorem prs_get (ls : List Str) (p : Nat) : (prs ls)[p]? = (ls[p]?).map fun x => (p, x) := by
  unfold prs
  rw [List.getElem?_mapIdx]
theorem prs_len (ls : List Str) : (prs ls).length = ls.length := by
  unfold prs
  rw [List.length_mapIdx]
def prD (q : Nat × Str) : D := .tup [.int (q.1 : Nat), .str q.2]
theorem counted_strs (ls : List Str) : counted (ls.map D.str) = (prs ls).map prD := by
  refine List.ext_getElem? fun p => ?_
  unfold counted
  rw [List.getElem?_mapIdx, List.getElem?_map, List.getElem?_map, prs_get]
  cases ls[p]? <;> rfl
/-- what is told of a list of lines: its web, or the line -/
def outX (ls : List Str) : OX := match readF ls with
  | .inl k => .up ⟨"NoText", [(.inr "line", .int (k : Nat))]⟩
  | .inr rows => .val (.tup (rows.map rowD))
def WbI (ls : List Str) (o0 : Option D) (p : Nat) (ρ : Fm) : Prop := ∃ (met : List Int) (rows : List (List Int)) (o3 o4 o5 : Option D), ρ = [o0, some (.lst (intsD met)), some (.lst (rows.map rowD)), o3, o4, o5] ∧ Rws met rows ∧ walkF ls 0 [] [] = walkF (ls.drop p) p met rows
theorem full_max {met : List Int} {m : Int} (hm : Met met) (im : m < (met.length : Nat) ↔ ∀ n ∈ met, n < (met.length : Nat)) (ne : met ≠ []) (ev : met.length % 2 = 0) : fullB met = decide (m < (met.length : Nat)) := by
  unfold fullB
  rw [decide_eq_false ne, decide_eq_true ev]
  refine Bool.eq_iff_iff.mpr ?_
  rw [decide_eq_true_iff, im]
  simp
theorem max_lt {ns : List Int} (h : ns ≠ []) (b : Int) : ∃ m, dMm max [.lst (intsD ns)] = some (.int m) ∧ (m < b ↔ ∀ n ∈ ns, n < b) := by
  cases ns with
  | nil => exact absurd rfl h
  | cons n ns =>
    refine ⟨ns.foldl max n, ?_, ?_⟩
    · show (intsOf (intsD (n :: ns))).bind _ = _
      rw [intsOf_ints]; rfl
    · have key : ∀ (ns : List Int) (a : Int), (ns.foldl max a < b ↔ a < b ∧ ∀ n ∈ ns, n < b) := by
        intro ns
        induction ns with
        | nil => intro a; simp
        | cons c ns ih =>
          intro a
          show ns.foldl max (max a c) < b ↔ _
          rw [ih (max a c)]
          constructor
          · rintro ⟨h1, h2⟩
            refine ⟨by omega, fun x hx => ?_⟩
            rcases List.mem_cons.1 hx with rfl | hx
            · omega
            · exact h2 x hx
          · rintro ⟨h1, h2⟩
            have := h2 c List.mem_cons_self
            exact ⟨by omega, fun x hx => h2 x (List.mem_cons_of_mem _ hx)⟩
      rw [key]
      constructor
      · rintro ⟨a, b⟩ x hx
        rcases List.mem_cons.1 hx with rfl | hx
        · exact a
        · exact b x hx
      · intro a
        exact ⟨a n List.mem_cons_self, fun x hx => a x (List.mem_cons_of_mem _ hx)⟩
theorem void_eq (a : List Int) : dEq (.lst (intsD a)) (.lst []) = some (.bl (decide (a = []))) := eq_ints (b := []) (.inl rfl) (.inl rfl)
theorem int_eq (d n : Int) : dEq (.int d) (.int n) = some (.bl (decide (d = n))) := by
  show some (D.bl (decide (V.int d = V.int n))) = _
  exact congrArg (fun b => some (D.bl b)) (decide_eq_decide.mpr ⟨V.int.inj, fun z => by rw [z]⟩)
theorem web_ok {ls : List Str} (hl : ls.length ≤ 1000) (hx : ∀ x ∈ ls, x.length ≤ 3000) {LD : D} (hL : LD = .lst (ls.map D.str) ∨ LD = .flst (ls.map D.str)) : RZ.d_read_web [LD] = some (outX ls, [some (.flst (ls.map D.str))]) := by
  have main : Ok (RZ.d_read_web [LD]) fun z => z = (outX ls, [some (.flst (ls.map D.str))]) := by
    have il := imm_strs ls
    have fl : frzL (ls.map D.str) = some (ls.map D.str) := frzL_id _ il
    have fz : frzD LD = some (.flst (ls.map D.str)) := by
      rcases hL with rfl | rfl
      · rw [frz_lst, fl]; rfl
      · rw [frz_flst, fl]; rfl
    have iF : imm (.flst (ls.map D.str)) = true := il
    have cs := counted_strs ls
    have dl : dLen [.flst (ls.map D.str)] = some (.int (ls.length : Nat)) := by
      show some (D.int ((ls.map D.str).length : Nat)) = _
      rw [List.length_map]
    simp [RZ.d_read_web, RZ.b_read_web, denX, fz, il, cs, ok_bind]
    generalize hLF : D.flst (ls.map D.str) = LF at *
    refine okX_at (emb := prD) (prs ls) (WbI ls (some LF)) (fun p q ρ hq hI => ?_) (fun ρ hI => ?_) ⟨[], [], none, none, none, rfl, Rws.start, rfl⟩
    · obtain ⟨met, rows, o3, o4, o5, rfl, hR, hw⟩ := hI
      rw [prs_get] at hq
      obtain ⟨x, hxp, rfl⟩ := Option.map_eq_some_iff.mp hq
      have e := row_ok (x := x) (met := met) (hx x (List.mem_of_getElem? hxp)) hR.mt
      rw [walk_step hxp] at hw
      cases r : rowF x met with
      | none =>
        rw [r] at e hw
        have e : RZ.d_row_in_line [.str x, .lst (intsD met)] = some (.non, [some (.str x), some (.lst (intsD met))]) := e
        have ni : dIsN .non .non = some (.bl true) := rfl
        have im : imm (.lst (intsD met)) = false := rfl
        have ro : readF ls = .inl p := by unfold readF; rw [hw]
        generalize D.lst (intsD met) = MM at *
        generalize D.lst (rows.map rowD) = RR at *
        simp [prD, e, ni, im]
        unfold outX
        rw [ro]
      | some rr =>
        rw [r] at e hw
        have e : RZ.d_row_in_line [.str x, .lst (intsD met)] = some (rowD rr, [some (.str x), some (.lst (intsD met))]) := e
        have ni : dIsN (rowD rr) .non = some (.bl false) := rfl
        have im : imm (.lst (intsD met)) = false := rfl
        have ir := imm_rw rr
        have hR' := hR.more r
        have ma : mAppend (.lst (rows.map rowD)) [rowD rr] = some (.lst ((rows ++ [rr]).map rowD), .non) := by
          have := hR.few
          rw [append_l (by rw [List.length_map]; have : sizeLine = 16777216 := rfl; omega), List.map_append]; rfl
        have ls' : dList [rowD rr] = some (.lst (intsD rr)) := by
          show (if immL (intsD rr) = true then some (D.lst (intsD rr)) else none) = _
          rw [if_pos (immL_ints rr)]
        have mx : mExtend (.lst (intsD met)) [.lst (intsD rr)] = some (.lst (intsD (met ++ rr)), .non) := by
          have := hR'.mt.len
          rw [List.length_append] at this
          show (if (intsD met).length + (intsD rr).length ≤ sizeLine then some (D.lst (intsD met ++ intsD rr), D.non) else none) = _
          rw [if_pos (big_ok (by rw [intsD, intsD, List.length_map, List.length_map]; omega))]
          unfold intsD
          rw [List.map_append]
        have is1 : isLst (.lst (intsD met)) = true := rfl
        have is2 : isLst (.lst (rows.map rowD)) = true := rfl
        have hr : imm (.lst (rows.map rowD)) = false := rfl
        have iq : imm (.lst (intsD rr)) = false := rfl
        have fin : WbI ls (some LF) (p + 1) [some LF, some (.lst (intsD (met ++ rr))), some (.lst ((rows ++ [rr]).map rowD)), some (.int (p : Nat)), some (.str x), some (rowD rr)] := ⟨_, _, _, _, _, rfl, hR', hw⟩
        generalize D.lst (intsD (met ++ rr)) = M2 at *
        generalize D.lst ((rows ++ [rr]).map rowD) = R2 at *
        generalize D.lst (intsD met) = MM at *
        generalize D.lst (intsD rr) = QQ at *
        generalize D.lst (rows.map rowD) = RR at *
        generalize rowD rr = RW at *
        simp [prD, e, ni, im, ir, ma, ls', mx, is1, is2]
        exact fin
    · obtain ⟨met, rows, o3, o4, o5, rfl, hR, hw⟩ := hI
      rw [prs_len, List.drop_length] at hw
      have hw : walkF ls 0 [] [] = .inr (met, rows) := hw
      have ro : readF ls = if fullB met = true then .inr rows else .inl ls.length := by unfold readF; rw [hw]
      have ve := void_eq met
      have dlm : dLen [.lst (intsD met)] = some (.int (met.length : Nat)) := by
        show some (D.int ((intsD met).length : Nat)) = _
        rw [List.length_map]
      have im : imm (.lst (intsD met)) = false := rfl
      have ir : imm (.lst (rows.map rowD)) = false := rfl
      have irr : immL (rows.map rowD) = true := immL_mem.mpr fun d hd => by
        obtain ⟨r, _, rfl⟩ := List.mem_map.1 hd
        exact imm_rw r
      have tp : dTuple [.lst (rows.map rowD)] = some (.tup (rows.map rowD)) := tuple_l irr
      have it : imm (.tup (rows.map rowD)) = true := irr
      have fm : ((met.length : Nat) : Int).fmod 2 = ((met.length % 2 : Nat) : Int) := by
        rw [Int.fmod_eq_emod_of_nonneg _ (by decide)]
        rfl
      have qe := int_eq ((met.length % 2 : Nat) : Int) 1
      have md : dMod (.int (met.length : Nat)) (.int 2) = some (.int ((met.length % 2 : Nat) : Int)) := by
        rw [← fm]
        show (if (2 : Int) ≠ 0 then some (D.int (((met.length : Nat) : Int).fmod 2)) else none) = _
        rw [if_pos (by decide)]
      unfold outX
      rw [ro]
      by_cases c1 : met = []
      · have fb : fullB met = false := by unfold fullB; rw [decide_eq_true c1]; rfl
        rw [decide_eq_true c1] at ve
        rw [fb, if_neg (by decide)]
        generalize D.lst (intsD met) = MM at *
        generalize D.lst (rows.map rowD) = RR at *
        generalize D.tup (rows.map rowD) = TT at *
        simp [ve, dl, im]
      · rw [decide_eq_false c1] at ve
        obtain ⟨m, em, imx⟩ := max_lt c1 ((met.length : Nat) : Int)
        by_cases c2 : met.length % 2 = 0
        · have fb := full_max hR.mt imx c1 c2
          rw [c2] at md qe
          have qe : dEq (.int ((0 : Nat) : Int)) (.int 1) = some (.bl false) := qe
          by_cases c3 : m < (met.length : Nat)
          · rw [decide_eq_true c3] at fb
            rw [fb, if_pos rfl]
            have c3' : ¬ ((met.length : Nat) : Int) ≤ m := by omega
            generalize D.lst (intsD met) = MM at *
            generalize D.lst (rows.map rowD) = RR at *
            generalize hT : D.tup (rows.map rowD) = TT at *
            generalize met.length = nn at *
            simp [ve, dl, im, dlm, md, qe, em, c3', tp, it, hT]
          · rw [decide_eq_false c3] at fb
            rw [fb, if_neg (by decide)]
            have c3' : ((met.length : Nat) : Int) ≤ m := by omega
            generalize D.lst (intsD met) = MM at *
            generalize D.lst (rows.map rowD) = RR at *
            generalize hT : D.tup (rows.map rowD) = TT at *
            generalize met.length = nn at *
            simp [ve, dl, im, dlm, md, qe, em, c3', tp, it, hT]
        · have fb : fullB met = false := by unfold fullB; rw [decide_eq_false c2]; simp
          have z : met.length % 2 = 1 := by omega
          rw [z] at md qe
          have qe : dEq (.int ((1 : Nat) : Int)) (.int 1) = some (.bl true) := qe
          rw [fb, if_neg (by decide)]
          generalize D.lst (intsD met) = MM at *
          generalize D.lst (rows.map rowD) = RR at *
          generalize D.tup (rows.map rowD) = TT at *
          generalize met.length = nn at *
          simp [ve, dl, im, dlm, md, qe]
  obtain ⟨z, e, rfl⟩ := main
  exact e
end RZ
/-! The family of texts: the law's own reading of lines. -/
namespace RZ
open PySem PySem.Spec L2 DL
def saidR : Nat ⊕ List (List Int) → D
  | .inl k => .tup [.str "line", .int (k : Nat)]
  | .inr rows => .tup [.str "web", .tup (rows.map rowD)]
def LrI (LD : D) (ls : List Str) (p : Nat) (ρ : Fm) : Prop := ∃ (met : List Int) (rows : List (List Int)) (o3 o4 : Option D), ρ = [some LD, some (.lst (intsD met)), some (.lst (rows.map rowD)), o3, o4, none, none] ∧ Rws met rows ∧ walkF ls 0 [] [] = walkF (ls.drop p) p met rows
theorem ne_voidI (a : List Int) : dNe (.lst (intsD a)) (.lst []) = some (.bl (!decide (a = []))) := ne_ints (b := []) (.inl rfl) (.inl rfl)
theorem fil_void {l : List Int} {q : Int → Bool} : l.filter q = [] ↔ ∀ d ∈ l, q d = false := by
  rw [List.filter_eq_nil_iff]
  exact ⟨fun h d hd => by simpa using h d hd, fun h d hd => by simp [h d hd]⟩
theorem up_rises (n : Nat) : (up n).Pairwise (· ≤ ·) := by
  unfold up
  refine List.pairwise_map.mpr (List.Pairwise.imp (fun {a b} h => ?_) List.pairwise_lt_range)
  omega
theorem perm_up {met : List Int} (h : Met met) (lt : ∀ d ∈ met, d < (met.length : Nat)) : met.Perm (up met.length) := by
  refine (List.perm_ext_iff_of_nodup h.1 (up_nodup _)).mpr fun d => ⟨fun hd => up_mem.mpr ⟨(h.2 d hd).1, lt d hd⟩, fun hd => ?_⟩
  have sub : ∀ x ∈ met, x ∈ up met.length := fun x hx => up_mem.mpr ⟨(h.2 x hx).1, lt x hx⟩
  exact (RE.same_len h.1 (up_nodup _) sub).mp (by rw [up_length]) d hd
theorem lread_ok {ls : List Str} (hl : ls.length ≤ 1000) (hx : ∀ x ∈ ls, x.length ≤ 3000) {LD : D} (hL : LD = .lst (ls.map D.str) ∨ LD = .flst (ls.map D.str)) : RZ.d__law_read [LD] = some (saidR (readF ls), [some LD]) := by
  have main : Ok (RZ.d__law_read [LD]) fun z => z = (saidR (readF ls), [some LD]) := by
    have dl : dLen [LD] = some (.int (ls.length : Nat)) := by
      rcases hL with rfl | rfl <;>
        (show some (D.int ((ls.map D.str).length : Nat)) = _
         rw [List.length_map])
    have okn : okR ((ls.length : Nat) : Int) = true := okR_of' (by omega) (by omega)
    have gt : ∀ (p : Nat) (x : Str), ls[p]? = some x → dSubs LD (.int (p : Nat)) = some (.str x) := fun p x h => by
      rcases hL with rfl | rfl
      · exact dSubs_seq (ds := ls.map D.str) rfl (by omega) (by rw [Int.toNat_natCast, List.getElem?_map, h]; rfl) rfl
      · exact dSubs_seq (ds := ls.map D.str) rfl (by omega) (by rw [Int.toNat_natCast, List.getElem?_map, h]; rfl) rfl
    clear hL
    simp [RZ.d__law_read, RZ.b__law_read, denOf, dl, okn, ok_bind]
    refine ok_iota (n := ls.length) (LrI LD ls) (fun p ρ hp hI => ?_) (fun ρ hI => ?_) ⟨[], [], none, none, rfl, Rws.start, rfl⟩
    · obtain ⟨met, rows, o3, o4, rfl, hR, hw⟩ := hI
      obtain ⟨x, hxp⟩ : ∃ x, ls[p]? = some x := ⟨ls[p], List.getElem?_eq_getElem hp⟩
      have hx3 := hx x (List.mem_of_getElem? hxp)
      rw [walk_step hxp] at hw
      have g := gt p x hxp
      have sp' : dSplit (.str x) [.str " "] = some (.lst ((RZ.wordsOf x).map D.str)) := split_ok x (by omega)
      have ww := words_wt x
      have lw := wt_len (RZ.wordsOf x)
      have ne := words_ne x
      have row_eq : ∀ q, rowF x met = q → (match goods (RZ.wordsOf x) with
        | none => none
        | some r => if r.Nodup ∧ (∀ d ∈ r, d ∉ met) ∧ (∀ j ∈ up (r.headD 0).toNat, j ∈ met) then some r else none) = q := fun q h => h
      have rs : ∀ r, rowF x met = some r → Rws (met ++ r) (rows ++ [r]) := fun r h => hR.more h
      unfold rowF at hw rs
      clear row_eq
      generalize RZ.wordsOf x = ws at *
      have il := imm_strs ws
      have fl : frzL (ws.map D.str) = some (ws.map D.str) := frzL_id _ il
      have lc := lcD_all (vs := [5]) (fg := fgName 5) (fe := fCallD RZ.d__law_number (fCons (fVar 5) (fNil))) (ρ0 := [some LD, some (.lst (intsD met)), some (.lst (rows.map rowD)), some (.int (p : Nat)), o4, none, none]) (emb := D.str) (z := fun w => optD (good w)) (xs := ws) fun w _ => by
        have e := lnumber_ok w
        have i : imm (optD (good w)) = true := by cases good w <;> rfl
        generalize D.lst (intsD met) = MM at *
        generalize D.lst (rows.map rowD) = RR at *
        obtain ⟨Y, hY⟩ : ∃ Y : Fm, Y = [some LD, some MM, some RR, some (.int (p : Nat)), o4, some (.str w), none] := ⟨_, rfl⟩
        exact ⟨Y, by simp [hY], .val (optD (good w)), Y, Y, by simp [hY, e], rfl, by simp [hY, wipeF]⟩
      have em : ws.map (fun w => optD (good w)) = (ws.map good).map optD := by rw [List.map_map]; rfl
      rw [em] at lc
      have lz : ((ws.map good).map optD).length ≤ sizeLine := big_ok (by rw [List.length_map, List.length_map]; omega)
      have ni := none_in (ws.map good)
      have im : imm (.lst (intsD met)) = false := rfl
      cases gd : goods ws with
      | none =>
        rw [decide_eq_true (goods_opt.mp gd)] at ni
        rw [gd] at hw
        have ro : readF ls = .inl p := by unfold readF; rw [hw]
        rw [ro]
        generalize (ws.map good).map optD = NL at *
        generalize ws.map D.str = SL at *
        generalize D.lst (intsD met) = MM at *
        generalize D.lst (rows.map rowD) = RR at *
        simp [g, sp', fMethR, fl, il, lc, lz, ni, wipeF, big_ok]
        rfl
      | some r =>
        rw [decide_eq_false (fun z => by rw [goods_opt.mpr z] at gd; cases gd), goods_all gd] at ni
        rw [goods_all gd] at lc lz
        rw [gd] at hw rs
        obtain ⟨lgr, rg⟩ := goods_rng gd
        have l4 : r.length ≤ 4000 := by omega
        have ts : intsIn (.lst (intsD r)) = some r := intsOf_ints r
        have dlr : dLen [.lst (intsD r)] = some (.int (ws.length : Nat)) := by
          show some (D.int ((intsD r).length : Nat)) = _
          rw [List.length_map, lgr]
        have ii : immL (intsD r) = true := immL_ints r
        have fr : frzL (intsD r) = some (intsD r) := frzL_id _ ii
        have b3 : r.Nodup → ¬ (ascend r).length < ws.length := fun z => by rw [nd_len z, lgr]; omega
        have b3' : ¬ r.Nodup → (ascend r).length < ws.length := fun z => by have := ascend_short' z; omega
        obtain ⟨r0, r', er⟩ : ∃ r0 r', r = r0 :: r' := by
          cases hq : r with
          | nil => rw [hq] at lgr; exact absurd (List.eq_nil_of_length_eq_zero lgr.symm) ne
          | cons a b => exact ⟨a, b, rfl⟩
        have hd0 : r.headD 0 = r0 := by rw [er]; rfl
        have r00 := rg r0 (by rw [er]; simp)
        have okr : okR r0 = true := okR_of' (by omega) (by omega)
        have g0 : dSubs (.flst (intsD r)) (.int 0) = some (.int r0) := dSubs_seq (ds := intsD r) rfl (by decide) (by rw [er]; rfl) rfl
        have tp : dTuple [.flst (intsD r)] = some (rowD r) := by
          show (if immL (intsD r) = true then some (D.tup (intsD r)) else none) = _
          rw [if_pos ii]; rfl
        have lc2 := lcD_of (vs := [6]) (fg := fgName 6) (ft := fTest (fOp dIn (fVar 6) (fVar 1))) (fe := fVar 6) (ρ0 := [some LD, some (.lst (intsD met)), some (.lst (rows.map rowD)), some (.int (p : Nat)), some (.flst (intsD r)), none, none]) (emb := D.int) (z := D.int) (p := fun d => decide (d ∈ met)) (xs := r) fun d _ => by
          have ie := (in_met d met).1
          generalize D.lst (intsD met) = MM at *
          generalize D.lst (rows.map rowD) = RR at *
          generalize D.flst (intsD r) = NF at *
          obtain ⟨Y, hY⟩ : ∃ Y : Fm, Y = [some LD, some MM, some RR, some (.int (p : Nat)), some NF, none, some (.int d)] := ⟨_, rfl⟩
          exact ⟨Y, by simp [hY], Y, by simp [hY, ie], fun _ => by simp [hY, wipeF], fun _ => ⟨.var 6, Y, Y, by simp [hY], by rw [hY]; rfl, by simp [hY, wipeF]⟩⟩
        have lc2 : lcD [6] (fgName 6) (fTest (fOp dIn (fVar 6) (fVar 1))) (fVar 6) (intsD r) [some LD, some (.lst (intsD met)), some (.lst (rows.map rowD)), some (.int (p : Nat)), some (.flst (intsD r)), none, none] = some (intsD (r.filter fun d => decide (d ∈ met)), [some LD, some (.lst (intsD met)), some (.lst (rows.map rowD)), some (.int (p : Nat)), some (.flst (intsD r)), none, none]) := lc2
        have lc3 := lcD_of (vs := [6]) (fg := fgName 6) (ft := fTest (fOp dNotIn (fVar 6) (fVar 1))) (fe := fVar 6) (ρ0 := [some LD, some (.lst (intsD met)), some (.lst (rows.map rowD)), some (.int (p : Nat)), some (.flst (intsD r)), none, none]) (emb := D.int) (z := D.int) (p := fun d => !decide (d ∈ met)) (xs := up r0.toNat) fun d _ => by
          have ie := (in_met d met).2
          generalize D.lst (intsD met) = MM at *
          generalize D.lst (rows.map rowD) = RR at *
          generalize D.flst (intsD r) = NF at *
          obtain ⟨Y, hY⟩ : ∃ Y : Fm, Y = [some LD, some MM, some RR, some (.int (p : Nat)), some NF, none, some (.int d)] := ⟨_, rfl⟩
          exact ⟨Y, by simp [hY], Y, by simp [hY, ie], fun _ => by simp [hY, wipeF], fun _ => ⟨.var 6, Y, Y, by simp [hY], by rw [hY]; rfl, by simp [hY, wipeF]⟩⟩
        have lc3 : lcD [6] (fgName 6) (fTest (fOp dNotIn (fVar 6) (fVar 1))) (fVar 6) (iota 0 r0.toNat) [some LD, some (.lst (intsD met)), some (.lst (rows.map rowD)), some (.int (p : Nat)), some (.flst (intsD r)), none, none] = some (intsD ((up r0.toNat).filter fun d => !decide (d ∈ met)), [some LD, some (.lst (intsD met)), some (.lst (rows.map rowD)), some (.int (p : Nat)), some (.flst (intsD r)), none, none]) := by rw [iota_up]; exact lc3
        have v2 := ne_voidI (r.filter fun d => decide (d ∈ met))
        have v3 := ne_voidI ((up r0.toNat).filter fun d => !decide (d ∈ met))
        have z2 : (r.filter fun d => decide (d ∈ met)).length ≤ sizeLine := big_ok (by
          have := List.length_filter_le (fun d => decide (d ∈ met)) r
          omega)
        have z3 : ((up r0.toNat).filter fun d => !decide (d ∈ met)).length ≤ sizeLine := big_ok (by
          have := List.length_filter_le (fun d => !decide (d ∈ met)) (up r0.toNat)
          rw [up_length] at this
          omega)
        by_cases c3 : r.Nodup
        · have b3 := b3 c3
          by_cases c4 : ∀ d ∈ r, d ∉ met
          · have c4' : r.filter (fun d => decide (d ∈ met)) = [] := fil_void.mpr fun d hd => decide_eq_false (c4 d hd)
            rw [c4', decide_eq_true rfl] at v2
            rw [c4'] at lc2 z2
            by_cases c5 : ∀ j ∈ up (r.headD 0).toNat, j ∈ met
            · have c5' : (up r0.toNat).filter (fun d => !decide (d ∈ met)) = [] := fil_void.mpr fun d hd => by
                rw [hd0] at c5
                rw [decide_eq_true (c5 d hd)]; rfl
              rw [c5', decide_eq_true rfl] at v3
              rw [c5'] at lc3 z3
              have hw' : walkF ls 0 [] [] = walkF (ls.drop (p + 1)) (p + 1) (met ++ r) (rows ++ [r]) := by
                rw [hw]
                simp only [if_pos (And.intro c3 (And.intro c4 c5))]
              have hR' := rs r (by simp only [if_pos (And.intro c3 (And.intro c4 c5))])
              have ma : mAppend (.lst (rows.map rowD)) [rowD r] = some (.lst ((rows ++ [r]).map rowD), .non) := by
                have := hR.few
                rw [append_l (by rw [List.length_map]; have : sizeLine = 16777216 := rfl; omega), List.map_append]; rfl
              have ct : dCatS (.lst (intsD met)) (.flst (intsD r)) = some (.lst (intsD (met ++ r))) := by
                have := hR'.mt.len
                rw [List.length_append] at this
                show (if (immL (intsD met) && immL (intsD r)) = true ∧ (intsD met).length + (intsD r).length ≤ sizeLine then some (D.lst (intsD met ++ intsD r)) else none) = _
                rw [if_pos ⟨by rw [show immL (intsD met) = true from immL_ints met, ii]; rfl, big_ok (by rw [intsD, intsD, List.length_map, List.length_map]; omega)⟩]
                unfold intsD
                rw [List.map_append]
              have fin : LrI LD ls (p + 1) [some LD, some (.lst (intsD (met ++ r))), some (.lst ((rows ++ [r]).map rowD)), some (.int (p : Nat)), some (.flst (intsD r)), none, none] := ⟨_, _, _, _, rfl, hR', hw'⟩
              have isL : isLst (.lst (rows.map rowD)) = true := rfl
              have ir := imm_rw r
              have im2 : imm (.lst (intsD (met ++ r))) = false := rfl
              generalize D.lst (intsD (met ++ r)) = M2 at *
              generalize D.lst ((rows ++ [r]).map rowD) = R2 at *
              generalize rowD r = RW at *
              generalize (ws.map D.str) = SL at *
              generalize D.lst (intsD met) = MM at *
              generalize D.lst (rows.map rowD) = RR at *
              generalize intsD r = IR at *
              simp [g, sp', fMethR, fl, il, lc, lz, ni, ts, l4, dlr, b3, fr, ii, lc2, v2, g0, okr, lc3, v3, tp, ma, isL, ct, ir, im2, wipeF, big_ok]
              exact fin
            · have c5' : ¬ (up r0.toNat).filter (fun d => !decide (d ∈ met)) = [] := fun z => c5 fun j hj => by
                rw [hd0] at hj
                have := fil_void.mp z j hj
                simpa using this
              rw [decide_eq_false c5'] at v3
              have hw' : walkF ls 0 [] [] = .inl p := by
                rw [hw]
                simp only [if_neg (show ¬ (r.Nodup ∧ (∀ d ∈ r, d ∉ met) ∧ (∀ j ∈ up (r.headD 0).toNat, j ∈ met)) from fun z => c5 z.2.2)]
              have ro : readF ls = .inl p := by unfold readF; rw [hw']
              rw [ro]
              generalize (ws.map D.str) = SL at *
              generalize D.lst (intsD met) = MM at *
              generalize D.lst (rows.map rowD) = RR at *
              generalize intsD r = IR at *
              simp [g, sp', fMethR, fl, il, lc, lz, ni, ts, l4, dlr, b3, fr, ii, lc2, v2, g0, okr, lc3, z3, v3, wipeF, big_ok]
              rfl
          · have c4' : ¬ r.filter (fun d => decide (d ∈ met)) = [] := fun z => c4 fun d hd hm => by
              have := fil_void.mp z d hd
              rw [decide_eq_true hm] at this
              cases this
            rw [decide_eq_false c4'] at v2
            have hw' : walkF ls 0 [] [] = .inl p := by
              rw [hw]
              simp only [if_neg (show ¬ (r.Nodup ∧ (∀ d ∈ r, d ∉ met) ∧ (∀ j ∈ up (r.headD 0).toNat, j ∈ met)) from fun z => c4 z.2.1)]
            have ro : readF ls = .inl p := by unfold readF; rw [hw']
            rw [ro]
            generalize (ws.map D.str) = SL at *
            generalize D.lst (intsD met) = MM at *
            generalize D.lst (rows.map rowD) = RR at *
            generalize intsD r = IR at *
            simp [g, sp', fMethR, fl, il, lc, lz, ni, ts, l4, dlr, b3, fr, ii, lc2, z2, v2, wipeF, big_ok]
            rfl
        · have b3 := b3' c3
          have hw' : walkF ls 0 [] [] = .inl p := by
            rw [hw]
            simp only [if_neg (show ¬ (r.Nodup ∧ (∀ d ∈ r, d ∉ met) ∧ (∀ j ∈ up (r.headD 0).toNat, j ∈ met)) from fun z => c3 z.1)]
          have ro : readF ls = .inl p := by unfold readF; rw [hw']
          rw [ro]
          generalize (ws.map D.str) = SL at *
          generalize D.lst (intsD met) = MM at *
          generalize D.lst (rows.map rowD) = RR at *
          generalize intsD r = IR at *
          simp [g, sp', fMethR, fl, il, lc, lz, ni, ts, l4, dlr, b3, fr, ii, b3, wipeF, big_ok]
          rfl
    · obtain ⟨met, rows, o3, o4, rfl, hR, hw⟩ := hI
      rw [List.drop_length] at hw
      have hw : walkF ls 0 [] [] = .inr (met, rows) := hw
      have ro : readF ls = if fullB met = true then .inr rows else .inl ls.length := by unfold readF; rw [hw]
      have ve := void_eq met
      have dlm : dLen [.lst (intsD met)] = some (.int (met.length : Nat)) := by
        show some (D.int ((intsD met).length : Nat)) = _
        rw [List.length_map]
      have im : imm (.lst (intsD met)) = false := rfl
      have irr : immL (rows.map rowD) = true := immL_mem.mpr fun d hd => by
        obtain ⟨r, _, rfl⟩ := List.mem_map.1 hd
        exact imm_rw r
      have tp : dTuple [.lst (rows.map rowD)] = some (.tup (rows.map rowD)) := tuple_l irr
      have it : imm (.tup (rows.map rowD)) = true := irr
      have fm : ((met.length : Nat) : Int).fmod 2 = ((met.length % 2 : Nat) : Int) := by
        rw [Int.fmod_eq_emod_of_nonneg _ (by decide)]
        rfl
      have qe := int_eq ((met.length % 2 : Nat) : Int) 1
      have md : dMod (.int (met.length : Nat)) (.int 2) = some (.int ((met.length % 2 : Nat) : Int)) := by
        rw [← fm]
        show (if (2 : Int) ≠ 0 then some (D.int (((met.length : Nat) : Int).fmod 2)) else none) = _
        rw [if_pos (by decide)]
      have l24 := hR.mt.len
      have okm : okR ((met.length : Nat) : Int) = true := okR_of' (by omega) (by omega)
      have so := RE.sorted_ints met
      have ns : dNe (.lst (intsD (RE.srt met))) (.lst (intsD (up met.length))) = some (.bl (!decide (RE.srt met = up met.length))) := ne_ints (.inl rfl) (.inl rfl)
      have io : iota 0 met.length = intsD (up met.length) := iota_up _
      have nm : ((met.length : Nat) : Int) ≤ 16777216 := by omega
      have sr : saidR (.inr rows) = .tup [.str "web", .tup (rows.map rowD)] := rfl
      rw [ro]
      by_cases c1 : met = []
      · have fb : fullB met = false := by unfold fullB; rw [decide_eq_true c1]; rfl
        rw [decide_eq_true c1] at ve
        rw [fb, if_neg (by decide)]
        generalize D.lst (intsD met) = MM at *
        generalize D.lst (rows.map rowD) = RR at *
        generalize D.tup (rows.map rowD) = TT at *
        simp [ve, dl, im, big_ok]
        rfl
      · rw [decide_eq_false c1] at ve
        by_cases c2 : met.length % 2 = 0
        · rw [c2] at md qe
          have qe : dEq (.int ((0 : Nat) : Int)) (.int 1) = some (.bl false) := qe
          have fb : fullB met = decide (RE.srt met = up met.length) := by
            unfold fullB
            rw [decide_eq_false c1, decide_eq_true c2]
            refine Bool.eq_iff_iff.mpr ?_
            rw [decide_eq_true_iff]
            constructor
            · intro h
              have h : met.all (fun d => decide (d < (met.length : Nat))) = true := by simpa using h
              refine RE.srt_of ?_ (up_rises _)
              refine perm_up hR.mt fun d hd => ?_
              exact of_decide_eq_true (List.all_eq_true.mp h d hd)
            · intro h
              have p := RE.srt_perm met
              rw [h] at p
              have : met.all (fun d => decide (d < (met.length : Nat))) = true := List.all_eq_true.mpr fun d hd => decide_eq_true (up_mem.mp (p.mem_iff.mpr hd)).2
              simpa using this
          rw [← io] at ns
          by_cases c3 : RE.srt met = up met.length
          · rw [decide_eq_true c3] at fb ns
            rw [fb, if_pos rfl]
            generalize D.lst (intsD (RE.srt met)) = SS at *
            generalize D.lst (intsD met) = MM at *
            generalize D.lst (rows.map rowD) = RR at *
            generalize hT : D.tup (rows.map rowD) = TT at *
            generalize met.length = nn at *
            simp [ve, dl, im, dlm, md, qe, so, okm, nm, ns, tp, it, hT, sr, big_ok]
          · rw [decide_eq_false c3] at fb ns
            rw [fb, if_neg (by decide)]
            generalize D.lst (intsD (RE.srt met)) = SS at *
            generalize D.lst (intsD met) = MM at *
            generalize D.lst (rows.map rowD) = RR at *
            generalize hT : D.tup (rows.map rowD) = TT at *
            generalize met.length = nn at *
            simp [ve, dl, im, dlm, md, qe, so, okm, nm, ns, tp, it, hT, sr, big_ok]
            rfl
        · have fb : fullB met = false := by unfold fullB; rw [decide_eq_false c2]; simp
          have z : met.length % 2 = 1 := by omega
          rw [z] at md qe
          have qe : dEq (.int ((1 : Nat) : Int)) (.int 1) = some (.bl true) := qe
          rw [fb, if_neg (by decide)]
          generalize D.lst (intsD met) = MM at *
          generalize D.lst (rows.map rowD) = RR at *
          generalize D.tup (rows.map rowD) = TT at *
          generalize met.length = nn at *
          simp [ve, dl, im, dlm, md, qe, big_ok]
          rfl
  obtain ⟨z, e, rfl⟩ := main
  exact e
end RZ
/-! The family of texts: what is told of lines. -/
namespace RZ
open PySem PySem.Spec L2 DL
theorem read_few {ls : List Str} {rows : List (List Int)} (h : readF ls = .inr rows) : ∃ met, Rws met rows := by
  unfold readF at h
  split at h
  · cases h
  · rename_i met R e
    split at h
    · cases h; exact ⟨met, walk_rws Rws.start e⟩
    · cases h
theorem read_line {ls : List Str} {k : Nat} (h : readF ls = .inl k) : k ≤ ls.length := by
  have key : ∀ (ls : List Str) (k : Nat) (met : List Int) (rows : List (List Int)) (j : Nat), walkF ls k met rows = .inl j → j ≤ k + ls.length := by
    intro ls
    induction ls with
    | nil => intro k met rows j e; cases e
    | cons x xs ih =>
      intro k met rows j e
      cases q : rowF x met with
      | none => simp only [walkF, q] at e; cases e; omega
      | some r =>
        simp only [walkF, q] at e
        have := ih (k + 1) _ _ j e
        rw [List.length_cons]
        omega
  unfold readF at h
  split at h
  · rename_i j e
    cases h
    have := key ls 0 [] [] _ e
    omega
  · split at h
    · cases h
    · cases h; exact Nat.le_refl _
theorem told_nice {ls : List Str} (hl : ls.length ≤ 1000) : ∃ s, dRepr [saidR (readF ls)] = some (.str s) := by
  cases h : readF ls with
  | inl k =>
    have := read_line h
    exact ⟨_, repr_nice (k := 1) (w := 2 * 201) (nice_tup (ds := [.str "line", .int (k : Nat)]) (k := 0) (w := 200) fun d hd => by
      rcases List.mem_cons.1 hd with rfl | hd
      · exact ⟨by decide +kernel, by decide +kernel, by decide +kernel⟩
      · rw [List.mem_singleton.1 hd]; exact (nice_int (by omega)).mono (by decide) (by decide)) (by decide) (by decide)⟩
  | inr rows =>
    obtain ⟨met, R⟩ := read_few h
    have l := R.few
    have nr : Nice 2 30000 (.tup (rows.map rowD)) := (nice_tup (k := 1) (w := 24 * 41) fun d hd => by
      obtain ⟨r, hr, rfl⟩ := List.mem_map.mp hd
      have sub : ∀ i ∈ r, i ∈ met := fun i hi => by rw [← R.flat]; exact List.mem_flatten.mpr ⟨r, hr, hi⟩
      have lr : r.length ≤ 24 := by
        have l24 := R.mt.len
        rw [← R.flat] at l24
        have : ∀ rs : List (List Int), r ∈ rs → r.length ≤ rs.flatten.length := by
          intro rs
          induction rs with
          | nil => intro z; cases z
          | cons q rs ih =>
            intro z
            rw [List.flatten_cons, List.length_append]
            rcases List.mem_cons.1 z with rfl | z
            · omega
            · have := ih z; omega
        have := this rows hr
        omega
      exact (nice_tup (k := 0) (w := 40) fun d hd => by
        obtain ⟨i, hi, rfl⟩ := List.mem_map.mp hd
        have := R.mt.2 i (sub i hi)
        exact nice_int (by omega)).mono (Nat.le_refl _) (by rw [List.length_map]; omega)).mono (Nat.le_refl _) (by rw [List.length_map]; omega)
    exact ⟨_, repr_nice (nice_tup (ds := [.str "web", .tup (rows.map rowD)]) (k := 2) (w := 30000) fun d hd => by
      rcases List.mem_cons.1 hd with rfl | hd
      · exact ⟨by decide +kernel, by decide +kernel, by decide +kernel⟩
      · rw [List.mem_singleton.1 hd]; exact nr) (by decide) (by simp)⟩
theorem told_ok {ls : List Str} (hl : ls.length ≤ 1000) (hx : ∀ x ∈ ls, x.length ≤ 3000) {LD : D} (hL : LD = .lst (ls.map D.str) ∨ LD = .flst (ls.map D.str)) : RZ.d__law_told [LD] = some (saidR (readF ls), [some (.flst (ls.map D.str))]) := by
  have w := web_ok hl hx hL
  have iF : imm (.flst (ls.map D.str)) = true := imm_strs ls
  have iL : LD = .flst (ls.map D.str) ∨ imm LD = false := by
    rcases hL with rfl | rfl
    · exact .inr rfl
    · exact .inl rfl
  unfold outX at w
  cases r : readF ls with
  | inr rows =>
    rw [r] at w
    have w : RZ.d_read_web [LD] = some (.val (.tup (rows.map rowD)), [some (.flst (ls.map D.str))]) := w
    have it : imm (.tup (rows.map rowD)) = true := immL_mem.mpr fun d hd => by
      obtain ⟨r, _, rfl⟩ := List.mem_map.1 hd
      exact imm_rw r
    have sr : saidR (.inr rows) = .tup [.str "web", .tup (rows.map rowD)] := rfl
    rw [sr]
    have i2 : imm (.tup [.str "web", .tup (rows.map rowD)]) = true := by
      show (true && (imm (.tup (rows.map rowD)) && true)) = true
      rw [it]; rfl
    generalize D.tup (rows.map rowD) = TT at *
    generalize D.flst (ls.map D.str) = LF at *
    have g := fTryAs_go (fb := xAsg (xTup (xCons (xE (fC (.str "web"))) (xCons (xCall d_read_web (xA (fCons (fVar 0) (fNil)))) (xA (fNil))))) (fgName 1)) (ys := ["NoText"]) (i := 2)
      (fs := fun a c dd => fSeq (fAsg (fTup (fCons (fC (.str "odd")) (fCons (fC (.int 0)) (fNil)))) (fgName 1)) (fSeq (fAsg (fIsE a c dd (anyIs [[("NoText", false)], [("NoText", false)], [("NoText", false)], [("NoText", false)], [("NoText", false)], [("NoText", false)], [("NoText", false)]] c) 2) (fgName 3)) (fIfS (fAnd (fTest (fIsE a c dd (List.lookup c [("NoText", true)]) 2)) (fAnd (fTest (fIsE a c dd (List.lookup c [("NoText", true)]) 2)) (fNot (fTest (fVar 3))))) (fAsg (fTup (fCons (fC (.str "line")) (fCons (fFld a dd 2 "line") (fNil)))) (fgName 1)) (fSkip))))
      (ρ := [some LD, some .non, none, none]) (ρ1 := [some LF, some (.tup [.str "web", TT]), none, none]) (o := .nx) (by
        rcases iL with rfl | iL
        · simp [w, iF, it, big_ok]
        · simp [w, iL, it, big_ok])
    simp [RZ.d__law_told, RZ.b__law_told, denOf, g, i2]
  | inl k =>
    rw [r] at w
    have w : RZ.d_read_web [LD] = some (.up ⟨"NoText", [(.inr "line", .int (k : Nat))]⟩, [some (.flst (ls.map D.str))]) := w
    have sr : saidR (.inl k) = .tup [.str "line", .int (k : Nat)] := rfl
    rw [sr]
    have i2 : imm (.tup [.str "line", .int (k : Nat)]) = true := rfl
    generalize D.flst (ls.map D.str) = LF at *
    have g := fTryAs_up (fb := xAsg (xTup (xCons (xE (fC (.str "web"))) (xCons (xCall d_read_web (xA (fCons (fVar 0) (fNil)))) (xA (fNil))))) (fgName 1)) (ys := ["NoText"]) (i := 2)
      (fs := fun a c dd => fSeq (fAsg (fTup (fCons (fC (.str "odd")) (fCons (fC (.int 0)) (fNil)))) (fgName 1)) (fSeq (fAsg (fIsE a c dd (anyIs [[("NoText", false)], [("NoText", false)], [("NoText", false)], [("NoText", false)], [("NoText", false)], [("NoText", false)], [("NoText", false)]] c) 2) (fgName 3)) (fIfS (fAnd (fTest (fIsE a c dd (List.lookup c [("NoText", true)]) 2)) (fAnd (fTest (fIsE a c dd (List.lookup c [("NoText", true)]) 2)) (fNot (fTest (fVar 3))))) (fAsg (fTup (fCons (fC (.str "line")) (fCons (fFld a dd 2 "line") (fNil)))) (fgName 1)) (fSkip))))
      (ρ := [some LD, some .non, none, none]) (ρ1 := [some LF, some .non, none, none]) (x := ⟨"NoText", [(.inr "line", .int (k : Nat))]⟩) (r := (.nx, [some LF, some (.tup [.str "line", .int (k : Nat)]), none, some (.bl false)])) (by
        rcases iL with rfl | iL
        · simp [w, iF]
        · simp [w, iL]) (by simp) (by simp) (fun a dd => by
          have l1 : List.lookup ("NoText" : Str) [(("NoText" : Str), true)] = some true := by decide
          have l2 : anyIs [[("NoText", false)], [("NoText", false)], [("NoText", false)], [("NoText", false)], [("NoText", false)], [("NoText", false)], [("NoText", false)]] "NoText" = some false := by decide
          have ff : ∀ o2 o4, fFld a dd 2 "line" [some LF, o2, some (.exc a "NoText" dd [(.inr "line", .int (k : Nat))]), o4] = some (.val (.int (k : Nat)), [some LF, o2, some (.exc a "NoText" dd [(.inr "line", .int (k : Nat))]), o4]) := fun o2 o4 => by
            rw [ap_fFld rfl]
            rfl
          exact ⟨[some LF, some (.tup [.str "line", .int (k : Nat)]), some (.exc a "NoText" dd [(.inr "line", .int (k : Nat))]), some (.bl false)], by simp [l1, l2, ff, big_ok], rfl⟩)
    simp [RZ.d__law_told, RZ.b__law_told, denOf, g, i2]
/-! ### lists of texts alike -/
theorem eqv_strs : ∀ ws : List Str, PyData.eqvAll (toPL (ws.map D.str)) (toPL (ws.map D.str)) = true
  | [] => by simp [toPL, PyData.eqvAll]
  | w :: ws => by
    simp only [List.map_cons, toPL, PyData.eqvAll, eqv_strs ws, toP, PyData.eqv]
    simp
theorem same_strs {ws : List Str} (h : ∀ w ∈ ws, ∀ c ∈ w.cps.toList, c < 256) {x y : D} (hx : x = .lst (ws.map D.str) ∨ x = .flst (ws.map D.str)) (hy : y = .lst (ws.map D.str) ∨ y = .flst (ws.map D.str)) : dNe x y = some (.bl false) := by
  obtain ⟨nd, sh⟩ := shaped_strs h
  have e : dEqD x y = some true := by
    rcases hx with rfl | rfl <;> rcases hy with rfl | rfl <;>
      (show (if noDicL (ws.map D.str) = true ∧ noDicL (ws.map D.str) = true ∧ SeqAt.shaped (.list (toPL (ws.map D.str))) = true ∧ SeqAt.shaped (.list (toPL (ws.map D.str))) = true then some (PyData.eqv (.list (toPL (ws.map D.str))) (.list (toPL (ws.map D.str)))) else none) = _
       rw [if_pos ⟨nd, nd, sh, sh⟩]
       simp only [PyData.eqv, eqv_strs])
  have s : dEqS x y = none := by
    rcases hx with rfl | rfl <;> rcases hy with rfl | rfl <;> rfl
  unfold dNe dEqB
  rw [s, e]
  rfl
end RZ
/-! Lines of webs: any web by draws. -/
namespace K81
open PySem PySem.Spec L2 DL RZ
theorem seq_nx {a b : FS} {ρ ρ1 : Fm} (h : a ρ = some (.nx, ρ1)) : fSeq a b ρ = b ρ1 := by
  rw [ap_seq, h]; rfl
noncomputable section
def w0 : FS := fAsg (fOp dAdd (fC (.int 1)) (fCallD d__law_draw (fCons (fVar 0) (fCons (fOp dSubs (fLst (fCons (fC (.int 3)) (fCons (fC (.int 12)) (fCons (fC (.int 5)) (fCons (fC (.int 2)) (fNil)))))) (fCallD d__law_draw (fCons (fVar 0) (fCons (fC (.int 4)) (fNil))))) (fNil))))) (fgName 1)
def w1 : FS := fAsg (fOp dSubs (fLst (fCons (fC (.int 3)) (fCons (fC (.int 2)) (fCons (fC (.int 6)) (fCons (fC (.int 40)) (fNil)))))) (fCallD d__law_draw (fCons (fVar 0) (fCons (fC (.int 4)) (fNil))))) (fgName 2)
def w2 : FS := fAsg (fLstRg1 (fOp dMul (fC (.int 2)) (fVar 1))) (fgName 3)
def w3 : FS := fAsg (fLst (fCons (fLst (fNil)) (fNil))) (fgName 4)
def u0 : FS := fIfS (fAnd (fTest (fOpP dNe (fpIx 4 (fNeg (fC (.int 1)))) (fLst (fNil)))) (fTest (fOp dEq (fCallD d__law_draw (fCons (fVar 0) (fCons (fVar 2) (fNil)))) (fC (.int 0))))) (fDrop (fMut isLst mAppend (fpVar 4) (fCons (fLst (fNil)) (fNil)))) (fSkip)
def u1 : FS := fDrop (fMut isLst mAppend (fpIx 4 (fNeg (fC (.int 1)))) (fCons (fMut isLst mPopAt (fpVar 3) (fCons (fCallD d__law_draw (fCons (fVar 0) (fCons (fCall dLen (fCons (fVar 3) (fNil))) (fNil)))) (fNil))) (fNil)))
def u : FS := fSeq u0 u1
def w4 : FS := whileD (fTest (fOp dNe (fVar 3) (fLst (fNil)))) u fuel
def w5 : FS := fAsg (fLst (fNil)) (fgName 5)
def w6b0 : FS := fAsg (fIndex (fVar 6) (fCons (fCall (dMm min) (fCons (fVar 6) (fNil))) (fNil))) (fgName 7)
def w6b1 : FS := fDrop (fMut isLst mAppend (fpVar 5) (fCons (fCall dTuple (fCons (fOp dAdd (fCutX (fVar 6) (foSome (fVar 7)) (foNone)) (fCutX (fVar 6) (foNone) (foSome (fVar 7)))) (fNil))) (fNil)))
def w6b : FS := fSeq w6b0 w6b1
def w6 : FS := fFor (fSeqI (fFrz (fVar 4))) (fgName 6) w6b
def w7 : FS := fRet (fCall dTuple (fCons (fCall dSorted (fCons (fVar 5) (fNil))) (fNil)))
def w : FS := fSeq w0 (fSeq w1 (fSeq w2 (fSeq w3 (fSeq w4 (fSeq w5 (fSeq w6 w7))))))
end
theorem web_split : d__law_any_web = denOf 8 1 [1, 2, 3, 4, 5, 6, 7] w := rfl
@[simp] theorem ap_opP {g : D → D → Option D} {fp : FP} {fb : FE} {ρ : Fm} : fOpP g fp fb ρ = (fp ρ).bind fun p => (getP p.2 p.1).bind fun d0 => (fb (hide p.2 p.1)).bind fun y => (take1 y.2 y.1).bind fun e =>
  (getP (unhide p.2 e.2 p.1) p.1).bind fun dx => (g dx e.1).bind fun z => match z with
    | .bl b => some (.val (.bl b), unhide p.2 e.2 p.1)
    | _ => none := rfl
abbrev lstR (r : List Int) : D := .lst (intsD r)
abbrev rowsL (pre : List (List Int)) (l : List Int) : D := .lst (pre.map lstR ++ [lstR l])
/-- rows of numbers -/
structure Rg (W : List (List Int)) : Prop where
  ne : ∀ r ∈ W, r ≠ []
  all : W.flatten.length ≤ 24
  rng : ∀ d ∈ W.flatten, 0 ≤ d ∧ d < 24
section
variable {f : D} {m rare : Int} {o5 o6 o7 : Option D}
theorem u0_ok {k : Nat} (h : IsZ k f) (hk : k ≤ 50000) (r1 : 1 ≤ rare) (r2 : rare ≤ 100) (left : List Int) (pre : List (List Int)) (l : List Int) (hp : pre.length ≤ 30) :
    ∃ (g : D) (p2 : List (List Int)) (l2 : List Int), u0 [some f, some (.int m), some (.int rare), some (.lst (intsD left)), some (rowsL pre l), o5, o6, o7] = some (.nx, [some g, some (.int m), some (.int rare), some (.lst (intsD left)), some (rowsL p2 l2), o5, o6, o7]) ∧ IsZ (k + 1) g ∧ ((p2 = pre ∧ l2 = l) ∨ (l ≠ [] ∧ p2 = pre ++ [l] ∧ l2 = [])) := by
  obtain ⟨i, g, e, a, b, hg, img⟩ := draw_eq h (m := rare) (by omega) (by omega) (by omega)
  have im := h.imm
  have gl := get_last (pre.map lstR) (lstR l) pre.length (by simp)
  have ne := ne_voidI l
  by_cases c : l = []
  · rw [decide_eq_true c] at ne
    refine ⟨f, pre, l, ?_, h.mono (by omega), .inl ⟨rfl, rfl⟩⟩
    simp [u0, ap_pIx, ap_getIx, ixN_m1, gl, ne, big_ok, -List.map_map]
  · rw [decide_eq_false c] at ne
    by_cases c0 : i = 0
    · refine ⟨g, pre ++ [l], [], ?_, hg, .inr ⟨c, rfl, rfl⟩⟩
      have ap := append_l (ds := pre.map lstR ++ [lstR l]) (y := .lst []) (big_lt (by simp; omega))
      have out : rowsL (pre ++ [l]) [] = .lst (pre.map lstR ++ [lstR l] ++ [.lst []]) := by
        show D.lst ((pre ++ [l]).map lstR ++ [lstR []]) = _
        rw [List.map_append]; rfl
      rw [out]
      simp [u0, ap_pIx, ap_getIx, ixN_m1, gl, ne, e, im, img, c0, ap, big_ok, -List.map_map]
    · refine ⟨g, pre, l, ?_, hg, .inl ⟨rfl, rfl⟩⟩
      simp [u0, ap_pIx, ap_getIx, ixN_m1, gl, ne, e, im, img, c0, big_ok, -List.map_map]
theorem u1_ok {k : Nat} (h : IsZ k f) (hk : k ≤ 50000) {left : List Int} (ne : left ≠ []) (hl : left.length ≤ 24) (pre : List (List Int)) (l : List Int) (hp : pre.length ≤ 30) (ll : l.length ≤ 30) :
    ∃ (g : D) (j : Nat) (c : Int), u1 [some f, some (.int m), some (.int rare), some (.lst (intsD left)), some (rowsL pre l), o5, o6, o7] = some (.nx, [some g, some (.int m), some (.int rare), some (.lst (intsD (left.eraseIdx j))), some (rowsL pre (l ++ [c])), o5, o6, o7]) ∧ IsZ (k + 1) g ∧ left[j]? = some c := by
  have pl := List.length_pos_iff.mpr ne
  obtain ⟨i, g, e, a, b, hg, img⟩ := draw_eq h (m := (left.length : Nat)) (by omega) (by omega) (by omega)
  obtain ⟨c, g4, m4⟩ := pop_ints (ns := left) (i := i) a (by omega) (by omega)
  have im := h.imm
  have gl := get_last (pre.map lstR) (lstR l) pre.length (by simp)
  have ap := append_l (ds := intsD l) (y := .int c) (big_lt (by simp; omega))
  have sl := set_last (pre.map lstR) (lstR l) (.lst (intsD l ++ [.int c])) pre.length (by simp)
  have dl : dLen [.lst (intsD left)] = some (.int (left.length : Nat)) := by
    show some (D.int ((intsD left).length : Nat)) = _
    rw [List.length_map]
  refine ⟨g, i.toNat, c, ?_, hg, g4⟩
  have out : rowsL pre (l ++ [c]) = .lst (pre.map lstR ++ [.lst (intsD l ++ [.int c])]) := by
    show D.lst (pre.map lstR ++ [.lst (intsD (l ++ [c]))]) = _
    rw [show intsD (l ++ [c]) = intsD l ++ [.int c] from List.map_append]
  rw [out]
  simp [u1, ap_pIx, ap_getIx, ap_setIx, ixN_m1, gl, sl, e, im, img, dl, m4, ap, big_ok, -List.map_map]
end
def WhI (m rare : Int) (o5 o6 o7 : Option D) (k0 : Nat) (k : Nat) (ρ : Fm) : Prop := ∃ (f : D) (left : List Int) (pre : List (List Int)) (l : List Int), ρ = [some f, some (.int m), some (.int rare), some (.lst (intsD left)), some (rowsL pre l), o5, o6, o7] ∧ left.length = k ∧ IsZ (k0 + 2 * (24 - left.length)) f ∧ (∀ r ∈ pre, r ≠ []) ∧ (l = [] → left ≠ []) ∧ pre.flatten.length + l.length + left.length ≤ 24 ∧ (∀ d ∈ pre.flatten, 0 ≤ d ∧ d < 24) ∧ (∀ d ∈ l, 0 ≤ d ∧ d < 24) ∧ (∀ d ∈ left, 0 ≤ d ∧ d < 24)
theorem flat1 (pre : List (List Int)) (l : List Int) : (pre ++ [l]).flatten = pre.flatten ++ l := by simp
theorem turn_ok {m rare : Int} {o5 o6 o7 : Option D} {k0 : Nat} (hk : k0 ≤ 40000) (r1 : 1 ≤ rare) (r2 : rare ≤ 100) {f : D} {left : List Int} {pre : List (List Int)} {l : List Int} (h : IsZ (k0 + 2 * (24 - left.length)) f) (ne : left ≠ []) (np : ∀ r ∈ pre, r ≠ []) (hl : pre.flatten.length + l.length + left.length ≤ 24) (t1 : ∀ d ∈ pre.flatten, 0 ≤ d ∧ d < 24) (t2 : ∀ d ∈ l, 0 ≤ d ∧ d < 24) (t3 : ∀ d ∈ left, 0 ≤ d ∧ d < 24) :
    ∃ k ρ, u [some f, some (.int m), some (.int rare), some (.lst (intsD left)), some (rowsL pre l), o5, o6, o7] = some (.nx, ρ) ∧ k < left.length ∧ WhI m rare o5 o6 o7 k0 k ρ := by
  have pl := List.length_pos_iff.mpr ne
  have rl := rows_le np
  obtain ⟨g, p2, l2, e0, hg, q⟩ := u0_ok (m := m) (o5 := o5) (o6 := o6) (o7 := o7) h (by omega) r1 r2 left pre l (by omega)
  have ⟨np2, hl2, s1, s2⟩ : (∀ r ∈ p2, r ≠ []) ∧ p2.flatten.length + l2.length + left.length ≤ 24 ∧ (∀ d ∈ p2.flatten, 0 ≤ d ∧ d < 24) ∧ (∀ d ∈ l2, 0 ≤ d ∧ d < 24) := by
    rcases q with ⟨rfl, rfl⟩ | ⟨z, rfl, rfl⟩
    · exact ⟨np, hl, t1, t2⟩
    · refine ⟨fun r hr => ?_, by rw [flat1, List.length_append, List.length_nil]; omega, fun d hd => ?_, fun d hd => nomatch hd⟩
      · rcases List.mem_append.1 hr with y | y
        · exact np r y
        · rw [List.mem_singleton.1 y]; exact z
      · rw [List.flatten_append, List.mem_append] at hd
        rcases hd with y | y
        · exact t1 d y
        · exact t2 d (by simpa using y)
  have rl2 := rows_le np2
  obtain ⟨g2, j, c, e1, hg2, gc⟩ := u1_ok (m := m) (rare := rare) (o5 := o5) (o6 := o6) (o7 := o7) hg (by omega) ne (by omega) p2 l2 (by omega) (by omega)
  have jl : j < left.length := by
    rcases Nat.lt_or_ge j left.length with y | y
    · exact y
    · rw [List.getElem?_eq_none y] at gc; cases gc
  have le := List.length_eraseIdx_of_lt jl
  refine ⟨left.length - 1, _, ?_, by omega, g2, left.eraseIdx j, p2, l2 ++ [c], rfl, le, hg2.mono (by omega), np2, fun z => by simp at z, by rw [le, List.length_append, List.length_singleton]; omega, s1, fun d hd => ?_, fun d hd => t3 d (List.mem_of_mem_eraseIdx hd)⟩
  · unfold u
    rw [seq_nx e0, e1]
  · rcases List.mem_append.1 hd with y | y
    · exact s2 d y
    · rw [List.mem_singleton.1 y]
      exact t3 c (List.mem_of_getElem? gc)
theorem while_ok {m rare : Int} {o5 o6 o7 : Option D} {k0 : Nat} (hk : k0 ≤ 40000) (r1 : 1 ≤ rare) (r2 : rare ≤ 100) {f : D} {left : List Int} (h : IsZ k0 f) (ne : left ≠ []) (hl : left.length ≤ 24) (t3 : ∀ d ∈ left, 0 ≤ d ∧ d < 24) :
    ∃ (g : D) (W : List (List Int)), w4 [some f, some (.int m), some (.int rare), some (.lst (intsD left)), some (.lst [.lst []]), o5, o6, o7] = some (.nx, [some g, some (.int m), some (.int rare), some (.lst []), some (.lst (W.map lstR)), o5, o6, o7]) ∧ IsZ (k0 + 48) g ∧ Rg W ∧ W ≠ [] := by
  obtain ⟨⟨o, ρ⟩, e, ho, g, W, hρ, r⟩ : Ok (w4 [some f, some (.int m), some (.int rare), some (.lst (intsD left)), some (.lst [.lst []]), o5, o6, o7]) fun z => z.1 = .nx ∧ ∃ (g : D) (W : List (List Int)), z.2 = [some g, some (.int m), some (.int rare), some (.lst []), some (.lst (W.map lstR)), o5, o6, o7] ∧ IsZ (k0 + 48) g ∧ Rg W ∧ W ≠ [] := by
    unfold w4
    refine ok_while (WhI m rare o5 o6 o7 k0) (fun q ρ hI => ?_) (k := left.length) (by unfold fuel; omega) ⟨f, left, [], [], rfl, rfl, h.mono (by omega), by simp, fun _ => ne, by simpa using hl, by simp, by simp, t3⟩
    obtain ⟨f, left, pre, l, rfl, rfl, hf, np, nl, hl, t1, t2, t3⟩ := hI
    have nv := ne_voidI left
    have te : ∀ b : Bool, dNe (.lst (intsD left)) (.lst []) = some (.bl b) → (fTest (fOp dNe (fVar 3) (fLst (fNil)))) [some f, some (.int m), some (.int rare), some (.lst (intsD left)), some (rowsL pre l), o5, o6, o7] = some (b, [some f, some (.int m), some (.int rare), some (.lst (intsD left)), some (rowsL pre l), o5, o6, o7]) := fun b hb => by
      generalize D.lst (intsD left) = NL at *
      generalize rowsL pre l = SL at *
      simp [hb]
    by_cases c : left = []
    · rw [decide_eq_true c] at nv
      refine ⟨_, te _ nv, ?_⟩
      show Fl.nx = Fl.nx ∧ _
      have l0 : l ≠ [] := fun z => nl z c
      refine ⟨rfl, f, pre ++ [l], ?_, hf.mono (by omega), ⟨fun r hr => ?_, by rw [flat1, List.length_append]; omega, fun d hd => ?_⟩, by simp⟩
      · rw [c, List.map_append]; rfl
      · rcases List.mem_append.1 hr with y | y
        · exact np r y
        · rw [List.mem_singleton.1 y]; exact l0
      · rw [List.flatten_append, List.mem_append] at hd
        rcases hd with y | y
        · exact t1 d y
        · exact t2 d (by simpa using y)
    · rw [decide_eq_false c] at nv
      refine ⟨_, te _ nv, ?_⟩
      obtain ⟨k', ρ', e, lt, hI'⟩ := turn_ok (o5 := o5) (o6 := o6) (o7 := o7) (m := m) hk r1 r2 hf c np hl t1 t2 t3
      exact ⟨_, e, k', lt, hI'⟩
  have ho : o = .nx := ho
  have hρ : ρ = _ := hρ
  subst ho hρ
  exact ⟨g, W, e, r⟩
end K81
/-! The family of texts: lists of texts, standing still or not. -/
namespace RZ
open PySem PySem.Spec L2 DL
abbrev strF (ws : List Str) : D := .flst (ws.map D.str)
theorem imm_F (ws : List Str) : imm (strF ws) = true := imm_strs ws
theorem frz_strs (ws : List Str) : frzD (strL ws) = some (strF ws) := by rw [frz_lst, frzL_id _ (imm_strs ws)]; rfl
theorem frz_strsF (ws : List Str) : frzD (strF ws) = some (strF ws) := by rw [frz_flst, frzL_id _ (imm_strs ws)]; rfl
def IsL (LD : D) (ls : List Str) : Prop := LD = strL ls ∨ LD = strF ls
section
variable {LD : D} {ls : List Str}
theorem IsL.frz (h : IsL LD ls) : frzD LD = some (strF ls) := by
  rcases h with rfl | rfl
  · exact frz_strs ls
  · exact frz_strsF ls
theorem IsL.len (h : IsL LD ls) : dLen [LD] = some (.int (ls.length : Nat)) := by
  rcases h with rfl | rfl <;>
    (show some (D.int ((ls.map D.str).length : Nat)) = _
     rw [List.length_map])
theorem IsL.get (h : IsL LD ls) {p : Nat} {x : Str} (hx : ls[p]? = some x) : dSubs LD (.int (p : Nat)) = some (.str x) := by
  rcases h with rfl | rfl <;> exact dSubs_seq (ds := ls.map D.str) rfl (by omega) (by rw [Int.toNat_natCast, List.getElem?_map, hx]; rfl) rfl
theorem IsL.cut (h : IsL LD ls) (lo hi : Option Int) : dCutX LD lo hi = some (strL (cut ls lo hi)) := by
  rcases h with rfl | rfl <;>
    (show (if immL (ls.map D.str) = true then some (D.lst (DL.cut (ls.map D.str) lo hi)) else none) = _
     rw [if_pos (imm_strs ls)]
     unfold DL.cut
     rw [List.length_map, ← List.map_drop, ← List.map_take])
theorem IsL.to (h : IsL LD ls) (k : Nat) : dCutX LD none (some (k : Int)) = some (strL (ls.take k)) := by rw [h.cut, cut_to']
theorem IsL.from (h : IsL LD ls) (k : Nat) : dCutX LD (some (k : Int)) none = some (strL (ls.drop k)) := by rw [h.cut, cut_from']
theorem IsL.mid (h : IsL LD ls) (k j : Nat) : dCutX LD (some (k : Int)) (some (j : Int)) = some (strL ((ls.drop k).take (j - k))) := by rw [h.cut, cut_mid]
end
theorem void_strs {LD : D} {ls : List Str} (hL : IsL LD ls) (h : ∀ w ∈ ls, ∀ c ∈ w.cps.toList, c < 256) : dEq LD (.lst []) = some (.bl (decide (ls = []))) := by
  cases ls with
  | nil => rcases hL with rfl | rfl <;> rfl
  | cons s ss =>
    obtain ⟨nd, sh⟩ := shaped_strs h
    have e : dEqD LD (.lst []) = some false := by
      rcases hL with rfl | rfl <;>
      (show (if noDicL ((s :: ss).map D.str) = true ∧ noDicL [] = true ∧ SeqAt.shaped (.list (toPL ((s :: ss).map D.str))) = true ∧ SeqAt.shaped (.list (toPL [])) = true then some (PyData.eqv (.list (toPL ((s :: ss).map D.str))) (.list (toPL []))) else none) = _
       rw [if_pos ⟨nd, rfl, sh, by decide +kernel⟩]
       simp [toPL, PyData.eqv, PyData.eqvAll])
    have s0 : dEqS LD (.lst []) = none := by rcases hL with rfl | rfl <;> rfl
    rw [decide_eq_false (by simp)]
    unfold dEq dEqB
    rw [s0, e]
    rfl
def AllT (L : Nat) (ls : List Str) : Prop := ∀ x ∈ ls, Tb L x
section
variable {L M : Nat} {a b : List Str}
theorem AllT.app (ha : AllT L a) (hb : AllT L b) : AllT L (a ++ b) := fun x hx => (List.mem_append.1 hx).elim (ha x) (hb x)
theorem AllT.tk (h : AllT L a) (k : Nat) : AllT L (a.take k) := fun x hx => h x (List.mem_of_mem_take hx)
theorem AllT.dk (h : AllT L a) (k : Nat) : AllT L (a.drop k) := fun x hx => h x (List.mem_of_mem_drop hx)
theorem AllT.rv (h : AllT L a) : AllT L a.reverse := fun x hx => h x (List.mem_reverse.mp hx)
theorem AllT.one {x : Str} (h : Tb L x) : AllT L [x] := fun y hy => by rw [List.mem_singleton.1 hy]; exact h
theorem AllT.mono (h : AllT L a) (m : L ≤ M) : AllT M a := fun x hx => (h x hx).mono m
end
theorem nice_tb {L : Nat} {x : Str} (h : Tb L x) : Nice 0 L (.str x) := ⟨small_str h.sgn, by
  show (PyData.str x).depth ≤ 0
  rw [PyData.depth]; exact Nat.le_refl _, by
  show (PyData.str x).weight ≤ L
  rw [PyData.weight]; exact h.len⟩
theorem repr_strs {L : Nat} {ls : List Str} (h : AllT L ls) (hl : ls.length ≤ 50) (hL : L ≤ 2000) : ∃ s, dRepr [strL ls] = some (.str s) :=
  ⟨_, repr_nice ((nice_lst (k := 0) (w := 2000) fun d hd => by
    obtain ⟨x, hx, rfl⟩ := List.mem_map.1 hd
    exact (nice_tb (h x hx)).mono (Nat.le_refl _) hL).mono (k' := 1) (Nat.le_refl _) (w' := 200000) (by rw [List.length_map]; omega)) (by decide) (by decide)⟩
end RZ
/-! Lines of webs: a web by draws, its lines. -/
namespace K81
open PySem PySem.Spec L2 DL RZ
theorem seq_ret {a b : FS} {ρ ρ1 : Fm} {d : D} (h : a ρ = some (.ret d, ρ1)) : fSeq a b ρ = some (.ret d, ρ1) := by
  rw [ap_seq, h]; rfl
abbrev flR (r : List Int) : D := .flst (intsD r)
theorem frz_rows (rows : List (List Int)) : frzL (rows.map lstR) = some (rows.map flR) := by
  induction rows with
  | nil => rfl
  | cons r rows ih => simp [ih]
theorem imm_flRs (rows : List (List Int)) : immL (rows.map flR) = true := immL_mem.mpr fun d hd => by
  obtain ⟨r, _, rfl⟩ := List.mem_map.1 hd
  exact immL_ints r
theorem cut_fl (q : List Int) (lo hi : Option Int) : dCutX (flR q) lo hi = some (.lst (cut (intsD q) lo hi)) := if_pos (immL_ints q)
section
variable {o0 o1 o2 o3 o4 o7 : Option D}
theorem beg_ok (done : List (List Int)) {q : List Int} (hq : q ≠ []) (lq : q.length ≤ 1000) (ld : done.length ≤ 1000) :
    w6b [o0, o1, o2, o3, o4, some (.lst (done.map rowD)), some (flR q), o7] = some (.nx, [o0, o1, o2, o3, o4, some (.lst ((done ++ [turnRow q]).map rowD)), some (flR q), some (.int ((q.idxOf (least q) : Nat) : Int))]) := by
  have k1 : dCutX (flR q) (some ((q.idxOf (least q) : Nat) : Int)) none = some (.lst (intsD (q.drop (q.idxOf (least q))))) := by
    rw [cut_fl, cut_from _ _ (by simp; exact List.idxOf_le_length), ← List.map_drop]
  have k2 : dCutX (flR q) none (some ((q.idxOf (least q) : Nat) : Int)) = some (.lst (intsD (q.take (q.idxOf (least q))))) := by
    rw [cut_fl, cut_to _ _ (by simp; exact List.idxOf_le_length), ← List.map_take]
  have m1 : dMm min [flR q] = some (.int (least q)) := min_of rfl hq
  have i1 := index_l (x := flR q) (.inr rfl) (least_mem hq)
  have ct : dAdd (.lst (intsD (q.drop (q.idxOf (least q))))) (.lst (intsD (q.take (q.idxOf (least q))))) = some (.lst (intsD (turnRow q))) := by
    rw [cat_l (immL_ints _) (immL_ints _) (big_ok (by simp; omega)), ← List.map_append]
    rfl
  have tp := tuple_l (immL_ints (turnRow q))
  have tp : dTuple [.lst (intsD (turnRow q))] = some (rowD (turnRow q)) := tp
  have ap : mAppend (.lst (done.map rowD)) [rowD (turnRow q)] = some (.lst ((done ++ [turnRow q]).map rowD), .non) := by
    rw [append_l (big_lt (by simp; omega)), List.map_append]; rfl
  have iq : imm (flR q) = true := immL_ints q
  have ir : imm (rowD (turnRow q)) = true := immL_ints (turnRow q)
  have il : isLst (.lst (done.map rowD)) = true := rfl
  generalize (q.idxOf (least q)) = P at *
  have s0 : w6b0 [o0, o1, o2, o3, o4, some (.lst (done.map rowD)), some (flR q), o7] = some (.nx, [o0, o1, o2, o3, o4, some (.lst (done.map rowD)), some (flR q), some (.int (P : Nat))]) := by
    generalize D.lst (done.map rowD) = DD at *
    simp [w6b0, ap_index, ap_methR, m1, i1, iq]
  have s1 : w6b1 [o0, o1, o2, o3, o4, some (.lst (done.map rowD)), some (flR q), some (.int (P : Nat))] = some (.nx, [o0, o1, o2, o3, o4, some (.lst ((done ++ [turnRow q]).map rowD)), some (flR q), some (.int (P : Nat))]) := by
    generalize D.lst ((done ++ [turnRow q]).map rowD) = D2 at *
    generalize flR q = Q at *
    generalize D.lst (done.map rowD) = DD at *
    generalize rowD (turnRow q) = TQ at *
    generalize intsD (turnRow q) = TI at *
    generalize intsD (q.drop P) = T1 at *
    generalize intsD (q.take P) = T2 at *
    simp [w6b1, k1, k2, ct, tp, ap, iq, ir, il]
  unfold w6b
  rw [seq_nx s0, s1]
theorem begin_ok {W : List (List Int)} (h : ∀ r ∈ W, r ≠ [] ∧ r.length ≤ 1000) (hl : W.length ≤ 1000) (o6 : Option D) :
    ∃ q6 q7, w6 [o0, o1, o2, o3, some (.lst (W.map lstR)), some (.lst []), o6, o7] = some (.nx, [o0, o1, o2, o3, some (.flst (W.map flR)), some (.lst ((W.map turnRow).map rowD)), q6, q7]) := by
  obtain ⟨⟨o, ρ⟩, e, ho, q6, q7, hρ⟩ : Ok (w6 [o0, o1, o2, o3, some (.lst (W.map lstR)), some (.lst []), o6, o7]) fun z => z.1 = .nx ∧ ∃ q6 q7, z.2 = [o0, o1, o2, o3, some (.flst (W.map flR)), some (.lst ((W.map turnRow).map rowD)), q6, q7] := by
    have fz := frz_rows W
    have ii := imm_flRs W
    simp [w6, fz, ii, ok_bind, -List.map_map]
    refine ok_at (emb := flR) W (fun p ρ => ∃ q6 q7, ρ = [o0, o1, o2, o3, some (.flst (W.map flR)), some (.lst (((W.take p).map turnRow).map rowD)), q6, q7]) (fun p x ρ hp hI => ?_) (fun ρ hI => ?_) ⟨o6, o7, rfl⟩
    · obtain ⟨q6, q7, rfl⟩ := hI
      generalize hDD : D.lst (((W.take p).map turnRow).map rowD) = DD
      refine ⟨_, by simp; rfl, ?_⟩
      rw [← hDD]
      obtain ⟨n1, n2⟩ := h x (List.mem_of_getElem? hp)
      have e := beg_ok (o0 := o0) (o1 := o1) (o2 := o2) (o3 := o3) (o4 := some (.flst (W.map flR))) (o7 := q7) ((W.take p).map turnRow) n1 n2 (by rw [List.length_map, List.length_take]; omega)
      have tk : (W.take p).map turnRow ++ [turnRow x] = (W.take (p + 1)).map turnRow := by
        rw [List.take_add_one, hp, List.map_append]; rfl
      rw [tk] at e
      exact ⟨_, e, _, _, rfl⟩
    · obtain ⟨q6, q7, rfl⟩ := hI
      rw [List.take_length]
      exact ⟨rfl, q6, q7, rfl⟩
  have ho : o = .nx := ho
  have hρ : ρ = _ := hρ
  subst ho hρ
  exact ⟨q6, q7, e⟩
end
theorem any_web_ok {f : D} {k : Nat} (h : IsZ k f) (hk : k ≤ 30000) : ∃ (w : List (List Int)) (g : D), d__law_any_web [f] = some (webD w, [some g]) ∧ Rg w ∧ w ≠ [] ∧ IsZ (k + 60) g := by
  obtain ⟨i1, d1, e1, a1, b1, h1, im1⟩ := draw_eq h (m := 4) (by omega) (by decide) (by decide)
  have im0 := h.imm
  have ⟨m, hm, m1, m2⟩ : ∃ m : Int, dSubs (.lst [.int 3, .int 12, .int 5, .int 2]) (.int i1) = some (.int m) ∧ 1 ≤ m ∧ m ≤ 12 := by
    have : i1 = 0 ∨ i1 = 1 ∨ i1 = 2 ∨ i1 = 3 := by omega
    rcases this with rfl | rfl | rfl | rfl
    · exact ⟨3, rfl, by decide, by decide⟩
    · exact ⟨12, rfl, by decide, by decide⟩
    · exact ⟨5, rfl, by decide, by decide⟩
    · exact ⟨2, rfl, by decide, by decide⟩
  obtain ⟨i2, d2, e2, a2, b2, h2, im2⟩ := draw_eq h1 (m := m) (by omega) (by omega) (by omega)
  obtain ⟨i3, d3, e3, a3, b3, h3, im3⟩ := draw_eq h2 (m := 4) (by omega) (by decide) (by decide)
  have ⟨r, hr, r1, r2⟩ : ∃ m : Int, dSubs (.lst [.int 3, .int 2, .int 6, .int 40]) (.int i3) = some (.int m) ∧ 1 ≤ m ∧ m ≤ 100 := by
    have : i3 = 0 ∨ i3 = 1 ∨ i3 = 2 ∨ i3 = 3 := by omega
    rcases this with rfl | rfl | rfl | rfl
    · exact ⟨3, rfl, by decide, by decide⟩
    · exact ⟨2, rfl, by decide, by decide⟩
    · exact ⟨6, rfl, by decide, by decide⟩
    · exact ⟨40, rfl, by decide, by decide⟩
  obtain ⟨n, hn⟩ : ∃ n : Nat, (1 : Int) + i2 = n := ⟨(1 + i2).toNat, by omega⟩
  have ad : dAdd (.int 1) (.int i2) = some (.int (n : Nat)) := by rw [← hn]; rfl
  have mu : dMul (.int 2) (.int (n : Nat)) = some (.int ((2 * n : Nat) : Int)) := rfl
  have ok2 : okR ((2 * n : Nat) : Int) = true := okR_of' (by omega) (by omega)
  have nm : ((2 * n : Nat) : Int) ≤ 16777216 := by omega
  have io : iota 0 (2 * n) = intsD (up (2 * n)) := iota_up _
  have tn : ((2 * n : Nat) : Int).toNat = 2 * n := Int.toNat_natCast _
  have s0 : w0 [some f, none, none, none, none, none, none, none] = some (.nx, [some d2, some (.int (n : Nat)), none, none, none, none, none, none]) := by
    simp [w0, e1, e2, im0, im1, im2, hm, ad, big_ok]
  have s1 : w1 [some d2, some (.int (n : Nat)), none, none, none, none, none, none] = some (.nx, [some d3, some (.int (n : Nat)), some (.int r), none, none, none, none, none]) := by
    simp [w1, e3, im2, im3, hr, big_ok]
  have s2 : w2 [some d3, some (.int (n : Nat)), some (.int r), none, none, none, none, none] = some (.nx, [some d3, some (.int (n : Nat)), some (.int r), some (.lst (intsD (up (2 * n)))), none, none, none, none]) := by
    rw [← io]
    generalize 2 * n = N at *
    simp [w2, mu, ok2, nm, big_ok]
  have s3 : w3 [some d3, some (.int (n : Nat)), some (.int r), some (.lst (intsD (up (2 * n)))), none, none, none, none] = some (.nx, [some d3, some (.int (n : Nat)), some (.int r), some (.lst (intsD (up (2 * n)))), some (.lst [.lst []]), none, none, none]) := by
    generalize D.lst (intsD (up (2 * n))) = LL
    simp [w3, big_ok]
  obtain ⟨g, W, s4, hg, RW, nW⟩ := while_ok (m := (n : Nat)) (rare := r) (o5 := none) (o6 := none) (o7 := none) (k0 := k + 3) (f := d3) (left := up (2 * n)) (by omega) r1 r2 h3 (fun z => by
    have := congrArg List.length z
    rw [up_length] at this
    simp at this
    omega) (by rw [up_length]; omega) (fun d hd => by have := up_mem.mp hd; omega)
  have s5 : w5 [some g, some (.int (n : Nat)), some (.int r), some (.lst []), some (.lst (W.map lstR)), none, none, none] = some (.nx, [some g, some (.int (n : Nat)), some (.int r), some (.lst []), some (.lst (W.map lstR)), some (.lst []), none, none]) := by
    generalize D.lst (W.map lstR) = LL
    simp [w5, big_ok]
  have lW := rows_le RW.ne
  have la := RW.all
  obtain ⟨q6, q7, s6⟩ := begin_ok (o0 := some g) (o1 := some (.int (n : Nat))) (o2 := some (.int r)) (o3 := some (.lst [])) (o7 := none) (W := W) (fun q hq => ⟨RW.ne q hq, by have := row_le hq; omega⟩) (by omega) none
  have sr := sorted_rows (w := W.map turnRow) fun q hq => by
    obtain ⟨p, hp, rfl⟩ := List.mem_map.mp hq
    exact turn_ne (RW.ne p hp)
  have tp : dTuple [.lst ((sortRows (W.map turnRow)).map rowD)] = some (webD (sortRows (W.map turnRow))) := tuple_l (imm_rows (sortRows (W.map turnRow)))
  have s7 : w7 [some g, some (.int (n : Nat)), some (.int r), some (.lst []), some (.flst (W.map flR)), some (.lst ((W.map turnRow).map rowD)), q6, q7] = some (.ret (webD (sortRows (W.map turnRow))), [some g, some (.int (n : Nat)), some (.int r), some (.lst []), some (.flst (W.map flR)), some (.lst ((W.map turnRow).map rowD)), q6, q7]) := by
    have im : imm (.lst ((W.map turnRow).map rowD)) = false := rfl
    generalize D.lst ((W.map turnRow).map rowD) = L1 at *
    generalize D.flst (W.map flR) = L2 at *
    generalize webD (sortRows (W.map turnRow)) = L3 at *
    generalize D.lst ((sortRows (W.map turnRow)).map rowD) = L4 at *
    simp [w7, sr, tp, im]
  have pm := (sortRows_perm (W.map turnRow))
  have pf := (pm.flatten.trans (turn_flat W))
  refine ⟨sortRows (W.map turnRow), g, ?_, ⟨fun q hq => ?_, by rw [pf.length_eq]; exact RW.all, fun d hd => RW.rng d (pf.mem_iff.mp hd)⟩, fun z => ?_, hg.mono (by omega)⟩
  · have run : w [some f, none, none, none, none, none, none, none] = some (.ret (webD (sortRows (W.map turnRow))), [some g, some (.int (n : Nat)), some (.int r), some (.lst []), some (.flst (W.map flR)), some (.lst ((W.map turnRow).map rowD)), q6, q7]) := by
      unfold w
      rw [seq_nx s0, seq_nx s1, seq_nx s2, seq_nx s3, seq_nx s4, seq_nx s5, seq_nx s6, s7]
    rw [web_split]
    generalize w = ww at *
    simp [denOf, run]
  · obtain ⟨p, hp, rfl⟩ := List.mem_map.mp (pm.mem_iff.mp hq)
    exact turn_ne (RW.ne p hp)
  · have := pm.length_eq
    rw [z, List.length_map] at this
    exact nW (List.eq_nil_of_length_eq_zero this.symm)
end K81
/-! Lines of webs: the lines. -/
namespace K81
open PySem PySem.Spec L2 DL RZ
abbrev webN (N : List (List Nat)) : D := .tup (N.map rowN)
/-- rows of numbers below 24 -/
structure NG (N : List (List Nat)) : Prop where
  len : N.length ≤ 24
  row : ∀ r ∈ N, r ≠ [] ∧ r.length ≤ 24 ∧ ∀ i ∈ r, i < 24
theorem web_nat {w : List (List Int)} (h : Rg w) : ∃ N : List (List Nat), webD w = webN N ∧ NG N := by
  refine ⟨w.map fun r => r.map Int.toNat, ?_, ?_, fun r hr => ?_⟩
  · show D.tup (w.map rowD) = .tup _
    rw [List.map_map]
    refine congrArg D.tup (List.map_congr_left fun r hr => ?_)
    show D.tup (r.map D.int) = .tup ((r.map Int.toNat).map fun i : Nat => D.int (i : Int))
    rw [List.map_map]
    refine congrArg D.tup (List.map_congr_left fun d hd => ?_)
    have := h.rng d (List.mem_flatten.mpr ⟨r, hr, hd⟩)
    show D.int d = .int ((d.toNat : Nat) : Int)
    rw [Int.toNat_of_nonneg this.1]
  · have := rows_le h.ne
    have := h.all
    rw [List.length_map]; omega
  · obtain ⟨q, hq, rfl⟩ := List.mem_map.1 hr
    have := row_le hq
    have := h.all
    refine ⟨fun z => h.ne q hq (List.map_eq_nil_iff.mp z), by rw [List.length_map]; omega, fun i hi => ?_⟩
    obtain ⟨d, hd, rfl⟩ := List.mem_map.1 hi
    have := h.rng d (List.mem_flatten.mpr ⟨q, hq, hd⟩)
    omega
theorem imm_webN (N : List (List Nat)) : immL (N.map rowN) = true := immL_mem.mpr fun d hd => by
  obtain ⟨r, _, rfl⟩ := List.mem_map.1 hd
  exact imm_rowN r
def lineN (r : List Nat) : Str := joined (r.map wd)
abbrev linesN (N : List (List Nat)) : List Str := N.map lineN
theorem tb_line {r : List Nat} (h : r.length ≤ 24 ∧ ∀ i ∈ r, i < 24) : Tb 72 (lineN r) := ((tb_joined fun i hi => by have := h.2 i hi; omega).2).mono (by omega)
theorem tb_lines {N : List (List Nat)} (h : NG N) : AllT 72 (linesN N) := fun x hx => by
  obtain ⟨r, hr, rfl⟩ := List.mem_map.1 hx
  exact tb_line (h.row r hr).2
theorem join_line {r : List Nat} (h : r.length ≤ 24 ∧ ∀ i ∈ r, i < 24) : dJoin (.str " ") [.lst ((r.map wd).map D.str)] = some (.str (lineN r)) := by
  have W := (tb_joined (is := r) fun i hi => by have := h.2 i hi; omega).1
  exact join_ok (ws := r.map wd) (by have := W.wt; omega)
theorem web_lines_ok {N : List (List Nat)} (G : NG N) : d_web_lines [webN N] = some (strL (linesN N), [some (webN N)]) := by
  have lc := lcD_all (vs := [1]) (fg := fgName 1) (fe := fMethT dJoin (fC (.str " ")) (fCons (fLc [2] (fSeqI (fFrz (fVar 1))) (fgName 2) (fYes) (fCall dStr (fCons (fVar 2) (fNil)))) (fNil))) (ρ0 := [some (webN N), none, none]) (emb := rowN) (z := fun r => D.str (lineN r)) (xs := N) fun r hr => by
    obtain ⟨_, h⟩ := G.row r hr
    have j := join_line h
    have i1 := imm_rowN r
    have fl : frzL (r.map fun i : Nat => D.int (i : Int)) = some (r.map fun i : Nat => D.int (i : Int)) := frzL_id _ i1
    have il : immL (r.map fun i : Nat => D.int (i : Int)) = true := i1
    have lz : ((r.map wd).map D.str).length ≤ sizeLine := big_ok (by rw [List.length_map, List.length_map]; omega)
    generalize webN N = WN at *
    have lc := lc_strs (v := 2) (ρ0 := [some WN, some (rowN r), none]) (by simp) rfl (is := r) fun i hi => by have := h.2 i hi; omega
    have pp : rowN r = .tup (r.map fun i : Nat => D.int (i : Int)) := rfl
    rw [pp] at lc
    rw [pp]
    generalize (r.map fun i : Nat => D.int (i : Int)) = IL at *
    generalize (r.map wd).map D.str = SL at *
    exact ⟨[some WN, some (.tup IL), none], by simp, .val (.str (lineN r)), [some WN, some (.tup IL), none], [some WN, some (.tup IL), none], by simp [fl, il, lc, fMethR, j, lz, wipeF, big_ok], rfl, by simp [wipeF]⟩
  have em : N.map (fun p => D.str (lineN p)) = (linesN N).map D.str := by rw [List.map_map]; rfl
  rw [em] at lc
  have lz : ((linesN N).map D.str).length ≤ sizeLine := big_ok (by rw [List.length_map, List.length_map]; have := G.len; omega)
  have fl := frzL_id _ (imm_webN N)
  have il := imm_webN N
  unfold strL
  generalize (linesN N).map D.str = SL at *
  have pp : webN N = .tup (N.map rowN) := rfl
  rw [pp] at lc ⊢
  generalize N.map rowN = RN at *
  simp [d_web_lines, b_web_lines, denOf, fl, il, lc, lz, wipeF, big_ok]
noncomputable section
def due : FS := fAsg (fLc [10] (fSeqI (fFrz (fVar 3))) (fgName 10) (fYes) (fMethT dJoin (fC (.str " ")) (fCons (fLc [11] (fSeqI (fFrz (fVar 10))) (fgName 11) (fYes) (fCall dStr (fCons (fVar 11) (fNil)))) (fNil)))) (fgName 4)
end
theorem due_ok {N : List (List Nat)} (G : NG N) {o0 o1 o2 o4 o5 o6 o7 o8 o9 : Option D} : due [o0, o1, o2, some (webN N), o4, o5, o6, o7, o8, o9, none, none] = some (.nx, [o0, o1, o2, some (webN N), some (strL (linesN N)), o5, o6, o7, o8, o9, none, none]) := by
  have lc := lcD_all (vs := [10]) (fg := fgName 10) (fe := fMethT dJoin (fC (.str " ")) (fCons (fLc [11] (fSeqI (fFrz (fVar 10))) (fgName 11) (fYes) (fCall dStr (fCons (fVar 11) (fNil)))) (fNil))) (ρ0 := [o0, o1, o2, some (webN N), o4, o5, o6, o7, o8, o9, none, none]) (emb := rowN) (z := fun r => D.str (lineN r)) (xs := N) fun r hr => by
    obtain ⟨_, h⟩ := G.row r hr
    have j := join_line h
    have i1 := imm_rowN r
    have fl : frzL (r.map fun i : Nat => D.int (i : Int)) = some (r.map fun i : Nat => D.int (i : Int)) := frzL_id _ i1
    have il : immL (r.map fun i : Nat => D.int (i : Int)) = true := i1
    have lz : ((r.map wd).map D.str).length ≤ sizeLine := big_ok (by rw [List.length_map, List.length_map]; omega)
    generalize webN N = WN at *
    have lc := lc_strs (v := 11) (ρ0 := [o0, o1, o2, some WN, o4, o5, o6, o7, o8, o9, some (rowN r), none]) (by simp) rfl (is := r) fun i hi => by have := h.2 i hi; omega
    have pp : rowN r = .tup (r.map fun i : Nat => D.int (i : Int)) := rfl
    rw [pp] at lc
    rw [pp]
    generalize (r.map fun i : Nat => D.int (i : Int)) = IL at *
    generalize (r.map wd).map D.str = SL at *
    exact ⟨[o0, o1, o2, some WN, o4, o5, o6, o7, o8, o9, some (.tup IL), none], by simp, .val (.str (lineN r)), [o0, o1, o2, some WN, o4, o5, o6, o7, o8, o9, some (.tup IL), none], [o0, o1, o2, some WN, o4, o5, o6, o7, o8, o9, some (.tup IL), none], by simp [fl, il, lc, fMethR, j, lz, wipeF, big_ok], rfl, by simp [wipeF]⟩
  have em : N.map (fun p => D.str (lineN p)) = (linesN N).map D.str := by rw [List.map_map]; rfl
  rw [em] at lc
  have lz : ((linesN N).map D.str).length ≤ sizeLine := big_ok (by rw [List.length_map, List.length_map]; have := G.len; omega)
  have fl := frzL_id _ (imm_webN N)
  have il := imm_webN N
  unfold strL
  generalize (linesN N).map D.str = SL at *
  have pp : webN N = .tup (N.map rowN) := rfl
  rw [pp] at lc ⊢
  generalize N.map rowN = RN at *
  simp [due, fl, il, lc, lz, wipeF, big_ok]
end K81
/-! Lines of webs: a line with one word otherwise. -/
namespace K81
open PySem PySem.Spec L2 DL RZ
noncomputable section
def t0 : FS := fAsg (fCallD d__law_draw (fCons (fVar 0) (fCons (fC (.int 6)) (fNil)))) (fgName 2)
def t1 : FS := fAsg (fMethT dSplit (fVar 1) (fCons (fC (.str " ")) (fNil))) (fgName 3)
def t2 : FS := fAsg (fCallD d__law_draw (fCons (fVar 0) (fCons (fCall dLen (fCons (fVar 3) (fNil))) (fNil)))) (fgName 4)
def t3 : FS := fAsg (fCallD d__law_number (fCons (fOp dSubs (fVar 3) (fVar 4)) (fNil))) (fgName 5)
def t4 : FS := fAsg (fCall dStr (fCons (fOp dAdd (fIf (fTest (fOp dIsNotN (fVar 5) (fC .non))) (fVar 5) (fC (.int 7))) (fOp dSubs (fLst (fCons (fC (.int 1)) (fCons (fNeg (fC (.int 1))) (fNil)))) (fCallD d__law_draw (fCons (fVar 0) (fCons (fC (.int 2)) (fNil)))))) (fNil))) (fgName 6)
def t5 : FS := fAsg (fOp dSubs (fLst (fCons (fC (.str "")) (fCons (fC (.str "00")) (fCons (fC (.str "07")) (fCons (fC (.str "24")) (fCons (fC (.str "-1")) (fCons (fC (.str "1_0")) (fCons (fC (.str "+1")) (fCons (fC (.str "x")) (fCons (fC (.str "0")) (fCons (fC (.str "23")) (fNil)))))))))))) (fCallD d__law_draw (fCons (fVar 0) (fCons (fC (.int 10)) (fNil))))) (fgName 7)
def t6 : FS := fIfS (fTest (fOp dEq (fVar 2) (fC (.int 0)))) (fDrop (fMut isLst mPopAt (fpVar 3) (fCons (fVar 4) (fNil)))) (fIfS (fTest (fOp dEq (fVar 2) (fC (.int 1)))) (fDrop (fMut isLst mInsert (fpVar 3) (fCons (fVar 4) (fCons (fOp dSubs (fVar 3) (fVar 4)) (fNil))))) (fIfS (fTest (fOp (dCmp pLt) (fVar 2) (fC (.int 4)))) (fStore (fOp dSubs (fLst (fCons (fVar 6) (fCons (fVar 7) (fNil)))) (fOp dSub (fVar 2) (fC (.int 2)))) (fpVar 3) (fVar 4)) (fIfS (fTest (fOp dEq (fVar 2) (fC (.int 4)))) (fAsg (fOp dAdd (fOp dAdd (fCutX (fVar 3) (foNone) (foSome (fVar 4))) (fRev (fCutX (fVar 3) (foSome (fVar 4)) (foSome (fOp dAdd (fVar 4) (fC (.int 2))))))) (fCutX (fVar 3) (foSome (fOp dAdd (fVar 4) (fC (.int 2)))) (foNone))) (fgName 3)) (fDrop (fMut isLst mInsert (fpVar 3) (fCons (fVar 4) (fCons (fVar 7) (fNil))))))))
def t7 : FS := fRet (fMethT dJoin (fC (.str " ")) (fCons (fVar 3) (fNil)))
def t : FS := fSeq t0 (fSeq t1 (fSeq t2 (fSeq t3 (fSeq t4 (fSeq t5 (fSeq t6 t7))))))
end
theorem worded_split : d__law_worded = denOf 8 2 [2, 3, 4, 5, 6, 7, 3] t := rfl
def odds : List Str := ["", "00", "07", "24", "-1", "1_0", "+1", "x", "0", "23"]
theorem odds_tb : ∀ w ∈ odds, tbB 3 w = true := by decide +kernel
theorem str_near {j : Int} (h : -1 ≤ j) (h2 : j < 100) : ∃ y : Str, dStr [.int j] = some (.str y) ∧ Tb 2 y := by
  by_cases c : j = -1
  · subst c
    refine ⟨toString (-1 : Int), ?_, tb_of (by decide +kernel)⟩
    show (if (-1 : Int).natAbs.log2 < 1920 then some (D.str (toString (-1 : Int))) else none) = _
    exact if_pos (by decide)
  · obtain ⟨i, rfl⟩ : ∃ i : Nat, j = i := ⟨j.toNat, by omega⟩
    exact ⟨wd i, str_wd (by omega), tb_wd (by omega)⟩
theorem worded_ok {k L : Nat} {d : D} {x : Str} (h : IsZ k d) (hk : k ≤ 80000) (hx : Tb L x) (hL : L ≤ 20000) : ∃ (y : Str) (d' : D), d__law_worded [d, .str x] = some (.str y, [some d', some (.str x)]) ∧ Tb (2 * L + 10) y ∧ IsZ (k + 4) d' := by
  have hl := hx.len
  have W := hx.words
  have ne := words_ne x
  have ww := words_wt x
  have lw := wt_len (RZ.wordsOf x)
  have sp' : dSplit (.str x) [.str " "] = some (strL (RZ.wordsOf x)) := split_ok x (by omega)
  generalize RZ.wordsOf x = ws at *
  have pl : 1 ≤ ws.length := by cases ws with
    | nil => exact absurd rfl ne
    | cons a b => simp
  obtain ⟨i1, d1, e1, a1, b1, h1, im1⟩ := draw_eq h (m := 6) (by omega) (by decide) (by decide)
  obtain ⟨i2, d2, e2, a2, b2, h2, im2⟩ := draw_eq h1 (m := (ws.length : Nat)) (by omega) (by omega) (by omega)
  obtain ⟨i3, d3, e3, a3, b3, h3, im3⟩ := draw_eq h2 (m := 2) (by omega) (by decide) (by decide)
  obtain ⟨i4, d4, e4, a4, b4, h4, im4⟩ := draw_eq h3 (m := 10) (by omega) (by decide) (by decide)
  have im0 := h.imm
  have dl : dLen [strL ws] = some (.int (ws.length : Nat)) := by
    show some (D.int ((ws.map D.str).length : Nat)) = _
    rw [List.length_map]
  obtain ⟨p, rfl⟩ : ∃ p : Nat, i2 = p := ⟨i2.toNat, by omega⟩
  have hp : p < ws.length := by omega
  obtain ⟨u, hu, _, su⟩ := subL (ws := ws) (i := (p : Nat)) (by omega) (by omega)
  have tu : Tb L u := ⟨by have := wt_mem hu; have := W.wt; omega, W.sgn u hu⟩
  have ln : d__law_number [.str u] = some (optD (good u), [some (.str u)]) := lnumber_ok u
  obtain ⟨od, hod, _, s1⟩ := subL (ws := odds) a4 (by show i4 < ((10 : Nat) : Int); omega)
  have tod := tb_of (odds_tb od hod)
  have so : dSubs (.lst [.str "", .str "00", .str "07", .str "24", .str "-1", .str "1_0", .str "+1", .str "x", .str "0", .str "23"]) (.int i4) = some (.str od) := s1
  have ⟨c, hc, c1, c2⟩ : ∃ c : Int, dSubs (.lst [.int 1, .int (-1)]) (.int i3) = some (.int c) ∧ -1 ≤ c ∧ c ≤ 1 := by
    by_cases q : i3 = 0
    · subst q; exact ⟨1, rfl, by decide, by decide⟩
    · have : i3 = 1 := by omega
      subst this; exact ⟨-1, rfl, by decide, by decide⟩
  have li : imm (strL ws) = false := rfl
  have lf : isLst (strL ws) = true := rfl
  have s0 : t0 [some d, some (.str x), none, none, none, none, none, none] = some (.nx, [some d1, some (.str x), some (.int i1), none, none, none, none, none]) := by
    simp [t0, e1, im0, im1]
  have s1 : t1 [some d1, some (.str x), some (.int i1), none, none, none, none, none] = some (.nx, [some d1, some (.str x), some (.int i1), some (strL ws), none, none, none, none]) := by
    generalize strL ws = WS at *
    simp [t1, sp', fMethR, li]
  have s2 : t2 [some d1, some (.str x), some (.int i1), some (strL ws), none, none, none, none] = some (.nx, [some d2, some (.str x), some (.int i1), some (strL ws), some (.int (p : Nat)), none, none, none]) := by
    generalize strL ws = WS at *
    simp [t2, dl, e2, im1, im2, li]
  have ⟨nd, n, s3, hn, n1, n2⟩ : ∃ (nd : D) (n : Int), t3 [some d2, some (.str x), some (.int i1), some (strL ws), some (.int (p : Nat)), none, none, none] = some (.nx, [some d2, some (.str x), some (.int i1), some (strL ws), some (.int (p : Nat)), some nd, none, none]) ∧ ((nd = .non ∧ n = 7) ∨ nd = .int n) ∧ 0 ≤ n ∧ n < 24 := by
    cases g : good u with
    | none =>
      rw [g] at ln
      have ln : d__law_number [.str u] = some (.non, [some (.str u)]) := ln
      refine ⟨.non, 7, ?_, .inl ⟨rfl, rfl⟩, by decide, by decide⟩
      generalize strL ws = WS at *
      simp [t3, su, ln, li]
    | some i =>
      rw [g] at ln
      have ln : d__law_number [.str u] = some (.int (i : Nat), [some (.str u)]) := ln
      have := (good_iff.mp g).1
      refine ⟨.int (i : Nat), i, ?_, .inr rfl, by omega, by omega⟩
      generalize strL ws = WS at *
      simp [t3, su, ln, li]
  obtain ⟨y, hy, ty⟩ := str_near (j := n + c) (by omega) (by omega)
  have s4 : t4 [some d2, some (.str x), some (.int i1), some (strL ws), some (.int (p : Nat)), some nd, none, none] = some (.nx, [some d3, some (.str x), some (.int i1), some (strL ws), some (.int (p : Nat)), some nd, some (.str y), none]) := by
    generalize strL ws = WS at *
    rcases hn with ⟨rfl, rfl⟩ | rfl
    · have ni : dIsNotN .non .non = some (.bl false) := rfl
      have ad : dAdd (.int 7) (.int c) = some (.int (7 + c)) := rfl
      simp [t4, ni, e3, im2, im3, hc, ad, hy, big_ok]
    · have ni : dIsNotN (.int n) .non = some (.bl true) := rfl
      have ad : dAdd (.int n) (.int c) = some (.int (n + c)) := rfl
      simp [t4, ni, e3, im2, im3, hc, ad, hy, big_ok]
  have s5 : t5 [some d3, some (.str x), some (.int i1), some (strL ws), some (.int (p : Nat)), some nd, some (.str y), none] = some (.nx, [some d4, some (.str x), some (.int i1), some (strL ws), some (.int (p : Nat)), some nd, some (.str y), some (.str od)]) := by
    generalize strL ws = WS at *
    simp [t5, e4, im3, im4, so, big_ok]
  have fin : ∀ vs : List Str, Ws (2 * L + 10) vs → t6 [some d4, some (.str x), some (.int i1), some (strL ws), some (.int (p : Nat)), some nd, some (.str y), some (.str od)] = some (.nx, [some d4, some (.str x), some (.int i1), some (strL vs), some (.int (p : Nat)), some nd, some (.str y), some (.str od)]) →
      ∃ (y : Str) (d' : D), d__law_worded [d, .str x] = some (.str y, [some d', some (.str x)]) ∧ Tb (2 * L + 10) y ∧ IsZ (k + 4) d' := fun vs hv s6 => by
    have jn := join_ok (ws := vs) (by have := hv.wt; omega)
    have jn : dJoin (.str " ") [strL vs] = some (.str (joined vs)) := jn
    have iv : imm (strL vs) = false := rfl
    have ⟨q3, s7⟩ : ∃ q3, t7 [some d4, some (.str x), some (.int i1), some (strL vs), some (.int (p : Nat)), some nd, some (.str y), some (.str od)] = some (.ret (.str (joined vs)), [some d4, some (.str x), some (.int i1), q3, some (.int (p : Nat)), some nd, some (.str y), some (.str od)]) := by
      generalize strL vs = VS at *
      exact ⟨_, by simp [t7, jn, fMethR, iv]; rfl⟩
    have run : t [some d, some (.str x), none, none, none, none, none, none] = some (.ret (.str (joined vs)), [some d4, some (.str x), some (.int i1), q3, some (.int (p : Nat)), some nd, some (.str y), some (.str od)]) := by
      unfold t
      rw [seq_nx s0, seq_nx s1, seq_nx s2, seq_nx s3, seq_nx s4, seq_nx s5, seq_nx s6, s7]
    refine ⟨joined vs, d4, ?_, hv.joined, h4⟩
    rw [worded_split]
    generalize t = tt at *
    simp [denOf, run]
  clear s0 s1 s2 s3 s4 s5
  have q0 := int_eq i1 0
  have q1 := int_eq i1 1
  have q4 := int_eq i1 4
  have : i1 = 0 ∨ i1 = 1 ∨ i1 = 2 ∨ i1 = 3 ∨ i1 = 4 ∨ i1 = 5 := by omega
  rcases this with rfl | rfl | rfl | rfl | rfl | rfl
  · obtain ⟨w9, pp⟩ := popL (ws := ws) (i := (p : Nat)) (by omega) b2 (by omega)
    rw [Int.toNat_natCast] at pp
    refine fin _ ((W.erase p).mono (by omega)) ?_
    clear fin
    generalize strL (ws.eraseIdx p) = VS at *
    generalize strL ws = WS at *
    simp [t6, pp, lf]
  · have io := insL (ws := ws) (i := (p : Nat)) (by omega) (by omega) (by omega) u
    rw [Int.toNat_natCast] at io
    refine fin _ ((W.ins tu p).mono (by omega)) ?_
    clear fin
    generalize strL (ws.take p ++ [u] ++ ws.drop p) = VS at *
    generalize strL ws = WS at *
    simp [t6, io, su, lf]
  · have pu := putL (ws := ws) (i := (p : Nat)) (by omega) b2 y
    rw [Int.toNat_natCast] at pu
    have sb : dSub (.int 2) (.int 2) = some (.int 0) := rfl
    have sx : dSubs (.lst [.str y, .str od]) (.int 0) = some (.str y) := rfl
    refine fin _ ((W.put ty p).mono (by omega)) ?_
    clear fin
    generalize strL (ws.set p y) = VS at *
    generalize strL ws = WS at *
    simp [t6, pu, sb, sx, big_ok]
  · have pu := putL (ws := ws) (i := (p : Nat)) (by omega) b2 od
    rw [Int.toNat_natCast] at pu
    have sb : dSub (.int 3) (.int 2) = some (.int 1) := rfl
    have sx : dSubs (.lst [.str y, .str od]) (.int 1) = some (.str od) := rfl
    refine fin _ ((W.put tod p).mono (by omega)) ?_
    clear fin
    generalize strL (ws.set p od) = VS at *
    generalize strL ws = WS at *
    simp [t6, pu, sb, sx, big_ok]
  · have k1 := toL (ws := ws) p
    have k2 := midL (ws := ws) p (p + 2)
    have k3 := fromL (ws := ws) (p + 2)
    rw [show p + 2 - p = 2 by omega] at k2
    have k4 := revL (ws := (ws.drop p).take 2)
    have k5 := (catX (ws := ws.take p) (vs := ((ws.drop p).take 2).reverse) (by
      rw [List.length_take, List.length_reverse, List.length_take]; omega)).2
    have k6 := (catX (ws := ws.take p ++ ((ws.drop p).take 2).reverse) (vs := ws.drop (p + 2)) (by
      rw [List.length_append, List.length_take, List.length_reverse, List.length_take, List.length_drop, List.length_drop]; omega)).2
    have z1 : dAdd (.int (p : Nat)) (.int 2) = some (.int ((p + 2 : Nat) : Int)) := rfl
    refine fin _ ((W.swap p).mono (by omega)) ?_
    clear fin
    generalize ws.take p ++ ((ws.drop p).take 2).reverse ++ ws.drop (p + 2) = vs at *
    generalize ws.take p ++ ((ws.drop p).take 2).reverse = vs1 at *
    generalize ((ws.drop p).take 2).reverse = vs2 at *
    generalize (ws.drop p).take 2 = vs3 at *
    generalize ws.drop (p + 2) = vs4 at *
    generalize ws.take p = vs5 at *
    have iv : imm (strL vs) = false := rfl
    generalize hp2 : ((p + 2 : Nat) : Int) = P2 at *
    generalize strL vs = VS at *
    generalize strL vs1 = VS1 at *
    generalize strL vs2 = VS2 at *
    generalize strL vs3 = VS3 at *
    generalize strL vs4 = VS4 at *
    generalize strL vs5 = VS5 at *
    generalize strL ws = WS at *
    simp [t6, k1, k2, k3, k4, k5, k6, z1, iv]
  · have io := insL (ws := ws) (i := (p : Nat)) (by omega) (by omega) (by omega) od
    rw [Int.toNat_natCast] at io
    refine fin _ ((W.ins tod p).mono (by omega)) ?_
    clear fin
    generalize strL (ws.take p ++ [od] ++ ws.drop p) = VS at *
    generalize strL ws = WS at *
    simp [t6, io, lf]
end K81
/-! Lines of webs: lines with one thing otherwise. -/
namespace K81
open PySem PySem.Spec L2 DL RZ
noncomputable section
def b0 : FS := fAsg (fCallD d__law_draw (fCons (fVar 0) (fCons (fC (.int 9)) (fNil)))) (fgName 2)
def b1 : FS := fIfS (fTest (fOp dEq (fVar 1) (fLst (fNil)))) (fRet (fLst (fCons (fC (.str "")) (fNil)))) (fSkip)
def b2 : FS := fAsg (fCallD d__law_draw (fCons (fVar 0) (fCons (fCall dLen (fCons (fVar 1) (fNil))) (fNil)))) (fgName 3)
def b3 : FS := fAsg (fOp dSubs (fVar 1) (fVar 3)) (fgName 4)
def b4 : FS := fIfS (fTest (fOp (dCmp pLt) (fVar 2) (fC (.int 3)))) (fRet (fOp dAddX (fOp dAddX (fCutX (fVar 1) (foNone) (foSome (fVar 3))) (fLst (fCons (fCallD d__law_worded (fCons (fVar 0) (fCons (fVar 4) (fNil)))) (fNil)))) (fCutX (fVar 1) (foSome (fOp dAddX (fVar 3) (fC (.int 1)))) (foNone)))) (fSkip)
def b5 : FS := fIfS (fTest (fOp (dCmp pLt) (fVar 2) (fC (.int 5)))) (fRet (fOp dAddX (fOp dAddX (fCutX (fVar 1) (foNone) (foSome (fVar 3))) (fLst (fCons (fCallD d__law_signed (fCons (fVar 0) (fCons (fVar 4) (fNil)))) (fNil)))) (fCutX (fVar 1) (foSome (fOp dAddX (fVar 3) (fC (.int 1)))) (foNone)))) (fSkip)
def b6 : FS := fIfS (fTest (fOp dEq (fVar 2) (fC (.int 5)))) (fRet (fOp dAddX (fCutX (fVar 1) (foNone) (foSome (fVar 3))) (fCutX (fVar 1) (foSome (fOp dAddX (fVar 3) (fC (.int 1)))) (foNone)))) (fSkip)
def b7 : FS := fIfS (fTest (fOp dEq (fVar 2) (fC (.int 6)))) (fRet (fOp dAddX (fOp dAddX (fCutX (fVar 1) (foNone) (foSome (fVar 3))) (fLst (fCons (fVar 4) (fNil)))) (fCutX (fVar 1) (foSome (fVar 3)) (foNone)))) (fSkip)
def b8 : FS := fIfS (fTest (fOp dEq (fVar 2) (fC (.int 7)))) (fRet (fOp dAddX (fOp dAddX (fCutX (fVar 1) (foNone) (foSome (fVar 3))) (fRev (fCutX (fVar 1) (foSome (fVar 3)) (foSome (fOp dAddX (fVar 3) (fC (.int 2))))))) (fCutX (fVar 1) (foSome (fOp dAddX (fVar 3) (fC (.int 2)))) (foNone)))) (fSkip)
def b9 : FS := fAsg (fMethT dSplit (fVar 4) (fCons (fC (.str " ")) (fNil))) (fgName 5)
def b10 : FS := fAsg (fCallD d__law_draw (fCons (fVar 0) (fCons (fOp dAddX (fCall dLen (fCons (fVar 5) (fNil))) (fC (.int 1))) (fNil)))) (fgName 6)
def b11 : FS := fIfS (fTest (fOp dEq (fVar 6) (fC (.int 0)))) (fRet (fOp dAddX (fOp dAddX (fCutX (fVar 1) (foNone) (foSome (fVar 3))) (fLst (fCons (fMethT dJoin (fC (.str " ")) (fCons (fCutX (fVar 1) (foSome (fVar 3)) (foSome (fOp dAddX (fVar 3) (fC (.int 2))))) (fNil))) (fNil)))) (fCutX (fVar 1) (foSome (fOp dAddX (fVar 3) (fC (.int 2)))) (foNone)))) (fSkip)
def b12 : FS := fRet (fOp dAddX (fOp dAddX (fCutX (fVar 1) (foNone) (foSome (fVar 3))) (fLst (fCons (fMethT dJoin (fC (.str " ")) (fCons (fCutX (fVar 5) (foNone) (foSome (fVar 6))) (fNil))) (fCons (fMethT dJoin (fC (.str " ")) (fCons (fCutX (fVar 5) (foSome (fVar 6)) (foNone)) (fNil))) (fNil))))) (fCutX (fVar 1) (foSome (fOp dAddX (fVar 3) (fC (.int 1)))) (foNone)))
def b : FS := fSeq b0 (fSeq b1 (fSeq b2 (fSeq b3 (fSeq b4 (fSeq b5 (fSeq b6 (fSeq b7 (fSeq b8 (fSeq b9 (fSeq b10 (fSeq b11 b12)))))))))))
end
theorem bent_split : d__law_bent = denOf 7 2 [2, 3, 4, 5, 6] b := rfl
theorem one_l (y : Str) : strL [y] = .lst [.str y] := rfl
theorem bent_ok {k L : Nat} {f LD : D} {ls : List Str} (h : IsZ k f) (hk : k ≤ 70000) (hL : IsL LD ls) (ll : ls.length ≤ 50) (tl' : AllT L ls) (hL2 : L ≤ 20000) :
    ∃ (vs : List Str) (g : D), d__law_bent [f, LD] = some (strL vs, [some g, some LD]) ∧ vs.length ≤ ls.length + 1 ∧ AllT (2 * L + 10) vs ∧ IsZ (k + 10) g := by
  obtain ⟨i1, d1, e1, a1, b1', h1, im1⟩ := draw_eq h (m := 9) (by omega) (by decide) (by decide)
  have im0 := h.imm
  have tl2 := tl'.mono (show L ≤ 2 * L + 10 by omega)
  have ve := void_strs hL fun w hw => (tl' w hw).sgn
  have iLD : imm LD = true ∨ imm LD = false := by cases imm LD <;> simp
  have s0 : b0 [some f, some LD, none, none, none, none, none] = some (.nx, [some d1, some LD, some (.int i1), none, none, none, none]) := by
    simp [b0, e1, im0, im1]
  have fin : ∀ (vs : List Str) (g : D) (o2 o3 o4 o5 o6 : Option D), vs.length ≤ ls.length + 1 → AllT (2 * L + 10) vs → IsZ (k + 10) g → b [some f, some LD, none, none, none, none, none] = some (.ret (strL vs), [some g, some LD, o2, o3, o4, o5, o6]) →
      ∃ (vs : List Str) (g : D), d__law_bent [f, LD] = some (strL vs, [some g, some LD]) ∧ vs.length ≤ ls.length + 1 ∧ AllT (2 * L + 10) vs ∧ IsZ (k + 10) g := fun vs g o2 o3 o4 o5 o6 hl hv hg run => by
    refine ⟨vs, g, ?_, hl, hv, hg⟩
    rw [bent_split]
    generalize b = bb at *
    simp [denOf, run]
  by_cases c0 : ls = []
  · rw [decide_eq_true c0] at ve
    have s1 : b1 [some d1, some LD, some (.int i1), none, none, none, none] = some (.ret (strL [""]), [some d1, some LD, some (.int i1), none, none, none, none]) := by
      rw [one_l]
      simp [b1, ve, big_ok]
    refine fin [""] d1 (some (.int i1)) none none none none (by simp) (.one (Tb.void.mono (by omega))) (h1.mono (by omega)) ?_
    unfold b
    rw [seq_nx s0, seq_ret s1]
  rw [decide_eq_false c0] at ve
  have pl := List.length_pos_iff.mpr c0
  have s1 : b1 [some d1, some LD, some (.int i1), none, none, none, none] = some (.nx, [some d1, some LD, some (.int i1), none, none, none, none]) := by
    simp [b1, ve]
  obtain ⟨i2, d2, e2, a2, b2', h2, im2⟩ := draw_eq h1 (m := (ls.length : Nat)) (by omega) (by omega) (by omega)
  obtain ⟨p, rfl⟩ : ∃ p : Nat, i2 = p := ⟨i2.toNat, by omega⟩
  have dl := hL.len
  have s2 : b2 [some d1, some LD, some (.int i1), none, none, none, none] = some (.nx, [some d2, some LD, some (.int i1), some (.int (p : Nat)), none, none, none]) := by
    simp [b2, dl, e2, im1, im2]
  have hp : p < ls.length := by omega
  have gx := hL.get (p := p) (x := ls[p]) (List.getElem?_eq_getElem hp)
  have tx : Tb L ls[p] := tl' _ (List.getElem_mem hp)
  generalize ls[p] = x at gx tx
  have s3 : b3 [some d2, some LD, some (.int i1), some (.int (p : Nat)), none, none, none] = some (.nx, [some d2, some LD, some (.int i1), some (.int (p : Nat)), some (.str x), none, none]) := by
    simp [b3, gx]
  have k1 := hL.to p
  have k2 := hL.from p
  have k3 := hL.from (p + 1)
  have k4 := hL.from (p + 2)
  have k5 := hL.mid p (p + 2)
  rw [show p + 2 - p = 2 by omega] at k5
  have ad1 : dAddX (.int (p : Nat)) (.int 1) = some (.int ((p + 1 : Nat) : Int)) := rfl
  have ad2 : dAddX (.int (p : Nat)) (.int 2) = some (.int ((p + 2 : Nat) : Int)) := rfl
  have lt : (ls.take p).length = p := by rw [List.length_take]; omega
  have ld : ∀ q, (ls.drop q).length = ls.length - q := fun q => List.length_drop
  have q0 := int_eq i1 5
  have q1 := int_eq i1 6
  have q2 := int_eq i1 7
  -- a line put for the one drawn
  have put : ∀ y : Str, ∃ z, dAddX (strL (ls.take p)) (.lst [.str y]) = some z ∧ dAddX z (strL (ls.drop (p + 1))) = some (strL (ls.take p ++ [y] ++ ls.drop (p + 1))) := fun y => by
    have c1 := (catX (ws := ls.take p) (vs := [y]) (by rw [lt]; simp; omega)).1
    have c2 := (catX (ws := ls.take p ++ [y]) (vs := ls.drop (p + 1)) (by rw [List.length_append, lt, ld]; simp; omega)).1
    exact ⟨_, c1, c2⟩
  have putT : ∀ y : Str, Tb (2 * L + 10) y → AllT (2 * L + 10) (ls.take p ++ [y] ++ ls.drop (p + 1)) ∧ (ls.take p ++ [y] ++ ls.drop (p + 1)).length ≤ ls.length + 1 := fun y ty =>
    ⟨((tl2.tk p).app (.one ty)).app (tl2.dk (p + 1)), by rw [List.length_append, List.length_append, lt, ld]; simp; omega⟩
  by_cases w3 : i1 < 3
  · obtain ⟨y, g, e, ty, hg⟩ := worded_ok h2 (by omega) tx (by omega)
    obtain ⟨z, c1, c2⟩ := put y
    obtain ⟨t1, t2⟩ := putT y ty
    have img := hg.imm
    have s4 : b4 [some d2, some LD, some (.int i1), some (.int (p : Nat)), some (.str x), none, none] = some (.ret (strL (ls.take p ++ [y] ++ ls.drop (p + 1))), [some g, some LD, some (.int i1), some (.int (p : Nat)), some (.str x), none, none]) := by
      generalize strL (ls.take p ++ [y] ++ ls.drop (p + 1)) = V0 at *
      generalize strL (ls.take p) = V1 at *
      generalize strL (ls.drop (p + 1)) = V2 at *
      generalize ((p + 1 : Nat) : Int) = P1 at *
      simp [b4, w3, k1, k3, c1, c2, e, im2, img, ad1, big_ok]
    refine fin _ g (some (.int i1)) (some (.int (p : Nat))) (some (.str x)) none none t2 t1 (hg.mono (by omega)) ?_
    unfold b
    rw [seq_nx s0, seq_nx s1, seq_nx s2, seq_nx s3, seq_ret s4]
  have s4 : b4 [some d2, some LD, some (.int i1), some (.int (p : Nat)), some (.str x), none, none] = some (.nx, [some d2, some LD, some (.int i1), some (.int (p : Nat)), some (.str x), none, none]) := by
    simp [b4, w3]
  by_cases w5 : i1 < 5
  · obtain ⟨y, g, e, ty, hg⟩ := signed_ok h2 (by omega) tx (by omega)
    have e : d__law_signed [d2, .str x] = some (.str y, [some g, some (.str x)]) := e
    obtain ⟨z, c1, c2⟩ := put y
    obtain ⟨t1, t2⟩ := putT y (ty.mono (by omega))
    have img := hg.imm
    have s5 : b5 [some d2, some LD, some (.int i1), some (.int (p : Nat)), some (.str x), none, none] = some (.ret (strL (ls.take p ++ [y] ++ ls.drop (p + 1))), [some g, some LD, some (.int i1), some (.int (p : Nat)), some (.str x), none, none]) := by
      generalize strL (ls.take p ++ [y] ++ ls.drop (p + 1)) = V0 at *
      generalize strL (ls.take p) = V1 at *
      generalize strL (ls.drop (p + 1)) = V2 at *
      generalize ((p + 1 : Nat) : Int) = P1 at *
      simp [b5, w5, k1, k3, c1, c2, e, im2, img, ad1, big_ok]
    refine fin _ g (some (.int i1)) (some (.int (p : Nat))) (some (.str x)) none none t2 t1 (hg.mono (by omega)) ?_
    unfold b
    rw [seq_nx s0, seq_nx s1, seq_nx s2, seq_nx s3, seq_nx s4, seq_ret s5]
  have s5 : b5 [some d2, some LD, some (.int i1), some (.int (p : Nat)), some (.str x), none, none] = some (.nx, [some d2, some LD, some (.int i1), some (.int (p : Nat)), some (.str x), none, none]) := by
    simp [b5, w5]
  by_cases w6 : i1 = 5
  · subst w6
    have c2 := (catX (ws := ls.take p) (vs := ls.drop (p + 1)) (by rw [lt, ld]; omega)).1
    have s6 : b6 [some d2, some LD, some (.int 5), some (.int (p : Nat)), some (.str x), none, none] = some (.ret (strL (ls.take p ++ ls.drop (p + 1))), [some d2, some LD, some (.int 5), some (.int (p : Nat)), some (.str x), none, none]) := by
      generalize strL (ls.take p ++ ls.drop (p + 1)) = V0 at *
      generalize strL (ls.take p) = V1 at *
      generalize strL (ls.drop (p + 1)) = V2 at *
      generalize ((p + 1 : Nat) : Int) = P1 at *
      simp [b6, k1, k3, c2, ad1]
    refine fin _ d2 (some (.int 5)) (some (.int (p : Nat))) (some (.str x)) none none (by rw [List.length_append, lt, ld]; omega) ((tl2.tk p).app (tl2.dk (p + 1))) (h2.mono (by omega)) ?_
    unfold b
    rw [seq_nx s0, seq_nx s1, seq_nx s2, seq_nx s3, seq_nx s4, seq_nx s5, seq_ret s6]
  have s6 : b6 [some d2, some LD, some (.int i1), some (.int (p : Nat)), some (.str x), none, none] = some (.nx, [some d2, some LD, some (.int i1), some (.int (p : Nat)), some (.str x), none, none]) := by
    simp [b6, w6]
  by_cases w7 : i1 = 6
  · subst w7
    have c1 := (catX (ws := ls.take p) (vs := [x]) (by rw [lt]; simp; omega)).1
    have c2 := (catX (ws := ls.take p ++ [x]) (vs := ls.drop p) (by rw [List.length_append, lt, ld]; simp; omega)).1
    rw [one_l] at c1
    have s7 : b7 [some d2, some LD, some (.int 6), some (.int (p : Nat)), some (.str x), none, none] = some (.ret (strL (ls.take p ++ [x] ++ ls.drop p)), [some d2, some LD, some (.int 6), some (.int (p : Nat)), some (.str x), none, none]) := by
      generalize strL (ls.take p ++ [x] ++ ls.drop p) = V0 at *
      generalize strL (ls.take p ++ [x]) = V3 at *
      generalize strL (ls.take p) = V1 at *
      generalize strL (ls.drop p) = V2 at *
      simp [b7, k1, k2, c1, c2, big_ok]
    refine fin _ d2 (some (.int 6)) (some (.int (p : Nat))) (some (.str x)) none none (by rw [List.length_append, List.length_append, lt, ld]; simp; omega) (((tl2.tk p).app (.one (tx.mono (by omega)))).app (tl2.dk p)) (h2.mono (by omega)) ?_
    unfold b
    rw [seq_nx s0, seq_nx s1, seq_nx s2, seq_nx s3, seq_nx s4, seq_nx s5, seq_nx s6, seq_ret s7]
  have s7 : b7 [some d2, some LD, some (.int i1), some (.int (p : Nat)), some (.str x), none, none] = some (.nx, [some d2, some LD, some (.int i1), some (.int (p : Nat)), some (.str x), none, none]) := by
    simp [b7, w7]
  by_cases w8 : i1 = 7
  · subst w8
    have l2 : ((ls.drop p).take 2).reverse.length = min 2 (ls.length - p) := by rw [List.length_reverse, List.length_take, ld]
    have c1 := (catX (ws := ls.take p) (vs := ((ls.drop p).take 2).reverse) (by rw [lt, l2]; omega)).1
    have c2 := (catX (ws := ls.take p ++ ((ls.drop p).take 2).reverse) (vs := ls.drop (p + 2)) (by rw [List.length_append, lt, l2, ld]; omega)).1
    have rv := revL (ws := (ls.drop p).take 2)
    have s8 : b8 [some d2, some LD, some (.int 7), some (.int (p : Nat)), some (.str x), none, none] = some (.ret (strL (ls.take p ++ ((ls.drop p).take 2).reverse ++ ls.drop (p + 2))), [some d2, some LD, some (.int 7), some (.int (p : Nat)), some (.str x), none, none]) := by
      generalize strL (ls.take p ++ ((ls.drop p).take 2).reverse ++ ls.drop (p + 2)) = V0 at *
      generalize strL (ls.take p ++ ((ls.drop p).take 2).reverse) = V3 at *
      generalize strL (((ls.drop p).take 2).reverse) = V4 at *
      generalize strL ((ls.drop p).take 2) = V5 at *
      generalize strL (ls.take p) = V1 at *
      generalize strL (ls.drop (p + 2)) = V2 at *
      generalize ((p + 2 : Nat) : Int) = P2 at *
      simp [b8, k1, k4, k5, c1, c2, rv, ad2]
    refine fin _ d2 (some (.int 7)) (some (.int (p : Nat))) (some (.str x)) none none (by rw [List.length_append, List.length_append, lt, l2, ld]; omega) (((tl2.tk p).app ((tl2.dk p).tk 2).rv).app (tl2.dk (p + 2))) (h2.mono (by omega)) ?_
    unfold b
    rw [seq_nx s0, seq_nx s1, seq_nx s2, seq_nx s3, seq_nx s4, seq_nx s5, seq_nx s6, seq_nx s7, seq_ret s8]
  have s8 : b8 [some d2, some LD, some (.int i1), some (.int (p : Nat)), some (.str x), none, none] = some (.nx, [some d2, some LD, some (.int i1), some (.int (p : Nat)), some (.str x), none, none]) := by
    simp [b8, w8]
  -- lines joined, a line parted
  have hx := tx.len
  have W := tx.words
  have ww := words_wt x
  have lw := wt_len (RZ.wordsOf x)
  have sp' : dSplit (.str x) [.str " "] = some (strL (RZ.wordsOf x)) := split_ok x (by omega)
  generalize RZ.wordsOf x = ws at *
  have dw : dLen [strL ws] = some (.int (ws.length : Nat)) := by
    show some (D.int ((ws.map D.str).length : Nat)) = _
    rw [List.length_map]
  obtain ⟨i3, d3, e3, a3, b3', h3, im3⟩ := draw_eq h2 (m := (ws.length : Nat) + 1) (by omega) (by omega) (by omega)
  obtain ⟨j, rfl⟩ : ∃ j : Nat, i3 = j := ⟨i3.toNat, by omega⟩
  have adw : dAddX (.int (ws.length : Nat)) (.int 1) = some (.int ((ws.length : Nat) + 1)) := rfl
  have iw : imm (strL ws) = false := rfl
  have s9 : b9 [some d2, some LD, some (.int i1), some (.int (p : Nat)), some (.str x), none, none] = some (.nx, [some d2, some LD, some (.int i1), some (.int (p : Nat)), some (.str x), some (strL ws), none]) := by
    generalize strL ws = WS at *
    simp [b9, sp', fMethR, iw]
  have s10 : b10 [some d2, some LD, some (.int i1), some (.int (p : Nat)), some (.str x), some (strL ws), none] = some (.nx, [some d3, some LD, some (.int i1), some (.int (p : Nat)), some (.str x), some (strL ws), some (.int (j : Nat))]) := by
    generalize strL ws = WS at *
    simp [b10, dw, adw, e3, im2, im3, iw]
  have qj := int_eq (j : Nat) 0
  by_cases cj : ((j : Nat) : Int) = 0
  · rw [decide_eq_true cj] at qj
    have W2 : Ws (2 * (L + 1)) ((ls.drop p).take 2) := by
      have t2 : ((ls.drop p).take 2).length ≤ 2 := by rw [List.length_take]; omega
      have := Ws.of (L := L) (ws := (ls.drop p).take 2) fun w hw => tl' w (List.mem_of_mem_drop (List.mem_of_mem_take hw))
      exact this.mono (Nat.mul_le_mul_right _ t2)
    have jn := join_ok (ws := (ls.drop p).take 2) (by have := W2.wt; omega)
    have jn : dJoin (.str " ") [strL ((ls.drop p).take 2)] = some (.str (joined ((ls.drop p).take 2))) := jn
    have tj := W2.joined
    generalize joined ((ls.drop p).take 2) = y at *
    have c1 := (catX (ws := ls.take p) (vs := [y]) (by rw [lt]; simp; omega)).1
    have c2 := (catX (ws := ls.take p ++ [y]) (vs := ls.drop (p + 2)) (by rw [List.length_append, lt, ld]; simp; omega)).1
    rw [one_l] at c1
    have s11 : b11 [some d3, some LD, some (.int i1), some (.int (p : Nat)), some (.str x), some (strL ws), some (.int (j : Nat))] = some (.ret (strL (ls.take p ++ [y] ++ ls.drop (p + 2))), [some d3, some LD, some (.int i1), some (.int (p : Nat)), some (.str x), some (strL ws), some (.int (j : Nat))]) := by
      generalize strL (ls.take p ++ [y] ++ ls.drop (p + 2)) = V0 at *
      generalize strL (ls.take p ++ [y]) = V3 at *
      generalize strL ((ls.drop p).take 2) = V5 at *
      generalize strL (ls.take p) = V1 at *
      generalize strL (ls.drop (p + 2)) = V2 at *
      generalize ((p + 2 : Nat) : Int) = P2 at *
      generalize strL ws = WS at *
      simp [b11, qj, k1, k4, k5, c1, c2, jn, fMethR, ad2, big_ok]
    refine fin _ d3 (some (.int i1)) (some (.int (p : Nat))) (some (.str x)) (some (strL ws)) (some (.int (j : Nat))) (by rw [List.length_append, List.length_append, lt, ld]; simp; omega) (((tl2.tk p).app (.one (tj.mono (by omega)))).app (tl2.dk (p + 2))) (h3.mono (by omega)) ?_
    unfold b
    rw [seq_nx s0, seq_nx s1, seq_nx s2, seq_nx s3, seq_nx s4, seq_nx s5, seq_nx s6, seq_nx s7, seq_nx s8, seq_nx s9, seq_nx s10, seq_ret s11]
  · rw [decide_eq_false cj] at qj
    have s11 : b11 [some d3, some LD, some (.int i1), some (.int (p : Nat)), some (.str x), some (strL ws), some (.int (j : Nat))] = some (.nx, [some d3, some LD, some (.int i1), some (.int (p : Nat)), some (.str x), some (strL ws), some (.int (j : Nat))]) := by
      generalize strL ws = WS at *
      generalize ((j : Nat) : Int) = J at *
      simp [b11, cj]
    obtain ⟨A, B, hAB, WA, WB⟩ := W.cuts j
    have j1 := join_ok (ws := ws.take j) (by have := WA.wt; omega)
    have j1 : dJoin (.str " ") [strL (ws.take j)] = some (.str (joined (ws.take j))) := j1
    have j2 := join_ok (ws := ws.drop j) (by have := WB.wt; omega)
    have j2 : dJoin (.str " ") [strL (ws.drop j)] = some (.str (joined (ws.drop j))) := j2
    have tj1 := WA.joined
    have tj2 := WB.joined
    have m1 := toL (ws := ws) j
    have m2 := fromL (ws := ws) j
    generalize joined (ws.take j) = y1 at *
    generalize joined (ws.drop j) = y2 at *
    have c1 := (catX (ws := ls.take p) (vs := [y1, y2]) (by rw [lt]; simp; omega)).1
    have c2 := (catX (ws := ls.take p ++ [y1, y2]) (vs := ls.drop (p + 1)) (by rw [List.length_append, lt, ld]; simp; omega)).1
    have c1 : dAddX (strL (ls.take p)) (.lst [.str y1, .str y2]) = some (strL (ls.take p ++ [y1, y2])) := c1
    have s12 : b12 [some d3, some LD, some (.int i1), some (.int (p : Nat)), some (.str x), some (strL ws), some (.int (j : Nat))] = some (.ret (strL (ls.take p ++ [y1, y2] ++ ls.drop (p + 1))), [some d3, some LD, some (.int i1), some (.int (p : Nat)), some (.str x), some (strL ws), some (.int (j : Nat))]) := by
      generalize strL (ls.take p ++ [y1, y2] ++ ls.drop (p + 1)) = V0 at *
      generalize strL (ls.take p ++ [y1, y2]) = V3 at *
      generalize strL (ws.take j) = V5 at *
      generalize strL (ws.drop j) = V6 at *
      generalize strL (ls.take p) = V1 at *
      generalize strL (ls.drop (p + 1)) = V2 at *
      generalize ((p + 1 : Nat) : Int) = P2 at *
      generalize strL ws = WS at *
      simp [b12, k1, k3, m1, m2, c1, c2, j1, j2, fMethR, ad1, big_ok]
    have t2 : AllT (2 * L + 10) [y1, y2] := fun y hy => by
      rcases List.mem_cons.1 hy with rfl | hy
      · exact tj1.mono (by omega)
      · rw [List.mem_singleton.1 hy]; exact tj2.mono (by omega)
    refine fin _ d3 (some (.int i1)) (some (.int (p : Nat))) (some (.str x)) (some (strL ws)) (some (.int (j : Nat))) (by rw [List.length_append, List.length_append, lt, ld]; simp; omega) (((tl2.tk p).app t2).app (tl2.dk (p + 1))) (h3.mono (by omega)) ?_
    unfold b
    rw [seq_nx s0, seq_nx s1, seq_nx s2, seq_nx s3, seq_nx s4, seq_nx s5, seq_nx s6, seq_nx s7, seq_nx s8, seq_nx s9, seq_nx s10, seq_nx s11, s12]
end K81
/-! Lines of webs: the law. -/
namespace K81
open PySem PySem.Spec L2 DL RZ
noncomputable section
def v0 : FS := fAsg (fCallD d__law_tape (fCons (fVar 0) (fNil))) (fgName 1)
def v1b0 : FS := fAsg (fCallD d__law_any_web (fCons (fVar 1) (fNil))) (fgName 3)
def v1b1 : FS := fAsg (fLc [10] (fSeqI (fFrz (fVar 3))) (fgName 10) (fYes) (fMethT dJoin (fC (.str " ")) (fCons (fLc [11] (fSeqI (fFrz (fVar 10))) (fgName 11) (fYes) (fCall dStr (fCons (fVar 11) (fNil)))) (fNil)))) (fgName 4)
def v1b2b0 : FS := fAsg (fCallD d_web_lines (fCons (fVar 3) (fNil))) (fgName 6)
def v1b2b1 : FS := fIfS (fOr (fNot (fTest (fIsi .list (fVar 6)))) (fTest (fOp dNe (fCall dRepr (fCons (fVar 6) (fNil))) (fCall dRepr (fCons (fVar 4) (fNil)))))) (fRet (fC (.bl false))) (fSkip)
def v1b2b2 : FS := fDrop (fMut isLst mAppend (fpVar 6) (fCons (fC (.str "")) (fNil)))
def v1b2b : FS := fSeq v1b2b0 (fSeq v1b2b1 v1b2b2)
def v1b2 : FS := fFor (fRng1 (fCons (fC (.int 2)) (fNil))) (fgName 5) v1b2b
def v1b3 : FS := fAsg (fCallD d__law_bent (fCons (fVar 1) (fCons (fVar 4) (fNil)))) (fgName 7)
def v1b4b0 : FS := fAsg (fCall dList (fCons (fVar 8) (fNil))) (fgName 9)
def v1b4b1 : FS := fIfS (fOr (fTest (fOp dNe (fCall dRepr (fCons (fCallD d__law_told (fCons (fVar 9) (fNil))) (fNil))) (fCall dRepr (fCons (fCallD d__law_read (fCons (fVar 8) (fNil))) (fNil))))) (fTest (fOp dNe (fVar 9) (fVar 8)))) (fRet (fC (.bl false))) (fSkip)
def v1b4b : FS := fSeq v1b4b0 v1b4b1
def v1b4 : FS := fFor (fSeqI (fFrz (fLst (fCons (fVar 4) (fCons (fVar 7) (fCons (fCallD d__law_bent (fCons (fVar 1) (fCons (fVar 7) (fNil)))) (fCons (fCallD d__law_bent (fCons (fVar 1) (fCons (fVar 4) (fNil)))) (fNil)))))))) (fgName 8) v1b4b
def v1b : FS := fSeq v1b0 (fSeq v1b1 (fSeq v1b2 (fSeq v1b3 v1b4)))
def v1 : FS := fFor (fRng1 (fCons (fC (.int 3)) (fNil))) (fgName 2) v1b
def v2 : FS := fRet (fC (.bl true))
def v : FS := fSeq v0 (fSeq v1 v2)
end
theorem law_split : d_law = denOf 12 1 [1, 2, 3, 4, 5, 6, 7, 8, 9] v := rfl
section
variable {o0 o1 o2 o3 o4 o5 o6 o7 o8 o9 : Option D}
theorem twice_ok {N : List (List Nat)} (G : NG N) : ∃ q5 q6, v1b2 [o0, o1, o2, some (webN N), some (strL (linesN N)), o5, o6, o7, o8, o9, none, none] = some (.nx, [o0, o1, o2, some (webN N), some (strL (linesN N)), q5, q6, o7, o8, o9, none, none]) := by
  have main : Ok (v1b2 [o0, o1, o2, some (webN N), some (strL (linesN N)), o5, o6, o7, o8, o9, none, none]) fun z => z.1 = .nx ∧ ∃ q5 q6, z.2 = [o0, o1, o2, some (webN N), some (strL (linesN N)), q5, q6, o7, o8, o9, none, none] := by
    have e := web_lines_ok G
    obtain ⟨s, rs⟩ := repr_strs (tb_lines G) (by rw [List.length_map]; have := G.len; omega) (by decide)
    have ip : imm (webN N) = true := imm_webN N
    have iL : imm (strL (linesN N)) = false := rfl
    have nx : isX (strL (linesN N)) = false := rfl
    have ik : isK .list (strL (linesN N)) = true := rfl
    have isl : isLst (strL (linesN N)) = true := rfl
    have ns := str_ne s s
    rw [decide_eq_true rfl] at ns
    have ok2 : okR (2 : Int) = true := by decide
    have ma : mAppend (strL (linesN N)) [.str ""] = some (strL (linesN N ++ [("" : Str)]), .non) := by
      have : sizeLine = 16777216 := rfl
      rw [append_l (by rw [List.length_map, List.length_map]; have := G.len; omega)]
      show _ = some (D.lst ((linesN N ++ [("" : Str)]).map D.str), _)
      rw [List.map_append]; rfl
    generalize strL (linesN N ++ [("" : Str)]) = L2 at *
    generalize strL (linesN N) = LL at *
    generalize webN N = PP at *
    simp [v1b2, ok2]
    refine ok_iota (n := 2) (fun p ρ => ∃ q5 q6, ρ = [o0, o1, o2, some PP, some LL, q5, q6, o7, o8, o9, none, none]) (fun p ρ hp hI => ?_) (fun ρ hI => ⟨rfl, hI⟩) ⟨o5, o6, rfl⟩
    obtain ⟨q5, q6, rfl⟩ := hI
    refine ⟨_, by simp; rfl, ?_⟩
    have s0 : v1b2b0 [o0, o1, o2, some PP, some LL, some (.int (p : Nat)), q6, o7, o8, o9, none, none] = some (.nx, [o0, o1, o2, some PP, some LL, some (.int (p : Nat)), some LL, o7, o8, o9, none, none]) := by
      simp [v1b2b0, e, ip, iL]
    have s1 : v1b2b1 [o0, o1, o2, some PP, some LL, some (.int (p : Nat)), some LL, o7, o8, o9, none, none] = some (.nx, [o0, o1, o2, some PP, some LL, some (.int (p : Nat)), some LL, o7, o8, o9, none, none]) := by
      simp [v1b2b1, nx, ik, rs, ns]
    have s2 : v1b2b2 [o0, o1, o2, some PP, some LL, some (.int (p : Nat)), some LL, o7, o8, o9, none, none] = some (.nx, [o0, o1, o2, some PP, some LL, some (.int (p : Nat)), some L2, o7, o8, o9, none, none]) := by
      simp [v1b2b2, isl, ma]
    have run : v1b2b [o0, o1, o2, some PP, some LL, some (.int (p : Nat)), q6, o7, o8, o9, none, none] = some (.nx, [o0, o1, o2, some PP, some LL, some (.int (p : Nat)), some L2, o7, o8, o9, none, none]) := by
      unfold v1b2b
      rw [seq_nx s0, seq_nx s1, s2]
    exact ⟨_, run, _, _, rfl⟩
  obtain ⟨⟨o, ρ⟩, e, ho, a, b, hρ⟩ := main
  have ho : o = .nx := ho
  have hρ : ρ = _ := hρ
  subst ho hρ
  exact ⟨a, b, e⟩
def Gd (ls : List Str) : Prop := ls.length ≤ 50 ∧ AllT 1000 ls
theorem body_ok {ls : List Str} (G : Gd ls) : ∃ q9, v1b4b [o0, o1, o2, o3, o4, o5, o6, o7, some (strF ls), o9, none, none] = some (.nx, [o0, o1, o2, o3, o4, o5, o6, o7, some (strF ls), q9, none, none]) := by
  have hl : ls.length ≤ 1000 := by have := G.1; omega
  have hx : ∀ x ∈ ls, x.length ≤ 3000 := fun x hx => by have := (G.2 x hx).len; omega
  have hs : ∀ w ∈ ls, ∀ c ∈ w.cps.toList, c < 256 := fun w hw => (G.2 w hw).sgn
  have e1 : d__law_read [strF ls] = some (saidR (readF ls), [some (strF ls)]) := lread_ok hl hx (.inr rfl)
  have e2 : d__law_told [strL ls] = some (saidR (readF ls), [some (strF ls)]) := told_ok hl hx (.inl rfl)
  obtain ⟨s, rs⟩ := told_nice hl
  have ns := str_ne s s
  rw [decide_eq_true rfl] at ns
  have sm : dNe (strF ls) (strF ls) = some (.bl false) := same_strs hs (.inr rfl) (.inr rfl)
  have iF : imm (strF ls) = true := imm_strs ls
  have iL : imm (strL ls) = false := rfl
  have ll : dList [strF ls] = some (strL ls) := by
    show (if immL (ls.map D.str) = true then some (D.lst (ls.map D.str)) else none) = _
    rw [if_pos (imm_strs ls)]
  generalize saidR (readF ls) = SR at *
  generalize strL ls = LL at *
  generalize strF ls = LF at *
  have s0 : v1b4b0 [o0, o1, o2, o3, o4, o5, o6, o7, some LF, o9, none, none] = some (.nx, [o0, o1, o2, o3, o4, o5, o6, o7, some LF, some LL, none, none]) := by
    simp [v1b4b0, ll, iL]
  have s1 : v1b4b1 [o0, o1, o2, o3, o4, o5, o6, o7, some LF, some LL, none, none] = some (.nx, [o0, o1, o2, o3, o4, o5, o6, o7, some LF, some LF, none, none]) := by
    simp [v1b4b1, e1, e2, iF, iL, rs, ns, sm]
  refine ⟨some LF, ?_⟩
  unfold v1b4b
  rw [seq_nx s0, s1]
theorem each_ok {Ls : List (List Str)} (G : ∀ ls ∈ Ls, Gd ls) : ∃ q8 q9, forD (fgName 8) v1b4b (Ls.map strF) [o0, o1, o2, o3, o4, o5, o6, o7, o8, o9, none, none] = some (.nx, [o0, o1, o2, o3, o4, o5, o6, o7, q8, q9, none, none]) := by
  have main : Ok (forD (fgName 8) v1b4b (Ls.map strF) [o0, o1, o2, o3, o4, o5, o6, o7, o8, o9, none, none]) fun z => z.1 = .nx ∧ ∃ q8 q9, z.2 = [o0, o1, o2, o3, o4, o5, o6, o7, q8, q9, none, none] := by
    refine ok_at (emb := strF) Ls (fun _ ρ => ∃ q8 q9, ρ = [o0, o1, o2, o3, o4, o5, o6, o7, q8, q9, none, none]) (fun p ls ρ hp hI => ?_) (fun ρ hI => ⟨rfl, hI⟩) ⟨o8, o9, rfl⟩
    obtain ⟨q8, q9, rfl⟩ := hI
    refine ⟨_, by simp; rfl, ?_⟩
    obtain ⟨b, e⟩ := body_ok (o0 := o0) (o1 := o1) (o2 := o2) (o3 := o3) (o4 := o4) (o5 := o5) (o6 := o6) (o7 := o7) (o9 := q9) (G ls (List.mem_of_getElem? hp))
    exact ⟨_, e, _, b, rfl⟩
  obtain ⟨⟨o, ρ⟩, e, ho, a, b, hρ⟩ := main
  have ho : o = .nx := ho
  have hρ : ρ = _ := hρ
  subst ho hρ
  exact ⟨a, b, e⟩
theorem show_ok {T : D} {k : Nat} {ls vs : List Str} (h : IsZ k T) (hk : k ≤ 50000) (ll : ls.length ≤ 24) (tl' : AllT 72 ls) (lv : vs.length ≤ 25) (tv : AllT 154 vs) :
    ∃ (f : D) (q4 q7 q8 q9 : Option D), v1b4 [o0, some T, o2, o3, some (strL ls), o5, o6, some (strL vs), o8, o9, none, none] = some (.nx, [o0, some f, o2, o3, q4, o5, o6, q7, q8, q9, none, none]) ∧ IsZ (k + 20) f := by
  obtain ⟨us, g, e1, lu, tu, hg⟩ := bent_ok h (by omega) (.inl rfl : IsL (strL vs) vs) (by omega) tv (by decide)
  obtain ⟨xs, g2, e2, lx, tx, hg2⟩ := bent_ok hg (by omega) (.inl rfl : IsL (strL ls) ls) (by omega) tl' (by decide)
  have im := h.imm
  have img := hg.imm
  have img2 := hg2.imm
  have G : ∀ q ∈ [ls, vs, us, xs], Gd q := fun q hq => by
    simp only [List.mem_cons, List.not_mem_nil, or_false] at hq
    rcases hq with rfl | rfl | rfl | rfl
    · exact ⟨by omega, tl'.mono (by decide)⟩
    · exact ⟨by omega, tv.mono (by decide)⟩
    · exact ⟨by omega, tu.mono (by decide)⟩
    · exact ⟨by omega, tx.mono (by decide)⟩
  have f1 := frz_strs ls
  have f2 := frz_strs vs
  have f3 := frz_strs us
  have f4 := frz_strs xs
  have n1 : imm (strL ls) = false := rfl
  have n2 : imm (strL vs) = false := rfl
  have n3 : imm (strL us) = false := rfl
  have n4 : imm (strL xs) = false := rfl
  have i1 := imm_F ls
  have i2 := imm_F vs
  have i3 := imm_F us
  have i4 := imm_F xs
  obtain ⟨q8, q9, ea⟩ := each_ok (o0 := o0) (o1 := some g2) (o2 := o2) (o3 := o3) (o4 := none) (o5 := o5) (o6 := o6) (o7 := none) (o8 := o8) (o9 := o9) G
  have ea : forD (fgName 8) v1b4b [strF ls, strF vs, strF us, strF xs] [o0, some g2, o2, o3, none, o5, o6, none, o8, o9, none, none] = some (.nx, [o0, some g2, o2, o3, none, o5, o6, none, q8, q9, none, none]) := ea
  refine ⟨g2, none, none, q8, q9, ?_, hg2.mono (by omega)⟩
  generalize strF ls = F1 at *
  generalize strF vs = F2 at *
  generalize strF us = F3 at *
  generalize strF xs = F4 at *
  generalize strL ls = L1 at *
  generalize strL vs = L2 at *
  generalize strL us = L3 at *
  generalize strL xs = L4 at *
  simp [v1b4, im, img, img2, e1, e2, f1, f2, f3, f4, n1, n2, n3, n4, i1, i2, i3, i4, ea, big_ok]
end
def LoI (o0 : Option D) (p : Nat) (ρ : Fm) : Prop := ∃ (f : D) (o2 o3 o4 o5 o6 o7 o8 o9 : Option D), ρ = [o0, some f, o2, o3, o4, o5, o6, o7, o8, o9, none, none] ∧ IsZ (1000 * p) f
theorem round_ok {T : D} {p : Nat} {o0 o2 o3 o4 o5 o6 o7 o8 o9 : Option D} (hp : p < 3) (h : IsZ (1000 * p) T) : ∃ ρ, v1b [o0, some T, o2, o3, o4, o5, o6, o7, o8, o9, none, none] = some (.nx, ρ) ∧ LoI o0 (p + 1) ρ := by
  obtain ⟨w, f, e, R, _, hf⟩ := any_web_ok h (by omega)
  obtain ⟨N, eN, G⟩ := web_nat R
  rw [eN] at e
  have im := h.imm
  have imf := hf.imm
  have ip : imm (webN N) = true := imm_webN N
  have s0 : v1b0 [o0, some T, o2, o3, o4, o5, o6, o7, o8, o9, none, none] = some (.nx, [o0, some f, o2, some (webN N), o4, o5, o6, o7, o8, o9, none, none]) := by
    generalize webN N = PP at *
    simp [v1b0, e, im, imf, ip]
  have s1 : v1b1 [o0, some f, o2, some (webN N), o4, o5, o6, o7, o8, o9, none, none] = some (.nx, [o0, some f, o2, some (webN N), some (strL (linesN N)), o5, o6, o7, o8, o9, none, none]) := due_ok G
  obtain ⟨q5, q6, s2⟩ := twice_ok (o0 := o0) (o1 := some f) (o2 := o2) (o5 := o5) (o6 := o6) (o7 := o7) (o8 := o8) (o9 := o9) G
  have lN : (linesN N).length ≤ 24 := by rw [List.length_map]; exact G.len
  obtain ⟨vs, g, eb, lv, tv, hg⟩ := bent_ok hf (by omega) (.inl rfl : IsL (strL (linesN N)) (linesN N)) (by omega) (tb_lines G) (by decide)
  have img := hg.imm
  have iL : imm (strL (linesN N)) = false := rfl
  have iV : imm (strL vs) = false := rfl
  have s3 : v1b3 [o0, some f, o2, some (webN N), some (strL (linesN N)), q5, q6, o7, o8, o9, none, none] = some (.nx, [o0, some g, o2, some (webN N), some (strL (linesN N)), q5, q6, some (strL vs), o8, o9, none, none]) := by
    generalize webN N = PP at *
    generalize strL (linesN N) = LL at *
    generalize strL vs = VV at *
    simp [v1b3, eb, imf, img, iL, iV]
  obtain ⟨g4, q4, q7, q8, q9, s4, hg4⟩ := show_ok (o0 := o0) (o2 := o2) (o3 := some (webN N)) (o5 := q5) (o6 := q6) (o8 := o8) (o9 := o9) hg (by omega) lN (tb_lines G) (by omega) tv
  refine ⟨_, ?_, g4, o2, some (webN N), q4, q5, q6, q7, q8, q9, rfl, hg4.mono (by omega)⟩
  unfold v1b
  rw [seq_nx s0, seq_nx s1, seq_nx s2, seq_nx s3, s4]
theorem law_true (ns : List Int) (hl : ns.length ≤ 63) : ∃ ρ', d_law [.flst (ns.map .int)] = some (.bl true, ρ') := by
  obtain ⟨T, e0, h0⟩ := tape_ok ns
  have imT := h0.imm
  have iSC : imm (.flst (ns.map D.int)) = true := immL_ints ns
  rw [law_split]
  generalize D.flst (ns.map D.int) = SC at *
  have s0 : v0 [some SC, none, none, none, none, none, none, none, none, none, none, none] = some (.nx, [some SC, some T, none, none, none, none, none, none, none, none, none, none]) := by
    simp [v0, e0, imT, iSC]
  have main : Ok (v1 [some SC, some T, none, none, none, none, none, none, none, none, none, none]) fun z => z.1 = .nx ∧ LoI (some SC) 3 z.2 := by
    have ok3 : okR (3 : Int) = true := by decide
    simp [v1, ok3]
    refine ok_iota (n := 3) (LoI (some SC)) (fun p ρ hp hI => ?_) (fun ρ hI => ⟨rfl, hI⟩) ⟨T, none, none, none, none, none, none, none, none, rfl, h0⟩
    obtain ⟨f, o2, o3, o4, o5, o6, o7, o8, o9, rfl, hf⟩ := hI
    obtain ⟨ρ1, e, h1⟩ := round_ok (o0 := some SC) (o2 := some (.int (p : Nat))) (o3 := o3) (o4 := o4) (o5 := o5) (o6 := o6) (o7 := o7) (o8 := o8) (o9 := o9) hp hf
    refine ⟨_, by simp; rfl, ?_⟩
    exact ⟨_, e, h1⟩
  obtain ⟨⟨r, ρ⟩, s1, hr, _⟩ := main
  have hr : r = .nx := hr
  subst hr
  have s2 : v2 ρ = some (.ret (.bl true), ρ) := rfl
  have run : v [some SC, none, none, none, none, none, none, none, none, none, none, none] = some (.ret (.bl true), ρ) := by
    unfold v
    rw [seq_nx s0, seq_nx s1, s2]
  generalize v = VV at *
  exact ⟨_, by simp [denOf, run]; rfl⟩
end K81
namespace K81
open PySem PySem.Spec L2 DL
theorem all_mk {l : PySem.W.OpenLaw} {w : World} {K : PySem.W.Frag} {h : Heap} {mg : Str → Option Value} {fa : Addr} (X : K.In h) (G : h.Ns mainGlobals mg) (hfa : mg "law" = some (.ref fa))
    {f0 f1 f2 f3 f4 f5 f6 f7 f8 f9 f10 f11 f12 f13 f14 f15 : Addr}
    {od0 an0 : Option Addr} {sl0 : Array (Option Value)} {oc0 kV0 dc0 pm0 cd0 ct0 : Value}
    {od1 an1 : Option Addr} {sl1 : Array (Option Value)} {oc1 kV1 dc1 pm1 cd1 ct1 : Value}
    {od2 an2 : Option Addr} {sl2 : Array (Option Value)} {oc2 kV2 dc2 pm2 cd2 ct2 : Value}
    {od3 an3 : Option Addr} {sl3 : Array (Option Value)} {oc3 kV3 dc3 pm3 cd3 ct3 : Value}
    {od4 an4 : Option Addr} {sl4 : Array (Option Value)} {oc4 kV4 dc4 pm4 cd4 ct4 : Value}
    {od5 an5 : Option Addr} {sl5 : Array (Option Value)} {oc5 kV5 dc5 pm5 cd5 ct5 : Value}
    {od6 an6 : Option Addr} {sl6 : Array (Option Value)} {oc6 kV6 dc6 pm6 cd6 ct6 : Value}
    {od7 an7 : Option Addr} {sl7 : Array (Option Value)} {oc7 kV7 dc7 pm7 cd7 ct7 : Value}
    {od8 an8 : Option Addr} {sl8 : Array (Option Value)} {oc8 kV8 dc8 pm8 cd8 ct8 : Value}
    {od9 an9 : Option Addr} {sl9 : Array (Option Value)} {oc9 kV9 dc9 pm9 cd9 ct9 : Value}
    {od10 an10 : Option Addr} {sl10 : Array (Option Value)} {oc10 kV10 dc10 pm10 cd10 ct10 : Value}
    {od11 an11 : Option Addr} {sl11 : Array (Option Value)} {oc11 kV11 dc11 pm11 cd11 ct11 : Value}
    {od12 an12 : Option Addr} {sl12 : Array (Option Value)} {oc12 kV12 dc12 pm12 cd12 ct12 : Value}
    {od13 an13 : Option Addr} {sl13 : Array (Option Value)} {oc13 kV13 dc13 pm13 cd13 ct13 : Value}
    {od14 an14 : Option Addr} {sl14 : Array (Option Value)} {oc14 kV14 dc14 pm14 cd14 ct14 : Value}
    {od15 an15 : Option Addr} {sl15 : Array (Option Value)} {oc15 kV15 dc15 pm15 cd15 ct15 : Value}
    (a0 : PySem.W.nsIn K mainGlobals "number_in_word" = some (some (.ref f0)))
    (l0 : K.lookup f0 = some ⟨oc0, od0, .func (PySem.W.fnOf "number_in_word" "number_in_word" (defArgs s_number_in_word) (defBody s_number_in_word) (defScope s_number_in_word) .none kV0 dc0 pm0 an0 cd0 ct0), sl0⟩) (c0 : PySem.W.codeIn K cd0 "number_in_word" = true) (k0 : PySem.W.keepIn K (.ref f0) = true)
    (a1 : PySem.W.nsIn K mainGlobals "numbers_in_words" = some (some (.ref f1)))
    (l1 : K.lookup f1 = some ⟨oc1, od1, .func (PySem.W.fnOf "numbers_in_words" "numbers_in_words" (defArgs s_numbers_in_words) (defBody s_numbers_in_words) (defScope s_numbers_in_words) .none kV1 dc1 pm1 an1 cd1 ct1), sl1⟩) (c1 : PySem.W.codeIn K cd1 "numbers_in_words" = true) (k1 : PySem.W.keepIn K (.ref f1) = true)
    (a2 : PySem.W.nsIn K mainGlobals "web_lines" = some (some (.ref f2)))
    (l2 : K.lookup f2 = some ⟨oc2, od2, .func (PySem.W.fnOf "web_lines" "web_lines" (defArgs s_web_lines) (defBody s_web_lines) (defScope s_web_lines) .none kV2 dc2 pm2 an2 cd2 ct2), sl2⟩) (c2 : PySem.W.codeIn K cd2 "web_lines" = true) (k2 : PySem.W.keepIn K (.ref f2) = true)
    (a3 : PySem.W.nsIn K mainGlobals "least_unmet" = some (some (.ref f3)))
    (l3 : K.lookup f3 = some ⟨oc3, od3, .func (PySem.W.fnOf "least_unmet" "least_unmet" (defArgs s_least_unmet) (defBody s_least_unmet) (defScope s_least_unmet) .none kV3 dc3 pm3 an3 cd3 ct3), sl3⟩) (c3 : PySem.W.codeIn K cd3 "least_unmet" = true) (k3 : PySem.W.keepIn K (.ref f3) = true)
    (a4 : PySem.W.nsIn K mainGlobals "row_in_line" = some (some (.ref f4)))
    (l4 : K.lookup f4 = some ⟨oc4, od4, .func (PySem.W.fnOf "row_in_line" "row_in_line" (defArgs s_row_in_line) (defBody s_row_in_line) (defScope s_row_in_line) .none kV4 dc4 pm4 an4 cd4 ct4), sl4⟩) (c4 : PySem.W.codeIn K cd4 "row_in_line" = true) (k4 : PySem.W.keepIn K (.ref f4) = true)
    (a5 : PySem.W.nsIn K mainGlobals "read_web" = some (some (.ref f5)))
    (l5 : K.lookup f5 = some ⟨oc5, od5, .func (PySem.W.fnOf "read_web" "read_web" (defArgs s_read_web) (defBody s_read_web) (defScope s_read_web) .none kV5 dc5 pm5 an5 cd5 ct5), sl5⟩) (c5 : PySem.W.codeIn K cd5 "read_web" = true) (k5 : PySem.W.keepIn K (.ref f5) = true)
    (a6 : PySem.W.nsIn K mainGlobals "_law_tape" = some (some (.ref f6)))
    (l6 : K.lookup f6 = some ⟨oc6, od6, .func (PySem.W.fnOf "_law_tape" "_law_tape" (defArgs s__law_tape) (defBody s__law_tape) (defScope s__law_tape) .none kV6 dc6 pm6 an6 cd6 ct6), sl6⟩) (c6 : PySem.W.codeIn K cd6 "_law_tape" = true) (k6 : PySem.W.keepIn K (.ref f6) = true)
    (a7 : PySem.W.nsIn K mainGlobals "_law_draw" = some (some (.ref f7)))
    (l7 : K.lookup f7 = some ⟨oc7, od7, .func (PySem.W.fnOf "_law_draw" "_law_draw" (defArgs s__law_draw) (defBody s__law_draw) (defScope s__law_draw) .none kV7 dc7 pm7 an7 cd7 ct7), sl7⟩) (c7 : PySem.W.codeIn K cd7 "_law_draw" = true) (k7 : PySem.W.keepIn K (.ref f7) = true)
    (a8 : PySem.W.nsIn K mainGlobals "_law_any_web" = some (some (.ref f8)))
    (l8 : K.lookup f8 = some ⟨oc8, od8, .func (PySem.W.fnOf "_law_any_web" "_law_any_web" (defArgs s__law_any_web) (defBody s__law_any_web) (defScope s__law_any_web) .none kV8 dc8 pm8 an8 cd8 ct8), sl8⟩) (c8 : PySem.W.codeIn K cd8 "_law_any_web" = true) (k8 : PySem.W.keepIn K (.ref f8) = true)
    (a9 : PySem.W.nsIn K mainGlobals "_law_number" = some (some (.ref f9)))
    (l9 : K.lookup f9 = some ⟨oc9, od9, .func (PySem.W.fnOf "_law_number" "_law_number" (defArgs s__law_number) (defBody s__law_number) (defScope s__law_number) .none kV9 dc9 pm9 an9 cd9 ct9), sl9⟩) (c9 : PySem.W.codeIn K cd9 "_law_number" = true) (k9 : PySem.W.keepIn K (.ref f9) = true)
    (a10 : PySem.W.nsIn K mainGlobals "_law_read" = some (some (.ref f10)))
    (l10 : K.lookup f10 = some ⟨oc10, od10, .func (PySem.W.fnOf "_law_read" "_law_read" (defArgs s__law_read) (defBody s__law_read) (defScope s__law_read) .none kV10 dc10 pm10 an10 cd10 ct10), sl10⟩) (c10 : PySem.W.codeIn K cd10 "_law_read" = true) (k10 : PySem.W.keepIn K (.ref f10) = true)
    (a11 : PySem.W.nsIn K mainGlobals "_law_told" = some (some (.ref f11)))
    (l11 : K.lookup f11 = some ⟨oc11, od11, .func (PySem.W.fnOf "_law_told" "_law_told" (defArgs s__law_told) (defBody s__law_told) (defScope s__law_told) .none kV11 dc11 pm11 an11 cd11 ct11), sl11⟩) (c11 : PySem.W.codeIn K cd11 "_law_told" = true) (k11 : PySem.W.keepIn K (.ref f11) = true)
    (a12 : PySem.W.nsIn K mainGlobals "_law_signed" = some (some (.ref f12)))
    (l12 : K.lookup f12 = some ⟨oc12, od12, .func (PySem.W.fnOf "_law_signed" "_law_signed" (defArgs s__law_signed) (defBody s__law_signed) (defScope s__law_signed) .none kV12 dc12 pm12 an12 cd12 ct12), sl12⟩) (c12 : PySem.W.codeIn K cd12 "_law_signed" = true) (k12 : PySem.W.keepIn K (.ref f12) = true)
    (a13 : PySem.W.nsIn K mainGlobals "_law_worded" = some (some (.ref f13)))
    (l13 : K.lookup f13 = some ⟨oc13, od13, .func (PySem.W.fnOf "_law_worded" "_law_worded" (defArgs s__law_worded) (defBody s__law_worded) (defScope s__law_worded) .none kV13 dc13 pm13 an13 cd13 ct13), sl13⟩) (c13 : PySem.W.codeIn K cd13 "_law_worded" = true) (k13 : PySem.W.keepIn K (.ref f13) = true)
    (a14 : PySem.W.nsIn K mainGlobals "_law_bent" = some (some (.ref f14)))
    (l14 : K.lookup f14 = some ⟨oc14, od14, .func (PySem.W.fnOf "_law_bent" "_law_bent" (defArgs s__law_bent) (defBody s__law_bent) (defScope s__law_bent) .none kV14 dc14 pm14 an14 cd14 ct14), sl14⟩) (c14 : PySem.W.codeIn K cd14 "_law_bent" = true) (k14 : PySem.W.keepIn K (.ref f14) = true)
    (a15 : PySem.W.nsIn K mainGlobals "law" = some (some (.ref f15)))
    (l15 : K.lookup f15 = some ⟨oc15, od15, .func (PySem.W.fnOf "law" "law" (defArgs s_law) (defBody s_law) (defScope s_law) .none kV15 dc15 pm15 an15 cd15 ct15), sl15⟩) (c15 : PySem.W.codeIn K cd15 "law" = true) (k15 : PySem.W.keepIn K (.ref f15) = true)
    {C_Barred C_NoAlong C_NoAsk C_NoPaper C_NoRow C_NoText C_NoTie C_RimError C_TooMany : Addr}
    {fi_NoText N_NoText_ : Addr} {nm_NoText qn_NoText : Str} {bs_NoText bm_NoText sub_NoText : List Value} {sn_NoText : List Str} {ab_NoText : Bool} {col_NoText : Option Bool} {dd_NoText : Option Addr} {k0_NoText k1_NoText k2_NoText k3_NoText k5_NoText : Option Value}
    {od_NoText an_NoText : Option Addr} {sl_NoText : Array (Option Value)} {oc_NoText kV_NoText dc_NoText pm_NoText cd_NoText ct_NoText : Value}
    (g_Barred : PySem.W.nsIn K mainGlobals "Barred" = some (some (.ref C_Barred)))
    (g_NoAlong : PySem.W.nsIn K mainGlobals "NoAlong" = some (some (.ref C_NoAlong)))
    (g_NoAsk : PySem.W.nsIn K mainGlobals "NoAsk" = some (some (.ref C_NoAsk)))
    (g_NoPaper : PySem.W.nsIn K mainGlobals "NoPaper" = some (some (.ref C_NoPaper)))
    (g_NoRow : PySem.W.nsIn K mainGlobals "NoRow" = some (some (.ref C_NoRow)))
    (g_NoText : PySem.W.nsIn K mainGlobals "NoText" = some (some (.ref C_NoText)))
    (g_NoTie : PySem.W.nsIn K mainGlobals "NoTie" = some (some (.ref C_NoTie)))
    (g_RimError : PySem.W.nsIn K mainGlobals "RimError" = some (some (.ref C_RimError)))
    (g_TooMany : PySem.W.nsIn K mainGlobals "TooMany" = some (some (.ref C_TooMany)))
    (ex_NoText : PySem.W.subIn K (.ref C_NoText) (.type "BaseException") = some true)
    (hd_NoText : PySem.W.hasDictIn K C_NoText = true)
    (ty_NoText : PySem.W.typeIn K (.ref C_NoText) = some (.type "type"))
    (ex_RimError : PySem.W.subIn K (.ref C_RimError) (.type "BaseException") = some true)
    (hd_RimError : PySem.W.hasDictIn K C_RimError = true)
    (ty_RimError : PySem.W.typeIn K (.ref C_RimError) = some (.type "type"))
    (ga_NoText : PySem.W.findIn K (.ref C_NoText) "__getattribute__" = some (some (.builtin "BaseException.__getattribute__")))
    (gg_NoText : PySem.W.findIn K (.ref C_NoText) "__getattr__" = some none)
    (sub_NoText_RimError : PySem.W.subIn K (.ref C_NoText) (.ref C_RimError) = some true)
    (gs_ : PySem.W.specialIn K (.builtin "object.__class__") "__get__" = some (some (.builtin "getset_descriptor.__get__")))
    (tk_ : PySem.W.takesIn K (.builtin "object.__class__") = some true)
    (ca_NoText : PySem.W.findIn K (.ref C_NoText) "__class__" = some (some (.builtin "object.__class__")))
    (ob_NoText : PySem.W.mroIn K C_NoText (.type "object") = some true)
    (ko_NoText_Barred : PySem.W.kitOne K (.ref C_NoText) (.ref C_Barred) = some false)
    (ko_NoText_NoAlong : PySem.W.kitOne K (.ref C_NoText) (.ref C_NoAlong) = some false)
    (ko_NoText_NoAsk : PySem.W.kitOne K (.ref C_NoText) (.ref C_NoAsk) = some false)
    (ko_NoText_NoPaper : PySem.W.kitOne K (.ref C_NoText) (.ref C_NoPaper) = some false)
    (ko_NoText_NoRow : PySem.W.kitOne K (.ref C_NoText) (.ref C_NoRow) = some false)
    (ko_NoText_NoText : PySem.W.kitOne K (.ref C_NoText) (.ref C_NoText) = some true)
    (ko_NoText_NoTie : PySem.W.kitOne K (.ref C_NoText) (.ref C_NoTie) = some false)
    (ko_NoText_TooMany : PySem.W.kitOne K (.ref C_NoText) (.ref C_TooMany) = some false)
    (ko_NoText_ValueError : PySem.W.kitOne K (.ref C_NoText) (.type "ValueError") = some true)
    (z_ValueError : PySem.W.nsIn K mainGlobals "ValueError" = some none)
    (no_NoText_line : PySem.W.findIn K (.ref C_NoText) "line" = some none)
    (lc_NoText : K.lookup C_NoText = some (excClassObj nm_NoText qn_NoText C_NoText N_NoText_ bs_NoText bm_NoText true sn_NoText sub_NoText ab_NoText col_NoText dd_NoText k0_NoText k1_NoText k2_NoText k3_NoText k5_NoText "ValueError.__new__"))
    (rv_NoText : PySem.HandSPX.refsVE bm_NoText = true)
    (sa_NoText : PySem.W.findIn K (.ref C_NoText) "__setattr__" = some (some (.builtin "object.__setattr__")))
    (kc_NoText : PySem.W.keepIn K (.ref C_NoText) = true)
    (ic_NoText : PySem.W.findIn K (.ref C_NoText) "__init__" = some (some (.ref fi_NoText)))
    (ti_NoText : PySem.W.typeIn K (.ref fi_NoText) = some (.type "function"))
    (li_NoText : K.lookup fi_NoText = some ⟨oc_NoText, od_NoText, .func (PySem.W.fnOf "__init__" "NoText.__init__" (defArgs si_NoText) (defBody si_NoText) (defScope si_NoText) .none kV_NoText dc_NoText pm_NoText an_NoText cd_NoText ct_NoText), sl_NoText⟩)
    (ci_NoText : PySem.W.codeIn K cd_NoText "NoText.__init__" = true)
    (ki_NoText : PySem.W.keepIn K (.ref fi_NoText) = true)
    (rb_RimError : PySem.W.readsIn K C_RimError (.type "type") = true)
    (gb_RimError : PySem.W.specialIn K (.ref C_RimError) "__getattribute__" = some (some (.builtin "type.__getattribute__")))
    (ib_RimError : PySem.W.findCls K (.ref C_RimError) (.type "type") "__init__" = some (.val (.builtin "ValueError.__init__")))
    {tk_FIGURES : Tok} (y_FIGURES : PySem.W.nsIn K mainGlobals "FIGURES" = some (some (.str "0123456789" tk_FIGURES)))
    {tk_MOST_DARTS : Tok} (y_MOST_DARTS : PySem.W.nsIn K mainGlobals "MOST_DARTS" = some (some (.int 24 tk_MOST_DARTS)))
    (z_all : PySem.W.nsIn K mainGlobals "all" = some none)
    (z_any : PySem.W.nsIn K mainGlobals "any" = some none)
    (z_enumerate : PySem.W.nsIn K mainGlobals "enumerate" = some none)
    (z_int : PySem.W.nsIn K mainGlobals "int" = some none)
    (z_isinstance : PySem.W.nsIn K mainGlobals "isinstance" = some none)
    (z_len : PySem.W.nsIn K mainGlobals "len" = some none)
    (z_list : PySem.W.nsIn K mainGlobals "list" = some none)
    (z_max : PySem.W.nsIn K mainGlobals "max" = some none)
    (z_min : PySem.W.nsIn K mainGlobals "min" = some none)
    (z_range : PySem.W.nsIn K mainGlobals "range" = some none)
    (z_repr : PySem.W.nsIn K mainGlobals "repr" = some none)
    (z_set : PySem.W.nsIn K mainGlobals "set" = some none)
    (z_sorted : PySem.W.nsIn K mainGlobals "sorted" = some none)
    (z_str : PySem.W.nsIn K mainGlobals "str" = some none)
    (z_tuple : PySem.W.nsIn K mainGlobals "tuple" = some none)
    : ∃ fd : FuncData, (∀ (s : Shared) (v : Value), BindsTo s fd ⟨[v], []⟩ [("_law_script", v)]) ∧ ∀ base : Heap, K.In base → base.Ns mainGlobals mg → FnD l.prog w K mg base 6 fa fd ["_law_script"] d_law := by
  have e := hfa.symm.trans (PySem.W.mg_of X G a15)
  cases e
  have T : Txt mg := ⟨PySem.W.mg_none_of X G z_all, PySem.W.mg_none_of X G z_any, PySem.W.mg_none_of X G z_enumerate, PySem.W.mg_none_of X G z_int, PySem.W.mg_none_of X G z_isinstance, PySem.W.mg_none_of X G z_len, PySem.W.mg_none_of X G z_list, PySem.W.mg_none_of X G z_max, PySem.W.mg_none_of X G z_min, PySem.W.mg_none_of X G z_range, PySem.W.mg_none_of X G z_repr, PySem.W.mg_none_of X G z_set, PySem.W.mg_none_of X G z_sorted, PySem.W.mg_none_of X G z_str, PySem.W.mg_none_of X G z_tuple, ⟨_, PySem.W.mg_of X G y_FIGURES⟩, ⟨_, PySem.W.mg_of X G y_MOST_DARTS⟩⟩
  have hx_RimError : HdX K mg "RimError" ["NoText"] := ⟨C_RimError, PySem.W.mg_of X G g_RimError, fun y hy Cy hm => by
    simp only [List.mem_cons, List.not_mem_nil, or_false] at hy
    subst hy
    · have e := hm.symm.trans (PySem.W.mg_of X G g_NoText)
      cases e
      exact PySem.W.exm_ref ex_RimError hd_RimError ty_RimError sub_NoText_RimError⟩
  have fx_RimError_line : FldX K mg ["NoText"] "line" := ⟨fun y hy Cy hm => by
    simp only [List.mem_cons, List.not_mem_nil, or_false] at hy
    subst hy
    · have e := hm.symm.trans (PySem.W.mg_of X G g_NoText)
      cases e
      exact ⟨⟨ga_NoText, gg_NoText, ex_NoText, hd_NoText⟩, no_NoText_line⟩⟩
  have ix_RimError_Barred : IsX K mg "Barred" [("NoText", false)] := ⟨.ref C_Barred, .ref C_Barred, rfl, (fun _ e => e), .inl (PySem.W.mg_of X G g_Barred), fun c b hb Cc hm => by
    have hb := PySem.mem_of_lookup hb
    simp only [List.mem_cons, List.not_mem_nil, or_false, Prod.mk.injEq] at hb
    obtain ⟨rfl, rfl⟩ := hb
    · have e := hm.symm.trans (PySem.W.mg_of X G g_NoText)
      cases e
      exact ⟨⟨⟨ga_NoText, gg_NoText, ex_NoText, hd_NoText⟩, ca_NoText, ob_NoText, gs_, tk_⟩, ko_NoText_Barred⟩⟩
  have ix_RimError_NoAlong : IsX K mg "NoAlong" [("NoText", false)] := ⟨.ref C_NoAlong, .ref C_NoAlong, rfl, (fun _ e => e), .inl (PySem.W.mg_of X G g_NoAlong), fun c b hb Cc hm => by
    have hb := PySem.mem_of_lookup hb
    simp only [List.mem_cons, List.not_mem_nil, or_false, Prod.mk.injEq] at hb
    obtain ⟨rfl, rfl⟩ := hb
    · have e := hm.symm.trans (PySem.W.mg_of X G g_NoText)
      cases e
      exact ⟨⟨⟨ga_NoText, gg_NoText, ex_NoText, hd_NoText⟩, ca_NoText, ob_NoText, gs_, tk_⟩, ko_NoText_NoAlong⟩⟩
  have ix_RimError_NoAsk : IsX K mg "NoAsk" [("NoText", false)] := ⟨.ref C_NoAsk, .ref C_NoAsk, rfl, (fun _ e => e), .inl (PySem.W.mg_of X G g_NoAsk), fun c b hb Cc hm => by
    have hb := PySem.mem_of_lookup hb
    simp only [List.mem_cons, List.not_mem_nil, or_false, Prod.mk.injEq] at hb
    obtain ⟨rfl, rfl⟩ := hb
    · have e := hm.symm.trans (PySem.W.mg_of X G g_NoText)
      cases e
      exact ⟨⟨⟨ga_NoText, gg_NoText, ex_NoText, hd_NoText⟩, ca_NoText, ob_NoText, gs_, tk_⟩, ko_NoText_NoAsk⟩⟩
  have ix_RimError_NoPaper : IsX K mg "NoPaper" [("NoText", false)] := ⟨.ref C_NoPaper, .ref C_NoPaper, rfl, (fun _ e => e), .inl (PySem.W.mg_of X G g_NoPaper), fun c b hb Cc hm => by
    have hb := PySem.mem_of_lookup hb
    simp only [List.mem_cons, List.not_mem_nil, or_false, Prod.mk.injEq] at hb
    obtain ⟨rfl, rfl⟩ := hb
    · have e := hm.symm.trans (PySem.W.mg_of X G g_NoText)
      cases e
      exact ⟨⟨⟨ga_NoText, gg_NoText, ex_NoText, hd_NoText⟩, ca_NoText, ob_NoText, gs_, tk_⟩, ko_NoText_NoPaper⟩⟩
  have ix_RimError_NoRow : IsX K mg "NoRow" [("NoText", false)] := ⟨.ref C_NoRow, .ref C_NoRow, rfl, (fun _ e => e), .inl (PySem.W.mg_of X G g_NoRow), fun c b hb Cc hm => by
    have hb := PySem.mem_of_lookup hb
    simp only [List.mem_cons, List.not_mem_nil, or_false, Prod.mk.injEq] at hb
    obtain ⟨rfl, rfl⟩ := hb
    · have e := hm.symm.trans (PySem.W.mg_of X G g_NoText)
      cases e
      exact ⟨⟨⟨ga_NoText, gg_NoText, ex_NoText, hd_NoText⟩, ca_NoText, ob_NoText, gs_, tk_⟩, ko_NoText_NoRow⟩⟩
  have ix_RimError_NoText : IsX K mg "NoText" [("NoText", true)] := ⟨.ref C_NoText, .ref C_NoText, rfl, (fun _ e => e), .inl (PySem.W.mg_of X G g_NoText), fun c b hb Cc hm => by
    have hb := PySem.mem_of_lookup hb
    simp only [List.mem_cons, List.not_mem_nil, or_false, Prod.mk.injEq] at hb
    obtain ⟨rfl, rfl⟩ := hb
    · have e := hm.symm.trans (PySem.W.mg_of X G g_NoText)
      cases e
      exact ⟨⟨⟨ga_NoText, gg_NoText, ex_NoText, hd_NoText⟩, ca_NoText, ob_NoText, gs_, tk_⟩, ko_NoText_NoText⟩⟩
  have ix_RimError_NoTie : IsX K mg "NoTie" [("NoText", false)] := ⟨.ref C_NoTie, .ref C_NoTie, rfl, (fun _ e => e), .inl (PySem.W.mg_of X G g_NoTie), fun c b hb Cc hm => by
    have hb := PySem.mem_of_lookup hb
    simp only [List.mem_cons, List.not_mem_nil, or_false, Prod.mk.injEq] at hb
    obtain ⟨rfl, rfl⟩ := hb
    · have e := hm.symm.trans (PySem.W.mg_of X G g_NoText)
      cases e
      exact ⟨⟨⟨ga_NoText, gg_NoText, ex_NoText, hd_NoText⟩, ca_NoText, ob_NoText, gs_, tk_⟩, ko_NoText_NoTie⟩⟩
  have ix_RimError_TooMany : IsX K mg "TooMany" [("NoText", false)] := ⟨.ref C_TooMany, .ref C_TooMany, rfl, (fun _ e => e), .inl (PySem.W.mg_of X G g_TooMany), fun c b hb Cc hm => by
    have hb := PySem.mem_of_lookup hb
    simp only [List.mem_cons, List.not_mem_nil, or_false, Prod.mk.injEq] at hb
    obtain ⟨rfl, rfl⟩ := hb
    · have e := hm.symm.trans (PySem.W.mg_of X G g_NoText)
      cases e
      exact ⟨⟨⟨ga_NoText, gg_NoText, ex_NoText, hd_NoText⟩, ca_NoText, ob_NoText, gs_, tk_⟩, ko_NoText_TooMany⟩⟩
  have ix_RimError_ValueError : IsX K mg "ValueError" [("NoText", true)] := ⟨.ty "ValueError", .type "ValueError", rfl, (fun _ e => e), .inr ⟨PySem.W.mg_none_of X G z_ValueError, by decide +kernel, by decide⟩, fun c b hb Cc hm => by
    have hb := PySem.mem_of_lookup hb
    simp only [List.mem_cons, List.not_mem_nil, or_false, Prod.mk.injEq] at hb
    obtain ⟨rfl, rfl⟩ := hb
    · have e := hm.symm.trans (PySem.W.mg_of X G g_NoText)
      cases e
      exact ⟨⟨⟨ga_NoText, gg_NoText, ex_NoText, hd_NoText⟩, ca_NoText, ob_NoText, gs_, tk_⟩, ko_NoText_ValueError⟩⟩
  have M_NoText : ∀ base, MkX l.prog w K mg base "NoText" ["line"] := fun base => mk_NoText (C := C_NoText) ⟨PySem.W.mg_of X G g_NoText, ⟨⟨_, _, _, _, _, _, _, _, _, _, _, _, _, _, _, lc_NoText, rv_NoText⟩, sa_NoText, ex_NoText, ty_NoText, kc_NoText⟩, ⟨ga_NoText, gg_NoText, ex_NoText, hd_NoText⟩, ic_NoText, ti_NoText⟩ ⟨PySem.W.mg_of X G g_RimError, ⟨rb_RimError, gb_RimError⟩, ib_RimError⟩ no_NoText_line (fun_mk (st := si_NoText) li_NoText ci_NoText ki_NoText)
  have G0 : ∀ base, DefOk l.prog w K mg base "number_in_word" 1 p_number_in_word d_number_in_word := fun base => ok_number_in_word (fun_mk (st := s_number_in_word) l0 c0 k0) (PySem.W.mg_of X G a0) T 
  have G1 : ∀ base, DefOk l.prog w K mg base "numbers_in_words" 2 p_numbers_in_words d_numbers_in_words := fun base => ok_numbers_in_words (fun_mk (st := s_numbers_in_words) l1 c1 k1) (PySem.W.mg_of X G a1) T (G0 base)
  have G2 : ∀ base, DefOk l.prog w K mg base "web_lines" 1 p_web_lines d_web_lines := fun base => ok_web_lines (fun_mk (st := s_web_lines) l2 c2 k2) (PySem.W.mg_of X G a2) T 
  have G3 : ∀ base, DefOk l.prog w K mg base "least_unmet" 1 p_least_unmet d_least_unmet := fun base => ok_least_unmet (fun_mk (st := s_least_unmet) l3 c3 k3) (PySem.W.mg_of X G a3) T 
  have G4 : ∀ base, DefOk l.prog w K mg base "row_in_line" 3 p_row_in_line d_row_in_line := fun base => ok_row_in_line (fun_mk (st := s_row_in_line) l4 c4 k4) (PySem.W.mg_of X G a4) T (G3 base) (G1 base)
  have G5 : ∀ base, DefX l.prog w K mg base "read_web" 4 p_read_web d_read_web := fun base => ok_read_web (fun_mk (st := s_read_web) l5 c5 k5) (PySem.W.mg_of X G a5) T (G4 base) (M_NoText base)
  have G6 : ∀ base, DefOk l.prog w K mg base "_law_tape" 1 p__law_tape d__law_tape := fun base => ok__law_tape (fun_mk (st := s__law_tape) l6 c6 k6) (PySem.W.mg_of X G a6) T 
  have G7 : ∀ base, DefOk l.prog w K mg base "_law_draw" 1 p__law_draw d__law_draw := fun base => ok__law_draw (fun_mk (st := s__law_draw) l7 c7 k7) (PySem.W.mg_of X G a7) T 
  have G8 : ∀ base, DefOk l.prog w K mg base "_law_any_web" 2 p__law_any_web d__law_any_web := fun base => ok__law_any_web (fun_mk (st := s__law_any_web) l8 c8 k8) (PySem.W.mg_of X G a8) T (G7 base)
  have G9 : ∀ base, DefOk l.prog w K mg base "_law_number" 1 p__law_number d__law_number := fun base => ok__law_number (fun_mk (st := s__law_number) l9 c9 k9) (PySem.W.mg_of X G a9) T 
  have G10 : ∀ base, DefOk l.prog w K mg base "_law_read" 2 p__law_read d__law_read := fun base => ok__law_read (fun_mk (st := s__law_read) l10 c10 k10) (PySem.W.mg_of X G a10) T (G9 base)
  have G11 : ∀ base, DefOk l.prog w K mg base "_law_told" 5 p__law_told d__law_told := fun base => ok__law_told (fun_mk (st := s__law_told) l11 c11 k11) (PySem.W.mg_of X G a11) T (G5 base) ix_RimError_NoText ix_RimError_ValueError ix_RimError_TooMany ix_RimError_NoTie ix_RimError_NoRow ix_RimError_NoPaper ix_RimError_NoAsk ix_RimError_NoAlong ix_RimError_Barred hx_RimError fx_RimError_line
  have G12 : ∀ base, DefOk l.prog w K mg base "_law_signed" 2 p__law_signed d__law_signed := fun base => ok__law_signed (fun_mk (st := s__law_signed) l12 c12 k12) (PySem.W.mg_of X G a12) T (G7 base)
  have G13 : ∀ base, DefOk l.prog w K mg base "_law_worded" 2 p__law_worded d__law_worded := fun base => ok__law_worded (fun_mk (st := s__law_worded) l13 c13 k13) (PySem.W.mg_of X G a13) T (G7 base) (G9 base)
  have G14 : ∀ base, DefOk l.prog w K mg base "_law_bent" 3 p__law_bent d__law_bent := fun base => ok__law_bent (fun_mk (st := s__law_bent) l14 c14 k14) (PySem.W.mg_of X G a14) T (G7 base) (G12 base) (G13 base)
  exact ⟨_, fun s v => .of_eq (by rfl), fun base _ _ => fn_law (fun_mk (st := s_law) l15 c15 k15) T (G14 base) (G11 base) (G10 base) (G2 base) (G8 base) (G6 base)⟩
end K81
open PySem PySem.W PyProof.Rows
set_option maxRecDepth 100000 in
set_option maxHeartbeats 0 in
theorem PySem.Challenge.cw_rimasks_k81_lines_of_webs_holds : PySem.Challenge.rw_rimasks_k81_lines_of_webs.Holds := by
  w_on; o_law; k_head; (case hw => w_witness2)
  k_fill
  refine DL.law_end (l := PySem.Challenge.rw_rimasks_k81_lines_of_webs) (n := 63) (k := 6) (x := "_law_script") (den := K81.d_law) ⟨rfl, by decide, rfl, ⟨rfl, by decide, by decide⟩, ?F, K81.law_true⟩ fun w h Y => PySem.W.kIn_of Y
  case F =>
    intro w mg fa h KX G hmg
    refine' K81.all_mk KX G hmg ?a0 ?l0 ?c0 ?k0 ?a1 ?l1 ?c1 ?k1 ?a2 ?l2 ?c2 ?k2 ?a3 ?l3 ?c3 ?k3 ?a4 ?l4 ?c4 ?k4 ?a5 ?l5 ?c5 ?k5 ?a6 ?l6 ?c6 ?k6 ?a7 ?l7 ?c7 ?k7 ?a8 ?l8 ?c8 ?k8 ?a9 ?l9 ?c9 ?k9 ?a10 ?l10 ?c10 ?k10 ?a11 ?l11 ?c11 ?k11 ?a12 ?l12 ?c12 ?k12 ?a13 ?l13 ?c13 ?k13 ?a14 ?l14 ?c14 ?k14 ?a15 ?l15 ?c15 ?k15 ?g_Barred ?g_NoAlong ?g_NoAsk ?g_NoPaper ?g_NoRow ?g_NoText ?g_NoTie ?g_RimError ?g_TooMany ?ex_NoText ?hd_NoText ?ty_NoText ?ex_RimError ?hd_RimError ?ty_RimError ?ga_NoText ?gg_NoText ?sub_NoText_RimError ?gs_ ?tk_ ?ca_NoText ?ob_NoText ?ko_NoText_Barred ?ko_NoText_NoAlong ?ko_NoText_NoAsk ?ko_NoText_NoPaper ?ko_NoText_NoRow ?ko_NoText_NoText ?ko_NoText_NoTie ?ko_NoText_TooMany ?ko_NoText_ValueError ?z_ValueError ?no_NoText_line ?lc_NoText ?rv_NoText ?sa_NoText ?kc_NoText ?ic_NoText ?ti_NoText ?li_NoText ?ci_NoText ?ki_NoText ?rb_RimError ?gb_RimError ?ib_RimError ?y_FIGURES ?y_MOST_DARTS ?z_all ?z_any ?z_enumerate ?z_int ?z_isinstance ?z_len ?z_list ?z_max ?z_min ?z_range ?z_repr ?z_set ?z_sorted ?z_str ?z_tuple
    (case a0 => k_is)
    (case l0 => k_is)
    (case c0 => k_is)
    (case k0 => k_is)
    (case a1 => k_is)
    (case l1 => k_is)
    (case c1 => k_is)
    (case k1 => k_is)
    (case a2 => k_is)
    (case l2 => k_is)
    (case c2 => k_is)
    (case k2 => k_is)
    (case a3 => k_is)
    (case l3 => k_is)
    (case c3 => k_is)
    (case k3 => k_is)
    (case a4 => k_is)
    (case l4 => k_is)
    (case c4 => k_is)
    (case k4 => k_is)
    (case a5 => k_is)
    (case l5 => k_is)
    (case c5 => k_is)
    (case k5 => k_is)
    (case a6 => k_is)
    (case l6 => k_is)
    (case c6 => k_is)
    (case k6 => k_is)
    (case a7 => k_is)
    (case l7 => k_is)
    (case c7 => k_is)
    (case k7 => k_is)
    (case a8 => k_is)
    (case l8 => k_is)
    (case c8 => k_is)
    (case k8 => k_is)
    (case a9 => k_is)
    (case l9 => k_is)
    (case c9 => k_is)
    (case k9 => k_is)
    (case a10 => k_is)
    (case l10 => k_is)
    (case c10 => k_is)
    (case k10 => k_is)
    (case a11 => k_is)
    (case l11 => k_is)
    (case c11 => k_is)
    (case k11 => k_is)
    (case a12 => k_is)
    (case l12 => k_is)
    (case c12 => k_is)
    (case k12 => k_is)
    (case a13 => k_is)
    (case l13 => k_is)
    (case c13 => k_is)
    (case k13 => k_is)
    (case a14 => k_is)
    (case l14 => k_is)
    (case c14 => k_is)
    (case k14 => k_is)
    (case a15 => k_is)
    (case l15 => k_is)
    (case c15 => k_is)
    (case k15 => k_is)
    (case g_Barred => k_is)
    (case g_NoAlong => k_is)
    (case g_NoAsk => k_is)
    (case g_NoPaper => k_is)
    (case g_NoRow => k_is)
    (case g_NoText => k_is)
    (case g_NoTie => k_is)
    (case g_RimError => k_is)
    (case g_TooMany => k_is)
    (case ex_NoText => k_is)
    (case hd_NoText => k_is)
    (case ty_NoText => k_is)
    (case ex_RimError => k_is)
    (case hd_RimError => k_is)
    (case ty_RimError => k_is)
    (case ga_NoText => k_is)
    (case gg_NoText => k_is)
    (case sub_NoText_RimError => first | rfl | k_is)
    (case gs_ => k_is)
    (case tk_ => k_is)
    (case ca_NoText => k_is)
    (case ob_NoText => k_is)
    (case ko_NoText_Barred => first | rfl | kit_is)
    (case ko_NoText_NoAlong => first | rfl | kit_is)
    (case ko_NoText_NoAsk => first | rfl | kit_is)
    (case ko_NoText_NoPaper => first | rfl | kit_is)
    (case ko_NoText_NoRow => first | rfl | kit_is)
    (case ko_NoText_NoText => first | rfl | kit_is)
    (case ko_NoText_NoTie => first | rfl | kit_is)
    (case ko_NoText_TooMany => first | rfl | kit_is)
    (case ko_NoText_ValueError => first | rfl | kit_is)
    (case z_ValueError => k_is)
    (case no_NoText_line => k_is)
    (case lc_NoText => k_is)
    (case rv_NoText => decide +kernel)
    (case sa_NoText => k_is)
    (case kc_NoText => k_is)
    (case ic_NoText => k_is)
    (case ti_NoText => k_is)
    (case li_NoText => k_is)
    (case ci_NoText => k_is)
    (case ki_NoText => k_is)
    (case rb_RimError => k_is)
    (case gb_RimError => k_is)
    (case ib_RimError => k_is)
    (case y_FIGURES => k_is)
    (case y_MOST_DARTS => k_is)
    (case z_all => k_is)
    (case z_any => k_is)
    (case z_enumerate => k_is)
    (case z_int => k_is)
    (case z_isinstance => k_is)
    (case z_len => k_is)
    (case z_list => k_is)
    (case z_max => k_is)
    (case z_min => k_is)
    (case z_range => k_is)
    (case z_repr => k_is)
    (case z_set => k_is)
    (case z_sorted => k_is)
    (case z_str => k_is)
    (case z_tuple => k_is)
