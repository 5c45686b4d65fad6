import PyProof.Rows.All
import Wide.All
import OpenK.AllK
import Wide.FinOn
import PyProof.EqAt
import PyProof.EqKinds
import PyProof.EnumMake
import KE.KRevSl
import KE.DataEq
import KE.SortData
import KE.SortLaws
import HandS.ForMost
import HandS.ForExc
import HandS.IsInst
import HandS.TupAny
import HandS.Wide
import KE.KeyNested
import KE.KDictCopyH
import KE.KDictZip
import HandS.TupLen
import KE.KDictSum
import KE.KTupSum
import KE.KEqNest
import PyProof.ListStr
import PyProof.Transfer
import PyProof.NeKinds
import HandS.Conv
import HandS.DictEq
import HandS.Replace
import HandS.NoneIn
import HandS.DeepEq
import HandS.Walk
import KE.KIsAll
import KE.KTryMore
import HandS.ExcIs
import PySem.Challenge.RW_heaptrees_k86_whole_refused_in_order
import HandS.StrSplit
import KE.GoesMore
import KE.GoesZip
import KE.KStateDown
import HandS.Head0
import HandS.Head1
import HandS.Head2
import HandS.HeadEnd
import HandS.HeadHook1
import HandS.HeadHook2
import HandS.HeadHook3
import PySem.Challenge.RW_heaptrees_k86_whole_refused_in_order
set_option Elab.async false
set_option linter.all false
set_option maxRecDepth 100000
set_option maxHeartbeats 4000000
namespace Hy
open PySem L2

/-! ### defs of the text, by name -/
structure Df (K : PySem.W.Frag) (mg : Str → Option Value) (x : Str) (st : Stmt) (ps : List Str) : Prop where
  ex : ∃ (f : Addr) (fd : FuncData), Fun K x x st f fd ∧ mg x = some (.ref f) ∧ Binds K fd ps []
structure Gd (P : Program) (w : World) (K : PySem.W.Frag) (mg : Str → Option Value) (base : Heap) (x : Str) (k : Nat) (ps : List Str) (sp : Sp) : Prop where
  ex : ∃ (f : Addr) (fd : FuncData), FnOk P w K mg base (L2.CX P w) k f fd ps sp ∧ mg x = some (.ref f) ∧ PySem.W.keepIn K (.ref f) = true ∧ Binds K fd ps []
section
variable {P : Program} {w : World} {K : PySem.W.Frag} {mg : Str → Option Value} {base : Heap} {x : Str} {st : Stmt} {ps : List Str} {k j : Nat} {sp sp' : Sp}
theorem Df.ok (D : Df K mg x st ps) (h : ∀ (f : Addr) (fd : FuncData), Fun K x x st f fd → FnOk P w K mg base (L2.CX P w) k f fd ps sp) : Gd P w K mg base x k ps sp := by
  obtain ⟨f, fd, F, m, b⟩ := D.ex
  exact ⟨f, fd, h f fd F, m, F.kp, b⟩
theorem Gd.mono (G : Gd P w K mg base x j ps sp) (h : j ≤ k) : Gd P w K mg base x k ps sp := by
  obtain ⟨f, fd, F, m, kp, b⟩ := G.ex
  exact ⟨f, fd, F.mono h, m, kp, b⟩
theorem Gd.imp (G : Gd P w K mg base x k ps sp) (h : ∀ vs H Q E, sp' vs H Q E → sp vs H Q E) : Gd P w K mg base x k ps sp' := by
  obtain ⟨f, fd, F, m, kp, b⟩ := G.ex
  exact ⟨f, fd, F.imp h, m, kp, b⟩
end
/-- an exception that can't be -/
theorem passF {X : Cx} : Passes (L2.CX X.prog X.w) X E0 := fun _ _ _ _ _ _ _ h => by
  obtain ⟨_, _, _, _, _, _, _, _, _, _, _, _, z⟩ := h
  exact z.elim
theorem passW {X : Cx} {W : WX} {E : XK} (tk : Takes X W) (h : ∀ cls d σ H, E cls d H → W cls d σ H) : Passes (L2.CX X.prog X.w) X E := passes_call tk h
section
variable {X : Cx} {x : Str} {k : Nat} {ps : List Str} {sp : Sp} {E : XK} {p pos : Pos} {e : Expr} {es : List Expr} {t : TA}
theorem pe_cl (G : Gd X.prog X.w X.K X.mg X.base x k ps sp) (hr : Room k X.A) (hx : Passes (L2.CX X.prog X.w) X E) (ha : PA X (e :: es) t) (hg : Gl X x := by rfl) (hdb : (x == ("__debug__" : Str)) = false := by decide)
    (he : starEach (e :: es) X.env = (false, eval e X.env) :: starEach es X.env := by rfl) (hpl : (backTo pos (starEach es X.env)).any (·.1) = false := by rfl) : PE X (.Call (.Name x p) (e :: es) [] pos) (tCall sp [] E t) := by
  obtain ⟨f, fd, F, m, kp, b⟩ := G.ex
  exact pe_call F hr hg m kp b .nil hx ha hdb he hpl
theorem pe_cl0 (G : Gd X.prog X.w X.K X.mg X.base x k ps sp) (hr : Room k X.A) (hx : Passes (L2.CX X.prog X.w) X E) (hg : Gl X x := by rfl) (hdb : (x == ("__debug__" : Str)) = false := by decide) : PE X (.Call (.Name x p) [] [] pos) (tCall sp [] E tNil) := by
  obtain ⟨f, fd, F, m, kp, b⟩ := G.ex
  exact pe_call0 F hr hg m kp b .nil hx hdb
end

/-! ### heaps: what stands, what is new -/
theorem Same.upd_new {H H' : Hp} {p : Addr} {o : HO} (s : Same H H') (n : H' p = none) : Same H (upd H' p o) := fun b u e => by
  rw [upd_ne (ne_of_none (s _ _ e) n)]
  exact s _ _ e
theorem same_new {H : Hp} {p : Addr} {o : HO} (n : H p = none) : Same H (upd H p o) := Same.upd_new (Same.refl H) n
/-- a list of ours (new behind H) is changed -/
theorem Same.upd_own {H H' : Hp} {p : Addr} {o : HO} (s : Same H H') (n : H p = none) : Same H (upd H' p o) := fun b u e => by
  rw [upd_ne (ne_of_none e n)]
  exact s _ _ e
/-- all but what stands at the addresses of A stands as it was; tuples always stand -/
structure Keep (A : List Addr) (H H' : Hp) : Prop where
  but : ∀ b o, b ∉ A → H b = some o → H' b = some o
  tup : ∀ b xs, H b = some (.tup xs) → H' b = some (.tup xs)
theorem Keep.refl (A : List Addr) (H : Hp) : Keep A H H := ⟨fun _ _ _ h => h, fun _ _ h => h⟩
theorem Keep.trans {A : List Addr} {H H1 H2 : Hp} (a : Keep A H H1) (b : Keep A H1 H2) : Keep A H H2 := ⟨fun c o n h => b.but c o n (a.but c o n h), fun c o h => b.tup c o (a.tup c o h)⟩
theorem Keep.mono {A B : List Addr} {H H' : Hp} (a : Keep A H H') (h : ∀ c ∈ A, c ∈ B) : Keep B H H' := ⟨fun c o n e => a.but c o (fun z => n (h c z)) e, a.tup⟩
theorem Same.keep {A : List Addr} {H H' : Hp} (s : Same H H') : Keep A H H' := ⟨fun _ _ _ h => s _ _ h, fun _ _ h => s _ _ h⟩
theorem Keep.same {H H' : Hp} (k : Keep [] H H') : Same H H' := fun b o e => k.but b o (by simp) e
theorem Keep.upd {A : List Addr} {H H' : Hp} {a : Addr} {xs : List V} {o : HO} (k : Keep A H H') (ha : a ∈ A) (e : H' a = some (.lst xs)) : Keep A H (upd H' a o) := by
  refine ⟨fun b u n h => ?_, fun b u h => ?_⟩
  · rw [upd_ne (fun z => n (by rw [z]; exact ha))]
    exact k.but b u n h
  · have q := k.tup b u h
    rw [upd_ne (ne_of q e (fun z => nomatch z))]
    exact q
theorem Keep.updNew {A : List Addr} {H H' : Hp} {a : Addr} {o : HO} (k : Keep A H H') (n : H' a = none) : Keep A H (L2.upd H' a o) := by
  refine ⟨fun b u z h => ?_, fun b u h => ?_⟩
  · rw [upd_ne (ne_of_none (k.but b u z h) n)]
    exact k.but b u z h
  · rw [upd_ne (ne_of_none (k.tup b u h) n)]
    exact k.tup b u h

theorem Keep.own {A : List Addr} {H H' : Hp} {a : Addr} {o : HO} (k : Keep A H H') (n : H a = none) : Keep A H (L2.upd H' a o) := by
  refine ⟨fun b u z h => ?_, fun b u h => ?_⟩
  · rw [upd_ne (ne_of_none h n)]
    exact k.but b u z h
  · rw [upd_ne (ne_of_none h n)]
    exact k.tup b u h
theorem Keep.some {A : List Addr} {H H' : Hp} (k : Keep A H H') {b : Addr} (n : H' b = none) (hA : b ∉ A) : H b = none := by
  cases q : H b with
  | none => rfl
  | some o =>
    rw [k.but b o hA q] at n
    cases n

/-! ### == and != of data of any depth -/
theorem dp_room {X : Cx} {k : Nat} (hr : Room k X.A) {n : Nat} (h : n ≤ 200) : X.A.units + n < cLine := by
  have := hr.un
  omega
def rEqP (K : PySem.W.Frag) : R2 := fun x y H Q => ∃ d e, Dp K H x d ∧ Dp K H y e ∧ d.plain = true ∧ e.plain = true ∧ min d.depth e.depth ≤ 200 ∧ Q (.bl (PyData.eqv d e)) H
def rNeP (K : PySem.W.Frag) : R2 := fun x y H Q => ∃ d e, Dp K H x d ∧ Dp K H y e ∧ d.plain = true ∧ e.plain = true ∧ min d.depth e.depth ≤ 200 ∧ Q (.bl (!PyData.eqv d e)) H
theorem op_eqP {X : Cx} {k : Nat} (hr : Room k X.A) : OpR X (compareOp .Eq) (rEqP X.K) := by
  intro pins s σ H x y v u Q I rx ry h
  obtain ⟨d, e, hd, he, pd, pe, hm, q⟩ := h
  obtain ⟨as, r1⟩ := Dp.reads I d x v hd rx
  obtain ⟨bs, r2⟩ := Dp.reads I e y u he ry
  exact PySem.SeqAt.eq_plain r1 r2 pd pe (dp_room hr hm) ⟨.bl _, H, I, rfl, q⟩
theorem op_neP {X : Cx} {k : Nat} (hr : Room k X.A) : OpR X (compareOp .NotEq) (rNeP X.K) := by
  intro pins s σ H x y v u Q I rx ry h
  obtain ⟨d, e, hd, he, pd, pe, hm, q⟩ := h
  obtain ⟨as, r1⟩ := Dp.reads I d x v hd rx
  obtain ⟨bs, r2⟩ := Dp.reads I e y u he ry
  exact PySem.SeqAt.ne_plain r1 r2 pd pe (dp_room hr hm) ⟨.bl _, H, I, rfl, q⟩

/-! ### xs[::-1] -/
def tRevL (K : PySem.W.Frag) (te : TE) : TE := fun σ H Q => te σ H fun x H1 => ∃ a xs, x = .ref a ∧ SqL K H1 a xs ∧ ∀ p, H1 p = none → Q (.ref p) (upd H1 p (.lst xs.reverse))
theorem vals_rev {xs : List V} {us : List Value} (r : Vals xs us) : Vals xs.reverse us.reverse := by
  induction r with
  | nil => exact .nil
  | cons h _ ih =>
    rw [List.reverse_cons, List.reverse_cons]
    exact ih.append (.cons h .nil)
theorem pe_rev {X : Cx} {e : Expr} {te : TE} {pos p2 p3 p4 : Pos} {j : Nat} (he : PE X e te) : PE X (.Subscript e (.Slice none none (some (.UnaryOp .USub (.Constant (.int 1) j p4) p3)) p2) pos) (tRevL X.K te) := by
  refine ⟨fun pins s σ H Q I h => ?_⟩
  refine PyProof.Rows.Subscript_ (thn (he.run pins s σ H _ I h) fun v s1 ⟨x, H1, I1, r1, a, xs, ex, hx, q1⟩ => ?_)
  subst ex
  cases r1
  refine wpAny_Slice ?_
  rw [evalPart_none]
  refine wpAny_pure ?_
  refine wpAny_pure ?_
  have hu : PE X (.UnaryOp .USub (.Constant (.int 1) j p4) p3) (tUn (fun x H Q => ∃ i, x = .int i ∧ Q (.int (-i)) H) (tC (.int 1))) := by exact pe_un un_neg pe_int
  have hp := (po_some hu).run pins s1 σ H1 (fun o H2 => o = some (-1) ∧ H2 = H1) I1
  refine thn (hp ?_) fun vk s2 ⟨o, H2, I2, pk, eo, eH⟩ => ?_
  · exact ⟨_, rfl, _, rfl, rfl, rfl⟩
  subst eo eH
  obtain ⟨its, r, ht, hz⟩ := I2.list hx
  have I4 : Inv X pins σ H2 { s2 with heap := s2.heap.push { cls := .type "slice", data := .fields #[.none, .none, vk] } } := I2.kept (t' := s2.toks) fun b ob q => Heap.get?_push_of_some _ q
  obtain ⟨its, r, ht, hz⟩ := I4.list hx
  show wpAny (model X.prog X.w) X.A (PyProof.Rows.subscriptTail e (.Slice none none (some (.UnaryOp .USub (.Constant (.int 1) j p4) p3)) p2) (.ref a) (.ref s2.heap.objs.size)) (EP X pins σ Q) X.xe { s2 with heap := s2.heap.push { cls := .type "slice", data := .fields #[.none, .none, vk] } }
  refine PyProof.Rows.tail_any (ops := [.ref a, .ref s2.heap.objs.size]) ht.isList.typeIs PySem.F.slot_list_getitem.lookup ?_ (by with_unfolding_all rfl)
  refine wpAny_getItem_list_slice ht.isList (Heap.IsSliceOf.new ..) .none .none pk (by decide) ?_ (by rw [List.size_toArray, ← r.length]; exact hz)
  rw [PySem.W.krv_pick]
  dsimp only
  refine ⟨.ref (s2.heap.push { cls := .type "slice", data := .fields #[.none, .none, vk] }).objs.size, _, I4.laid (t' := s2.toks) (o := .lst xs.reverse) (fun b ob q => Heap.get?_push_of_some _ q) (Nat.le_refl _) ?_, rfl, q1 _ (I4.hok.fresh (Nat.le_refl _))⟩
  exact ⟨by rw [List.length_reverse]; exact hz, its.reverse, 0, vals_rev r, Heap.get?_push_size _ rfl⟩

/-! ### enumerate(text) -/
def Ites (x : Str) : It := ⟨fun i _ => i < x.cps.size, fun i H v H' => ∃ T c, v = .ref T ∧ H T = none ∧ H' = upd H T (.tup [.int (i : Nat), .str ⟨#[c]⟩]) ∧ x.cps[i]? = some c, fun i _ => i = x.cps.size⟩
theorem turn_enumS {P : Program} {w : World} {K : PySem.W.Frag} {elts : List Expr} {kk : Nat} {tpos : Pos} (x : Str) (t : Tok) (e it : Addr) :
    Turn P w K (.Tuple elts kk tpos) (Ites x) [e, it] e (fun i h => (∃ old, IsEnum h e it ((i : Nat) : Int) old) ∧ h.IsStrIter it (strIterType x) x t i ∧ e ≠ it) where
  mem := by simp
  obj := fun i h st b hb => by
    obtain ⟨⟨old, he⟩, ⟨o, ho, hc, hd⟩, _⟩ := st
    have e' : b = e ∨ b = it := by simpa using hb
    rcases e' with z | z
    · rw [z]; exact ⟨_, he, fun v q => nomatch q⟩
    · rw [z]; exact ⟨o, ho, fun v q => by rw [hd] at q; cases q⟩
  keep := fun i h h' st k => let ⟨⟨old, he⟩, ⟨o, ho, r⟩, hne⟩ := st; ⟨⟨old, k e (by simp) _ he⟩, ⟨o, k it (by simp) _ ho, r⟩, hne⟩
  item := by
    intro X hP hw hK hc i pins s σ H E I hf st hg
    subst hP hw hK
    obtain ⟨⟨old, he⟩, hit, hne⟩ := st
    have hel : e < s.heap.objs.size := Heap.lt_size he
    have hil : it < s.heap.objs.size := by obtain ⟨_, q, _⟩ := hit; exact Heap.lt_size q
    have main : ∀ (ty : String), Draws X.prog X.w X.A.in1 it [it] x.cps.size (fun i v => ∃ c u, x.cps[i]? = some c ∧ v = .str ⟨#[c]⟩ u) (fun i h => h.IsStrIter it ty x t i) → s.heap.IsStrIter it ty x t i →
        wpAny (model X.prog X.w) X.A (pyNext (.ref e)) (fun r s1 => ∃ u, r = some u ∧
          wpAny (model X.prog X.w) X.A (letOwnedTupleGo (.Tuple elts kk tpos) (.ref e) u) (fun _ s2 => ∃ y H', Inv X pins σ H' s2 ∧ RelV y u ∧ (Ites x).yld i H y H' ∧ ((∃ old, IsEnum s2.heap e it ((i + 1 : Nat) : Int) old) ∧ s2.heap.IsStrIter it ty x t (i + 1) ∧ e ≠ it) ∧ ∀ b ∈ [e, it], H' b = none) E s1) E s := by
      intro ty D hit
      refine wpAny_pyNext_enum_itemD D he hit hg hne (by simp [hne]) fun u h' tk hP ho hit' hT hsz hk => ?_
      obtain ⟨c, tu, hcx, rfl⟩ := hP
      refine ⟨_, rfl, wpAny_letOwnedTupleGo_enum (s := { s with heap := h', toks := tk + 1 }) ho fun h'' he' sb => ?_⟩
      have hT2 : h''.get? s.heap.objs.size = some { cls := .type "tuple", data := .seq #[.int i tk, .str ⟨#[c]⟩ tu] } := (sb.2 _ (Nat.ne_of_gt hel)).trans hT
      have new : ObjOk X.prog X.w (upd H s.heap.objs.size (.tup [.int (i : Nat), .str ⟨#[c]⟩])) h'' s.heap.objs.size (.tup [.int (i : Nat), .str ⟨#[c]⟩]) :=
        ⟨by show 2 ≤ sizeLine; decide, [.int i tk, .str ⟨#[c]⟩ tu], .cons ⟨_, rfl⟩ (.cons ⟨_, rfl⟩ .nil), ⟨_, hT2, rfl, _, rfl⟩⟩
      have I1 : Inv X pins σ (upd H s.heap.objs.size (.tup [.int (i : Nat), .str ⟨#[c]⟩])) { s with heap := h'', toks := tk + 1 } :=
        I.turnedNew (ch := [e, it]) (fun b ob hb q => (sb.2 b (fun z => hb (by simp [z]))).trans (hk b ob (fun z => hb (by simp [z])) (fun z => hb (by simp [z])) q)) hf (Nat.le_refl _) new
      refine ⟨.ref s.heap.objs.size, _, I1, rfl, ⟨_, c, rfl, I.hok.fresh (Nat.le_refl _), rfl, hcx⟩, ⟨⟨.str ⟨#[c]⟩ tu, ?_⟩, ?_, hne⟩, fun b hb => ?_⟩
      · have e1 : ((i + 1 : Nat) : Int) = (i : Int) + 1 := by omega
        rw [e1]; exact he'
      · obtain ⟨oi, hoi, ri⟩ := hit'
        exact ⟨oi, (sb.2 it (Ne.symm hne)).trans hoi, ri⟩
      · have hb' : b < s.heap.objs.size := by
          have e' : b = e ∨ b = it := by simpa using hb
          rcases e' with z | z
          · rw [z]; exact hel
          · rw [z]; exact hil
        rw [upd_ne (Nat.ne_of_lt hb')]
        exact (hf b hb).1
    unfold strIterType at hit ⊢
    split at hit
    · rename_i ha
      rw [if_pos ha]
      exact main _ (Draws.strAscii (A := X.A.in1) (I.ok.hd hc) it x t) hit
    · rename_i ha
      rw [if_neg ha]
      exact main _ (Draws.strWide (A := X.A.in1) (I.ok.hd hc) it x t) hit
  done := by
    intro X hP hw hK hc i pins s σ H E I hf st hg
    subst hP hw hK
    obtain ⟨⟨old, he⟩, hit, hne⟩ := st
    have hg' : i = x.cps.size := hg
    obtain ⟨f0, f1, f2, f3, f4, f5⟩ := hf it (by simp)
    rw [hg'] at hit
    unfold strIterType at hit
    split at hit
    · exact wpAny_pyNext_enum_endD (Draws.strAscii (A := X.A.in1) (I.ok.hd hc) it x t) he hit fun h' eb => ⟨rfl, I.turned (t' := s.toks) (fun b o hb q => eb b o hb q) f0 f1 f3 f4 f5⟩
    · exact wpAny_pyNext_enum_endD (Draws.strWide (A := X.A.in1) (I.ok.hd hc) it x t) he hit fun h' eb => ⟨rfl, I.turned (t' := s.toks) (fun b o hb q => eb b o hb q) f0 f1 f3 f4 f5⟩
  self := fun A i s Q E st h => let ⟨⟨_, he⟩, _⟩ := st; wpAny_pyIter_enum he h
def iEnumS (ta : TA) : TI := fun σ H R => ta σ H fun vs H1 => ∃ x, vs = [.str x] ∧ R (Ites x) H1
theorem pi_enumS {X : Cx} {e : Expr} {ta : TA} {p pos tpos : Pos} {elts : List Expr} {kk : Nat} (hm : X.mg "enumerate" = none) (ha : PA X [e] ta) (hg : Gl X "enumerate" := by rfl) (hs : starEach [e] X.env = [(false, eval e X.env)] := by rfl) :
    PI X (.Tuple elts kk tpos) (.Call (.Name "enumerate" p) [e] [] pos) (iEnumS ta) := by
  refine ⟨fun pins s σ H R I h => ?_⟩
  refine PyProof.Rows.Call_ (ld_blt I hg hm PyProof.Rows.boot_enumerate (PyProof.Rows.callWith_type1 (thn (ha.run pos pins s σ H _ I h) fun us s1 ⟨vs, H1, I1, r1, q1⟩ => ?_) hs rfl))
  obtain ⟨x, ex, q⟩ := q1
  subst ex
  cases r1 with
  | cons r rr =>
    cases rr
    obtain ⟨t, rfl⟩ := r
    refine call_enumerate_str fun h' he hit hsz hk => wpAny_pyIter_enum he ?_
    have I2 : Inv X pins σ H1 { s1 with heap := h' } := I1.kept (t' := s1.toks) hk
    refine ⟨s1.heap.objs.size + 1, [s1.heap.objs.size + 1, s1.heap.objs.size], _, _, H1, rfl, I2, turn_enumS x t (s1.heap.objs.size + 1) s1.heap.objs.size, ⟨⟨.none, he⟩, hit, Nat.succ_ne_self _⟩, fun b hb => ?_, q⟩
    have e' : b = s1.heap.objs.size + 1 ∨ b = s1.heap.objs.size := by simpa using hb
    have hle : s1.heap.objs.size ≤ b := by
      rcases e' with z | z
      · rw [z]; exact Nat.le_add_right _ _
      · rw [z]; exact Nat.le_refl _
    exact I1.fpOk hle (I1.hok.fresh hle)
/-- its loop -/
theorem for_enumS {x : Str} {g : TG} {tb : TS} {D : Ends} {σ : St} {H : Hp} (Pv : Nat → St → Hp → Prop) (h0 : Pv 0 σ H)
    (hs : ∀ i c σ H T, x.cps[i]? = some c → Pv i σ H → H T = none → g (.ref T) σ (upd H T (.tup [.int (i : Nat), .str ⟨#[c]⟩])) fun σ2 H2 => tb { D with nx := Pv (i + 1), ct := Pv (i + 1), bk := D.nx } σ2 H2) (hd : ∀ σ H, Pv x.cps.size σ H → D.nx σ H) :
    ∃ W : Nat → Nat → St → Hp → Prop, (∃ m, W 0 m σ H) ∧ ∀ i m σ H, W i m σ H →
      ((Ites x).stop i H ∧ D.nx σ H) ∨ ((Ites x).go i H ∧ ∃ N : St → Hp → Prop, (∀ σ' H', N σ' H' → ∃ m', m' < m ∧ W (i + 1) m' σ' H') ∧ ∀ v H', (Ites x).yld i H v H' → g v σ H' fun σ2 H2 => tb { D with nx := N, ct := N, bk := D.nx } σ2 H2) := by
  refine ⟨fun i m σ H => m = x.cps.size - i ∧ i ≤ x.cps.size ∧ Pv i σ H, ⟨x.cps.size, by simp, Nat.zero_le _, h0⟩, ?_⟩
  rintro i m σ H ⟨rfl, hi, p⟩
  by_cases hlt : i < x.cps.size
  · refine .inr ⟨hlt, Pv (i + 1), fun σ' H' p' => ⟨x.cps.size - (i + 1), by omega, rfl, hlt, p'⟩, fun v H' y => ?_⟩
    obtain ⟨T, c, rfl, hT, rfl, hc⟩ := y
    exact hs i c σ H T hc p hT
  · have e : i = x.cps.size := by omega
    subst e
    exact .inl ⟨rfl, hd σ H p⟩

/-! ### xs.count(x), x in xs, sorted(xs), of data -/
def rCntD (K : PySem.W.Frag) : V → List V → Hp → VK → Prop := fun x xs H Q => ∃ (p : Addr) (y : V) (ds : List PyData) (d : PyData), x = .ref p ∧ xs = [y] ∧ Dp K H (.ref p) (.list ds) ∧ Dp K H y d ∧ PyData.plainAll ds = true ∧ d.plain = true ∧ min (PyData.depthAll ds) d.depth ≤ 190 ∧
  Q (.int ((ds.countP fun z => PyData.eqv z d : Nat) : Int)) H
theorem mt_countD {X : Cx} {k : Nat} (hr : Room k X.A) : MtR X "list.count" (rCntD X.K) := by
  intro pins s σ H x xs v us Q I rx rxs h
  obtain ⟨p, y, ds, d, rfl, rfl, hl, hy, pl, pd, hm, q⟩ := h
  cases rx
  obtain ⟨u, rfl, ru⟩ := rxs.one
  obtain ⟨as, r1⟩ := Dp.reads I _ _ _ hl (show RelV (.ref p) (.ref p) from rfl)
  obtain ⟨bs, r2⟩ := Dp.reads I d y u hy ru
  cases hl with
  | lst hs ha =>
    obtain ⟨its, rv, ⟨⟨cls, dd, data, sl⟩, n, ho, hc, hdn, hd⟩, hlen⟩ := I.list hs
    simp only at hc hd
    subst hc hd
    cases r1 with
    | list h1 h2 h3 h4 =>
      rw [ho] at h1
      cases h1
      cases h3
      have hu : X.A.units + 1 + min (PyData.depthAll ds) d.depth < cLine := by
        have := hr.un
        omega
      refine call_meets PySem.F.slot_list_count ⟨_, ho, rfl⟩ PySem.F.entry_list_count (PySem.F.args_list_count_2 _ _)
        (SeqAt.list_countAt p its.toArray n dd sl u (fun z => PyData.eqv (SeqAt.readOf s.heap z) d)) ⟨ho, SeqAt.items_plain h4 r2 pl pd hu, ?_⟩
      have ec : its.toArray.toList.countP (fun z => PyData.eqv (SeqAt.readOf s.heap z) d) = ds.countP fun z => PyData.eqv z d := by
        have e2 := SeqAt.readsAll_map_plain ds _ _ pl h4
        have e3 : ds.countP (fun z => PyData.eqv z d) = (its.toArray.toList.map (SeqAt.readOf s.heap)).countP fun z => PyData.eqv z d := by rw [e2]
        rw [e3, List.countP_map]
        rfl
      refine ⟨.int _, H, I.tok _, ⟨s.toks, ?_⟩, q⟩
      rw [ec]
def rInD' (K : PySem.W.Frag) : R2 := fun x y H Q => ∃ (ds : List PyData) (d : PyData), Dp K H y (.list ds) ∧ Dp K H x d ∧ PyData.plainAll ds = true ∧ d.plain = true ∧ min (PyData.depthAll ds) d.depth ≤ 190 ∧ Q (.bl (ds.any fun z => PyData.eqv z d)) H
theorem op_inL {X : Cx} {k : Nat} (hr : Room k X.A) : OpR X (compareOp .In) (rInD' X.K) := by
  intro pins s σ H x y v u Q I rx ry h
  obtain ⟨ds, d, hl, hy, pl, pd, hm, q⟩ := h
  obtain ⟨as, r1⟩ := Dp.reads I _ _ _ hl ry
  obtain ⟨bs, r2⟩ := Dp.reads I _ _ _ hy rx
  exact SeqAt.in_list_data r1 r2 pl pd (by have := hr.un; omega) ⟨.bl _, H, I, rfl, q⟩

/-- sorted(xs): alike data, each item with what it reads as -/
def rSortedD (K : PySem.W.Frag) : List V → Hp → VK → Prop := fun vs H Q => ∃ (a : Addr) (ps : List (V × PyData)), vs = [V.ref a] ∧ SqL K H a (ps.map (·.1)) ∧ (∀ p ∈ ps, Dp K H p.1 p.2 ∧ p.2.depth ≤ 190) ∧ PySem.W.AllAlike (ps.map (·.2)) ∧ PySem.W.Sortable (ps.map (·.2)) ∧
  ∀ p, H p = none → Q (.ref p) (upd H p (.lst ((ps.mergeSort (PySem.W.dataLe false (·.2))).map (·.1))))
theorem each_of {R : V → Value → Prop} : ∀ {ps : List (V × PyData)} {us : List Value}, Paired R (ps.map (·.1)) us → PySem.W.EachIs (fun (u : Value) (p : V × PyData) => R p.1 u ∧ p ∈ ps) us ps
  | [], [], _ => .nil
  | p :: ps, u :: us, h => by
    cases h with
    | cons a b => exact .cons ⟨a, List.mem_cons_self⟩ ((each_of b).mono fun _ _ z => ⟨z.1, List.mem_cons_of_mem _ z.2⟩)
theorem each_back : ∀ {ps : List (V × PyData)} {us : List Value}, PySem.W.EachIs (fun (u : Value) (p : V × PyData) => RelV p.1 u) us ps → Vals (ps.map (·.1)) us
  | [], [], _ => .nil
  | p :: ps, u :: us, h => by
    cases h with
    | cons a b => exact .cons a (each_back b)
theorem cr_sortedD {X : Cx} {k : Nat} (hr : Room k X.A) : CallR X (.builtin "sorted") (rSortedD X.K) := by
  intro pins s σ H vs us Q I r h
  obtain ⟨a, ps, rfl, hs, hd, hal, hk, q⟩ := h
  obtain ⟨its, rv, hl, hz⟩ := I.list hs
  rw [Vals.ref1 r]
  have e := each_of rv
  have er : PySem.W.EachIs (fun v b => ∃ as, Reads s.heap v b.2 as) its ps := e.mono fun u p ⟨h1, h2⟩ => Dp.reads I _ _ _ (hd p h2).1 h1
  have e' : PySem.W.EachIs (fun (u : Value) (p : V × PyData) => RelV p.1 u) its ps := e.mono fun u p z => z.1
  have hlen : ps.length ≤ sizeLine := by rw [List.length_map] at hz; exact hz
  refine PySem.W.sorted_data (enc := fun p : V × PyData => p.2) hl.isList e' er hal hk hlen (fun b hb => ?_) fun out ho eo => ?_
  · have := hr.un
    have := (hd b hb).2
    omega
  · obtain ⟨ep, he'⟩ := PyProof.Rows.sortedAll_at s.heap its out.toArray
    refine ⟨.ref _, upd H (s.heap.objs.size + 1) (.lst ((ps.mergeSort (PySem.W.dataLe false (·.2))).map (·.1))), I.laid (t' := s.toks) (fun _ _ => PyProof.Rows.sortedAll_old) (Nat.le_succ _) ⟨?_, out, ep, each_back eo, he'⟩, rfl, q _ (I.hok.fresh (Nat.le_succ _))⟩
    rw [List.length_map, List.length_mergeSort]
    exact hlen
/-! ### xs != [], xs == [] (the new list is not tracked) -/
def tNil' (f : Bool → Bool) (K : PySem.W.Frag) (te : TE) : TE := fun σ H Q => te σ H fun x H1 => ∃ a xs, x = .ref a ∧ SqL K H1 a xs ∧ Q (.bl (f xs.isEmpty)) H1
theorem rc_nil {s : Shared} {A : Around} {a b : Addr} {its : List Value} (h1 : s.heap.IsList a its.toArray) (h2 : s.heap.IsList b #[]) (hu : A.units < cLine) : SeqAt.RcAt A s (.ref a) (.ref b) its.isEmpty ∧ SeqAt.RcNeAt A s (.ref a) (.ref b) (!its.isEmpty) := by
  cases its with
  | nil =>
    refine ⟨?_, ?_⟩
    · have q := SeqAt.RcAt.lists (A := A) (s := s) (e := fun _ => true) h1 h2 rfl hu (fun j hj => absurd hj (Nat.not_lt_zero j))
      exact q
    · have q := SeqAt.RcNeAt.lists (A := A) (s := s) (e := fun _ => true) h1 h2 rfl hu (fun j hj => absurd hj (Nat.not_lt_zero j))
      exact q
  | cons x r =>
    have hz : ((x :: r).toArray.size != (#[] : Array Value).size) = true := by simp
    exact ⟨SeqAt.RcAt.lists_lengths h1 h2 hz hu, SeqAt.RcNeAt.lists_lengths h1 h2 hz hu⟩
theorem vals_emp {xs : List V} {us : List Value} (r : Vals xs us) : us.isEmpty = xs.isEmpty := by cases r <;> rfl
section
variable {X : Cx} {e : Expr} {te : TE} {pos p2 : Pos} {k : Nat}
theorem nil_run (f : Bool → Bool) {pins : List (Addr × Obj)} {s : Shared} {σ : St} {H : Hp} {Q : VK} (he : PE X e te) (hu : X.A.units < cLine) (I : Inv X pins σ H s) (h : tNil' f X.K te σ H Q) {op : CmpOp}
    (hop : ∀ (v u : Value) (s : Shared) (its : List Value) (a b : Addr), v = .ref a → u = .ref b → s.heap.IsList a its.toArray → s.heap.IsList b #[] → ∀ Q' E', Q' (.bool (f its.isEmpty)) s → wpAny (model X.prog X.w) X.A (compareOp op v u) Q' E' s) :
    wpAny (model X.prog X.w) X.A (eval e X.env) (fun v s₁ => wpAny (model X.prog X.w) X.A (eval (.List [] p2) X.env) (fun u s₂ => wpAny (model X.prog X.w) X.A (compareOp op v u) (EP X pins σ Q) X.xe s₂) X.xe s₁) X.xe s := by
  refine thn (he.run pins s σ H _ I h) fun v s1 ⟨x, H1, I1, r1, a, xs, ex, hx, q1⟩ => ?_
  subst ex
  obtain rfl : v = .ref a := r1
  refine wpAny_List_spliced (thn (pa_nil.run p2 pins s1 σ H1 (fun vs H2 => vs = [] ∧ H2 = H1) I1 ⟨rfl, rfl⟩) fun us s2 ⟨vs, H2, I2, r2, ev, eH⟩ => ?_)
  subst ev eH
  cases r2
  refine ⟨Nat.zero_le _, ?_⟩
  have I3 : Inv X pins σ H2 { s2 with heap := s2.heap.push { cls := .type "list", data := .seq #[] } } := I2.kept (t' := s2.toks) fun b u z => Heap.get?_push_of_some _ z
  obtain ⟨its, r, ht, hz⟩ := I3.list hx
  refine hop _ _ _ its a s2.heap.objs.size rfl rfl ht.isList ⟨_, Heap.get?_push_size _ rfl, rfl, _, rfl⟩ _ _ ⟨.bl _, H2, I3, rfl, ?_⟩
  rw [vals_emp r]
  exact q1
theorem pc_neNil (hr : Room k X.A) (he : PE X e te) : PC X .NotEq e (.List [] p2) (tNil' (fun b => !b) X.K te) :=
  ⟨fun pins s σ H Q I h => nil_run _ he hr.units0 I h fun v u s its a b e1 e2 h1 h2 Q' E' q => by subst e1 e2; exact (rc_nil h1 h2 hr.units0).2 _ _ _ _ q⟩
theorem pc_eqNil (hr : Room k X.A) (he : PE X e te) : PC X .Eq e (.List [] p2) (tNil' (fun b => b) X.K te) :=
  ⟨fun pins s σ H Q I h => nil_run _ he hr.units0 I h fun v u s its a b e1 e2 h1 h2 Q' E' q => by subst e1 e2; exact (rc_nil h1 h2 hr.units0).1 _ _ _ _ q⟩
end
end Hy
set_option Elab.async false
set_option linter.all false
set_option maxRecDepth 100000
set_option maxHeartbeats 4000000
namespace Hy
/-! trees, their writings, their told forms; reading back (plain Lean) -/
inductive Tr where
  | node (c : Nat) (ts : List Tr)
def Tr.c : Tr → Nat | .node c _ => c
def Tr.ts : Tr → List Tr | .node _ ts => ts
theorem Tr.eta (t : Tr) : t = .node t.c t.ts := by cases t; rfl
mutual
def Tr.size : Tr → Nat
  | .node _ ts => 1 + Tr.sizes ts
def Tr.sizes : List Tr → Nat
  | [] => 0
  | t :: ts => t.size + Tr.sizes ts
end
mutual
def Tr.dep : Tr → Nat
  | .node _ ts => 1 + Tr.deps ts
def Tr.deps : List Tr → Nat
  | [] => 0
  | t :: ts => max t.dep (Tr.deps ts)
end
/-- small letters, by their codes -/
def isL (c : Nat) : Bool := decide (97 ≤ c) && decide (c ≤ 122)
mutual
def Tr.ok : Tr → Bool
  | .node c ts => isL c && Tr.oks ts
def Tr.oks : List Tr → Bool
  | [] => true
  | t :: ts => t.ok && Tr.oks ts
end
mutual
def Tr.W : Tr → List Nat
  | .node c ts => if ts.isEmpty then [c] else c :: 40 :: (Tr.Ws ts ++ [41])
def Tr.Ws : List Tr → List Nat
  | [] => []
  | t :: ts => t.W ++ Tr.Ws ts
end
mutual
/-- all parts, each behind its children -/
def Tr.parts : Tr → List Tr
  | .node c ts => Tr.partss ts ++ [.node c ts]
def Tr.partss : List Tr → List Tr
  | [] => []
  | t :: ts => t.parts ++ Tr.partss ts
end
theorem Tr.size_pos (t : Tr) : 1 ≤ t.size := by cases t; simp only [Tr.size]; omega
theorem Tr.sizes_append : ∀ (a b : List Tr), Tr.sizes (a ++ b) = Tr.sizes a + Tr.sizes b
  | [], b => by simp [Tr.sizes]
  | t :: a, b => by simp only [List.cons_append, Tr.sizes, Tr.sizes_append a b]; omega
theorem Tr.partss_append : ∀ (a b : List Tr), Tr.partss (a ++ b) = Tr.partss a ++ Tr.partss b
  | [], b => by simp [Tr.partss]
  | t :: a, b => by simp only [List.cons_append, Tr.partss, Tr.partss_append a b, List.append_assoc]
theorem Tr.Ws_append : ∀ (a b : List Tr), Tr.Ws (a ++ b) = Tr.Ws a ++ Tr.Ws b
  | [], b => by simp [Tr.Ws]
  | t :: a, b => by simp only [List.cons_append, Tr.Ws, Tr.Ws_append a b, List.append_assoc]
theorem Tr.oks_append : ∀ (a b : List Tr), Tr.oks (a ++ b) = (Tr.oks a && Tr.oks b)
  | [], b => by simp [Tr.oks]
  | t :: a, b => by simp only [List.cons_append, Tr.oks, Tr.oks_append a b, Bool.and_assoc]
theorem Tr.sizes_perm {a b : List Tr} (h : a.Perm b) : Tr.sizes a = Tr.sizes b := by
  induction h with
  | nil => rfl
  | cons x _ ih => simp only [Tr.sizes, ih]
  | swap x y l => simp only [Tr.sizes]; omega
  | trans _ _ h1 h2 => exact h1.trans h2
theorem Tr.deps_perm {a b : List Tr} (h : a.Perm b) : Tr.deps a = Tr.deps b := by
  induction h with
  | nil => rfl
  | cons x _ ih => simp only [Tr.deps, ih]
  | swap x y l => simp only [Tr.deps]; omega
  | trans _ _ h1 h2 => exact h1.trans h2
theorem Tr.oks_iff : ∀ {a : List Tr}, Tr.oks a = true ↔ ∀ t ∈ a, t.ok = true
  | [] => by simp [Tr.oks]
  | t :: a => by simp only [Tr.oks, Bool.and_eq_true, List.mem_cons, forall_eq_or_imp, Tr.oks_iff (a := a)]
theorem Tr.sizes_mem : ∀ {a : List Tr} {t : Tr}, t ∈ a → t.size ≤ Tr.sizes a
  | x :: a, t, h => by
    rcases List.mem_cons.mp h with rfl | h
    · simp only [Tr.sizes]; omega
    · have := Tr.sizes_mem h
      simp only [Tr.sizes]; omega
theorem Tr.deps_mem : ∀ {a : List Tr} {t : Tr}, t ∈ a → t.dep ≤ Tr.deps a
  | x :: a, t, h => by
    rcases List.mem_cons.mp h with rfl | h
    · simp only [Tr.deps]; omega
    · have := Tr.deps_mem h
      simp only [Tr.deps]; omega
theorem Tr.deps_le : ∀ {a : List Tr} {n : Nat}, (∀ t ∈ a, t.dep ≤ n) → Tr.deps a ≤ n
  | [], n, _ => Nat.zero_le _
  | x :: a, n, h => by
    have h1 := h x List.mem_cons_self
    have h2 := Tr.deps_le fun t ht => h t (List.mem_cons_of_mem _ ht)
    simp only [Tr.deps]; omega
theorem Tr.sizes_len : ∀ (a : List Tr), a.length ≤ Tr.sizes a
  | [] => Nat.zero_le _
  | t :: a => by
    have := Tr.sizes_len a
    have := t.size_pos
    simp only [Tr.sizes, List.length_cons]; omega
mutual
theorem Tr.parts_len : ∀ t : Tr, t.parts.length = t.size
  | .node c ts => by simp only [Tr.parts, Tr.size, List.length_append, List.length_singleton, Tr.partss_len ts]; omega
theorem Tr.partss_len : ∀ ts : List Tr, (Tr.partss ts).length = Tr.sizes ts
  | [] => rfl
  | t :: ts => by simp only [Tr.partss, Tr.sizes, List.length_append, Tr.parts_len t, Tr.partss_len ts]
end
mutual
theorem Tr.parts_prop (P : Tr → Prop) (hP : ∀ c ts, P (.node c ts) → ∀ t ∈ ts, P t) : ∀ t : Tr, P t → ∀ q ∈ t.parts, P q
  | .node c ts, h, q, hq => by
    simp only [Tr.parts, List.mem_append, List.mem_singleton] at hq
    rcases hq with hq | rfl
    · exact Tr.partss_prop P hP ts (hP c ts h) q hq
    · exact h
theorem Tr.partss_prop (P : Tr → Prop) (hP : ∀ c ts, P (.node c ts) → ∀ t ∈ ts, P t) : ∀ ts : List Tr, (∀ t ∈ ts, P t) → ∀ q ∈ Tr.partss ts, P q
  | [], _, q, hq => by simp [Tr.partss] at hq
  | t :: ts, h, q, hq => by
    simp only [Tr.partss, List.mem_append] at hq
    rcases hq with hq | hq
    · exact Tr.parts_prop P hP t (h t List.mem_cons_self) q hq
    · exact Tr.partss_prop P hP ts (fun u hu => h u (List.mem_cons_of_mem _ hu)) q hq
end
mutual
theorem Tr.W_len : ∀ t : Tr, t.W.length ≤ 3 * t.size
  | .node c ts => by
    unfold Tr.W Tr.size
    have := Tr.Ws_len ts
    split
    · simp only [List.length_singleton]; omega
    · simp only [List.length_cons, List.length_append, List.length_nil]; omega
theorem Tr.Ws_len : ∀ ts : List Tr, (Tr.Ws ts).length ≤ 3 * Tr.sizes ts
  | [] => Nat.zero_le _
  | t :: ts => by
    have := Tr.W_len t
    have := Tr.Ws_len ts
    simp only [Tr.Ws, Tr.sizes, List.length_append]; omega
end
theorem Tr.W_leaf (c : Nat) : (Tr.node c []).W = [c] := by simp [Tr.W]
theorem Tr.W_node (c : Nat) {ts : List Tr} (h : ts ≠ []) : (Tr.node c ts).W = c :: 40 :: (Tr.Ws ts ++ [41]) := by
  unfold Tr.W
  rw [if_neg (by simpa using h)]
theorem Tr.Ws_flat : ∀ ts : List Tr, Tr.Ws ts = (ts.map Tr.W).flatten
  | [] => rfl
  | t :: ts => by simp only [Tr.Ws, List.map_cons, List.flatten_cons, Tr.Ws_flat ts]

/-! ### the order of writings -/
def leW (a b : Tr) : Bool := decide (a.W ≤ b.W)
theorem leW_total (a b : Tr) : (leW a b || leW b a) = true := by
  unfold leW
  rcases List.le_total (a.W) (b.W) with h | h <;> simp [h]
theorem leW_trans (a b c : Tr) (h1 : leW a b = true) (h2 : leW b c = true) : leW a c = true := by
  unfold leW at *
  exact decide_eq_true (List.le_trans (of_decide_eq_true h1) (of_decide_eq_true h2))
theorem leW_anti {a b : Tr} (h1 : leW a b = true) (h2 : leW b a = true) : a.W = b.W := List.le_antisymm (of_decide_eq_true h1) (of_decide_eq_true h2)
abbrev SrtW (ts : List Tr) : Prop := ts.Pairwise fun a b => leW a b = true
def sortT (ts : List Tr) : List Tr := ts.mergeSort leW
theorem sortT_srt (ts : List Tr) : SrtW (sortT ts) := List.pairwise_mergeSort leW_trans leW_total ts
theorem sortT_perm (ts : List Tr) : (sortT ts).Perm ts := List.mergeSort_perm ts leW

/-! ### reading -/
/-- the sign ahead, the open ones, those here -/
structure RS where
  prev : Nat
  ab : List (Nat × List Tr)
  here : List Tr
def RS.step (s : RS) (x : Nat) : Option RS :=
  if isL x = true then some ⟨x, s.ab, s.here ++ [.node x []]⟩
  else if x = 40 ∧ isL s.prev = true then some ⟨x, s.ab ++ [(s.prev, s.here.dropLast)], []⟩
  else if x = 41 then
    match s.ab.getLast? with
    | none => none
    | some (l, more) => if s.here ≠ [] ∧ SrtW s.here then some ⟨x, s.ab.dropLast, more ++ [.node l s.here]⟩ else none
  else none
def RS.run (s : RS) : List Nat → Option RS
  | [] => some s
  | x :: xs => (s.step x).bind fun s' => s'.run xs
theorem RS.run_append : ∀ (a b : List Nat) (s : RS), s.run (a ++ b) = (s.run a).bind fun s' => s'.run b
  | [], b, s => rfl
  | x :: a, b, s => by
    simp only [List.cons_append, RS.run]
    cases s.step x with
    | none => rfl
    | some s' => exact RS.run_append a b s'
mutual
/-- in told form, of small letters -/
def Tr.told : Tr → Prop
  | .node c ts => isL c = true ∧ SrtW ts ∧ Tr.tolds ts
def Tr.tolds : List Tr → Prop
  | [] => True
  | t :: ts => t.told ∧ Tr.tolds ts
end
theorem Tr.tolds_iff : ∀ {ts : List Tr}, Tr.tolds ts ↔ ∀ t ∈ ts, t.told
  | [] => by simp [Tr.tolds]
  | t :: ts => by simp only [Tr.tolds, List.mem_cons, forall_eq_or_imp, Tr.tolds_iff (ts := ts)]
theorem isL_40 : isL 40 = false := rfl
theorem isL_41 : isL 41 = false := rfl
mutual
theorem RS.run_W : ∀ (t : Tr) (s : RS), t.told → ∃ p, s.run t.W = some ⟨p, s.ab, s.here ++ [t]⟩
  | .node c ts, s, h => by
    obtain ⟨hc, hs, ht⟩ := h
    cases ts with
    | nil =>
      rw [Tr.W_leaf]
      simp only [RS.run, RS.step, if_pos hc, Option.bind_some]
      exact ⟨_, rfl⟩
    | cons t ts =>
      rw [Tr.W_node c (by simp)]
      obtain ⟨p, hp⟩ := RS.run_Ws (t :: ts) ⟨40, s.ab ++ [(c, s.here)], []⟩ ht
      simp only [RS.run, RS.step, if_pos hc, Option.bind_some]
      rw [if_neg (by rw [isL_40]; decide), if_pos (by simp [hc])]
      simp only [Option.bind_some, List.dropLast_concat]
      rw [RS.run_append, hp]
      simp only [Option.bind_some, List.nil_append, RS.run, RS.step, List.getLast?_concat, List.dropLast_concat]
      rw [if_neg (by rw [isL_41]; decide), if_neg (by rintro ⟨h, _⟩; exact absurd h (by decide)), if_pos trivial, if_pos ⟨by simp, hs⟩]
      exact ⟨_, rfl⟩
theorem RS.run_Ws : ∀ (ts : List Tr) (s : RS), Tr.tolds ts → ∃ p, s.run (Tr.Ws ts) = some ⟨p, s.ab, s.here ++ ts⟩
  | [], s, _ => ⟨s.prev, by simp [Tr.Ws, RS.run]⟩
  | t :: ts, s, h => by
    obtain ⟨p, hp⟩ := RS.run_W t s h.1
    obtain ⟨q, hq⟩ := RS.run_Ws ts ⟨p, s.ab, s.here ++ [t]⟩ h.2
    refine ⟨q, ?_⟩
    rw [Tr.Ws, RS.run_append, hp]
    simp only [Option.bind_some]
    rw [hq]
    simp
end
/-- trees in told form have unlike writings -/
theorem told_inj {t u : Tr} (ht : t.told) (hu : u.told) (h : t.W = u.W) : t = u := by
  obtain ⟨p, hp⟩ := RS.run_W t ⟨0, [], []⟩ ht
  obtain ⟨q, hq⟩ := RS.run_W u ⟨0, [], []⟩ hu
  rw [h, hq] at hp
  have e := congrArg RS.here (Option.some.inj hp)
  simpa using e.symm
mutual
def Tr.form : Tr → Tr
  | .node c ts => .node c (sortT (Tr.forms ts))
def Tr.forms : List Tr → List Tr
  | [] => []
  | t :: ts => t.form :: Tr.forms ts
end
theorem Tr.forms_map : ∀ ts : List Tr, Tr.forms ts = ts.map Tr.form
  | [] => rfl
  | t :: ts => by simp only [Tr.forms, List.map_cons, Tr.forms_map ts]
mutual
theorem Tr.form_told : ∀ t : Tr, t.ok = true → t.form.told
  | .node c ts, h => by
    simp only [Tr.ok, Bool.and_eq_true] at h
    refine ⟨h.1, sortT_srt _, Tr.tolds_iff.mpr fun t ht => ?_⟩
    exact Tr.tolds_iff.mp (Tr.forms_told ts h.2) t ((sortT_perm _).mem_iff.mp ht)
theorem Tr.forms_told : ∀ ts : List Tr, Tr.oks ts = true → Tr.tolds (Tr.forms ts)
  | [], _ => trivial
  | t :: ts, h => by
    simp only [Tr.oks, Bool.and_eq_true] at h
    exact ⟨Tr.form_told t h.1, Tr.forms_told ts h.2⟩
end
mutual
theorem Tr.form_size : ∀ t : Tr, t.form.size = t.size
  | .node c ts => by simp only [Tr.form, Tr.size, Tr.sizes_perm (sortT_perm _), Tr.forms_sizes ts]
theorem Tr.forms_sizes : ∀ ts : List Tr, Tr.sizes (Tr.forms ts) = Tr.sizes ts
  | [] => rfl
  | t :: ts => by simp only [Tr.forms, Tr.sizes, Tr.form_size t, Tr.forms_sizes ts]
end
mutual
theorem Tr.form_dep : ∀ t : Tr, t.form.dep = t.dep
  | .node c ts => by simp only [Tr.form, Tr.dep, Tr.deps_perm (sortT_perm _), Tr.forms_deps ts]
theorem Tr.forms_deps : ∀ ts : List Tr, Tr.deps (Tr.forms ts) = Tr.deps ts
  | [] => rfl
  | t :: ts => by simp only [Tr.forms, Tr.deps, Tr.form_dep t, Tr.forms_deps ts]
end
mutual
theorem Tr.form_ok : ∀ t : Tr, t.form.ok = t.ok
  | .node c ts => by
    have h : Tr.oks (sortT (Tr.forms ts)) = Tr.oks (Tr.forms ts) := by
      rw [Bool.eq_iff_iff, Tr.oks_iff, Tr.oks_iff]
      exact ⟨fun a t ht => a t ((sortT_perm _).mem_iff.mpr ht), fun a t ht => a t ((sortT_perm _).mem_iff.mp ht)⟩
    simp only [Tr.form, Tr.ok, h, Tr.forms_ok ts]
theorem Tr.forms_ok : ∀ ts : List Tr, Tr.oks (Tr.forms ts) = Tr.oks ts
  | [] => rfl
  | t :: ts => by simp only [Tr.forms, Tr.oks, Tr.form_ok t, Tr.forms_ok ts]
end
/-- the one sorted list of trees in told form -/
theorem srt_uniq {as bs : List Tr} (ha : SrtW as) (hb : SrtW bs) (h : as.Perm bs) (ht : Tr.tolds as) : as = bs := by
  refine h.eq_of_pairwise (le := fun a b => leW a b = true) (fun a b h1 h2 h3 h4 => ?_) ha hb
  have t1 := Tr.tolds_iff.mp ht a h1
  have t2 := Tr.tolds_iff.mp ht b (h.mem_iff.mpr h2)
  exact told_inj t1 t2 (leW_anti h3 h4)
/-! ### parts worked off by a stack -/
inductive Post : List Tr → List Tr → List Tr → Prop
  | nil (ss : List Tr) : Post ss [] ss
  | cons (ss ts : List Tr) (c : Nat) {l r : List Tr} : Post (ss ++ [.node c ts]) l r → Post (ss ++ ts) (.node c ts :: l) r
mutual
theorem Post.tree : ∀ (t : Tr) (ss l r : List Tr), Post (ss ++ [t]) l r → Post ss (t.parts ++ l) r
  | .node c ts, ss, l, r, h => by
    rw [Tr.parts, List.append_assoc]
    exact Post.trees ts ss _ r (.cons ss ts c h)
theorem Post.trees : ∀ (ts : List Tr) (ss l r : List Tr), Post (ss ++ ts) l r → Post ss (Tr.partss ts ++ l) r
  | [], ss, l, r, h => by simpa [Tr.partss] using h
  | t :: ts, ss, l, r, h => by
    rw [Tr.partss, List.append_assoc]
    refine Post.tree t ss _ r (Post.trees ts (ss ++ [t]) l r ?_)
    simpa using h
end
theorem Post.all (t : Tr) : Post [] t.parts [t] := by
  have h := Post.tree t [] [] [t] (.nil _)
  simpa using h
theorem Post.out {os : List Tr} {q : Tr} {l r : List Tr} (h : Post os (q :: l) r) : ∃ ss, os = ss ++ q.ts ∧ Post (ss ++ [q]) l r := by
  cases h with
  | cons ss ts c h => exact ⟨ss, rfl, h⟩
theorem Post.end_ {os r : List Tr} (h : Post os [] r) : os = r := by
  cases h with
  | nil => rfl
theorem Tr.W_len1 (t : Tr) : 1 ≤ t.W.length := by
  cases t with
  | node c ts =>
    unfold Tr.W
    split <;> simp
/-! ### what reading keeps -/
def RS.tot (s : RS) : Nat := (s.ab.map fun p => 1 + Tr.sizes p.2).sum + Tr.sizes s.here
def RS.Inv (s : RS) : Prop := isL s.prev = true → ∃ hs, s.here = hs ++ [.node s.prev []]
theorem RS.inv0 : RS.Inv ⟨0, [], []⟩ := fun h => absurd h (by decide)
theorem RS.step_inv {s s' : RS} {x : Nat} (h : s.step x = some s') : s'.Inv := by
  unfold RS.step at h
  split at h
  · cases h
    exact fun _ => ⟨s.here, rfl⟩
  · split at h
    · rename_i h1 h2
      cases h
      intro hx
      rw [h2.1] at hx
      exact absurd (show isL 40 = true from hx) (by decide)
    · split at h
      · rename_i h1 h2 h3
        split at h
        · cases h
        · split at h
          · cases h
            intro hx
            rw [show x = 41 from h3] at hx
            exact absurd (show isL 41 = true from hx) (by decide)
          · cases h
      · cases h
theorem RS.step_tot {s s' : RS} {x : Nat} (I : s.Inv) (h : s.step x = some s') : s'.tot ≤ s.tot + 1 := by
  unfold RS.step at h
  split at h
  · cases h
    simp only [RS.tot, Tr.sizes_append, Tr.sizes, Tr.size]
    omega
  · split at h
    · rename_i h1 h2
      cases h
      obtain ⟨hs, e⟩ := I h2.2
      simp only [RS.tot, e, List.dropLast_concat, List.map_append, List.map_cons, List.map_nil, List.sum_append, List.sum_cons, List.sum_nil, Tr.sizes_append, Tr.sizes, Tr.size]
      omega
    · split at h
      · split at h
        · cases h
        · rename_i l more hl
          split at h
          · cases h
            have e : s.ab = s.ab.dropLast ++ [(l, more)] := by
              have hne : s.ab ≠ [] := fun z => by rw [z] at hl; cases hl
              rw [List.getLast?_eq_some_getLast hne] at hl
              have q := List.dropLast_concat_getLast hne
              rw [Option.some.inj hl] at q
              exact q.symm
            have e2 : (s.ab.map fun p => 1 + Tr.sizes p.2).sum = (s.ab.dropLast.map fun p => 1 + Tr.sizes p.2).sum + (1 + Tr.sizes more) := by
              conv => lhs; rw [e]
              simp only [List.map_append, List.map_cons, List.map_nil, List.sum_append, List.sum_cons, List.sum_nil]
              omega
            simp only [RS.tot, Tr.sizes_append, Tr.sizes, Tr.size, e2]
            omega
          · cases h
      · cases h
def parse (l : List Nat) : Option Tr := match RS.run ⟨0, [], []⟩ l with
  | some ⟨_, [], [t]⟩ => some t
  | _ => none
theorem parse_W {t : Tr} (h : t.told) : parse t.W = some t := by
  obtain ⟨p, hp⟩ := RS.run_W t ⟨0, [], []⟩ h
  unfold parse
  rw [hp]
  rfl
theorem take_snoc {α : Type} {l : List α} {i : Nat} {x : α} (h : l[i]? = some x) : l.take (i + 1) = l.take i ++ [x] := by
  rw [List.take_succ, h]
  rfl
theorem RS.run_next {s0 s : RS} {l : List Nat} {i x : Nat} (h : s0.run (l.take i) = some s) (hx : l[i]? = some x) : s0.run (l.take (i + 1)) = s.step x := by
  rw [take_snoc hx, RS.run_append, h]
  simp only [Option.bind_some, RS.run]
  cases s.step x <;> rfl
theorem RS.run_stop {s0 s : RS} {l : List Nat} {i x : Nat} (h : s0.run (l.take i) = some s) (hx : l[i]? = some x) (hn : s.step x = none) : s0.run l = none := by
  have e : l = l.take (i + 1) ++ l.drop (i + 1) := (List.take_append_drop _ _).symm
  rw [e, RS.run_append, RS.run_next h hx, hn]
  rfl
end Hy
set_option Elab.async false
set_option linter.all false
set_option maxRecDepth 100000
set_option maxHeartbeats 4000000
namespace Hy
open PySem L2

/-! ### names of the module -/
/-- the module's name x holds v -/
def GV (mg : Str → Option Value) (x : Str) (v : V) : Prop := ∃ u, mg x = some u ∧ RelV v u
theorem pe_gv {X : Cx} {x : Str} {v : V} {pos : Pos} (h : GV X.mg x v) (hg : Gl X x := by rfl) (hd : (x == ("__debug__" : Str)) = false := by decide) : PE X (.Name x pos) (tC v) := by
  obtain ⟨u, m, r⟩ := h
  exact pe_glob hg m r hd
theorem pe_ty {X : Cx} {x : Str} {n : String} {pos : Pos} (hm : X.mg x = none) (hv : bootBuiltins x = some (.type n)) (hg : Gl X x := by rfl) (hn : x ≠ "__name__" := by decide) (hd : (x == ("__debug__" : Str)) = false := by decide) : PE X (.Name x pos) (tC (.ty n)) :=
  pe_bltn hg hm hv rfl hn hd
/-- an own error class -/
structure ExcF (K : PySem.W.Frag) (mg : Str → Option Value) (x : Str) : Prop where
  ex : ∃ C : Addr, mg x = some (.ref C) ∧ PySem.W.excIn K C [.type "ValueError", .type "Exception", .type "BaseException", .type "object"] "ValueError.__new__" = true ∧ PySem.W.keepIn K (.ref C) = true ∧
    PySem.W.subIn K (.ref C) (.type "BaseException") = some true ∧ PySem.W.typeIn K (.ref C) = some (.type "type")
theorem ps_rs {X : Cx} {W : WX} {x m : Str} {j : Nat} {p p2 pos pos' : Pos} (F : ExcF X.K X.mg x) (hc : X.calm = true) (tk : Takes X W) (hg : Gl X x := by rfl) (hdb : (x == ("__debug__" : Str)) = false := by decide) :
    PS X (.Raise (some (.Call (.Name x p) [.Constant (.str m) j p2] [] pos')) none pos) (fun _ σ H => ∀ c, X.mg x = some c → W c none σ H) := by
  obtain ⟨C, g, e, k, s1, t1⟩ := F.ex
  have h := ps_raise (pos := pos) hc tk (pmk_own (j := j) (p := p) (p2 := p2) (pos := pos') (m := m) PySem.F.excBase_ValueError e g k (raises_own s1 t1) hg hdb)
  exact ⟨fun pins s σ H D I q => h.run pins s σ H D I (q _ g)⟩

/-! ### xs[i] += e -/
def gtL (K : PySem.W.Frag) : V → V → Hp → VK → Prop := fun o i H Q => ∃ p xs j v, o = .ref p ∧ i = .int j ∧ SqL K H p xs ∧ atI xs j = some v ∧ Q v H
theorem pget_list {X : Cx} : PGet X (gtL X.K) := by
  intro pins s σ H o i ov iv Q I ro ri h
  obtain ⟨p, xs, j, v, rfl, rfl, hx, ha, q⟩ := h
  cases ro
  obtain ⟨t, rfl⟩ := ri
  obtain ⟨its, r, pl, hz⟩ := I.list hx
  obtain ⟨k, h1, h2, h3, h4, h5⟩ := atI_get ha
  obtain ⟨w, ew, rw'⟩ := r.get h2
  have hl := r.length
  have hn := line63
  have fin : EP X pins σ Q w s := ⟨v, H, I, rw', q⟩
  by_cases h0 : 0 ≤ j
  · have hj : j.toNat = k := by
      rw [seqIndex_of h0 h5] at h1
      exact Option.some.inj h1
    exact wpAny_getItem_list pl.isList h0 (by omega) (by rw [hj]; simpa using ew) fin
  · have hj : (j + (its.toArray.size : Int)).toNat = k := by
      rw [seqIndex_neg (by omega) h4] at h1
      rw [List.size_toArray, ← hl]
      exact Option.some.inj h1
    exact wpAny_getItem_list_neg pl.isList (by omega) (by rw [List.size_toArray] <;> omega) (by omega) (by rw [hj]; simpa using ew) fin
theorem ps_augI {X : Cx} {o i e : Expr} {to ti te : TE} {pos tpos : Pos} (ho : PE X o to) (hi : PE X i ti) (he : PE X e te)
    (ha : ∀ ov iv new, augStore i ov iv new = (do holding [new, ov, iv] (setItem ov iv new); release [new, ov, iv] []; pure .next) := by intros; rfl) :
    PS X (.AugAssign (.Subscript o i tpos) .Add e pos) (tAugS to ti te (gtL X.K) (ipI fun i j => i + j) rSetL) :=
  ps_augS ho hi pget_list he ip_add set_list ha

/-! ### trees on the heap: v reads as t, its lists (one a part) at as -/
abbrev Fp := V × Tr × List Addr
inductive TF (H : Hp) : Tr → V → List Addr → Prop
  | mk {t : Tr} {v : V} {as : List Addr} (a l : Addr) (ps : List Fp) (ha : H a = some (.tup [.str ⟨#[t.c]⟩, .ref l])) (hl : H l = some (.lst (ps.map (·.1)))) (hp : ∀ p ∈ ps, TF H p.2.1 p.1 p.2.2)
      (ht : t.ts = ps.map (·.2.1)) (hv : v = .ref a) (has : as = l :: ps.flatMap (·.2.2)) : TF H t v as
theorem TF.out {H : Hp} {t : Tr} {v : V} {as : List Addr} (h : TF H t v as) : ∃ (a l : Addr) (ps : List Fp), H a = some (.tup [.str ⟨#[t.c]⟩, .ref l]) ∧ H l = some (.lst (ps.map (·.1))) ∧ (∀ p ∈ ps, TF H p.2.1 p.1 p.2.2) ∧
    t.ts = ps.map (·.2.1) ∧ v = .ref a ∧ as = l :: ps.flatMap (·.2.2) := by
  cases h with
  | mk a l ps ha hl hp ht hv has => exact ⟨a, l, ps, ha, hl, hp, ht, hv, has⟩
theorem TF.stay {H H' : Hp} {t : Tr} {v : V} {as : List Addr} (h : TF H t v as) (ht : ∀ b xs, H b = some (.tup xs) → H' b = some (.tup xs)) (hl : ∀ b ∈ as, ∀ xs, H b = some (.lst xs) → H' b = some (.lst xs)) : TF H' t v as := by
  induction h with
  | mk a l ps ha hl' hp ht' hv has ih =>
    refine .mk a l ps (ht _ _ ha) (hl l (by rw [has]; simp) _ hl') (fun p hm => ih p hm fun b hb xs e => hl b ?_ xs e) ht' hv has
    rw [has]
    exact List.mem_cons_of_mem _ (List.mem_flatMap.mpr ⟨p, hm, hb⟩)
theorem TF.same {H H' : Hp} {t : Tr} {v : V} {as : List Addr} (h : TF H t v as) (s : Same H H') : TF H' t v as := h.stay (fun _ _ e => s _ _ e) fun _ _ _ e => s _ _ e
theorem TF.keep {A : List Addr} {H H' : Hp} {t : Tr} {v : V} {as : List Addr} (h : TF H t v as) (k : Keep A H H') (d : ∀ b ∈ as, b ∉ A) : TF H' t v as := h.stay k.tup fun b hb _ e => k.but b _ (d b hb) e
theorem TF.live {H : Hp} {t : Tr} {v : V} {as : List Addr} (h : TF H t v as) : ∀ b ∈ as, ∃ xs, H b = some (.lst xs) := by
  induction h with
  | mk a l ps ha hl hp ht hv has ih =>
    intro b hb
    rw [has] at hb
    rcases List.mem_cons.mp hb with rfl | hb
    · exact ⟨_, hl⟩
    · obtain ⟨p, hm, hb⟩ := List.mem_flatMap.mp hb
      exact ih p hm b hb
/-- what stands is no new place -/
theorem TF.ne {H : Hp} {t : Tr} {v : V} {as : List Addr} (h : TF H t v as) {p : Addr} (n : H p = none) : p ∉ as := fun hb => by
  obtain ⟨xs, e⟩ := h.live p hb
  rw [n] at e
  cases e
mutual
def Tr.toD : Tr → PyData
  | .node c ts => .tuple [.str ⟨#[c]⟩, .list (Tr.toDs ts)]
def Tr.toDs : List Tr → List PyData
  | [] => []
  | t :: ts => t.toD :: Tr.toDs ts
end
theorem Tr.toDs_map : ∀ ts : List Tr, Tr.toDs ts = ts.map Tr.toD
  | [] => rfl
  | t :: ts => by simp only [Tr.toDs, List.map_cons, Tr.toDs_map ts]
mutual
theorem Tr.toD_plain : ∀ t : Tr, t.toD.plain = true
  | .node c ts => by simp [Tr.toD, PyData.plain, PyData.plainAll, Tr.toDs_plain ts]
theorem Tr.toDs_plain : ∀ ts : List Tr, PyData.plainAll (Tr.toDs ts) = true
  | [] => rfl
  | t :: ts => by simp [Tr.toDs, PyData.plainAll, Tr.toD_plain t, Tr.toDs_plain ts]
end
mutual
theorem Tr.toD_depth : ∀ t : Tr, t.toD.depth = 2 * t.dep
  | .node c ts => by
    simp only [Tr.toD, PyData.depth, PyData.depthAll, Tr.dep, Tr.toDs_depth ts]
    omega
theorem Tr.toDs_depth : ∀ ts : List Tr, PyData.depthAll (Tr.toDs ts) = 2 * Tr.deps ts
  | [] => rfl
  | t :: ts => by
    simp only [Tr.toDs, PyData.depthAll, Tr.deps, Tr.toD_depth t, Tr.toDs_depth ts]
    omega
end
theorem dpAll_of {K : PySem.W.Frag} {H : Hp} {α : Type} (f : α → V) (g : α → PyData) : ∀ {ps : List α}, (∀ p ∈ ps, Dp K H (f p) (g p)) → DpAll K H (ps.map f) (ps.map g)
  | [], _ => .nil
  | p :: ps, h => .cons (h p List.mem_cons_self) (dpAll_of f g fun q hq => h q (List.mem_cons_of_mem _ hq))
theorem TF.dp {K : PySem.W.Frag} {H : Hp} {t : Tr} {v : V} {as : List Addr} (h : TF H t v as) : Dp K H v t.toD := by
  induction h with
  | @mk t v as a l ps ha hl hp ht hv has ih =>
    subst hv
    cases t with
    | node c ts =>
      have e : ts = ps.map (·.2.1) := ht
      rw [Tr.toD, Tr.toDs_map, e, List.map_map]
      exact .tup (SqT.of ha) (.cons (.str _) (.cons (.lst (SqL.of hl) (dpAll_of _ _ ih)) .nil))
/-- the text of some codes -/
abbrev txS (l : List Nat) : Str := ⟨l.toArray⟩
abbrev tx (l : List Nat) : V := .str ⟨l.toArray⟩
theorem tx_inj {a b : List Nat} (h : tx a = tx b) : a = b := by
  have e := V.str.inj h
  simpa using congrArg (fun s : Str => s.cps.toList) e
/-- a tree with its writing, in a pair -/
def FF (H : Hp) (t : Tr) (v : V) (as : List Addr) : Prop := ∃ a u, v = .ref a ∧ H a = some (.tup [tx t.W, u]) ∧ TF H t u as
theorem FF.stay {H H' : Hp} {t : Tr} {v : V} {as : List Addr} (h : FF H t v as) (ht : ∀ b xs, H b = some (.tup xs) → H' b = some (.tup xs)) (hl : ∀ b ∈ as, ∀ xs, H b = some (.lst xs) → H' b = some (.lst xs)) : FF H' t v as :=
  let ⟨a, u, e, ha, hu⟩ := h
  ⟨a, u, e, ht _ _ ha, hu.stay ht hl⟩
theorem FF.same {H H' : Hp} {t : Tr} {v : V} {as : List Addr} (h : FF H t v as) (s : Same H H') : FF H' t v as := h.stay (fun _ _ e => s _ _ e) fun _ _ _ e => s _ _ e
theorem FF.keep {A : List Addr} {H H' : Hp} {t : Tr} {v : V} {as : List Addr} (h : FF H t v as) (k : Keep A H H') (d : ∀ b ∈ as, b ∉ A) : FF H' t v as := h.stay k.tup fun b hb _ e => k.but b _ (d b hb) e
theorem FF.live {H : Hp} {t : Tr} {v : V} {as : List Addr} (h : FF H t v as) : ∀ b ∈ as, ∃ xs, H b = some (.lst xs) := let ⟨_, _, _, _, hu⟩ := h; hu.live
theorem FF.dp {K : PySem.W.Frag} {H : Hp} {t : Tr} {v : V} {as : List Addr} (h : FF H t v as) : Dp K H v (.tuple [.str (txS t.W), t.toD]) := by
  obtain ⟨a, u, rfl, ha, hu⟩ := h
  exact .tup (SqT.of ha) (.cons (.str _) (.cons hu.dp .nil))
/-! ### the rules with the written part told (in a comprehension's block too) -/
section
variable {X : Cx} {e o : Expr} {es : List Expr} {te to : TE} {t : TA} {k : Nat}
theorem ix_listK (K : PySem.W.Frag) (h : X.K = K := by rfl) : IxR X (rIxL K) := h ▸ ix_list
theorem ix_tupK (K : PySem.W.Frag) (h : X.K = K := by rfl) : IxR X (rIxT K) := h ▸ ix_tup
theorem sl_listK (K : PySem.W.Frag) (h : X.K = K := by rfl) : SlR X (rSlL K) := h ▸ sl_list
theorem sl_tupAK (K : PySem.W.Frag) (h : X.K = K := by rfl) : SlR X (rSlA K) := h ▸ sl_tupA
theorem op_catAK (K : PySem.W.Frag) (h : X.K = K := by rfl) : OpR X (binaryOp .Add) (rCatA K) := h ▸ op_catA
theorem op_in_seqK (K : PySem.W.Frag) (h : X.K = K := by rfl) : OpR X (compareOp .In) (rIn K false) := h ▸ op_in_seq
theorem op_notIn_seqK (K : PySem.W.Frag) (h : X.K = K := by rfl) : OpR X (compareOp .NotIn) (rIn K true) := h ▸ op_notIn_seq
theorem op_eqPK (K : PySem.W.Frag) (hr : Room k X.A) (h : X.K = K := by rfl) : OpR X (compareOp .Eq) (rEqP K) := h ▸ op_eqP hr
theorem op_nePK (K : PySem.W.Frag) (hr : Room k X.A) (h : X.K = K := by rfl) : OpR X (compareOp .NotEq) (rNeP K) := h ▸ op_neP hr
theorem op_inLK (K : PySem.W.Frag) (hr : Room k X.A) (h : X.K = K := by rfl) : OpR X (compareOp .In) (rInD' K) := h ▸ op_inL hr
theorem call_lenK (K : PySem.W.Frag) (h : X.K = K := by rfl) : CallR X (.builtin "len") (fun xs H Q => ∃ x n, xs = [x] ∧ LenV K x H n ∧ Q (.int n) H) := h ▸ call_len
theorem call_isiK (K : PySem.W.Frag) (h : X.K = K := by rfl) : CallR X (.builtin "isinstance") (rIsi K) := h ▸ call_isi
theorem call_isiTK (K : PySem.W.Frag) (h : X.K = K := by rfl) : CallR X (.builtin "isinstance") (rIsiT K) := h ▸ call_isiT
theorem cr_sortedDK (K : PySem.W.Frag) (hr : Room k X.A) (h : X.K = K := by rfl) : CallR X (.builtin "sorted") (rSortedD K) := h ▸ cr_sortedD hr
theorem cr_maxK (K : PySem.W.Frag) (hc : X.calm = true) (h : X.K = K := by rfl) : CallR X (.builtin "max") (rMax K) := h ▸ cr_max hc
theorem cr_minK (K : PySem.W.Frag) (hc : X.calm = true) (h : X.K = K := by rfl) : CallR X (.builtin "min") (rMin K) := h ▸ cr_min hc
theorem cr_sumK (K : PySem.W.Frag) (hc : X.calm = true) (h : X.K = K := by rfl) : CallR X (.builtin "sum") (rSum K) := h ▸ cr_sum hc
theorem call_list_ofK (K : PySem.W.Frag) (h : X.K = K := by rfl) : CallR X (.type "list") (fun xs H Q => ∃ p ys, xs = [.ref p] ∧ (SqL K H p ys ∨ SqT K H p ys) ∧ ∀ l, H l = none → Q (.ref l) (upd H l (.lst ys))) := h ▸ call_list_of
theorem call_tuple_ofK (K : PySem.W.Frag) (h : X.K = K := by rfl) : CallR X (.type "tuple") (fun xs H Q => ∃ p ys, xs = [.ref p] ∧ ((SqL K H p ys ∧ ∀ l, H l = none → Q (.ref l) (upd H l (.tup ys))) ∨ (SqT K H p ys ∧ Q (.ref p) H))) := h ▸ call_tuple_of
theorem mt_countDK (K : PySem.W.Frag) (hr : Room k X.A) (h : X.K = K := by rfl) : MtR X "list.count" (rCntD K) := h ▸ mt_countD hr
theorem cbm0 {T : String} {r : V → List V → Hp → VK → Prop} (K : PySem.W.Frag) (hp : PE X e (tBM0 X.K T r to)) (h : X.K = K := by rfl) : PE X e (tBM0 K T r to) := h ▸ hp
theorem cbm {T : String} {r : V → List V → Hp → VK → Prop} (K : PySem.W.Frag) (hp : PE X e (tBM X.K T r to t)) (h : X.K = K := by rfl) : PE X e (tBM K T r to t) := h ▸ hp
theorem pe_revK {pos p2 p3 p4 : Pos} {j : Nat} (K : PySem.W.Frag) (he : PE X e te) (h : X.K = K := by rfl) : PE X (.Subscript e (.Slice none none (some (.UnaryOp .USub (.Constant (.int 1) j p4) p3)) p2) pos) (tRevL K te) := h ▸ pe_rev he
theorem pc_neNilK {p2 : Pos} (K : PySem.W.Frag) (hr : Room k X.A) (he : PE X e te) (h : X.K = K := by rfl) : PC X .NotEq e (.List [] p2) (tNil' (fun b => !b) K te) := h ▸ pc_neNil hr he
theorem pc_eqNilK {p2 : Pos} (K : PySem.W.Frag) (hr : Room k X.A) (he : PE X e te) (h : X.K = K := by rfl) : PC X .Eq e (.List [] p2) (tNil' (fun b => b) K te) := h ▸ pc_eqNil hr he
theorem pi_listK {tg l : Expr} {tl : TE} (K : PySem.W.Frag) (hl : PE X l tl) (h : X.K = K := by rfl) : PI X tg l (iList K tl) := h ▸ pi_list hl
theorem pi_tupK {tg l : Expr} {tl : TE} (K : PySem.W.Frag) (hl : PE X l tl) (h : X.K = K := by rfl) : PI X tg l (iTup K tl) := h ▸ pi_tup hl
theorem pe_fldK {f : Str} {pos : Pos} (K : PySem.W.Frag) (he : PE X e te) (hb : attributeBase e f X.env (eval e X.env) = eval e X.env) (h : X.K = K := by rfl) : PE X (.Attribute e f pos) (tFld K te f) := h ▸ pe_fld he hb
end
/-! ### small things -/
theorem letter_in {c : Nat} : decide (c ∈ (PySem.Str.ofString "abcdefghijklmnopqrstuvwxyz").cps.toList) = isL c := by
  have e : (PySem.Str.ofString "abcdefghijklmnopqrstuvwxyz").cps.toList = [97, 98, 99, 100, 101, 102, 103, 104, 105, 106, 107, 108, 109, 110, 111, 112, 113, 114, 115, 116, 117, 118, 119, 120, 121, 122] := by decide +kernel
  rw [e]
  unfold isL
  rw [Bool.eq_iff_iff]
  simp only [List.mem_cons, List.not_mem_nil, or_false, decide_eq_true_eq, Bool.and_eq_true]
  omega
theorem snoc_cases {α : Type} (l : List α) : l = [] ∨ ∃ q x, l = q ++ [x] := by
  rcases List.eq_nil_or_concat l with h | ⟨q, x, h⟩
  · exact .inl h
  · exact .inr ⟨q, x, by rw [h, List.concat_eq_append]⟩
theorem snoc_get {α : Type} {xs : List α} {y : α} : (xs ++ [y])[(xs ++ [y]).length - 1]? = some y := by simp
theorem ifNe {α : Type} {xs : List α} {A B : Prop} (h : xs ≠ []) (a : A) : if (!xs.isEmpty) = true then A else B := by
  rw [if_pos (by cases xs with | nil => exact absurd rfl h | cons => rfl)]
  exact a
theorem ifNe1 {α : Type} {xs : List α} {y : α} {A B : Prop} (a : A) : if (!(xs ++ [y]).isEmpty) = true then A else B := ifNe (by simp) a
theorem newF {H H' : Hp} {p : Addr} {o : HO} (n : H p = none) (e : upd H p o = H') : Same H H' ∧ H' p = some o := by
  subst e
  exact ⟨same_new n, upd_same⟩
theorem ownF {H0 H H' : Hp} {p : Addr} {o : HO} (S : Same H0 H) (n : H0 p = none) (e : upd H p o = H') : Same H0 H' ∧ H' p = some o := by
  subst e
  exact ⟨Same.upd_own S n, upd_same⟩
theorem atI_end {α : Type} {xs : List α} {y : α} : atI (xs ++ [y]) (-1) = some y := by
  have e : ixN (xs ++ [y]).length (-1) = some xs.length := by
    unfold ixN
    rw [if_neg (by omega), if_pos (by rw [List.length_append, List.length_singleton]; omega), List.length_append, List.length_singleton]
    congr 1
    omega
  unfold atI
  rw [e]
  simp
theorem txS_app (a b : List Nat) : txS a ++ txS b = txS (a ++ b) := by
  show Str.append (txS a) (txS b) = _
  unfold Str.append
  simp
theorem joinL_nil : ∀ ws : List (List Nat), TL.joinL [] ws = ws.flatten
  | [] => rfl
  | [p] => by simp [TL.joinL]
  | p :: q :: r => by
    rw [TL.joinL, joinL_nil (q :: r)]
    simp
theorem join_nil (ws : List (List Nat)) : Txt.join (txS []) (ws.map txS) = txS ws.flatten := by
  rw [TL.join_eq]
  have h := TL.tl_join (txS []) (ws.map txS)
  rw [List.map_map] at h
  have e : ws.map (TL.tl ∘ txS) = ws := by
    have : (TL.tl ∘ txS) = id := funext fun l => by simp [TL.tl]
    rw [this, List.map_id]
  have e0 : TL.tl (txS []) = [] := rfl
  rw [e, e0, joinL_nil] at h
  have h2 : (Str.join (txS []) (ws.map txS)).cps = ws.flatten.toArray := by
    rw [← h]
  calc Str.join (txS []) (ws.map txS) = ⟨(Str.join (txS []) (ws.map txS)).cps⟩ := rfl
    _ = _ := by rw [h2]
theorem txS_len (l : List Nat) : (txS l).length = l.length := by
  show (txS l).cps.size = _
  simp
theorem str_one (c : Nat) : (⟨#[c]⟩ : Str) = txS [c] := rfl
theorem cut_take {xs : List V} {n : Nat} {i : Int} (h : i = (n : Int)) (hn : n ≤ xs.length) : cutV xs none (some i) = xs.take n := by
  subst h
  unfold cutV
  rw [HT.sIx_none, HT.sIx_nat, Nat.min_eq_left hn]
  simp
theorem cut_drop {xs : List V} {n : Nat} {i : Int} (h : i = (n : Int)) (hn : n ≤ xs.length) : cutV xs (some i) none = xs.drop n := by
  subst h
  unfold cutV
  rw [HT.sIx_none, HT.sIx_nat, Nat.min_eq_left hn]
  refine List.take_of_length_le ?_
  rw [List.length_drop]
  exact Nat.le_refl _
theorem iteB {c : Bool} {A B : Prop} (h : c = true) (a : A) : if c = true then A else B := by rw [if_pos h]; exact a
theorem iteC {c : Bool} {A B : Prop} (h : c = false) (b : B) : if c = true then A else B := by rw [if_neg (by rw [h]; decide)]; exact b
end Hy
set_option Elab.async false
set_option linter.all false
set_option maxRecDepth 100000
set_option maxHeartbeats 4000000
namespace Hy
open PySem PySem.Spec PyProof.Rows L2
/-! dicts whose keys are tuples, nested: tracked by HO.ext, the keys told beside -/
mutual
inductive NKv (H : Hp) : NestedKey → V → Prop
  | int (i : Int) : NKv H (.num i) (.int i)
  | text (x : Str) : NKv H (.text x) (.str x)
  | tup {a : Addr} {ks : List NestedKey} {vs : List V} : H a = some (.tup vs) → NKs H ks vs → NKv H (.tup ks) (.ref a)
inductive NKs (H : Hp) : List NestedKey → List V → Prop
  | nil : NKs H [] []
  | cons {k : NestedKey} {v : V} {ks : List NestedKey} {vs : List V} : NKv H k v → NKs H ks vs → NKs H (k :: ks) (v :: vs)
end
mutual
theorem NKv.stay {H H' : Hp} (ht : ∀ b xs, H b = some (.tup xs) → H' b = some (.tup xs)) : ∀ (k : NestedKey) (v : V), NKv H k v → NKv H' k v
  | .none, _, h => nomatch h
  | .num i, _, h => by cases h; exact .int i
  | .text x, _, h => by cases h; exact .text x
  | .tup ks, _, h => by
    cases h with
    | tup ha hs => exact .tup (ht _ _ ha) (NKs.stay ht ks _ hs)
theorem NKs.stay {H H' : Hp} (ht : ∀ b xs, H b = some (.tup xs) → H' b = some (.tup xs)) : ∀ (ks : List NestedKey) (vs : List V), NKs H ks vs → NKs H' ks vs
  | [], _, h => by cases h; exact .nil
  | k :: ks, _, h => by
    cases h with
    | cons h1 h2 => exact .cons (NKv.stay ht k _ h1) (NKs.stay ht ks _ h2)
end
mutual
theorem NKv.is {P : Program} {w : World} {H : Hp} {h : Heap} (ok : HOk P w H h) : ∀ (k : NestedKey) (v : V) (u : Value), NKv H k v → RelV v u → NestedIs h k u
  | .none, _, _, h, _ => nomatch h
  | .num i, _, _, h, r => by
    cases h
    obtain ⟨t, rfl⟩ := r
    exact .int i t
  | .text x, _, _, h, r => by
    cases h
    obtain ⟨t, rfl⟩ := r
    exact .text x t
  | .tup ks, _, _, h, r => by
    cases h with
    | @tup a _ vs ha hs =>
      obtain ⟨_, its, rv, o, h1, h2, n, h3⟩ := (show ObjOk P w H h a (.tup vs) from ok a _ ha)
      cases r
      exact .tup h1 h2 h3 (by simpa using NKs.is ok ks vs its hs rv)
theorem NKs.is {P : Program} {w : World} {H : Hp} {h : Heap} (ok : HOk P w H h) : ∀ (ks : List NestedKey) (vs : List V) (us : List Value), NKs H ks vs → Vals vs us → NestedAll h ks us
  | [], _, _, h, r => by
    cases h
    cases r
    exact .nil
  | k :: ks, _, _, h, r => by
    cases h with
    | cons h1 h2 =>
      cases r with
      | cons r1 r2 => exact .cons (NKv.is ok k _ _ h1 r1) (NKs.is ok ks _ _ h2 r2)
end
mutual
theorem NKv.dp {K : PySem.W.Frag} {H : Hp} : ∀ (k : NestedKey) (v : V), NKv H k v → Dp K H v k.data
  | .none, _, h => nomatch h
  | .num i, _, h => by cases h; exact .int i
  | .text x, _, h => by cases h; exact .str x
  | .tup ks, _, h => by
    cases h with
    | tup ha hs => exact .tup (SqT.of ha) (NKs.dp ks _ hs)
theorem NKs.dp {K : PySem.W.Frag} {H : Hp} : ∀ (ks : List NestedKey) (vs : List V), NKs H ks vs → DpAll K H vs (NestedKey.datas ks)
  | [], _, h => by cases h; exact .nil
  | k :: ks, _, h => by
    cases h with
    | cons h1 h2 => exact .cons (NKv.dp k _ h1) (NKs.dp ks _ h2)
end

/-- an entry: its key, where the key stands, its value -/
abbrev NE := NestedKey × Addr × V
def atN (es : List NE) (k : NestedKey) : Option V := (es.find? fun x => decide (x.1 = k)).map (·.2.2)
def putN (es : List NE) (k : NestedKey) (b : Addr) (v : V) : List NE :=
  if (es.any fun x => decide (x.1 = k)) = true then es.map (fun x => if x.1 = k then (x.1, x.2.1, v) else x) else es ++ [(k, b, v)]
theorem atN_nil {k : NestedKey} : atN [] k = none := rfl
theorem atN_pos {p : NE} {r : List NE} {k : NestedKey} (e : p.1 = k) : atN (p :: r) k = some p.2.2 := by simp [atN, List.find?_cons, e]
theorem atN_neg {p : NE} {r : List NE} {k : NestedKey} (e : ¬ p.1 = k) : atN (p :: r) k = atN r k := by simp [atN, List.find?_cons, e]
theorem atN_any (k : NestedKey) : ∀ es : List NE, (es.any fun x => decide (x.1 = k)) = (atN es k).isSome
  | [] => rfl
  | p :: r => by
    rw [List.any_cons]
    by_cases e : p.1 = k
    · simp only [atN_pos e, decide_eq_true e, Bool.true_or, Option.isSome_some]
    · rw [atN_neg e, decide_eq_false e, Bool.false_or]; exact atN_any k r
theorem putN_new {es : List NE} {k : NestedKey} (b : Addr) (v : V) (h : atN es k = none) : putN es k b v = es ++ [(k, b, v)] := by
  unfold putN
  rw [atN_any, h]
  exact if_neg (by decide)
theorem length_putN (es : List NE) (k : NestedKey) (b : Addr) (v : V) : (putN es k b v).length ≤ es.length + 1 := by
  unfold putN
  split
  · rw [List.length_map]; omega
  · rw [List.length_append, List.length_cons, List.length_nil]; omega
abbrev NX : List NE → List (NestedKey × Addr × Value) → Prop := Paired fun p q => p.1 = q.1 ∧ p.2.1 = q.2.1 ∧ RelV p.2.2 q.2.2
theorem NX.val {es : List NE} {xs : List (NestedKey × Addr × Value)} (r : NX es xs) (k : NestedKey) : RelO (atN es k) ((atKey xs k).map (·.2)) := by
  induction r with
  | nil => exact True.intro
  | @cons p q ps qs h t ih =>
    obtain ⟨h1, _, h2⟩ := h
    by_cases e : p.1 = k
    · have e' : q.1 = k := h1.symm.trans e
      have b : atKey (q :: qs) k = some q.2 := by simp [atKey, List.find?_cons, e']
      rw [atN_pos e, b]; exact h2
    · have e' : ¬ q.1 = k := fun z => e (h1.trans z)
      have b : atKey (q :: qs) k = atKey qs k := by simp [atKey, List.find?_cons, e']
      rw [atN_neg e, b]; exact ih
theorem NX.repl {es : List NE} {xs : List (NestedKey × Addr × Value)} (r : NX es xs) (k : NestedKey) {y : V} {u : Value} (ry : RelV y u) :
    NX (es.map fun x => if x.1 = k then (x.1, x.2.1, y) else x) (xs.map (putAt k u)) := by
  induction r with
  | nil => exact .nil
  | @cons p q ps qs h t ih =>
    rw [List.map_cons, List.map_cons]
    refine .cons ?_ ih
    obtain ⟨h1, h2, h3⟩ := h
    unfold putAt
    by_cases e : p.1 = k
    · rw [if_pos e, if_pos (h1.symm.trans e)]; exact ⟨h1, h2, ry⟩
    · rw [if_neg e, if_neg (fun z => e (h1.trans z))]; exact ⟨h1, h2, h3⟩
theorem NX.put {es : List NE} {xs : List (NestedKey × Addr × Value)} (r : NX es xs) (k : NestedKey) {b : Addr} {y : V} {u : Value} (ry : RelV y u) : NX (putN es k b y) (storedH xs k b u) := by
  have e : (es.any fun kv => decide (kv.1 = k)) = (atKey xs k).isSome := by
    rw [atN_any, (r.val k).isSome_eq, Option.isSome_map]
  unfold putN storedH
  rw [e]
  by_cases q : (atKey xs k).isSome = true
  · rw [if_pos q, if_pos q]; exact r.repl k ry
  · rw [if_neg q, if_neg q]; exact Paired.snoc r ⟨rfl, rfl, ry⟩
theorem NX.keys {es : List NE} {xs : List (NestedKey × Addr × Value)} (r : NX es xs) : ∀ x ∈ xs, ∃ e ∈ es, e.1 = x.1 ∧ e.2.1 = x.2.1 := by
  induction r with
  | nil => intro x hx; cases hx
  | @cons p q ps qs h t ih =>
    intro x hx
    rcases List.mem_cons.mp hx with rfl | hx
    · exact ⟨p, List.mem_cons_self, h.1, h.2.1⟩
    · obtain ⟨e, he, r⟩ := ih x hx
      exact ⟨e, List.mem_cons_of_mem _ he, r⟩
def entN (w : World) (x : NestedKey × Addr × Value) : DictEntry := ⟨x.1.hash w, .ref x.2.1, x.2.2⟩
/-- what is true of the dict's object -/
def isND (w : World) (a : Addr) (es : List NE) (h : Heap) : Prop := es.length ≤ sizeLine ∧ (a == sysModules) = false ∧ ∃ xs : List (NestedKey × Addr × Value), NX es xs ∧
  ∃ (o : Obj) (en : Array DictEntry) (ep : Nat), h.get? a = some o ∧ o.ExactDict ∧ o.data = .dict en ep ∧ en.toList = xs.map (entN w) ∧ (xs.map (·.1)).Nodup
def ndO (w : World) (a : Addr) (es : List NE) : HO := .ext (isND w a es)
/-- the keys stand -/
def NKeys (H : Hp) (es : List NE) : Prop := ∀ x ∈ es, NKv H x.1 (.ref x.2.1) ∧ x.1.depth ≤ 8
structure ND (w : World) (H : Hp) (a : Addr) (es : List NE) : Prop where
  rd : Rd H a (ndO w a es)
  ks : NKeys H es
theorem NKeys.stay {H H' : Hp} {es : List NE} (n : NKeys H es) (ht : ∀ b xs, H b = some (.tup xs) → H' b = some (.tup xs)) : NKeys H' es := fun x hx => ⟨(n x hx).1.stay ht, (n x hx).2⟩
theorem NKeys.nil {H : Hp} : NKeys H [] := fun x hx => nomatch hx
theorem NKeys.put {H : Hp} {es : List NE} {k : NestedKey} {b : Addr} {v : V} (n : NKeys H es) (hk : NKv H k (.ref b)) (hd : k.depth ≤ 8) : NKeys H (putN es k b v) := by
  intro x hx
  unfold putN at hx
  split at hx
  · obtain ⟨y, hy, rfl⟩ := List.mem_map.mp hx
    by_cases e : y.1 = k
    · simp only [e, if_true]
      exact e ▸ n y hy
    · rw [if_neg e]
      exact n y hy
  · rcases List.mem_append.mp hx with hx | hx
    · exact n x hx
    · obtain rfl := List.mem_singleton.mp hx
      exact ⟨hk, hd⟩
theorem ND.same {w : World} {H H' : Hp} {a : Addr} {es : List NE} (n : ND w H a es) (s : Same H H') : ND w H' a es :=
  ⟨n.rd.elim (fun h => .inl (s _ _ h)) fun ⟨o, h⟩ => .inr ⟨o, s _ _ h⟩, n.ks.stay fun _ _ h => s _ _ h⟩
theorem ND.keep {w : World} {A : List Addr} {H H' : Hp} {a : Addr} {es : List NE} (n : ND w H a es) (k : Keep A H H') (ha : a ∉ A) : ND w H' a es :=
  ⟨n.rd.elim (fun h => .inl (k.but _ _ ha h)) fun ⟨o, h⟩ => .inr ⟨o, k.but _ _ ha h⟩, n.ks.stay k.tup⟩
theorem ND.of {w : World} {H : Hp} {a : Addr} {es : List NE} (h : H a = some (ndO w a es)) (n : NKeys H es) : ND w H a es := ⟨.inl h, n⟩
theorem ND.frz {w : World} {H : Hp} {a : Addr} {es : List NE} {o : Obj} (h : H a = some (.frz o (ndO w a es))) (n : NKeys H es) : ND w H a es := ⟨.inr ⟨o, h⟩, n⟩
section
variable {P : Program} {w : World} {H : Hp} {h : Heap} {a : Addr} {es : List NE}
theorem nd_of (ok : HOk P w H h) (n : ND w H a es) : es.length ≤ sizeLine ∧ (a == sysModules) = false ∧ ∃ xs, NX es xs ∧ h.DictOfH (nestedKind P w) a xs := by
  obtain ⟨⟨z, y, xs, r, o, en, ep, h1, h2, h3, h4, h5⟩, _⟩ := (show ObjOk P w H h a (ndO w a es) from n.rd.ok ok)
  refine ⟨z, y, xs, r, o, en, ep, h1, h2, h3, h4, fun x hx => ?_, h5⟩
  obtain ⟨e, he, e1, e2⟩ := r.keys x hx
  obtain ⟨k1, k2⟩ := n.ks e he
  rw [e1, e2] at k1
  rw [e1] at k2
  exact ⟨NKv.is ok _ _ _ k1 rfl, k2⟩
theorem nd_mk {H' : Hp} {h' : Heap} {xs : List (NestedKey × Addr × Value)} (z : es.length ≤ sizeLine) (hd : (a == sysModules) = false) (r : NX es xs) (dd : h'.DictOfH (nestedKind P w) a xs) : ObjOk P w H' h' a (ndO w a es) := by
  obtain ⟨o, en, ep, h1, h2, h3, h4, _, h5⟩ := dd
  exact ⟨⟨z, hd, xs, r, o, en, ep, h1, h2, h3, h4, h5⟩, ⟨o, h1⟩, fun g1 g2 ⟨z, hd, xs, r, o, en, ep, h1, rest⟩ st => ⟨z, hd, xs, r, o, en, ep, st o h1, rest⟩⟩
theorem nd_room {X : Cx} {k : Nat} (hr : Room k X.A) {A : Around} (hA : A.units ≤ X.A.units + 8) : (nestedKind P w).room A := by
  show A.units + 8 < cLine
  have := hr.un
  omega
end
theorem nk_is {P : Program} {w : World} {H : Hp} {h : Heap} {b : Addr} {k : NestedKey} (ok : HOk P w H h) (n : NKv H k (.ref b)) (hd : k.depth ≤ 8) : (nestedKind P w).is h k b := ⟨NKv.is ok _ _ _ n rfl, hd⟩

/-! ### readings -/
def tNGet (w : World) (td ty : TE) : TE := fun σ H Q => td σ H fun x H1 => ty σ H1 fun y H2 => ∃ a es k b v, x = .ref a ∧ y = .ref b ∧ ND w H2 a es ∧ NKv H2 k (.ref b) ∧ k.depth ≤ 8 ∧ atN es k = some v ∧ Q v H2
def rNIn (w : World) (f : Bool → Bool) : R2 := fun y x H Q => ∃ a es k b, x = .ref a ∧ y = .ref b ∧ ND w H a es ∧ NKv H k (.ref b) ∧ k.depth ≤ 8 ∧ Q (.bl (f (atN es k).isSome)) H
def sNPut (w : World) (td ty tv : TE) : TS := fun D σ H => tv σ H fun v H1 => td σ H1 fun x H2 => ty σ H2 fun y H3 => ∃ a es k b, x = .ref a ∧ y = .ref b ∧ H3 a = some (ndO w a es) ∧ NKeys H3 es ∧ NKv H3 k (.ref b) ∧ k.depth ≤ 8 ∧ es.length < sizeLine ∧
  D.nx σ (upd H3 a (ndO w a (putN es k b v)))
def tNNew (w : World) : TE := fun _ H Q => ∀ p, H p = none → Q (.ref p) (upd H p (ndO w p []))
section
variable {X : Cx} {o i e value : Expr} {pos pos' : Pos} {td ty tv : TE} {k : Nat}
theorem pe_nget (w : World) (hr : Room k X.A) (ho : PE X o td) (hi : PE X i ty) (hs : NoSl i := by exact fun _ _ => rfl) (h : X.w = w := by rfl) : PE X (.Subscript o i pos) (tNGet w td ty) := by
  subst h
  refine ⟨fun pins s σ H Q I h => ?_⟩
  refine subD_of PySem.F.slot_dict_getitem.lookup hs (thn (ho.run pins s σ H _ I h) fun u s1 ⟨x, H1, I1, rx, q1⟩ => thn (hi.run pins s1 σ H1 _ I1 q1) fun iv s2 ⟨y, H2, I2, ry, a, es, kk, b, v, ex, ey, nd, nk, hd, hv, q2⟩ => ?_)
  subst ex ey
  obtain rfl : u = Value.ref a := rx
  obtain rfl : iv = Value.ref b := ry
  obtain ⟨z, hdm, xs, rel, dd⟩ := nd_of I2.hok nd
  obtain ⟨w', hw, rw'⟩ := RelO.some_of (v := v) (o := (atKey xs kk).map (·.2)) (by rw [← hv]; exact rel.val kk)
  obtain ⟨p, hp, hp2⟩ := Option.map_eq_some_iff.mp hw
  refine ⟨dd.typeIs, wpAny_getItem_heap (nd_room hr (by rw [Around.in1_units]; omega)) (nk_is I2.hok nk hd) dd hp ?_⟩
  rw [hp2]
  exact ⟨v, H2, I2.tok _, rw', q2⟩
theorem op_in_nd (w : World) (hr : Room k X.A) (h : X.w = w := by rfl) : OpR X (compareOp .In) (rNIn w id) := by
  subst h
  intro pins s σ H y x v u Q I ry rx h
  obtain ⟨a, es, kk, b, rfl, rfl, nd, nk, hd, q⟩ := h
  cases ry
  cases rx
  obtain ⟨z, hdm, xs, rel, dd⟩ := nd_of I.hok nd
  refine wpAny_in_heap (nd_room hr (by rw [Around.in1_units]; omega)) (nk_is I.hok nk hd) hdm dd ?_
  have e := (rel.val kk).isSome_eq
  rw [Option.isSome_map] at e
  rw [← e]
  exact ⟨.bl (atN es kk).isSome, H, I.tok _, rfl, q⟩
theorem op_notIn_nd (w : World) (hr : Room k X.A) (h : X.w = w := by rfl) : OpR X (compareOp .NotIn) (rNIn w fun b => !b) := by
  subst h
  intro pins s σ H y x v u Q I ry rx h
  obtain ⟨a, es, kk, b, rfl, rfl, nd, nk, hd, q⟩ := h
  cases ry
  cases rx
  obtain ⟨z, hdm, xs, rel, dd⟩ := nd_of I.hok nd
  refine wpAny_notIn_heap (nd_room hr (by rw [Around.in1_units]; omega)) (nk_is I.hok nk hd) hdm dd ?_
  have e := (rel.val kk).isSome_eq
  rw [Option.isSome_map] at e
  rw [← e]
  exact ⟨.bl (!(atN es kk).isSome), H, I.tok _, rfl, q⟩
theorem ps_nput (w : World) (hr : Room k X.A) (hv : PE X value tv) (ho : PE X o td) (hi : PE X i ty) (hs : swapsWith value (some (.Subscript o i pos')) pos.line X.env = pure false := by rfl) (h : X.w = w := by rfl) :
    PS X (.Assign [.Subscript o i pos'] value pos) (sNPut w td ty tv) := by
  subst h
  refine ⟨fun pins s σ H D I h => ?_⟩
  refine wpAny_Assign_Subscript (thn (hv.run pins s σ H _ I h) fun r s1 ⟨v, H1, I1, rv, q1⟩ => thn (ho.run pins s1 σ H1 _ I1 q1) fun u s2 ⟨x, H2, I2, rx, q2⟩ => thn (hi.run pins s2 σ H2 _ I2 q2) fun iv s3 ⟨y, H3, I3, ry, a, es, kk, b, ex, ey, ha, ks, nk, hd, hl, q3⟩ => ?_) hs
  subst ex ey
  obtain rfl : u = Value.ref a := rx
  obtain rfl : iv = Value.ref b := ry
  obtain ⟨z, hdm, xs, rel, dd⟩ := nd_of I3.hok (ND.of ha ks)
  have hz : xs.length ≤ sizeLine := by rw [← Paired.length rel]; exact z
  refine wpAny_setItem_heap (hsz := hz) (nd_room hr (by rw [Around.in1_units]; omega)) (nk_is I3.hok nk hd) dd fun h' dd' hsb => ⟨σ, _, ?_, q3⟩
  have he : ∃ q, h'.get? a = some q := let ⟨q, _, _, hq, _⟩ := dd'; ⟨q, hq⟩
  have hl2 : (putN es kk b v).length ≤ sizeLine := by have := length_putN es kk b v; omega
  exact d_write I3 (by rw [ha]; exact True.intro) hsb he (nd_mk hl2 hdm (rel.put kk rv) dd')
theorem pe_dnewN (w : World) (h : X.w = w := by rfl) : PE X (.Dict [] [] pos) (tNNew w) := by
  subst h
  exact ⟨fun pins s σ H Q I h =>
    wpAny_Dict_empty ⟨.ref s.heap.objs.size, _, I.laid (a := s.heap.objs.size) (o := ndO X.w s.heap.objs.size []) (t' := s.toks) (fun _ _ q => Heap.get?_push_of_some _ q) (Nat.le_refl _)
      (nd_mk (P := X.prog) (Nat.zero_le _) (beq_eq_false_iff_ne.mpr (Ne.symm (Nat.ne_of_lt I.big))) .nil (Heap.DictOfH.new s.heap)), rfl, h _ (I.hok.fresh (Nat.le_refl _))⟩⟩
def rLenN (w : World) : List V → Hp → VK → Prop := fun xs H Q => ∃ (p : Addr) (es : List NE), xs = [.ref p] ∧ ND w H p es ∧ Q (.int ((es.length : Nat) : Int)) H
theorem call_len_nd (w : World) (h : X.w = w := by rfl) : CallR X (.builtin "len") (rLenN w) := by
  subst h
  intro pins s σ H xs us Q I r h
  obtain ⟨p, es, rfl, hp, q⟩ := h
  obtain ⟨u, rfl, rx⟩ := vals1 r
  obtain rfl : u = .ref p := rx
  obtain ⟨z, hd, ys, rel, dd⟩ := nd_of I.hok hp
  have hl : es.length = ys.length := Paired.length rel
  refine call_len_dictH hd dd (by rw [← hl]; rw [sizeLine_eq] at z; omega) ?_
  rw [← hl]
  exact ⟨.int ((es.length : Nat) : Int), H, I.tok _, ⟨_, rfl⟩, q⟩
end

/-! ### for k in d (locked) -/
def Itn (w : World) (d : Addr) (o : Obj) (es : List NE) : It :=
  ⟨fun i H => H d = some (.frz o (ndO w d es)) ∧ i < es.length, fun i H x H' => H' = H ∧ ∃ e, es[i]? = some e ∧ x = .ref e.2.1, fun i H => H d = some (.frz o (ndO w d es)) ∧ es.length ≤ i⟩
section
variable {X : Cx} {pins : List (Addr × Obj)} {σ : L2.St} {H : Hp} {s : Shared} {d : Addr} {o : Obj} {ens : List NE}
theorem frzN {w : World} (hw : X.w = w) (I : Inv X pins σ H s) (h : H d = some (.frz o (ndO w d ens))) :
    (d == sysModules) = false ∧ s.heap.get? d = some o ∧ o.ExactDict ∧ ∃ (es : Array DictEntry) (ep : Nat), o.data = .dict es ep ∧ es.size = ens.length ∧
      ∀ (i : Nat) (e : NE), ens[i]? = some e → ∃ en : DictEntry, es[i]? = some en ∧ en.key = .ref e.2.1 := by
  subst hw
  obtain ⟨hd, ⟨z, hs, xs, pr, o', es, ep, ho, hx, hdt, he, _⟩, _⟩ := I.hok d _ h
  rw [hd] at ho
  cases ho
  have hsz : es.size = xs.length := by rw [← Array.length_toList, he, List.length_map]
  refine ⟨hs, hd, hx, es, ep, hdt, ?_, fun i e q => ?_⟩
  · have l2 : ens.length = xs.length := Paired.length pr
    omega
  · obtain ⟨b, hb, e1, e2, _⟩ := paired_get pr q
    refine ⟨entN X.w b, ?_, by rw [e2]; rfl⟩
    rw [← Array.getElem?_toList, he, List.getElem?_map, hb]
    rfl
end
section
variable {P : Program} {w : World} {K : PySem.W.Frag} {tg : Expr} {d : Addr} {o : Obj} {es : Array DictEntry} {ep : Nat}
theorem turn_keysN {ens : List NE} (it : Addr) (hod : o.data = .dict es ep) : Turn P w K tg (Itn w d o ens) [it] it (fun i h => h.IsKeyIter it d i ens.length ep) where
  mem := by simp
  obj := fun i h st b hb => by
    have e : b = it := by simpa using hb
    subst e
    obtain ⟨oi, e, c, dd⟩ := st
    exact ⟨oi, e, fun v z => by rw [dd] at z; cases z⟩
  keep := fun i h h' st k => st.at fun oi e => k it (by simp) oi e
  item := by
    intro X hP hw hK hc i pins s σ H E I hf st hg
    subst hP hw hK
    obtain ⟨hd, hi⟩ := hg
    obtain ⟨f0, f1, f2, f3, f4, f5⟩ := hf it (by simp)
    obtain ⟨hs, hgd, hx, es', ep', hdt, hsz, ent⟩ := frzN rfl I hd
    obtain ⟨rfl, rfl⟩ := dict_ep hod hdt
    obtain ⟨e0, hkv⟩ : ∃ p, ens[i]? = some p := ⟨ens[i], List.getElem?_eq_getElem hi⟩
    obtain ⟨en, hen, hkey⟩ := ent i e0 hkv
    refine next_key_item st hgd hdt hsz hen fun h' st' sb => ?_
    have I1 : Inv X pins σ H { s with heap := h' } := I.turned (t' := s.toks) (fun b ob hb e => (sb.2 b hb).trans e) f0 f1 f3 f4 f5
    obtain ⟨oi, e, c, dd⟩ := id st'
    exact ⟨en.key, rfl, go_of (s := { s with heap := h' }) e c dd (by decide) ⟨.ref e0.2.1, H, I1, hkey, ⟨rfl, e0, hkv, rfl⟩, st', fun b hb => (hf b hb).1⟩⟩
  done := by
    intro X hP hw hK hc i pins s σ H E I hf st hg
    subst hP hw hK
    obtain ⟨hd, hi⟩ := hg
    obtain ⟨f0, f1, f2, f3, f4, f5⟩ := hf it (by simp)
    obtain ⟨hs, hgd, hx, es', ep', hdt, hsz, ent⟩ := frzN rfl I hd
    obtain ⟨rfl, rfl⟩ := dict_ep hod hdt
    exact next_key_end (I.ok.hd hc) st hgd hdt hsz hi fun h' eb => ⟨rfl, I.turned (t' := s.toks) (fun b ob hb e => eb b ob hb e) f0 f1 f3 f4 f5⟩
  self := fun A i s Q E st h => by
    refine wpAny_pyIter_slot st.typeIs F.slot_dict_keyiterator_iter (wpAny_call_entry F.slot_dict_keyiterator_iter st.typeIs F.entry_dict_keyiterator_iter ?_ (F.args_dict_keyiterator_iter_1 _))
    show wpAny _ _ (ret (.ref it)) _ _ s
    exact wpAny_pure ⟨_, rfl, "dict_keyiterator", _, st.typeIs, F.slot_dict_keyiterator_next.lookup, h⟩
end
def iNKeys (w : World) (td : TE) : TI := fun σ H R => td σ H fun x H1 => ∃ d o es, x = .ref d ∧ H1 d = some (.frz o (ndO w d es)) ∧ R (Itn w d o es) H1
theorem pi_nkeys {X : Cx} {tg e : Expr} {td : TE} (w : World) (he : PE X e td) (h : X.w = w := by rfl) : PI X tg e (iNKeys w td) := by
  subst h
  refine ⟨fun pins s σ H R I h => ?_⟩
  refine thn (he.run pins s σ H _ I h) fun u s1 ⟨x, H1, I1, rx, d, o, ens, ex, hd, q⟩ => ?_
  subst ex
  obtain rfl : u = Value.ref d := rx
  obtain ⟨hs, hgd, hx, es, ep, hdt, hsz, ent⟩ := frzN rfl I1 hd
  refine iter_keys hs hgd hx hdt (pi_one (tk := s1.toks) I1 _ (turn_keysN _ hdt) ⟨_, Heap.get?_push_size _ rfl, rfl, ?_⟩ q)
  rw [hsz] <;> rfl
end Hy
set_option Elab.async false
set_option linter.all false
set_option maxRecDepth 100000
set_option maxHeartbeats 4000000
namespace Hy
open PySem PySem.Spec PyProof.Rows L2
/-! more rules over dicts with nested keys; list(text), sum(tuple), text.index -/
section
variable {w : World} {en : Array DictEntry} {xs : List (NestedKey × Addr × Value)} {es : List NE}
theorem ent_at (he : en.toList = xs.map (entN w)) (r : NX es xs) {j : Nat} {d : DictEntry} (hd : en[j]? = some d) : ∃ e, es[j]? = some e ∧ d.key = .ref e.2.1 := by
  rw [← Array.getElem?_toList, he, List.getElem?_map] at hd
  cases hx : xs[j]? with
  | none =>
    rw [hx] at hd
    cases hd
  | some x =>
    rw [hx] at hd
    cases hd
    have hl : es.length = xs.length := Paired.length r
    have hj : j < es.length := by
      rw [hl]
      exact (List.getElem?_eq_some_iff.mp hx).1
    obtain ⟨b, hb, _, e2, _⟩ := paired_get r (List.getElem?_eq_getElem hj)
    rw [hx] at hb
    cases hb
    exact ⟨_, List.getElem?_eq_getElem hj, by rw [e2]; rfl⟩
theorem keys_of_items (he : en.toList = xs.map (entN w)) (r : NX es xs) {acc : Array Value} (hacc : ItemsOf (fun i v => ∃ d : DictEntry, en[i]? = some d ∧ v = d.key) acc en.size) : acc.toList = es.map fun e => Value.ref e.2.1 := by
  have hl : es.length = xs.length := Paired.length r
  have hz : en.size = xs.length := by rw [← Array.length_toList, he, List.length_map]
  apply List.ext_getElem?
  intro j
  rw [List.getElem?_map]
  cases hj : acc.toList[j]? with
  | none =>
    have h1 := List.getElem?_eq_none_iff.mp hj
    rw [Array.length_toList, hacc.1] at h1
    rw [List.getElem?_eq_none (by omega)]
    rfl
  | some v =>
    obtain ⟨d, hd, hv⟩ := hacc.2 j v (by rw [← Array.getElem?_toList]; exact hj)
    obtain ⟨e, q, hk⟩ := ent_at he r hd
    rw [q, hv, hk]
    rfl
end
theorem vals_keys : ∀ es : List NE, Vals (es.map fun e => V.ref e.2.1) (es.map fun e => Value.ref e.2.1)
  | [] => .nil
  | _ :: r => .cons rfl (vals_keys r)
def rListN (w : World) : List V → Hp → VK → Prop := fun vs H Q => ∃ d es, vs = [V.ref d] ∧ ND w H d es ∧ ∀ p, H p = none → Q (.ref p) (upd H p (.lst (es.map fun e => .ref e.2.1)))
def rListS : List V → Hp → VK → Prop := fun vs H Q => ∃ x : Str, vs = [V.str x] ∧ x.cps.size ≤ sizeLine ∧ ∀ p, H p = none → Q (.ref p) (upd H p (.lst (x.cps.toList.map fun c => .str ⟨#[c]⟩)))
def rSumT (K : PySem.W.Frag) : List V → Hp → VK → Prop := fun vs H Q => ∃ (a : Addr) (ns : List Int), vs = [V.ref a] ∧ SqT K H a (ns.map V.int) ∧ Q (.int ns.sum) H
def rSortedN (w : World) : List V → Hp → VK → Prop := fun vs H Q => ∃ d es, vs = [V.ref d] ∧ ND w H d es ∧ PySem.W.AllAlike (es.map fun e => e.1.data) ∧ PySem.W.Sortable (es.map fun e => e.1.data) ∧ (∀ e ∈ es, e.1.data.depth ≤ 100) ∧
  ∀ p, H p = none → Q (.ref p) (upd H p (.lst ((es.mergeSort (PySem.W.dataLe false fun e => e.1.data)).map fun e => .ref e.2.1)))
def rIsiN (w : World) (K : PySem.W.Frag) : List V → Hp → VK → Prop := fun xs H Q => ∃ (a : Addr) (es : List NE) (c : V) (u : Value) (b : Bool), xs = [.ref a, c] ∧ ND w H a es ∧ ClsV c u ∧ PySem.W.kitOne K (.type "dict") u = some b ∧ Q (.bl b) H
def rIsiTN (w : World) (K : PySem.W.Frag) : List V → Hp → VK → Prop := fun xs H Q => ∃ (a tp : Addr) (es : List NE) (cs : List V) (us : List Value) (b : Bool), xs = [.ref a, .ref tp] ∧ H tp = some (.tup cs) ∧ Paired ClsV cs us ∧ ND w H a es ∧ PySem.W.kitAny K (.type "dict") us = some b ∧ Q (.bl b) H
section
variable {X : Cx}
theorem callR_or {f : Value} {r1 r2 : List V → Hp → VK → Prop} (h1 : CallR X f r1) (h2 : CallR X f r2) : CallR X f (fun xs H Q => r1 xs H Q ∨ r2 xs H Q) := by
  intro pins s σ H xs us Q I r h
  rcases h with h | h
  · exact h1 pins s σ H xs us Q I r h
  · exact h2 pins s σ H xs us Q I r h
theorem call_list_nd (w : World) (hc : X.calm = true) (h : X.w = w := by rfl) : CallR X (.type "list") (rListN w) := by
  subst h
  intro pins s σ H vs us Q I r h
  obtain ⟨d, es, rfl, nd, q⟩ := h
  obtain ⟨u, rfl, rx⟩ := r.one
  cases rx
  obtain ⟨⟨z, hs, ks, pr, o, en, ep, ho, hx, hdt, he, hn⟩, _⟩ := (show ObjOk X.prog X.w H s.heap d (ndO X.w d es) from nd.rd.ok I.hok)
  have l1 : en.size = ks.length := by rw [← Array.length_toList, he, List.length_map]
  have l2 : es.length = ks.length := Paired.length pr
  refine PySem.W.kdl_call (kdl_raw hs hx hdt) (I.ok.hd hc) ho (by omega) fun h' tk acc' c' kp e it => ?_
  have ea := keys_of_items he pr it
  refine ⟨.ref s.heap.objs.size, _, I.laid (t' := tk) (o := .lst (es.map fun e => .ref e.2.1)) kp (Nat.le_refl _) ?_, rfl, q _ (I.hok.fresh (Nat.le_refl _))⟩
  exact ⟨by rw [List.length_map]; exact z, acc'.toList, c', by rw [ea]; exact vals_keys es, by rw [Array.toArray_toList]; exact e⟩
theorem call_list_s (hc : X.calm = true) : CallR X (.type "list") rListS := by
  intro pins s σ H vs us Q I r h
  obtain ⟨x, rfl, hz, q⟩ := h
  obtain ⟨u, rfl, t, rfl⟩ := r.one
  refine PySem.call_list_str (hn := hz) (I.ok.hd hc) x t fun h' tk acc' c' kp e it => ?_
  refine ⟨.ref s.heap.objs.size, _, I.laid (t' := tk) (o := .lst (x.cps.toList.map fun c => .str ⟨#[c]⟩)) kp (Nat.le_refl _) ⟨by rw [List.length_map, Array.length_toList]; exact hz, acc'.toList, c', ?_, by rw [Array.toArray_toList]; exact e⟩, rfl, q _ (I.hok.fresh (Nat.le_refl _))⟩
  refine vals_of_at (by rw [List.length_map, Array.length_toList, Array.length_toList, it.1]) fun j y v h1 h2 => ?_
  obtain ⟨c, t2, hcx, rfl⟩ := it.2 j v (by rw [← Array.getElem?_toList]; exact h2)
  rw [List.getElem?_map, Array.getElem?_toList, hcx] at h1
  cases h1
  exact ⟨t2, rfl⟩
theorem cr_sumT (hc : X.calm = true) : CallR X (.builtin "sum") (rSumT X.K) := by
  intro pins s σ H vs us Q I r h
  obtain ⟨a, ns, rfl, hs, q⟩ := h
  obtain ⟨its, rv, hl, _⟩ := I.tuple hs
  rw [Vals.ref1 r]
  obtain ⟨xs, e⟩ := rv.ints.allInts.items
  have hn : numsOf (intItems xs).toList = ns := by rw [← e]; exact rv.ints.numsOf
  rw [nums_intItems] at hn
  have hl' : s.heap.IsTuple a (intItems xs) := by rw [← e]; exact hl
  refine PySem.W.ktm_sumG (I.ok.hd hc) hl' fun h' tk t' hk => ?_
  rw [preSum_eq, List.take_of_length_le (by simp), hn]
  exact ⟨.int _, H, I.kept hk, ⟨_, rfl⟩, q⟩
theorem call_isiN (w : World) (h : X.w = w := by rfl) : CallR X (.builtin "isinstance") (rIsiN w X.K) := by
  subst h
  intro pins s σ H xs us Q I r h
  obtain ⟨a, es, c, u, b, rfl, nd, k, e, q⟩ := h
  obtain ⟨u1, u2, rfl, r1, r2⟩ := vals2 r
  cases (show u1 = Value.ref a from r1)
  have e2 := k.eq r2
  subst e2
  obtain ⟨⟨z, hs, ks, pr, o, en, ep, ho, hx, hdt, he, hn⟩, _⟩ := (show ObjOk X.prog X.w H s.heap a (ndO X.w a es) from nd.rd.ok I.hok)
  exact PySem.W.kia_one PySem.W.kitx_dict I.kIn ⟨o, ho, hx.1⟩ e (fun z => nomatch z) fun tk => ⟨.bl b, H, I.tok tk, rfl, q⟩
theorem call_isiTN (w : World) (h : X.w = w := by rfl) : CallR X (.builtin "isinstance") (rIsiTN w X.K) := by
  subst h
  intro pins s σ H xs us Q I r h
  obtain ⟨a, tp, es, cs, ws, b, rfl, hT, k, nd, e, q⟩ := h
  obtain ⟨u1, u2, rfl, r1, r2⟩ := vals2 r
  cases (show u1 = Value.ref a from r1)
  cases (show u2 = Value.ref tp from r2)
  obtain ⟨_, its, rv, o2, h1, h2, n, h3⟩ := (show ObjOk X.prog X.w H s.heap tp (.tup cs) from I.hok tp _ hT)
  have e3 := ClsV.all k rv
  subst e3
  obtain ⟨oc, od, dt, sl⟩ := o2
  simp only at h2 h3
  subst h2 h3
  obtain ⟨⟨z, hs, ks, pr, o, en, ep, ho, hx, hdt, he, hn⟩, _⟩ := (show ObjOk X.prog X.w H s.heap a (ndO X.w a es) from nd.rd.ok I.hok)
  exact PySem.W.kia_tup PySem.W.kitx_dict I.kIn ⟨o, ho, hx.1⟩ h1 e (fun z => nomatch z) fun tk => ⟨.bl b, H, I.tok tk, rfl, q⟩
theorem call_sortedN {k : Nat} (w : World) (hc : X.calm = true) (hr : Room k X.A) (h : X.w = w := by rfl) : CallR X (.builtin "sorted") (rSortedN w) := by
  subst h
  intro pins s σ H vs us Q I r h
  obtain ⟨d, es, rfl, nd, hal, hso, hde, q⟩ := h
  obtain ⟨u, rfl, rx⟩ := r.one
  cases rx
  obtain ⟨⟨z, hs, ks, pr, o, en, ep, ho, hx, hdt, he, hn⟩, _⟩ := (show ObjOk X.prog X.w H s.heap d (ndO X.w d es) from nd.rd.ok I.hok)
  have l1 : en.size = ks.length := by rw [← Array.length_toList, he, List.length_map]
  have l2 : es.length = ks.length := Paired.length pr
  refine Calls.call_function_entry PyProof.Rows.kind_sorted PyProof.Rows.plain_sorted PyProof.Rows.entry_sorted (PyProof.Rows.args_sorted1 _) ?_
  unfold Builtin.«sorted»
  refine wpAny_bind (m := checkCount "sorted" 1 1 _) (wpAny_pure ?_)
  refine wpAny_bind (PySem.W.kdu_collect (A := X.A.in1) (kdl_raw hs hx hdt) (I.ok.hd hc) ho (by omega) fun h' tk acc hk hacc => ?_)
  have ea := keys_of_items he pr hacc
  have hal' : acc.toList.length = es.length := by rw [ea, List.length_map]
  have I1 : Inv X pins σ H { s with heap := h', toks := tk } := I.kept hk
  refine wpAny_bind (wpAny_newList ?_ (by omega))
  have hoL : (h'.push (seqObj "list" acc.toList.toArray 0)).get? h'.objs.size = some (seqObj "list" acc.toList.toArray 0) := Heap.get?_push_size _ rfl
  show wpAny _ _ _ _ _ { s with heap := h'.push (seqObj "list" acc.toList.toArray 0), toks := tk }
  have I2 : Inv X pins σ H { s with heap := h'.push (seqObj "list" acc.toList.toArray 0), toks := tk } := I1.kept (t' := tk) fun b ob e => Heap.get?_push_of_some _ e
  have en0 : PySem.W.EachIs (fun (v : Value) (e : NE) => v = .ref e.2.1 ∧ e ∈ es) acc.toList es := by
    rw [ea]
    have main : ∀ l : List NE, (∀ e ∈ l, e ∈ es) → PySem.W.EachIs (fun (v : Value) (e : NE) => v = .ref e.2.1 ∧ e ∈ es) (l.map fun e => Value.ref e.2.1) l := by
      intro l
      induction l with
      | nil => intro _; exact .nil
      | cons e l ih => intro hl; exact .cons ⟨rfl, hl e List.mem_cons_self⟩ (ih fun x hx => hl x (List.mem_cons_of_mem _ hx))
    exact main es fun _ h => h
  have er : PySem.W.EachIs (fun (v : Value) (e : NE) => ∃ as, Reads (h'.push (seqObj "list" acc.toList.toArray 0)) v e.1.data as ∧ h'.objs.size ∉ as) acc.toList es := by
    refine en0.mono fun v e ⟨h1, h2⟩ => ?_
    subst h1
    obtain ⟨k1, _⟩ := nd.ks e h2
    obtain ⟨as, ra⟩ := Dp.reads I1 _ _ _ (NKv.dp (K := X.K) _ _ k1) (show RelV (.ref e.2.1) (.ref e.2.1) from rfl)
    refine ⟨as, PyProof.Rows.Reads.keeps (fun b ob e => Heap.get?_push_of_some _ e) ra, fun hm => ?_⟩
    obtain ⟨ob, hob⟩ := PyProof.On.reads_mem_get ra _ hm
    exact absurd (Heap.lt_size hob) (Nat.lt_irrefl _)
  refine wpAny_bind (wpAny_holding (PySem.W.list_sort_data (R := fun (v : Value) (e : NE) => v = .ref e.2.1 ∧ e ∈ es) (enc := fun e : NE => e.1.data) (s := { s with heap := h'.push (seqObj "list" acc.toList.toArray 0), toks := tk }) hoL en0 er hal hso (by omega) (fun b hb => ?_) fun out hlo ho2 => ?_))
  · have := hr.un
    have := hde b hb
    rw [Around.in1_units]
    omega
  obtain ⟨e', he'⟩ := PyProof.Rows.sortedHeap_at (vs := acc.toList) (out := out.toArray) hoL
  refine wpAny_pure ⟨_, rfl, .ref h'.objs.size, upd H h'.objs.size (.lst ((es.mergeSort (PySem.W.dataLe false fun e => e.1.data)).map fun e => .ref e.2.1)), I1.laid (t' := tk) (fun b u e => ?_) (Nat.le_refl _)
    ⟨?_, out, e', ?_, he'⟩, rfl, q _ (I1.hok.fresh (Nat.le_refl _))⟩
  · have hb : b < h'.objs.size := Heap.lt_size e
    rw [PyProof.Rows.sortedHeap_old (Nat.ne_of_lt hb) (by rw [size_push']; exact Nat.lt_succ_of_lt hb)]
    exact Heap.get?_push_of_some _ e
  · rw [List.length_map, List.length_mergeSort]
    exact z
  · have main : ∀ {us : List Value} {l : List NE}, PySem.W.EachIs (fun (v : Value) (e : NE) => v = .ref e.2.1 ∧ e ∈ es) us l → Vals (l.map fun e => V.ref e.2.1) us := by
      intro us l hh
      induction hh with
      | nil => exact .nil
      | cons a _ ih => exact .cons a.1 ih
    exact main ho2
end
end Hy
set_option Elab.async false
set_option linter.all false
set_option maxRecDepth 100000
set_option maxHeartbeats 4000000
namespace Hy
open PySem PySem.Spec PyProof.Rows L2
/-! == of dicts with nested keys (equal ones), != of tuples of such, d.clear(), d != {}, dict(zip(xs, ys)) -/
section
variable {prog : Program} {w : World} {K : Type} [DecidableEq K] {knd : HeapKind prog w K} {A : Around} {E : Value → Shared → Prop} {s : Shared}
theorem samePairsN {nm : String} {a b : Addr} {ka kb : List (K × Addr × Value)} {Q : Bool → Shared → Prop} (hu : knd.room A) (ha : (a == sysModules) = false) (hb : (b == sysModules) = false)
    (da : s.heap.DictOfH knd a ka) (db : s.heap.DictOfH knd b kb) (hl : ka.length = kb.length) (hits : ∀ p ∈ ka, ∃ q, atKey kb p.1 = some q ∧ SeqAt.EqP prog w A s p.2.2 q.2 true) (h : Q true s) :
    wpAny (model prog w) A (Builtin.Dict.samePairs nm a b) Q E s := by
  obtain ⟨oa, es, ep, hoa, _, hda, hea, hia, hna⟩ := da
  obtain ⟨ob, es', ep', hob, _, hdb, heb, hib, hnb⟩ := db
  have hla : es.size = ka.length := size_of_entries hea
  have hlb : es'.size = kb.length := size_of_entries heb
  have hsz : es.size = es'.size := by omega
  unfold Builtin.Dict.samePairs Builtin.Dict.showsAll
  rw [if_neg (show ¬ (a == sysModules) = true by rw [ha]; exact Bool.false_ne_true)]
  rw [if_neg (show ¬ (b == sysModules) = true by rw [hb]; exact Bool.false_ne_true)]
  refine wpAny_bind (wpAny_pure (wpAny_bind (wpAny_pure ?_)))
  refine wpAny_bind (wpAny_dictEntries hoa hda ?_)
  dsimp only
  refine wpAny_bind (wpAny_dictEntries hob hdb ?_)
  rw [if_neg (by rw [hsz]; simp)]
  refine wpAny_bind (wpAny_dictEpoch hoa hda ?_)
  refine wpAny_bind ?_
  rw [Std.Legacy.Range.forIn_eq_forIn_range']
  simp only [Std.Legacy.Range.size, Nat.sub_zero, Nat.add_sub_cancel, Nat.div_one]
  refine wpAny_forIn_list _ (fun rest q s' => s' = s ∧ q = (none, ()) ∧ ∃ i, rest = List.range' i (es.size - i) ∧ i ≤ es.size) _ ?_ ?_ _ _ ⟨rfl, rfl, 0, by simp, Nat.zero_le _⟩
  · rintro x rest q s' ⟨rfl, rfl, i, hr, hi⟩
    have hlt : i < es.size := by
      rcases Nat.lt_or_ge i es.size with h | h
      · exact h
      · rw [Nat.sub_eq_zero_of_le h] at hr; simp at hr
    obtain ⟨rfl, hrest⟩ : x = i ∧ rest = List.range' (i + 1) (es.size - (i + 1)) := by
      have e : es.size - i = (es.size - (i + 1)) + 1 := by omega
      rw [e, List.range'_succ] at hr
      injection hr with h1 h2
      exact ⟨h1, h2⟩
    refine wpAny_bind (wpAny_dictEntries hoa hda ?_)
    have hlt' : x < ka.length := by omega
    have hkv : ka[x]? = some ka[x] := List.getElem?_eq_getElem hlt'
    have hm : ka[x] ∈ ka := List.getElem_mem hlt'
    rw [entry_at hea x, hkv]
    obtain ⟨qv, hq, he⟩ := hits _ hm
    show wpAny _ _ (holding [.ref ka[x].2.1, ka[x].2.2] _ >>= _) _ _ _
    refine wpAny_bind (wpAny_holding (wpAny_bind (wpAny_dictFind_heap hu (hia _ hm) hob hdb heb hib hnb (fun hno => ?_) fun j p hj => ?_)))
    · unfold atKey at hq
      cases hf : kb.find? (fun x_1 => decide (x_1.1 = ka[x].1)) with
      | none => rw [hf] at hq; cases hq
      | some y =>
        have h1 := List.mem_of_find?_eq_some hf
        have h2 : y.1 = ka[x].1 := by simpa using List.find?_some hf
        obtain ⟨j, hj1, hj2⟩ := List.getElem_of_mem h1
        exact absurd (show kb[j]? = some (ka[x].1, y.2) by rw [List.getElem?_eq_getElem hj1, hj2, ← h2]) (hno j y.2)
    · have e1 : p = qv := Option.some.inj ((atKey_of_get hnb hj).symm.trans hq)
      subst e1
      refine wpAny_bind (wpAny_dictEntries hob hdb ?_)
      rw [entry_at heb j, hj]
      refine wpAny_holding (he _ _ ?_)
      show wpAny _ _ (if (!true) = true then _ else _) _ _ _
      rw [if_neg (by decide)]
      refine wpAny_bind (wpAny_dictEpoch hoa hda ?_)
      rw [if_neg (by simp)]
      exact wpAny_pure ⟨rfl, rfl, x + 1, hrest, hlt⟩
  · rintro q s' ⟨rfl, rfl, i, hr, hi⟩
    exact wpAny_pure h
theorem rcN_dicts {a b : Addr} {ka kb : List (K × Addr × Value)} (hr : knd.room A.in1) (ha : (a == sysModules) = false) (hb : (b == sysModules) = false)
    (da : s.heap.DictOfH knd a ka) (db : s.heap.DictOfH knd b kb) (hu : A.units < cLine) (hl : ka.length = kb.length) (hits : ∀ p ∈ ka, ∃ q, atKey kb p.1 = some q ∧ SeqAt.EqP prog w A.in1 s p.2.2 q.2 true) (E Q : Value → Shared → Prop) (h : Q (.bool true) s) :
    wpAny (model prog w) A (richCompare .Eq (.ref a) (.ref b)) Q E s := by
  refine wpAny_richCompare_same_room (op := .Eq) da.typeIs db.typeIs PySem.F.slot_dict_eq (wpAny_call_entry PySem.F.slot_dict_eq da.typeIs PySem.F.entry_dict_eq ?_ (PySem.F.args_dict_eq_2 _ _)) hu
  show wpAny _ _ (Builtin.Dict.dictSlotArgs "__eq__" ⟨[.ref a, .ref b], []⟩ >>= _) _ _ s
  refine wpAny_bind ?_
  unfold Builtin.Dict.dictSlotArgs
  refine wpAny_bind (wpAny_notOrdered_dict da.typeIs ?_)
  show wpAny _ _ (pure (Value.ref a, Value.ref b)) _ _ s
  refine wpAny_pure ?_
  refine wpAny_bind (wpAny_isInstance (T := "dict") db.typeIs PySem.F.sub_dict_dict ?_)
  simp only [Bool.not_true, Bool.false_eq_true, if_false]
  refine wpAny_bind (wpAny_pure (wpAny_bind (wpAny_pure ?_)))
  refine wpAny_bind (samePairsN hr ha hb da db hl hits ?_)
  exact wpAny_pure ⟨_, rfl, (fun x => nomatch x), h⟩
/-- two empty dicts: != -/
theorem rcN_nil {a b : Addr} (hr : knd.room A.in1) (ha : (a == sysModules) = false) (hb : (b == sysModules) = false) (da : s.heap.DictOfH knd a []) (db : s.heap.DictOfH knd b []) (hu : A.units < cLine) (E Q : Value → Shared → Prop) (h : Q (.bool false) s) :
    wpAny (model prog w) A (richCompare .NotEq (.ref a) (.ref b)) Q E s := by
  refine wpAny_richCompare_same_room (op := .NotEq) da.typeIs db.typeIs PySem.F.slot_dict_ne (wpAny_call_entry PySem.F.slot_dict_ne da.typeIs PySem.F.entry_dict_ne ?_ (PySem.F.args_dict_ne_2 _ _)) hu
  show wpAny _ _ (Builtin.Dict.dictSlotArgs "__ne__" ⟨[.ref a, .ref b], []⟩ >>= _) _ _ s
  refine wpAny_bind ?_
  unfold Builtin.Dict.dictSlotArgs
  refine wpAny_bind (wpAny_notOrdered_dict da.typeIs ?_)
  show wpAny _ _ (pure (Value.ref a, Value.ref b)) _ _ s
  refine wpAny_pure ?_
  refine wpAny_bind (wpAny_isInstance (T := "dict") db.typeIs PySem.F.sub_dict_dict ?_)
  simp only [Bool.not_true, Bool.false_eq_true, if_false]
  refine wpAny_bind (wpAny_pure (wpAny_bind (wpAny_pure ?_)))
  refine wpAny_bind (samePairsN hr ha hb da db rfl (fun p hp => (nomatch hp)) ?_)
  exact wpAny_pure ⟨_, rfl, (fun x => nomatch x), h⟩
/-- equal tuples: != -/
theorem tuple_neP (l b : Addr) (items items2 : Array Value) (n n2 : Nat) (dd dd2 : Option Addr) (sl sl2 : Array (Option Value)) :
    MeetsIn prog w (Builtin.«tuple.__ne__» ⟨[.ref l, .ref b], []⟩)
      (fun A R s => s.heap.get? l = some { cls := .type "tuple", dict := dd, data := .seq items n, slots := sl } ∧ s.heap.get? b = some { cls := .type "tuple", dict := dd2, data := .seq items2 n2, slots := sl2 } ∧ items.size = items2.size ∧
        (∀ j (h1 : j < items.size) (h2 : j < items2.size), SeqAt.EqP prog w A.in1 s items[j] items2[j] true) ∧ R (.ok (.ret (.bool false))) s) :=
  .of_wp fun A R s h => by
    obtain ⟨hp, g, d, tk, os⟩ := s; obtain ⟨hl, hb, hz, he, h⟩ := h
    have f2 := AutoSeq1.sub_tuple_tuple
    have hZ : (items.toList.zip items2.toList).length = min items.size items2.size := by simp
    wp_walk using wpAny_loadPart' hl, wpAny_loadPart' hb, wpAny_forIn_list _ (fun rest b s' => b.1 = none ∧ s' = ⟨hp, g, d, tk, os⟩ ∧ ∃ i, rest = (items.toList.zip items2.toList).drop i) _
    case turn =>
      rintro ⟨y, x⟩ rest b s' ⟨hb', rfl, i, hz2⟩
      have hlt : i < (items.toList.zip items2.toList).length := by
        rcases Nat.lt_or_ge i (items.toList.zip items2.toList).length with h' | h'
        · exact h'
        · rw [List.drop_of_length_le h'] at hz2; cases hz2
      have hm : i < min items.size items2.size := hZ ▸ hlt
      have h1 : i < items.size := Nat.lt_of_lt_of_le hm (Nat.min_le_left _ _)
      have h2 : i < items2.size := Nat.lt_of_lt_of_le hm (Nat.min_le_right _ _)
      rw [List.drop_eq_getElem_cons hlt] at hz2
      injection hz2 with hyx hrest
      have hy : y = items[i] := by have := congrArg Prod.fst hyx; simpa using this
      have hx : x = items2[i] := by have := congrArg Prod.snd hyx; simpa using this
      subst hy hx
      refine wpAny_bind (he i h1 h2 _ _ ?_)
      wp_walk
      exact ⟨rfl, rfl, i + 1, hrest⟩
    case fin =>
      rintro ⟨b1, b2⟩ s' ⟨hb', rfl, i, hz2⟩
      simp only at hb'
      subst hb'
      wp_walk
      exact ⟨_, rfl, by simpa [Builtin.Tuple.tupleCompareSizes, bne, hz] using h⟩
    case h =>
      exact ⟨rfl, rfl, 0, rfl⟩
theorem rcNeP_tuples {l b : Addr} {items items2 : Array Value} (hl : s.heap.IsTuple l items) (hb : s.heap.IsTuple b items2) (hz : items.size = items2.size) (hu : A.units < cLine)
    (he : ∀ j (h1 : j < items.size) (h2 : j < items2.size), SeqAt.EqP prog w A.in1 s items[j] items2[j] true) (E Q : Value → Shared → Prop) (h : Q (.bool false) s) : wpAny (model prog w) A (richCompare .NotEq (.ref l) (.ref b)) Q E s := by
  obtain ⟨⟨cls, dd, data, sl⟩, ho, hc, n, hd⟩ := id hl
  obtain ⟨⟨cls2, dd2, data2, sl2⟩, ho2, hc2, n2, hd2⟩ := id hb
  simp only at hc hd hc2 hd2
  subst hc hd hc2 hd2
  exact wpAny_richCompare_same_room (T := "tuple") (op := .NotEq) ⟨_, ho, rfl⟩ ⟨_, ho2, rfl⟩ PySem.F.slot_tuple_ne (call_meetsIn PySem.F.slot_tuple_ne ⟨_, ho, rfl⟩ PySem.F.entry_tuple_ne (PySem.F.args_tuple_ne_2 _ _) (tuple_neP l b items items2 n n2 dd dd2 sl sl2)
    ⟨ho, ho2, hz, he, show Value.bool false ≠ Value.notImplemented ∧ Q (.bool false) s from ⟨(fun x => nomatch x), h⟩⟩) hu
end
/-- two dicts with the same entries, their values the same ints -/
def SameT (es fs : List NE) : Prop := es.length = fs.length ∧ ∀ e ∈ es, ∃ i : Int, e.2.2 = .int i ∧ atN fs e.1 = some (.int i)
/-- equal items: data, or such dicts -/
def EqI (w : World) (K : PySem.W.Frag) (H : Hp) (x y : V) : Prop := (∃ d : PyData, d.plain = true ∧ d.depth ≤ 60 ∧ Dp K H x d ∧ Dp K H y d) ∨ ∃ a b es fs, x = .ref a ∧ y = .ref b ∧ ND w H a es ∧ ND w H b fs ∧ SameT es fs
def rNeT (w : World) (K : PySem.W.Frag) : R2 := fun x y H Q => ∃ a b xs ys, x = .ref a ∧ y = .ref b ∧ SqT K H a xs ∧ SqT K H b ys ∧ Paired (EqI w K H) xs ys ∧ Q (.bl false) H
section
variable {X : Cx} {pins : List (Addr × Obj)} {σ : L2.St} {H : Hp} {s : Shared} {k : Nat}
theorem eqI_run (I : Inv X pins σ H s) (hr : Room k X.A) {A : Around} (hA : A.units ≤ X.A.units + 6) {x y : V} {v u : Value} (h : EqI X.w X.K H x y) (rx : RelV x v) (ry : RelV y u) : SeqAt.EqP X.prog X.w A s v u true := by
  have hun := hr.un
  rcases h with ⟨d, pd, dd, h1, h2⟩ | ⟨a, b, es, fs, rfl, rfl, n1, n2, hl, hs⟩
  · obtain ⟨as, r1⟩ := Dp.reads I d x v h1 rx
    obtain ⟨bs, r2⟩ := Dp.reads I d y u h2 ry
    have q := SeqAt.eqAt_plain d d A s v u as bs r1 r2 pd pd (by omega)
    rw [SeqAt.eqv_refl_plain d pd] at q
    exact q.eqP
  · cases (show v = Value.ref a from rx)
    cases (show u = Value.ref b from ry)
    by_cases e : a = b
    · subst e
      exact (SeqAt.EqAt.same _).eqP
    refine SeqAt.eqP_refs e fun E Q q => ?_
    obtain ⟨_, ya, xs, ra, da⟩ := nd_of I.hok n1
    obtain ⟨_, yb, ys, rb, db⟩ := nd_of I.hok n2
    refine rcN_dicts (knd := nestedKind X.prog X.w) (show A.in1.units + 8 < cLine by rw [Around.in1_units]; omega) ya yb da db (by omega) (by rw [← ra.length, ← rb.length]; exact hl) (fun p hp => ?_) E Q q
    obtain ⟨j, hj1, hj2⟩ := List.getElem_of_mem hp
    have hj3 : j < es.length := by rw [ra.length]; exact hj1
    obtain ⟨p2, hp2, e1, e2, e3⟩ := paired_get ra (List.getElem?_eq_getElem hj3)
    rw [List.getElem?_eq_getElem hj1, hj2] at hp2
    cases hp2
    obtain ⟨i, hi1, hi2⟩ := hs _ (List.getElem_mem hj3)
    have rr := rb.val p.1
    rw [← e1, hi2] at rr
    obtain ⟨w', hw, rw'⟩ := RelO.some_of rr
    obtain ⟨q2, hq2, e4⟩ := Option.map_eq_some_iff.mp hw
    refine ⟨q2, by rw [← e1]; exact hq2, ?_⟩
    rw [e4]
    rw [hi1] at e3
    obtain ⟨t1, ht1⟩ := e3
    obtain ⟨t2, ht2⟩ := rw'
    rw [ht1, ht2]
    have q3 := SeqAt.EqAt.int_int (A := A.in1) (s := s) i t1 i t2
    rw [beq_self_eq_true] at q3
    exact q3.eqP
theorem op_neT (w : World) (hr : Room k X.A) (h : X.w = w := by rfl) : OpR X (compareOp .NotEq) (rNeT w X.K) := by
  subst h
  intro pins s σ H x y v u Q I rx ry h
  obtain ⟨a, b, xs, ys, rfl, rfl, ha, hb, hp, q⟩ := h
  cases (show v = Value.ref a from rx)
  cases (show u = Value.ref b from ry)
  obtain ⟨us, r1, p1, _⟩ := I.tuple ha
  obtain ⟨ws, r2, p2, _⟩ := I.tuple hb
  have hun := hr.un
  have hl : us.length = ws.length := by rw [← r1.length, ← r2.length]; exact Paired.length hp
  refine rcNeP_tuples (prog := X.prog) (w := X.w) p1 p2 (by simpa using hl) (by omega) (fun j h1 h2 => ?_) _ _ ⟨.bl false, H, I, rfl, q⟩
  have k := items_run (F := EqI X.w X.K H) (A := X.A.in1) (s := s) (fun x y v u e rx ry => eqI_run I hr (by rw [Around.in1_units]; omega) e rx ry) hp r1 r2 j (by simpa using h1) (by simpa using h2)
  simpa using k
end
/-! ### d.clear() -/
def tNClear (w : World) (td : TE) : TE := fun σ H Q => td σ H fun x H1 => ∃ a es, x = .ref a ∧ H1 a = some (ndO w a es) ∧ Q .non (upd H1 a (ndO w a []))
theorem pe_nclear {X : Cx} {o : Expr} {td : TE} {apos cpos : Pos} (w : World) (ho : PE X o td) (hbase : attributeBase o "clear" X.env (eval o X.env) = eval o X.env := by rfl) (hline : (apos.endLine == cpos.line) = true := by rfl) (h : X.w = w := by rfl) :
    PE X (.Call (.Attribute o "clear" apos) [] [] cpos) (tNClear w td) := by
  subst h
  refine ⟨fun pins s σ H Q I h => ?_⟩
  refine wpAny_Call_method0_late hbase hline (thn (ho.run pins s σ H _ I h) fun v s1 ⟨x, H1, I1, rx, a, es, ex, ha, q1⟩ => ?_)
  subst ex
  cases (show v = Value.ref a from rx)
  obtain ⟨⟨z, hs, ks, pr, ob, en, ep, hob, hx, hdt, he, hn⟩, _⟩ := (show ObjOk X.prog X.w H1 s1.heap a (ndO X.w a es) from I1.hok a _ ha)
  have l1 : en.size = ks.length := by rw [← Array.length_toList, he, List.length_map]
  have l2 : es.length = ks.length := Paired.length pr
  refine ⟨"dict", "dict.clear", PySem.F.plainAttrs_dict, PySem.F.slot_dict_clear, PySem.F.type_dict_clear, ⟨ob, hob, hx.1⟩, fun b e => ?_, Calls.callWith_builtin rfl (PySem.evalArgs_none ?_)⟩
  · cases e
    exact ⟨ob, hob, hx.2.1⟩
  · refine call_meetsIn PySem.F.slot_dict_clear ⟨ob, hob, hx.1⟩ PySem.F.entry_dict_clear (PySem.F.args_dict_clear_1 _) (meets_dict_clear_raw a) ⟨en, ep, ⟨ob, hob, hx, hdt⟩, by omega, fun h' hr' hsb => ?_⟩
    obtain ⟨o2, g1, g2, g3⟩ := hr'
    refine ⟨.non, _, d_write (t' := s1.toks) I1 (by rw [ha]; exact True.intro) hsb ⟨o2, g1⟩ (nd_mk (P := X.prog) (Nat.zero_le _) hs .nil ⟨o2, _, _, g1, g2, g3, rfl, (fun x hx => (nomatch hx)), List.nodup_nil⟩), rfl, q1⟩
/-! ### d != {} of an empty d -/
def tNeNew (w : World) (td : TE) : TE := fun σ H Q => td σ H fun x H1 => ∃ a, x = .ref a ∧ ND w H1 a [] ∧ Q (.bl false) H1
theorem pc_neNew {X : Cx} {o : Expr} {td : TE} {p2 : Pos} {k : Nat} (w : World) (hr : Room k X.A) (ho : PE X o td) (h : X.w = w := by rfl) : PC X .NotEq o (.Dict [] [] p2) (tNeNew w td) := by
  subst h
  refine ⟨fun pins s σ H Q I h => ?_⟩
  have hun := hr.un
  refine thn (ho.run pins s σ H _ I h) fun v s1 ⟨x, H1, I1, rx, a, ex, nd, q1⟩ => ?_
  subst ex
  cases (show v = Value.ref a from rx)
  refine wpAny_Dict_empty ?_
  have I2 : Inv X pins σ H1 { s1 with heap := s1.heap.push { cls := .type "dict", data := .dict #[] } } := I1.kept (t' := s1.toks) fun b u z => Heap.get?_push_of_some _ z
  obtain ⟨_, ya, xs, ra, da⟩ := nd_of I2.hok nd
  cases ra
  exact rcN_nil (knd := nestedKind X.prog X.w) (show X.A.in1.units + 8 < cLine by rw [Around.in1_units]; omega) ya (beq_eq_false_iff_ne.mpr (Ne.symm (Nat.ne_of_lt I1.big))) da (Heap.DictOfH.new s1.heap) (by omega) _ _ ⟨.bl false, H1, I2, rfl, q1⟩
/-! ### dict(zip(xs, ys)) of unlike keys -/
def foldN (acc es : List NE) : List NE := es.foldl (fun l e => putN l e.1 e.2.1 e.2.2) acc
theorem NX.fold : ∀ {es acc : List NE} {xs ys : List (NestedKey × Addr × Value)}, NX acc ys → NX es xs → NX (foldN acc es) (storedAllH ys xs) := by
  intro es acc xs ys h r
  induction r generalizing acc ys with
  | nil => exact h
  | @cons p q ps qs a _ ih =>
    obtain ⟨a1, a2, a3⟩ := a
    have e : NX (putN acc p.1 p.2.1 p.2.2) (storedH ys q.1 q.2.1 q.2.2) := by
      rw [← a1, ← a2]
      exact NX.put h p.1 a3
    exact ih e
theorem NKeys.fold {H : Hp} : ∀ {es acc : List NE}, NKeys H acc → NKeys H es → NKeys H (foldN acc es) := by
  intro es
  induction es with
  | nil => intro acc h _; exact h
  | cons e es ih =>
    intro acc h g
    exact ih (h.put (g e List.mem_cons_self).1 (g e List.mem_cons_self).2) fun x hx => g x (List.mem_cons_of_mem _ hx)
theorem foldN_len : ∀ (es acc : List NE), (foldN acc es).length ≤ acc.length + es.length
  | [], acc => Nat.le_refl _
  | e :: es, acc => by
    have h1 := foldN_len es (putN acc e.1 e.2.1 e.2.2)
    have h2 := length_putN acc e.1 e.2.1 e.2.2
    show (foldN (putN acc e.1 e.2.1 e.2.2) es).length ≤ _
    rw [List.length_cons]
    omega
theorem atN_none {k : NestedKey} : ∀ {es : List NE}, k ∉ es.map (·.1) → atN es k = none
  | [], _ => rfl
  | e :: es, h => by
    rw [List.map_cons, List.mem_cons, not_or] at h
    rw [atN_neg (Ne.symm h.1)]
    exact atN_none h.2
theorem foldN_new : ∀ (es acc : List NE), ((acc ++ es).map (·.1)).Nodup → foldN acc es = acc ++ es
  | [], acc, _ => by simp [foldN]
  | e :: es, acc, h => by
    have hn : e.1 ∉ acc.map (·.1) := by
      rw [List.map_append, List.nodup_append] at h
      exact fun hm => h.2.2 _ hm e.1 (by simp) rfl
    show foldN (putN acc e.1 e.2.1 e.2.2) es = _
    rw [putN_new _ _ (atN_none hn), foldN_new es _ (by simpa using h)]
    simp
def tDictZip (w : World) (K : PySem.W.Frag) (ta : TA) : TE := fun σ H Q => ta σ H fun vs H1 => ∃ (a b : Addr) (es : List NE), vs = [V.ref a, V.ref b] ∧ SqL K H1 a (es.map fun e => .ref e.2.1) ∧ SqL K H1 b (es.map fun e => e.2.2) ∧ NKeys H1 es ∧
  ∀ p, H1 p = none → Q (.ref p) (upd H1 p (ndO w p (foldN [] es)))
theorem pe_dictZip {X : Cx} {e e2 : Expr} {ta : TA} {p p2 pos pos2 : Pos} {k : Nat} (w : World) (hr : Room k X.A) (hc : X.calm = true) (hm : X.mg "dict" = none) (hmz : X.mg "zip" = none) (ha : PA X [e, e2] ta) (hg : Gl X "dict" := by rfl) (hgz : Gl X "zip" := by rfl)
    (hs : starEach [e, e2] X.env = (false, eval e X.env) :: starEach [e2] X.env := by rfl) (hpl : (backTo pos2 (starEach [e2] X.env)).any (·.1) = false := by rfl)
    (hs1 : starEach [Expr.Call (.Name "zip" p2) [e, e2] [] pos2] X.env = [(false, eval (Expr.Call (.Name "zip" p2) [e, e2] [] pos2) X.env)] := by rfl)
    (hb1 : backTo pos (starEach [Expr.Call (.Name "zip" p2) [e, e2] [] pos2] X.env) = [(false, eval (Expr.Call (.Name "zip" p2) [e, e2] [] pos2) X.env)] := by rfl) (h : X.w = w := by rfl) :
    PE X (.Call (.Name "dict" p) [.Call (.Name "zip" p2) [e, e2] [] pos2] [] pos) (tDictZip w X.K ta) := by
  subst h
  refine ⟨fun pins s σ H Q I h => ?_⟩
  have hun := hr.un
  refine Call_ (ld_blt I hg hm (show bootBuiltins "dict" = some (.type "dict") by decide +kernel) (PyProof.Rows.callWith_type1 ?_ hs1 rfl))
  rw [hb1]
  refine Calls.spliced_cons (Call_ (ld_blt I hgz hmz PyProof.Rows.boot_zip (PyProof.Rows.callWith_type1 (thn (ha.run pos2 pins s σ H _ I h) fun us s1 ⟨vs, H1, I1, r1, q1⟩ => ?_) hs hpl)))
  obtain ⟨a, b, es, rfl, hqx, hqy, ks, q⟩ := q1
  cases r1 with
  | cons r rr =>
    cases rr with
    | cons r' rr =>
      cases rr
      cases r
      cases r'
      obtain ⟨its, rv, p1, hz1⟩ := I1.list hqx
      obtain ⟨its2, rv2, p2', _⟩ := I1.list hqy
      have la : a < s1.heap.objs.size := p1.lt
      have lb : b < s1.heap.objs.size := p2'.lt
      refine call_zip_2 p1.isList p2'.isList fun h' hz hTI hTO h1 h2 hsz hk => Calls.spliced_nil ?_
      have I2 : Inv X pins σ H1 { s1 with heap := h' } := I1.kept (t' := s1.toks) hk
      have l1 : es.length = its.length := by have := rv.length; rw [List.length_map] at this; exact this
      have l2 : es.length = its2.length := by have := rv2.length; rw [List.length_map] at this; exact this
      have hx : ∃ xs : List (NestedKey × Addr × Value), NX es xs ∧ xs.length = es.length ∧ ∀ (i : Nat) (key v : Value), its.toArray[i]? = some key → its2.toArray[i]? = some v → ∃ (k : NestedKey) (b : Addr), xs[i]? = some (k, b, v) ∧ key = Value.ref b := by
        have main : ∀ (es : List NE) (its its2 : List Value), Vals (es.map fun e => V.ref e.2.1) its → Vals (es.map fun e => e.2.2) its2 → ∃ xs : List (NestedKey × Addr × Value), NX es xs ∧ xs.length = es.length ∧
            ∀ (i : Nat) (key v : Value), its[i]? = some key → its2[i]? = some v → ∃ (k : NestedKey) (b : Addr), xs[i]? = some (k, b, v) ∧ key = Value.ref b := by
          intro es
          induction es with
          | nil =>
            intro its its2 h1 h2
            cases h1
            exact ⟨[], .nil, rfl, fun i key v h1 _ => by simp at h1⟩
          | cons e es ih =>
            intro its its2 h1 h2
            rw [List.map_cons] at h1 h2
            cases h1 with
            | cons a1 b1 =>
              cases h2 with
              | @cons _ u2 _ _ a2 b2 =>
                obtain ⟨xs, n1, n2, n3⟩ := ih _ _ b1 b2
                cases a1
                refine ⟨(e.1, e.2.1, u2) :: xs, .cons ⟨rfl, rfl, a2⟩ n1, by simp [n2], fun i key v h1 h2 => ?_⟩
                cases i with
                | zero =>
                  simp only [List.getElem?_cons_zero, Option.some.injEq] at h1 h2
                  subst h1 h2
                  exact ⟨_, _, rfl, rfl⟩
                | succ i =>
                  simp only [List.getElem?_cons_succ] at h1 h2 ⊢
                  exact n3 i key v h1 h2
        obtain ⟨xs, n1, n2, n3⟩ := main es its its2 rv rv2
        exact ⟨xs, n1, n2, fun i key v h1 h2 => n3 i key v (by simpa using h1) (by simpa using h2)⟩
      obtain ⟨xs, nx, nl, nr⟩ := hx
      have hkeys : xs.map (·.1) = es.map (·.1) := by
        have main : ∀ {es : List NE} {xs : List (NestedKey × Addr × Value)}, NX es xs → xs.map (·.1) = es.map (·.1) := by
          intro es xs n
          induction n with
          | nil => rfl
          | cons h _ ih => rw [List.map_cons, List.map_cons, ih, h.1]
        exact main nx
      have his : ∀ (h2 : Heap), HOk X.prog X.w H1 h2 → ∀ x ∈ xs, (nestedKind X.prog X.w).is h2 x.1 x.2.1 := fun h2 ok x hx => by
        obtain ⟨e, he, e1, e2⟩ := nx.keys x hx
        obtain ⟨k1, k2⟩ := ks e he
        rw [e1, e2] at k1
        rw [e1] at k2
        exact ⟨NKv.is ok _ _ _ k1 rfl, k2⟩
      refine call_dict_pairsH (knd := nestedKind X.prog X.w) (ps := xs) (PairArg.zip (s1.heap.objs.size + 4) (s1.heap.objs.size + 2) (s1.heap.objs.size + 3) s1.heap.objs.size (s1.heap.objs.size + 1) a b (PySem.W.ktu_apart s1.heap.objs.size a b la lb) its.toArray its2.toArray) (I.ok.hd hc)
        (show X.A.in1.in1.units + 8 < cLine by rw [Around.in1_units, Around.in1_units]; omega) ⟨hz, hTI, ⟨_, _, hTO⟩, h1, h2, p1.isList.at (fun o e => hk _ o e), p2'.isList.at (fun o e => hk _ o e)⟩
        ⟨by rw [nl, List.size_toArray, List.size_toArray]; omega, fun i key v hr => nr i key v hr.1 hr.2⟩ (fun h2 hk2 x hx => ?_) (by rw [List.size_toArray, List.size_toArray]; rw [List.length_map] at hz1; omega) fun h2 tk hd2 hk2 => ?_
      · obtain ⟨e, he, e1, e2⟩ := nx.keys x hx
        obtain ⟨k1, k2⟩ := ks e he
        rw [e1, e2] at k1
        rw [e1] at k2
        refine ⟨NestedIs.at (fun c o vs n hc _ => hk2 c o (Nat.ne_of_lt (Heap.lt_size (hk _ _ hc))) (fun hm => ?_) (hk _ _ hc)) _ _ (NKv.is I1.hok _ _ _ k1 rfl), k2⟩
        have hlt : c < s1.heap.objs.size := Heap.lt_size hc
        simp only [List.mem_cons, List.not_mem_nil, or_false] at hm
        rcases hm with z | z | z | z <;> (rw [z] at hlt; first | exact absurd hlt (Nat.lt_irrefl _) | exact absurd hlt (Nat.not_lt.mpr (Nat.le_add_right _ _)))
      · have hle : s1.heap.objs.size ≤ h'.objs.size := by omega
        have hfl := foldN_len es []
        refine ⟨.ref h'.objs.size, _, I1.laid (t' := tk) (o := ndO X.w h'.objs.size (foldN [] es)) (fun c o hc => hk2 c o (fun hm => ?_) (hk _ _ hc)) hle (nd_mk (P := X.prog) (by rw [List.length_map] at hz1; simp at hfl; omega) (beq_eq_false_iff_ne.mpr (fun z => ?_)) (NX.fold .nil nx) hd2), rfl, q _ (I1.hok.fresh hle)⟩
        · have hlt : c < s1.heap.objs.size := Heap.lt_size hc
          simp only [List.mem_cons, List.not_mem_nil, or_false] at hm
          rcases hm with z | z | z | z <;> (rw [z] at hlt; first | exact absurd hlt (Nat.lt_irrefl _) | exact absurd hlt (Nat.not_lt.mpr (Nat.le_add_right _ _)))
        · rw [z] at hle
          exact absurd I1.big (Nat.not_lt.mpr hle)
end Hy
set_option Elab.async false
set_option linter.all false
set_option maxRecDepth 100000
set_option maxHeartbeats 4000000
namespace Hy
open PySem L2
/-! plain judges -/
def rowsL (m : Nat) : Nat → List (List Nat)
  | 0 => [[]]
  | s + 1 => (rowsL m s).flatMap fun r => (List.range m).map fun c => r ++ [c]
theorem flatMap_len {α β : Type} (f : α → List β) (n : Nat) : ∀ l : List α, (∀ x ∈ l, (f x).length = n) → (l.flatMap f).length = l.length * n
  | [], _ => by simp
  | x :: l, h => by
    rw [List.flatMap_cons, List.length_append, flatMap_len f n l (fun y hy => h y (List.mem_cons_of_mem _ hy)), h x List.mem_cons_self, List.length_cons, Nat.succ_mul, Nat.add_comm]
theorem rowsL_len (m : Nat) : ∀ s, (rowsL m s).length = m ^ s
  | 0 => rfl
  | s + 1 => by
    rw [rowsL, flatMap_len _ m _ (fun x _ => by simp), rowsL_len m s, Nat.pow_succ]
theorem rowsL_mem {m : Nat} : ∀ {s : Nat} {r : List Nat}, r ∈ rowsL m s ↔ r.length = s ∧ ∀ c ∈ r, c < m
  | 0, r => by
    rw [rowsL, List.mem_singleton]
    constructor
    · rintro rfl
      exact ⟨rfl, fun c hc => nomatch hc⟩
    · rintro ⟨h, _⟩
      exact List.length_eq_zero_iff.mp h
  | s + 1, r => by
    rw [rowsL, List.mem_flatMap]
    constructor
    · rintro ⟨q, hq, hr⟩
      obtain ⟨c, hc, rfl⟩ := List.mem_map.mp hr
      obtain ⟨h1, h2⟩ := rowsL_mem.mp hq
      refine ⟨by rw [List.length_append, h1]; rfl, fun d hd => ?_⟩
      rcases List.mem_append.mp hd with hd | hd
      · exact h2 d hd
      · rw [List.mem_singleton.mp hd]
        exact List.mem_range.mp hc
    · rintro ⟨h1, h2⟩
      rcases List.eq_nil_or_concat r with e | ⟨q, c, e⟩
      · rw [e] at h1
        cases h1
      · rw [List.concat_eq_append] at e
        subst e
        refine ⟨q, rowsL_mem.mpr ⟨by simpa using h1, fun d hd => h2 d (List.mem_append_left _ hd)⟩, List.mem_map.mpr ⟨c, List.mem_range.mpr (h2 c (by simp)), rfl⟩⟩
theorem nodup_flatMap' {α β : Type} (f : α → List β) : ∀ l : List α, l.Nodup → (∀ x ∈ l, (f x).Nodup) → (∀ x ∈ l, ∀ y ∈ l, x ≠ y → ∀ z ∈ f x, z ∉ f y) → (l.flatMap f).Nodup
  | [], _, _, _ => List.nodup_nil
  | x :: l, hn, h1, h2 => by
    rw [List.flatMap_cons, List.nodup_append]
    have hx := List.nodup_cons.mp hn
    refine ⟨h1 x List.mem_cons_self, nodup_flatMap' f l hx.2 (fun y hy => h1 y (List.mem_cons_of_mem _ hy)) (fun y hy z hz => h2 y (List.mem_cons_of_mem _ hy) z (List.mem_cons_of_mem _ hz)), fun a ha b hb e => ?_⟩
    obtain ⟨y, hy, hb⟩ := List.mem_flatMap.mp hb
    exact h2 x List.mem_cons_self y (List.mem_cons_of_mem _ hy) (fun z => hx.1 (z ▸ hy)) a ha (e ▸ hb)
theorem nodup_map' {α β : Type} {f : α → β} (hf : ∀ a b, f a = f b → a = b) {l : List α} (h : l.Nodup) : (l.map f).Nodup := by
  induction l with
  | nil => exact List.nodup_nil
  | cons x l ih =>
    obtain ⟨h1, h2⟩ := List.nodup_cons.mp h
    rw [List.map_cons, List.nodup_cons]
    refine ⟨fun hm => ?_, ih h2⟩
    obtain ⟨y, hy, e⟩ := List.mem_map.mp hm
    exact h1 (hf _ _ e ▸ hy)
theorem snoc_inj {α : Type} {a b : List α} {x y : α} (h : a ++ [x] = b ++ [y]) : a = b ∧ x = y := by
  have := List.append_inj' h rfl
  exact ⟨this.1, by simpa using this.2⟩
theorem rowsL_nodup (m : Nat) : ∀ s, (rowsL m s).Nodup
  | 0 => by rw [rowsL]; simp
  | s + 1 => by
    rw [rowsL]
    refine nodup_flatMap' _ _ (rowsL_nodup m s) (fun x _ => nodup_map' (fun a b e => (snoc_inj e).2) List.nodup_range) fun x _ y _ hne z hz hz2 => ?_
    obtain ⟨c, _, rfl⟩ := List.mem_map.mp hz
    obtain ⟨d, _, e⟩ := List.mem_map.mp hz2
    exact hne (snoc_inj e).1.symm
def keysL (ls : List Nat) (m s : Nat) : List (Nat × List Nat) := ls.flatMap fun c => (rowsL m s).map fun r => (c, r)
theorem keysL_len (ls : List Nat) (m s : Nat) : (keysL ls m s).length = ls.length * m ^ s := by
  rw [keysL, flatMap_len _ (m ^ s) _ (fun x _ => by rw [List.length_map, rowsL_len])]
theorem keysL_nodup {ls : List Nat} (h : ls.Nodup) (m s : Nat) : (keysL ls m s).Nodup := by
  refine nodup_flatMap' _ _ h (fun x _ => nodup_map' (fun a b e => (Prod.mk.inj e).2) (rowsL_nodup m s)) fun x _ y _ hne z hz hz2 => ?_
  obtain ⟨c, _, rfl⟩ := List.mem_map.mp hz
  obtain ⟨d, _, e⟩ := List.mem_map.mp hz2
  exact hne (Prod.mk.inj e).1.symm
theorem keysL_mem {ls : List Nat} {m s : Nat} {p : Nat × List Nat} : p ∈ keysL ls m s ↔ p.1 ∈ ls ∧ p.2 ∈ rowsL m s := by
  unfold keysL
  rw [List.mem_flatMap]
  constructor
  · rintro ⟨c, hc, h⟩
    obtain ⟨r, hr, rfl⟩ := List.mem_map.mp h
    exact ⟨hc, hr⟩
  · rintro ⟨h1, h2⟩
    exact ⟨p.1, h1, List.mem_map.mpr ⟨p.2, h2, rfl⟩⟩
/-- a row, a key, as the dict's keys -/
def kR (r : List Nat) : NestedKey := .tup (r.map fun n : Nat => .num (n : Int))
def kJ (p : Nat × List Nat) : NestedKey := .tup [.text ⟨#[p.1]⟩, kR p.2]
theorem nums_inj : ∀ {a b : List Nat}, (a.map fun n : Nat => NestedKey.num (n : Int)) = (b.map fun n : Nat => NestedKey.num (n : Int)) → a = b
  | [], [], _ => rfl
  | [], _ :: _, h => nomatch h
  | _ :: _, [], h => nomatch h
  | x :: a, y :: b, h => by
    rw [List.map_cons, List.map_cons] at h
    injection h with e1 e2
    have e3 : (x : Int) = (y : Int) := NestedKey.num.inj e1
    rw [nums_inj e2, show x = y by omega]
theorem kR_inj {a b : List Nat} (h : kR a = kR b) : a = b := nums_inj (NestedKey.tup.inj h)
theorem kJ_inj {p q : Nat × List Nat} (h : kJ p = kJ q) : p = q := by
  have h' := NestedKey.tup.inj h
  injection h' with e1 e2
  injection e2 with e2 _
  have e3 := NestedKey.text.inj e1
  have e4 : p.1 = q.1 := by
    have := congrArg (fun s : Str => s.cps.toList) e3
    simpa using this
  exact Prod.ext e4 (kR_inj e2)
theorem nums_depth : ∀ r : List Nat, NestedKey.depthAll (r.map fun n : Nat => NestedKey.num (n : Int)) = 0
  | [] => rfl
  | x :: r => by rw [List.map_cons, NestedKey.depthAll, NestedKey.depth, nums_depth r]; rfl
theorem kR_depth (r : List Nat) : (kR r).depth = 1 := by
  rw [kR, NestedKey.depth, nums_depth]
theorem kJ_depth (p : Nat × List Nat) : (kJ p).depth = 2 := by
  rw [kJ, NestedKey.depth, NestedKey.depthAll, NestedKey.depthAll, NestedKey.depthAll, kR_depth, NestedKey.depth]
  rfl
/-! rising lists -/
def riseB : List Nat → Bool
  | a :: b :: r => decide (a < b) && riseB (b :: r)
  | _ => true
theorem riseB_pair : ∀ {l : List Nat}, riseB l = true → l.Pairwise (· < ·)
  | [], _ => .nil
  | [a], _ => by simp
  | a :: b :: r, h => by
    rw [riseB, Bool.and_eq_true, decide_eq_true_eq] at h
    have ih := riseB_pair h.2
    refine List.pairwise_cons.mpr ⟨fun x hx => ?_, ih⟩
    rcases List.mem_cons.mp hx with rfl | hx
    · exact h.1
    · exact Nat.lt_trans h.1 ((List.pairwise_cons.mp ih).1 x hx)
theorem pair_riseB : ∀ {l : List Nat}, l.Pairwise (· < ·) → riseB l = true
  | [], _ => rfl
  | [a], _ => rfl
  | a :: b :: r, h => by
    obtain ⟨h1, h2⟩ := List.pairwise_cons.mp h
    rw [riseB, Bool.and_eq_true, decide_eq_true_eq]
    exact ⟨h1 b List.mem_cons_self, pair_riseB h2⟩
theorem riseB_nodup {l : List Nat} (h : riseB l = true) : l.Nodup := (riseB_pair h).imp fun h => Nat.ne_of_lt h
/-- as the code asks: no place whose item is not above the one ahead -/
theorem riseB_at : ∀ l : List Nat, riseB l = (List.range (l.length - 1)).all fun i => decide ((l[i]?).getD 0 < (l[i + 1]?).getD 0)
  | [] => rfl
  | [a] => rfl
  | a :: b :: r => by
    rw [riseB, riseB_at (b :: r)]
    have e : (a :: b :: r).length - 1 = ((b :: r).length - 1) + 1 := by simp
    rw [e, List.range_succ_eq_map, List.all_cons, List.all_map]
    rfl
/-! judges -/
structure Jd where
  ls : List Nat
  st : Nat
  few : Nat
  turn : Nat
  tb : List Nat
  gd : List Nat
def Jd.m (J : Jd) : Nat := J.few + J.turn
def Jd.keys (J : Jd) : List (Nat × List Nat) := keysL J.ls J.m J.st
structure Jd.Ok (J : Jd) : Prop where
  ls1 : J.ls ≠ []
  lsL : ∀ c ∈ J.ls, isL c = true
  lsR : riseB J.ls = true
  st1 : 1 ≤ J.st
  st6 : J.st ≤ 6
  few4 : J.few ≤ 4
  turn1 : 1 ≤ J.turn
  turn4 : J.turn ≤ 4
  tbl : J.tb.length = J.ls.length * J.m ^ J.st
  size : J.tb.length ≤ 600
  tbv : ∀ v ∈ J.tb, v < J.st
  gdv : ∀ g ∈ J.gd, g < J.st
  gdR : riseB J.gd = true
theorem Jd.Ok.nodup {J : Jd} (h : J.Ok) : J.ls.Nodup := riseB_nodup h.lsR
theorem Jd.Ok.klen {J : Jd} (h : J.Ok) : J.keys.length = J.tb.length := by rw [Jd.keys, keysL_len, h.tbl]
theorem Jd.Ok.knodup {J : Jd} (h : J.Ok) : J.keys.Nodup := keysL_nodup h.nodup _ _
/-- its table: keys and values in order -/
def Jd.tab (J : Jd) : List ((Nat × List Nat) × Nat) := J.keys.zip J.tb
/-- words of its writing -/
def dig (n : Nat) : Nat := 48 + n
def goodW (g : List Nat) : Str := if g = [] then txS [45] else Txt.join (txS [44]) (g.map fun n => txS [dig n])
def Jd.words (J : Jd) : List Str := [txS J.ls, txS [dig J.st], txS [dig J.few], txS [dig J.turn], goodW J.gd, txS (J.tb.map dig)]
def Jd.text (J : Jd) : Str := Txt.join (txS [32]) J.words
/-! on the heap -/
/-- the dict's entries are those of the table -/
def TabP (es : List NE) (J : Jd) : Prop := (es.map fun e => (e.1, e.2.2)).Perm (J.tab.map fun p => (kJ p.1, V.int (p.2 : Nat)))
def TabE (es : List NE) (J : Jd) : Prop := (es.map fun e => (e.1, e.2.2)) = (J.tab.map fun p => (kJ p.1, V.int (p.2 : Nat)))
theorem TabE.p {es : List NE} {J : Jd} (h : TabE es J) : TabP es J := by rw [TabP, h]
theorem atN_of_mem {k : NestedKey} {v : V} : ∀ {es : List NE}, (es.map (·.1)).Nodup → (k, v) ∈ (es.map fun e => (e.1, e.2.2)) → atN es k = some v
  | [], _, h => nomatch h
  | e :: es, hn, h => by
    rw [List.map_cons, List.nodup_cons] at hn
    rw [List.map_cons] at h
    rcases List.mem_cons.mp h with h | h
    · obtain ⟨h1, h2⟩ := Prod.mk.inj h
      rw [atN_pos h1.symm, h2]
    · have hk : ¬ e.1 = k := fun z => by
        obtain ⟨x, hx, e2⟩ := List.mem_map.mp h
        exact hn.1 (List.mem_map.mpr ⟨x, hx, by rw [(Prod.mk.inj e2).1, z]⟩)
      rw [atN_neg hk]
      exact atN_of_mem hn.2 h
theorem TabP.keys {es : List NE} {J : Jd} (h : TabP es J) : (es.map (·.1)).Perm (J.tab.map fun p => kJ p.1) := by
  have q := h.map Prod.fst
  rw [List.map_map, List.map_map] at q
  exact q
theorem zip_fst {α β : Type} : ∀ (a : List α) (b : List β), a.length = b.length → (a.zip b).map (·.1) = a
  | [], _, _ => by simp
  | x :: a, [], h => by simp at h
  | x :: a, y :: b, h => by
    rw [List.zip_cons_cons, List.map_cons, zip_fst a b (by simpa using h)]
theorem zip_snd {α β : Type} : ∀ (a : List α) (b : List β), a.length = b.length → (a.zip b).map (·.2) = b
  | [], [], _ => by simp
  | [], y :: b, h => by simp at h
  | x :: a, [], h => by simp at h
  | x :: a, y :: b, h => by
    rw [List.zip_cons_cons, List.map_cons, zip_snd a b (by simpa using h)]
theorem tab_keys {J : Jd} (h : J.Ok) : (J.tab.map fun p => kJ p.1) = J.keys.map kJ := by
  have e := zip_fst J.keys J.tb h.klen
  calc (J.tab.map fun p => kJ p.1) = (J.tab.map (·.1)).map kJ := by rw [List.map_map]; rfl
    _ = _ := by rw [Jd.tab, e]
theorem TabP.nodup {es : List NE} {J : Jd} (h : TabP es J) (ok : J.Ok) : (es.map (·.1)).Nodup := by
  refine h.keys.nodup_iff.mpr ?_
  rw [tab_keys ok]
  exact nodup_map' (fun _ _ => kJ_inj) ok.knodup
theorem TabP.at {es : List NE} {J : Jd} (h : TabP es J) (ok : J.Ok) {p : (Nat × List Nat) × Nat} (hp : p ∈ J.tab) : atN es (kJ p.1) = some (.int (p.2 : Nat)) :=
  atN_of_mem (h.nodup ok) (h.mem_iff.mpr (List.mem_map.mpr ⟨p, hp, rfl⟩))
theorem TabP.len {es : List NE} {J : Jd} (h : TabP es J) (ok : J.Ok) : es.length = J.tb.length := by
  have := h.length_eq
  rw [List.length_map, List.length_map, Jd.tab, List.length_zip, ok.klen, Nat.min_self] at this
  exact this
theorem TabP.same {es fs : List NE} {J : Jd} (h : TabP es J) (g : TabP fs J) (ok : J.Ok) : Hy.SameT es fs := by
  refine ⟨by rw [h.len ok, g.len ok], fun e he => ?_⟩
  have hm := h.mem_iff.mp (List.mem_map.mpr ⟨e, he, rfl⟩)
  obtain ⟨p, hp, e2⟩ := List.mem_map.mp hm
  obtain ⟨e3, e4⟩ := Prod.mk.inj e2
  exact ⟨p.2, e4.symm, by rw [← e3]; exact g.at ok hp⟩
/-- a judge on the heap: its tuple, its dict and its list -/
structure JAt (w : World) (H : Hp) (J : Jd) (a d g : Addr) (es : List NE) : Prop where
  tup : H a = some (.tup [.str (txS J.ls), .int (J.st : Nat), .int (J.few : Nat), .int (J.turn : Nat), .ref d, .ref g])
  dic : ND w H d es
  lst : H g = some (.lst (J.gd.map fun n => V.int (n : Nat)))
theorem JAt.same {w : World} {H H' : Hp} {J : Jd} {a d g : Addr} {es : List NE} (h : JAt w H J a d g es) (s : Same H H') : JAt w H' J a d g es := ⟨s _ _ h.tup, h.dic.same s, s _ _ h.lst⟩
theorem JAt.keep {w : World} {A : List Addr} {H H' : Hp} {J : Jd} {a d g : Addr} {es : List NE} (h : JAt w H J a d g es) (k : Keep A H H') (hd : d ∉ A) (hg : g ∉ A) : JAt w H' J a d g es := ⟨k.tup _ _ h.tup, h.dic.keep k hd, k.but _ _ hg h.lst⟩
/-- rows of numbers on the heap -/
abbrev RowsV (H : Hp) (vs : List V) (rs : List (List Nat)) : Prop := Paired (fun v r => NKv H (kR r) v) vs rs
theorem RowsV.stay {H H' : Hp} {vs : List V} {rs : List (List Nat)} (h : RowsV H vs rs) (ht : ∀ b xs, H b = some (.tup xs) → H' b = some (.tup xs)) : RowsV H' vs rs := Paired.mapP h fun _ _ k => k.stay ht
theorem RowsV.app {H : Hp} {vs ws : List V} {rs qs : List (List Nat)} (h : RowsV H vs rs) (g : RowsV H ws qs) : RowsV H (vs ++ ws) (rs ++ qs) := by
  induction h with
  | nil => exact g
  | cons a _ ih => exact .cons a ih
theorem row_of {H : Hp} {v : V} {r : List Nat} (h : NKv H (kR r) v) : ∃ b, v = .ref b ∧ H b = some (.tup (r.map fun n => V.int (n : Nat))) := by
  unfold kR at h
  cases h with
  | @tup b _ vs hb hs =>
    refine ⟨b, rfl, ?_⟩
    have main : ∀ {r : List Nat} {vs : List V}, NKs H (r.map fun n : Nat => NestedKey.num (n : Int)) vs → vs = r.map fun n => V.int (n : Nat) := by
      intro r
      induction r with
      | nil => intro vs h; cases h; rfl
      | cons x r ih =>
        intro vs h
        rw [List.map_cons] at h
        cases h with
        | cons h1 h2 =>
          cases h1
          rw [ih h2]
          rfl
    rw [hb, main hs]
theorem row_mk {H : Hp} {b : Addr} {r : List Nat} (h : H b = some (.tup (r.map fun n => V.int (n : Nat)))) : NKv H (kR r) (.ref b) := by
  refine .tup h ?_
  clear h
  induction r with
  | nil => exact .nil
  | cons x r ih => exact .cons (.int _) ih
theorem keyJ_mk {H : Hp} {b : Addr} {v : V} {c : Nat} {r : List Nat} (h : H b = some (.tup [.str ⟨#[c]⟩, v])) (hr : NKv H (kR r) v) : NKv H (kJ (c, r)) (.ref b) := .tup h (.cons (.text _) (.cons hr .nil))
end Hy
set_option Elab.async false
set_option linter.all false
set_option maxRecDepth 100000
set_option maxHeartbeats 4000000
namespace Hy
open PySem L2
/-! helpers of comprehensions -/
theorem walk_nkeys {w : World} {d : Addr} {o : Obj} {es : List NE} : Walk (Itn w d o es) es.length (fun H => H d = some (.frz o (ndO w d es))) (fun i H x H' => H' = H ∧ ∃ e, es[i]? = some e ∧ x = .ref e.2.1) :=
  ⟨fun _ _ hi q => ⟨q, hi⟩, fun _ q => ⟨q, Nat.le_refl _⟩, fun _ _ _ _ _ _ y => y⟩
theorem iteJ {b c : Bool} {A B : Prop} (e : b = c) (h1 : c = true → A) (h2 : c = false → B) : if b = true then A else B := by
  subst e
  cases b with
  | true => exact h1 rfl
  | false => exact h2 rfl
/-- [x for x in .. if c]: of it only whether it is empty is told -/
structure PvE (H0 : Hp) (D : Addr) (c : Nat → Bool) (i : Nat) (H : Hp) : Prop where
  S : Same H0 H
  ac : ∃ acc, H D = some (.lst acc) ∧ acc.length ≤ i ∧ acc.isEmpty = (List.range i).all fun j => !c j
section
variable {H0 H H' : Hp} {D : Addr} {c : Nat → Bool} {i : Nat}
theorem PvE.start (n : H0 D = none) : PvE H0 D c 0 (upd H0 D (.lst [])) := ⟨same_new n, [], upd_same, Nat.le_refl _, rfl⟩
theorem PvE.skip (p : PvE H0 D c i H) (S : Same H H') (h : c i = false) : PvE H0 D c (i + 1) H' := by
  obtain ⟨S0, acc, h1, h2, h3⟩ := p
  refine ⟨S0.trans S, acc, S _ _ h1, by omega, ?_⟩
  rw [List.range_succ, List.all_append, ← h3]
  simp [h]
theorem PvE.push (p : PvE H0 D c i H) (S : Same H H') (n : H0 D = none) (h : c i = true) (hi : i < sizeLine) {y : V} : ∃ acc, H' D = some (.lst acc) ∧ acc.length < sizeLine ∧ PvE H0 D c (i + 1) (upd H' D (.lst (acc ++ [y]))) := by
  obtain ⟨S0, acc, h1, h2, h3⟩ := p
  refine ⟨acc, S _ _ h1, by omega, Same.upd_own (S0.trans S) n, _, upd_same, by rw [List.length_append]; simpa using h2, ?_⟩
  rw [List.range_succ, List.all_append]
  simp [h]
end
/-- [f i for ..]: values that need no heap -/
structure PvM (H0 : Hp) (D : Addr) (f : Nat → V) (i : Nat) (H : Hp) : Prop where
  S : Same H0 H
  ac : H D = some (.lst ((List.range i).map f))
section
variable {H0 H H' : Hp} {D : Addr} {f : Nat → V} {i : Nat}
theorem PvM.start (n : H0 D = none) : PvM H0 D f 0 (upd H0 D (.lst [])) := ⟨same_new n, upd_same⟩
theorem PvM.push (p : PvM H0 D f i H) (S : Same H H') (n : H0 D = none) (hi : i < sizeLine) {y : V} (hy : y = f i) : ∃ acc, H' D = some (.lst acc) ∧ acc.length < sizeLine ∧ PvM H0 D f (i + 1) (upd H' D (.lst (acc ++ [y]))) := by
  subst hy
  refine ⟨_, S _ _ p.ac, by rw [List.length_map, List.length_range]; exact hi, Same.upd_own (p.S.trans S) n, ?_⟩
  rw [upd_same, List.range_succ, List.map_append]
  rfl
end
theorem map_range {α β : Type} (l : List α) (f : Nat → β) (g : α → β) (h : ∀ i x, l[i]? = some x → f i = g x) : (List.range l.length).map f = l.map g := by
  apply List.ext_getElem?
  intro i
  rw [List.getElem?_map, List.getElem?_map]
  by_cases hi : i < l.length
  · rw [List.getElem?_range hi, List.getElem?_eq_getElem hi]
    exact congrArg some (h i _ (List.getElem?_eq_getElem hi))
  · rw [List.getElem?_eq_none (by simpa using hi), List.getElem?_eq_none (by omega)]
    rfl
theorem sum_ones {α : Type} (f : α → Nat) (c : Nat) : ∀ l : List α, (∀ x ∈ l, f x ≤ c) → (l.map f).sum ≤ l.length * c
  | [], _ => by simp
  | x :: l, h => by
    have h1 := sum_ones f c l fun y hy => h y (List.mem_cons_of_mem _ hy)
    have h2 := h x List.mem_cons_self
    rw [List.map_cons, List.sum_cons, List.length_cons, Nat.succ_mul]
    omega
theorem all_range {α : Type} (l : List α) (f : α → Bool) (g : Nat → Bool) (h : ∀ i x, l[i]? = some x → g i = f x) : ((List.range l.length).all g) = l.all f := by
  rw [Bool.eq_iff_iff, List.all_eq_true, List.all_eq_true]
  constructor
  · intro hg x hx
    obtain ⟨i, hi, rfl⟩ := List.getElem_of_mem hx
    rw [← h i _ (List.getElem?_eq_getElem hi)]
    exact hg i (List.mem_range.mpr hi)
  · intro hf i hi
    have hi' := List.mem_range.mp hi
    rw [h i _ (List.getElem?_eq_getElem hi')]
    exact hf _ (List.getElem_mem hi')
theorem big_of {n m : Nat} (h : n ≤ m) (hm : m ≤ 100000) : n < sizeLine := Nat.lt_of_le_of_lt (Nat.le_trans h hm) (by decide)
end Hy
namespace Hy
open PySem L2
section
variable {X : Cx}
theorem call_isiNK (w : World) (K : PySem.W.Frag) (h : X.w = w := by rfl) (hK : X.K = K := by rfl) : CallR X (.builtin "isinstance") (rIsiN w K) := hK ▸ call_isiN w h
theorem call_isiTNK (w : World) (K : PySem.W.Frag) (h : X.w = w := by rfl) (hK : X.K = K := by rfl) : CallR X (.builtin "isinstance") (rIsiTN w K) := hK ▸ call_isiTN w h
theorem cr_sumTK (K : PySem.W.Frag) (hc : X.calm = true) (hK : X.K = K := by rfl) : CallR X (.builtin "sum") (rSumT K) := hK ▸ cr_sumT hc
theorem op_neTK {k : Nat} (w : World) (K : PySem.W.Frag) (hr : Room k X.A) (h : X.w = w := by rfl) (hK : X.K = K := by rfl) : OpR X (compareOp .NotEq) (rNeT w K) := hK ▸ op_neT w hr h
end
section
variable {X : Cx}
theorem pg_unlK {es : List Expr} {k : Nat} {pos : Pos} {t : TGs} {n : Nat} (K : PySem.W.Frag) (hc : X.calm = true) (h : PGs X es t) (hn : (assignEach es X.env).length = n := by rfl) (hst : (assignEach es X.env).findIdx? (·.1) = none := by rfl) (hK : X.K = K := by rfl) :
    PG X (.Tuple es k pos) (gUnl K n t) := hK ▸ pg_unl hc h hn hst
theorem pe_dictZipK {e e2 : Expr} {ta : TA} {p p2 pos pos2 : Pos} {k : Nat} (w : World) (K : PySem.W.Frag) (hr : Room k X.A) (hc : X.calm = true) (hm : X.mg "dict" = none) (hmz : X.mg "zip" = none) (ha : PA X [e, e2] ta) (hg : Gl X "dict" := by rfl) (hgz : Gl X "zip" := by rfl)
    (hs : starEach [e, e2] X.env = (false, eval e X.env) :: starEach [e2] X.env := by rfl) (hpl : (backTo pos2 (starEach [e2] X.env)).any (·.1) = false := by rfl)
    (hs1 : starEach [Expr.Call (.Name "zip" p2) [e, e2] [] pos2] X.env = [(false, eval (Expr.Call (.Name "zip" p2) [e, e2] [] pos2) X.env)] := by rfl)
    (hb1 : backTo pos (starEach [Expr.Call (.Name "zip" p2) [e, e2] [] pos2] X.env) = [(false, eval (Expr.Call (.Name "zip" p2) [e, e2] [] pos2) X.env)] := by rfl) (h : X.w = w := by rfl) (hK : X.K = K := by rfl) :
    PE X (.Call (.Name "dict" p) [.Call (.Name "zip" p2) [e, e2] [] pos2] [] pos) (tDictZip w K ta) := hK ▸ pe_dictZip w hr hc hm hmz ha hg hgz hs hpl hs1 hb1 h
end
theorem lock_same {H H2 : Hp} {d : Addr} {f u : HO} (h : H d = some u) (S : Same (upd H d f) H2) : Same H (upd H2 d u) := fun c o hc => by
  by_cases e : c = d
  · subst e
    rw [h] at hc
    cases hc
    exact upd_same
  · rw [upd_ne e]
    exact S c o (by rw [upd_ne e]; exact hc)
theorem frz_tup {H : Hp} {d : Addr} {w : World} {es : List NE} {f : HO} (h : H d = some (ndO w d es)) (b : Addr) (xs : List V) (e : H b = some (.tup xs)) : upd H d f b = some (.tup xs) := by
  rw [upd_ne (ne_of e h (fun z => nomatch z))]
  exact e
theorem nd_own {w : World} {H H2 : Hp} {d : Addr} {es : List NE} (h : H d = some (ndO w d es)) (n : NKeys H es) (od : Obj) (S : Same (upd H d (.frz od (ndO w d es))) H2) : ND w H2 d es :=
  ND.frz (S _ _ upd_same) (n.stay fun b xs e => S _ _ (frz_tup h b xs e))
end Hy
set_option Elab.async false
set_option linter.all false
set_option maxRecDepth 100000
set_option maxHeartbeats 4000000
namespace Hy
open PySem PySem.Spec PyProof.Rows L2
/-! a caught error that is kept behind its except clause -/
/-- the error's object, told by its class -/
def isEx (a : Addr) (cls : Value) (h : Heap) : Prop := ∃ (o : Obj) (vs : Array Value), h.get? a = some o ∧ o.cls = cls ∧ o.dict = none ∧ o.data = .fields vs
def exO (a : Addr) (cls : Value) : HO := .ext (isEx a cls)
section
variable {X : Cx} {pins : List (Addr × Obj)} {σ : L2.St} {H : Hp} {s : Shared}
theorem adopt {a : Addr} {oe : Obj} {vs : Array Value} {cls : Value} (J : Inv X pins σ H s) (n : H a = none) (e : s.heap.get? a = some oe) (h1 : oe.cls = cls) (h2 : oe.dict = none) (h3 : oe.data = .fields vs)
    (hL : a ≠ X.env.locals) (h0 : X.s_0.heap.get? a = none) (hp : ∀ p ∈ X.pn ++ pins, p.1 ≠ a) : Inv X pins σ (upd H a (exO a cls)) s := by
  have ne : ∀ {b : Addr} {o : HO}, H b = some o → b ≠ a := fun q => ne_of_none q n
  have up : ∀ {b : Addr} {o : HO}, H b = some o → upd H a (exO a cls) b = some o := fun q => (upd_ne (ne q)).trans q
  have off : ∀ {b : Addr}, b ≠ a → H b = none → upd H a (exO a cls) b = none := fun q r => (upd_ne q).trans r
  refine { J with base := ?base, free := off (Ne.symm hL) J.free, freeC := fun x c k => off ?cell (J.freeC x c k), pin := fun p k => ?pin, hok := fun b o k => ?hok }
  case base =>
    refine { J.base with free := fun b o q m r => off (fun z => ?_) (J.base.free b o q m r), tups := fun b xs q => up (J.base.tups b xs q), frzs := fun b o u q => up (J.base.frzs b o u q), tbls := fun b ps q => ?_ }
    · rw [z, h0] at q
      cases q
    · obtain ⟨more, r⟩ := J.base.tbls b ps q
      exact ⟨more, up r⟩
  case cell =>
    rintro rfl
    obtain ⟨v, ov, w1, w2⟩ := J.cell x c k
    rw [e] at w1
    cases w1
    first
      | (rw [h3] at w2; cases w2)
      | (rw [w2] at h3; cases h3)
  case pin =>
    obtain ⟨q1, q2, q3⟩ := J.pin p k
    exact ⟨q1, off (hp p k) q2, q3⟩
  case hok =>
    by_cases z : b = a
    · subst z
      rw [upd_same] at k
      cases k
      exact ⟨⟨oe, vs, e, h1, h2, h3⟩, ⟨oe, e⟩, fun g1 g2 ⟨o, ws, w1, w2, w3, w4⟩ w => ⟨o, ws, w o w1, w2, w3, w4⟩⟩
    · rw [upd_ne z] at k
      exact (J.hok b o k).stay (fun _ _ _ q => q) (fun c q => up q) fun c xs q => up q
end
/-- the wish of the body's errors: class c catches them all; behind the suite the error stands in the abstract heap -/
def wAd (K : PySem.W.Frag) (c : Value) (i : Nat) (ts : Addr → Value → TS) (D : Ends) : WX := fun cls d σ H =>
  PySem.W.exmOne K cls c = some true ∧ d = none ∧ ∀ a, H a = none →
    ts a cls ⟨fun σ' H' => D.nx (σ'.set i none) (upd H' a (exO a cls)), fun _ _ => False, fun _ _ => False, fun _ _ => False⟩ (σ.set i (some (.ref a))) H
section
variable {X : Cx} {x n : Str} {c : Value} {i : Nat} {body suite : List Stmt} {b₀ : Stmt} {np pos pos2 : Pos} {tb : WX → TS} {ts : Addr → Value → TS}
theorem ps_try_ad (hs : X.stack = X.env :: X.outer)
    (hf : X.env.frame = some X.env.locals) (hN : X.N.Nodup)
    (hi : X.N[i]? = some n) (hln : X.env.kindOf n = some .local)
    (hc : Names X x c) (hex : X.ex = [])
    (hb : ∀ (W : WX) (pn : List (Addr × Obj))
      (xe : Value → Shared → Prop), Takes (X.tr pn xe) W →
      PassesOwn (model X.prog X.w) X.A X.env xe →
      PSs (X.tr pn xe) body (tb W))
    (hsu : ∀ (a : Addr) (oe : Obj) (cls : Value)
      (pn : List (Addr × Obj)), PSs (X.suite a ((a, oe) :: pn)) (b₀ :: suite) (ts a cls)) :
    PS X (.Try body [.ExceptHandler (some (.Name x np)) (some n) (b₀ :: suite) pos2] [] [] pos)
      (fun D σ H => tb (wAd X.K c i ts D) D σ H) := by
  refine ⟨fun pp s0 σ0 H0 D I0 want => ?_⟩
  have fine := I0.ok
  have fr1 : X.A.frames = some (X.env :: X.outer) := hs ▸ fine.frames
  refine wpAny_Try_except ?_
  have B1 := hb (wAd X.K c i ts D) (X.pn ++ pp)
    (fun e s1 => wpAny (model X.prog X.w) X.A (noteFrame e X.env)
      (fun _ s2 => wpAny (model X.prog X.w) X.A (setFlight e none)
        (fun _ s3 => wpAny (model X.prog X.w) X.A
          (handleBy e X.env
            [.ExceptHandler (some (.Name x np)) (some n) (b₀ :: suite) pos2])
          (SP X pp D) X.xe s3) X.xe s2) X.xe s1) ?land PassesOwn.looking
  case land =>
    rintro u t ⟨a, B, sI, p', σ1, H1, cls, d, rfl, J1, nb, ups, sky, na, eos, bare, ex1, rfl, wish⟩
    have J : Inv X pp σ1 H1 sI := J1.ofTry fine
    have sky : Sky B (X.env :: X.outer) a (Zc cls none) X.env.locals t.heap := hs ▸ sky
    show wpAny (model X.prog X.w) X.A (noteFrame (.ref a) X.env) _ _ _
    refine Sky.land Zc.steady fr1 hf sky fun g1 F1 u1 => ?_
    have L1 := J.landed nb F1.1 (ups.trans u1) eos bare (s' := { t with heap := g1 })
    obtain ⟨o1, v1, at1, z1, f1⟩ := F1.there
    have off : a ∉ frs (X.env :: X.outer) := fun hm => by
      obtain ⟨_, o2, at2, no⟩ := F1.2.2.1.mem hm
      cases at1.symm.trans at2
      exact no _ f1
    have offL : a ≠ X.env.locals := fun z =>
      off (List.mem_filterMap.mpr ⟨_, List.mem_cons_self, z ▸ hf⟩)
    have offF : a ∉ X.fs := fun hm => by
      obtain ⟨e, he, q⟩ := List.mem_filterMap.mp hm
      exact off (List.mem_filterMap.mpr ⟨e, .tail _ he, q⟩)
    have notI : ∀ o, sI.heap.get? a ≠ some o := fun o q => by
      have z := nb a o q (hs ▸ off)
      rw [F1.2.1] at z
      cases z
    have not0 : X.s_0.heap.get? a = none := by
      cases q : X.s_0.heap.get? a with
      | none => rfl
      | some o =>
        obtain ⟨o2, q2⟩ := J.base.there a o q (by rw [hex]; exact List.not_mem_nil)
        exact absurd q2 (notI o2)
    have apart : ∀ p ∈ X.pn ++ pp, p.1 ≠ a := fun p k z =>
      notI p.2 (z ▸ (J.pin p k).1)
    refine wpAny_handleBy_cons (codeAny_handlers_test ?_) (fun q => nomatch q)
    have S1 := L1.suite at1 f1 na offL offF
    have ty1 : PySem.W.Looks (model X.prog X.w) g1 (typeOf (.ref a)) cls :=
      fun _ _ _ _ k q => wpAny_typeOf_ref (k _ _ at1) (z1.1 ▸ q)
    have hits := PySem.W.exm_one (M := model X.prog X.w) L1.kIn ty1 ex1
    have named : ∀ {Q E : Value → Shared → Prop}, Q c { t with heap := g1 } →
        wpAny (model X.prog X.w) (X.A.mark (some (.ref a)))
          (eval (.Name x np) X.env) Q E { t with heap := g1 } := fun {Q E} q => by
      obtain ⟨k1, k2, k3 | ⟨k3, k4, k5⟩⟩ := hc
      · exact ld_glob (X := X.suite a ((a, o1) :: (X.pn ++ pp))) S1 k1 k3 q k2
      · exact ld_blt (X := X.suite a ((a, o1) :: (X.pn ++ pp))) S1 k1 k3 k4 q k5 k2
    refine named (hits.here (codeAny_handlers_suite_as ?_))
    refine HandSPX.lands_againZ F1 fun g2 F2 u2 => ?_
    have L2 := J.landed nb F2.1 ((ups.trans u1).trans u2) eos bare (s' := { t with heap := g2 })
    obtain ⟨o2, v2, at2, z2, f2⟩ := F2.there
    have S2 := L2.suite at2 f2 na offL offF
    refine store_ok (X := X.suite a ((a, o2) :: (X.pn ++ pp))) (v := .ref a) S2 hN hi (.inl hln) rfl
      (fun s5 S5 => ?_) (.inr hln)
    refine wpAny_mono ((hsu a o2 cls (X.pn ++ pp)).run [] s5 _ H1 _ S5 (wish a na))
      (fun fl s6 got => ?_) (fun _ _ z => z.elim)
    cases fl with
    | next =>
      obtain ⟨σ6, H6, S6, q6⟩ := got
      have P6 := S6.pin (a, o2) (List.mem_append_left _ List.mem_cons_self)
      have J6 := adopt (S6.unsuite fine) P6.2.1 P6.1 z2.1 z2.2 f2 offL not0 apart
      exact gone_ok J6 hN hi hln fun s7 J7 => ⟨_, _, J7, q6⟩
    | brk =>
      obtain ⟨_, _, _, z⟩ := got
      exact z.elim
    | cont =>
      obtain ⟨_, _, _, z⟩ := got
      exact z.elim
    | ret u =>
      obtain ⟨_, _, _, _, _, z⟩ := got
      exact z.elim
  refine wpAny_mono (B1.run [] s0 σ0 H0 D (I0.toTry _) want) (fun fl s1 got => ?_) (fun _ _ q => q)
  cases fl with
  | next =>
    obtain ⟨σ2, H2, J2, q2⟩ := got
    exact wpAny_execs_nil ⟨σ2, H2, J2.ofTry fine, q2⟩
  | brk =>
    obtain ⟨σ2, H2, J2, q2⟩ := got
    exact ⟨σ2, H2, J2.ofTry fine, q2⟩
  | cont =>
    obtain ⟨σ2, H2, J2, q2⟩ := got
    exact ⟨σ2, H2, J2.ofTry fine, q2⟩
  | ret u =>
    obtain ⟨v2, σ2, H2, J2, r2, q2⟩ := got
    exact ⟨v2, σ2, H2, J2.ofTry fine, r2, q2⟩
end
/-- isinstance(e, C), isinstance(e, (C1, ..)): e such an error -/
def rIsX (K : PySem.W.Frag) : List V → Hp → VK → Prop := fun xs H Q => ∃ (a D : Addr) (c : V) (u : Value) (b : Bool),
  xs = [.ref a, c] ∧ ClsV c u ∧ H a = some (exO a (.ref D)) ∧ ExcC K D ∧ PySem.W.kitOne K (.ref D) u = some b ∧ Q (.bl b) H
def rIsXT (K : PySem.W.Frag) : List V → Hp → VK → Prop := fun xs H Q => ∃ (a D tp : Addr) (cs : List V) (us : List Value) (b : Bool),
  xs = [.ref a, .ref tp] ∧ H tp = some (.tup cs) ∧ Paired ClsV cs us ∧ H a = some (exO a (.ref D)) ∧ ExcC K D ∧ PySem.W.kitAny K (.ref D) us = some b ∧ Q (.bl b) H
section
variable {X : Cx} {pins : List (Addr × Obj)} {σ : L2.St} {H : Hp} {s : Shared}
theorem ex_at {a D : Addr} (I : Inv X pins σ H s) (h : H a = some (exO a (.ref D))) : ∃ ox, PySem.W.InstAt s.heap a ox D none := by
  obtain ⟨⟨⟨oc, od, oda, osl⟩, vs, e, h1, h2, h3⟩, _⟩ := (show ObjOk X.prog X.w H s.heap a (exO a (.ref D)) from I.hok a _ h)
  dsimp only at h1 h2 h3
  subst h1 h2 h3
  exact ⟨_, e, rfl, rfl, trivial⟩
theorem ex_kit {a D : Addr} {ox : Obj} (C : ExcC X.K D) : PySem.W.KitX X.K (.ref a) (.ref D) (fun h => PySem.W.InstAt h a ox D none) :=
  PySem.W.handS_kitx_exc C.hg C.hk C.hs C.hd C.ha C.hn C.ht C.hm
theorem call_isX : CallR X (.builtin "isinstance") (rIsX X.K) := by
  intro pins s σ H xs us Q I r h
  obtain ⟨a, D, c, u, b, rfl, k, ha, C, e, q⟩ := h
  obtain ⟨u1, u2, rfl, r1, r2⟩ := vals2 r
  cases (show u1 = Value.ref a from r1)
  cases k.eq r2
  obtain ⟨ox, J⟩ := ex_at I ha
  exact PySem.W.kia_one (ex_kit C) I.kIn J e (fun z => nomatch z) fun tk => ⟨.bl b, H, I.tok tk, rfl, q⟩
theorem call_isXT : CallR X (.builtin "isinstance") (rIsXT X.K) := by
  intro pins s σ H xs us Q I r h
  obtain ⟨a, D, tp, cs, ws, b, rfl, hT, k, ha, C, e, q⟩ := h
  obtain ⟨u1, u2, rfl, r1, r2⟩ := vals2 r
  cases (show u1 = Value.ref a from r1)
  cases (show u2 = Value.ref tp from r2)
  obtain ⟨ox, J⟩ := ex_at I ha
  obtain ⟨_, its, rv, ⟨oc, od, dt, sl⟩, k1, k2, m, k3⟩ := (show ObjOk X.prog X.w H s.heap tp (.tup cs) from I.hok tp _ hT)
  cases ClsV.all k rv
  simp only at k2 k3
  subst k2 k3
  exact PySem.W.kia_tup (ex_kit C) I.kIn J k1 e (fun z => nomatch z) fun tk => ⟨.bl b, H, I.tok tk, rfl, q⟩
theorem call_isXK (K : PySem.W.Frag) (h : X.K = K := by rfl) : CallR X (.builtin "isinstance") (rIsX K) := h ▸ call_isX
theorem call_isXTK (K : PySem.W.Frag) (h : X.K = K := by rfl) : CallR X (.builtin "isinstance") (rIsXT K) := h ▸ call_isXT
end
section
variable {X : Cx} {x : Str} {k : Nat} {ps : List Str} {sp : Sp} {W : WX} {p pos : Pos} {e : Expr} {es : List Expr} {t : TA}
theorem pe_clS (G : Gd X.prog X.w X.K X.mg X.base x k ps sp) (hr : Room k X.A) (tk : Takes X W)
    (ha : PA X (e :: es) t) (hg : Gl X x := by rfl) (hdb : (x == ("__debug__" : Str)) = false := by decide)
    (he : starEach (e :: es) X.env = (false, eval e X.env) :: starEach es X.env := by rfl)
    (hpl : (backTo pos (starEach es X.env)).any (·.1) = false := by rfl) : PE X (.Call (.Name x p) (e :: es) [] pos) (tCallS sp (WE W) t) := by
  obtain ⟨f, fd, F, m, kp, b⟩ := G.ex
  exact pe_callS F hr hg m kp b (fun σ => passAt tk σ) ha hdb he hpl
end
end Hy
set_option Elab.async false
set_option linter.all false
set_option maxRecDepth 100000
set_option maxHeartbeats 4000000
namespace Hy
open PySem L2
def top (i : Nat) : Stmt := PySem.Challenge.pw_heaptrees_k86_whole_refused_in_order.main.body.getD i (.Pass ⟨0, 0, 0, 0⟩)
structure Txt (K : PySem.W.Frag) (mg : Str → Option Value) : Prop where
  n_sorted : mg "sorted" = none
  n_len : mg "len" = none
  n_range : mg "range" = none
  n_enumerate : mg "enumerate" = none
  n_sum : mg "sum" = none
  n_tuple : mg "tuple" = none
  n_max : mg "max" = none
  n_dict : mg "dict" = none
  n_isinstance : mg "isinstance" = none
  n_str : mg "str" = none
  n_list : mg "list" = none
  n_int : mg "int" = none
  n_min : mg "min" = none
  n_set : mg "set" = none
  n_zip : mg "zip" = none
  n_bool : mg "bool" = none
  g_LETTERS_trees : GV mg "LETTERS_trees" (.str "abcdefghijklmnopqrstuvwxyz")
  g_MOST_STATES_judges : GV mg "MOST_STATES_judges" (.int 6)
  g_MOST_FEW : GV mg "MOST_FEW" (.int 4)
  g_MOST_TURN_judges : GV mg "MOST_TURN_judges" (.int 4)
  g_MOST_TUPLES_judges : GV mg "MOST_TUPLES_judges" (.int 600)
  g_MOST_COUNTED : GV mg "MOST_COUNTED" (.int 24)
  g_MOST_STATES_joining : GV mg "MOST_STATES_joining" (.int 6)
  g_MOST_TURN_joining : GV mg "MOST_TURN_joining" (.int 4)
  g_MOST_TUPLES_joining : GV mg "MOST_TUPLES_joining" (.int 600)
  g_FIGURES_rows : GV mg "FIGURES_rows" (.str "0123456789")
  g_LETTERS_rows : GV mg "LETTERS_rows" (.str "abcdefghijklmnopqrstuvwxyz")
  g_FIGURES_texts : GV mg "FIGURES_texts" (.str "0123456789")
  g_MOST_TUPLES_texts : GV mg "MOST_TUPLES_texts" (.int 600)
  x_HeapError : ExcF K mg "HeapError"
  x_NoTree : ExcF K mg "NoTree"
  x_NoLetter : ExcF K mg "NoLetter"
  x_NoFit : ExcF K mg "NoFit"
  x_TooMany : ExcF K mg "TooMany"
  x_NoNumber : ExcF K mg "NoNumber"
  x_NoText : ExcF K mg "NoText"
  x_NoName : ExcF K mg "NoName"
  x_NoRow : ExcF K mg "NoRow"

local macro_rules | `(tactic| walk_at "hp") => `(tactic| first
  | assumption | exact upd_same
  | (refine (upd_ne ?_).trans ?_ <;> first | assumption | (exact Ne.symm (by assumption)) | walk_at "ne" | walk_at "hp")
  | (refine (by assumption : Same _ _) _ _ ?_; assumption))
local macro_rules | `(tactic| walk_at "ne") => `(tactic| first
  | assumption | (exact Ne.symm (by assumption))
  | exact ne_of_none (by assumption) (by assumption) | exact Ne.symm (ne_of_none (by assumption) (by assumption)))
local macro_rules | `(tactic| walk_at "sz") => `(tactic| first | assumption | (show 0 ≤ sizeLine; decide) | (show 1 ≤ sizeLine; decide) | (show 2 ≤ sizeLine; decide) | (show 3 ≤ sizeLine; decide))
local macro_rules | `(tactic| walk_at "ar") => `(tactic| first
  | ((with_reducible show (0 : Int) < _); first | decide | omega)
  | ((with_reducible show CMul _ _); first | exact Or.inr (And.intro (by decide) (by decide)) | exact Or.inl (And.intro (by decide) (by decide)) | (refine Or.inl (And.intro ?_ ?_) <;> omega) | (refine Or.inr (And.intro ?_ ?_) <;> omega))
  | ((with_reducible show CPow _ _); exact And.intro (by decide) (And.intro (by decide) (by decide)))
  | ((with_reducible show CDiv _ _); first | exact And.intro (by decide) (by decide) | (refine And.intro ?_ ?_ <;> omega)))
/- one step of a reading -/
local macro_rules | `(tactic| walk_at "r1") => `(tactic| first
  | refine ⟨_, rfl, ?_⟩
  | refine iteB (by rfl) ?_ | refine iteC (by rfl) ?_
  | refine ⟨_, _, rfl, rfl, ?_⟩
  | refine ⟨rfl, ?_⟩
  | refine ⟨⟨_, rfl⟩, ?_⟩
  | refine ⟨_, _, _, _, true, rfl, .ty _, .base (.str _), kit_ty (by decide +kernel), ?_⟩
  | refine ⟨_, _, _, _, false, rfl, .ty _, .base (.str _), kit_ty (by decide +kernel), ?_⟩
  | refine ⟨_, _, _, _, true, rfl, .ty _, .base (.int _), kit_ty (by decide +kernel), ?_⟩
  | refine ⟨_, _, _, _, false, rfl, .ty _, .base (.int _), kit_ty (by decide +kernel), ?_⟩
  | refine ⟨_, _, _, _, true, rfl, .ty _, .base (.tup (by walk_at "hp")), kit_ty (by decide +kernel), ?_⟩
  | refine ⟨_, _, _, _, false, rfl, .ty _, .base (.tup (by walk_at "hp")), kit_ty (by decide +kernel), ?_⟩
  | refine ⟨_, _, _, _, true, rfl, .ty _, .base (.lst (by walk_at "hp")), kit_ty (by decide +kernel), ?_⟩
  | refine ⟨_, _, _, _, false, rfl, .ty _, .base (.lst (by walk_at "hp")), kit_ty (by decide +kernel), ?_⟩
  | refine ⟨_, _, rfl, ⟨by walk_at "sz", rfl⟩, ?_⟩
  | refine ⟨_, _, _, _, rfl, rfl, SqT.of (by walk_at "hp"), by rfl, ?_⟩
  | refine ⟨_, _, _, _, rfl, rfl, SqL.of (by walk_at "hp"), by rfl, ?_⟩
  | refine ⟨.inl ⟨rfl, _, SqL.of (by walk_at "hp")⟩, ?_⟩
  | refine ⟨_, _, _, rfl, rfl, (by walk_at "hp"), snoc_get, ?_⟩
  | refine ⟨_, _, _, _, rfl, rfl, (by walk_at "hp"), by rfl, ?_⟩
  | refine ⟨_, _, rfl, SqL.of (by walk_at "hp"), ?_⟩
  | refine ⟨_, _, rfl, SqT.of (by walk_at "hp"), by rfl, ?_⟩
  | refine ⟨_, (_ : List V), rfl, ?_⟩
  | refine ⟨_, _, rfl, .inl ⟨_, (by assumption), rfl⟩, ?_⟩
  | refine ⟨_, _, rfl, .inl ⟨_, SqL.of (by walk_at "hp"), rfl⟩, ?_⟩
  | refine ⟨_, _, rfl, .inr ⟨_, SqT.of (by walk_at "hp"), rfl⟩, ?_⟩
  | refine Or.inl ⟨(_ : Int), rfl, ?_⟩ | refine Or.inr ⟨(_ : Bool), rfl, ?_⟩
  | refine ⟨_, _, _, _, true, rfl, (by assumption : ND _ _ _ _), .ty _, kit_ty (by decide +kernel), ?_⟩
  | refine ⟨_, _, _, _, false, rfl, (by assumption : ND _ _ _ _), .ty _, kit_ty (by decide +kernel), ?_⟩
  | refine ⟨_, _, rfl, (by assumption : ND _ _ _ _), ?_⟩
  | refine And.intro (by walk_at "ar") ?_)
local macro_rules | `(tactic| walk_at "rd") => `(tactic| repeat walk_at "r1")

section
variable {P : Program} {w : World} {K : PySem.W.Frag} {mg : Str → Option Value} {base : Heap}
abbrev G' (P : Program) (w : World) (K : PySem.W.Frag) (mg : Str → Option Value) (base : Heap) := Gd P w K mg base

/-! ### is_letter -/
abbrev s_is_letter : Stmt := top 12
theorem sc_is_letter : FnScope ["thing"] ["thing"] (defScope s_is_letter) := ⟨rfl, rfl, rfl, by decide +kernel, rfl, by decide +kernel, by decide +kernel⟩
abbrev s_is_part : Stmt := top 13
theorem sc_is_part : FnScope ["thing"] ["thing"] (defScope s_is_part) := ⟨rfl, rfl, rfl, by decide +kernel, rfl, by decide +kernel, by decide +kernel⟩
abbrev s_is_tree : Stmt := top 14
theorem sc_is_tree : FnScope ["thing", "waiting", "part"] ["thing"] (defScope s_is_tree) := ⟨rfl, rfl, rfl, by decide +kernel, rfl, by decide +kernel, by decide +kernel⟩
abbrev s_need_tree : Stmt := top 15
theorem sc_need_tree : FnScope ["thing"] ["thing"] (defScope s_need_tree) := ⟨rfl, rfl, rfl, by decide +kernel, rfl, by decide +kernel, by decide +kernel⟩
abbrev s_parts_in_order : Stmt := top 16
theorem sc_parts_in_order : FnScope ["tree", "found", "waiting"] ["tree"] (defScope s_parts_in_order) := ⟨rfl, rfl, rfl, by decide +kernel, rfl, by decide +kernel, by decide +kernel⟩

def sp_is_letter : Sp := fun vs H Q _ => ∃ c, vs = [.str ⟨#[c]⟩] ∧ Q (.bl (isL c)) H
theorem ok_is_letter (D : Df K mg "is_letter" s_is_letter ["thing"]) (T : Txt K mg) : G' P w K mg base "is_letter" 1 ["thing"] sp_is_letter := by
  refine D.ok fun f fd F => F.okX sc_is_letter (fun vs H Q E h => ?_) (fun cdv A outer s H vs Q E hr h => ?_)
  · obtain ⟨c, rfl, _⟩ := h
    rfl
  · obtain ⟨c, rfl, k⟩ := h
    refine ⟨_, (pss_one (ps_ret (pe_and (pe_callB (call_isiK K) (by rfl) T.n_isinstance (by decide +kernel) (pa_cons (pv 0) (pa_cons (pe_ty (n := "str") T.n_str (by decide +kernel)) pa_nil))) (pe_and (pe_cmpR op_eq (pe_callB (call_lenK K) (by rfl) T.n_len PySem.boot_len (pa_cons (pv 0) pa_nil)) pe_int (nomark _)) (pe_one (pe_cmpR op_in_sign (pv 0) (pe_gv T.g_LETTERS_trees) (by rfl))))))), ?_⟩
    walk_at "rd"
    rw [letter_in]
    exact k

/-! ### is_part, is_tree, need_tree: of trees -/
def sp_is_part : Sp := fun vs H Q _ => ∃ v t as, vs = [v] ∧ TF H t v as ∧ isL t.c = true ∧ Q (.bl true) H
theorem ok_is_part (D : Df K mg "is_part" s_is_part ["thing"]) (T : Txt K mg) (G_is_letter : G' P w K mg base "is_letter" 1 ["thing"] sp_is_letter) : G' P w K mg base "is_part" 2 ["thing"] sp_is_part := by
  refine D.ok fun f fd F => F.okX sc_is_part (fun vs H Q E h => ?_) (fun cdv A outer s H vs Q E hr h => ?_)
  · obtain ⟨v, t, as, rfl, _⟩ := h
    rfl
  · obtain ⟨v, t, as, rfl, ht, hc, k⟩ := h
    obtain ⟨a, l, ps, ha, hl, hp, et, rfl, has⟩ := ht.out
    refine ⟨_, (pss_one (ps_ret (pe_and (pe_callB (call_isiK K) (by rfl) T.n_isinstance (by decide +kernel) (pa_cons (pv 0) (pa_cons (pe_ty (n := "tuple") T.n_tuple (by decide +kernel)) pa_nil))) (pe_and (pe_cmpR op_eq (pe_callB (call_lenK K) (by rfl) T.n_len PySem.boot_len (pa_cons (pv 0) pa_nil)) pe_int (nomark _)) (pe_and (pe_cl G_is_letter (hr.mono (by omega)) passF (pa_cons (pe_ix (ix_tupK K) (pv 0) pe_int (fun _ _ => rfl)) pa_nil)) (pe_one (pe_callB (call_isiK K) (by rfl) T.n_isinstance (by decide +kernel) (pa_cons (pe_ix (ix_tupK K) (pv 0) pe_int (fun _ _ => rfl)) (pa_cons (pe_ty (n := "list") T.n_list (by decide +kernel)) pa_nil))))))))), ?_⟩
    walk_at "rd"
    rw [hc]
    walk_at "rd"
    exact k
def sp_is_tree : Sp := fun vs H Q _ => ∃ v t as, vs = [v] ∧ TF H t v as ∧ t.ok = true ∧ t.size ≤ 100000 ∧ ∀ H', Same H H' → Q (.bl true) H'
theorem ok_is_tree (D : Df K mg "is_tree" s_is_tree ["thing"]) (T : Txt K mg) (G_is_part : G' P w K mg base "is_part" 2 ["thing"] sp_is_part) : G' P w K mg base "is_tree" 3 ["thing"] sp_is_tree := by
  refine D.ok fun f fd F => F.okX sc_is_tree (fun vs H Q E h => ?_) (fun cdv A outer s H vs Q E hr h => ?_)
  · obtain ⟨v, t, as, rfl, _⟩ := h
    rfl
  · obtain ⟨v, t, as, rfl, ht, hok, hsz, k⟩ := h
    refine ⟨_, (pss_cons (ps_set (i := 1) sc_is_tree.nd rfl (by first | exact Or.inl rfl | exact Or.inr rfl) (pe_lst (pa_cons (pv 0) pa_nil)))
  (pss_cons (ps_while (passes_of rfl) (pt_cmp (pc_neNilK K hr (pv 1))) (pss_cons (ps_set (i := 2) sc_is_tree.nd rfl (by first | exact Or.inl rfl | exact Or.inr rfl) (cbm0 K (pe_bm0 PySem.F.plainAttrs_list PySem.F.slot_list_pop PySem.F.type_list_pop mt_pop (pv 1))))
  (pss_cons (ps_if (pt_not (pt_val (pe_cl G_is_part (hr.mono (by omega)) passF (pa_cons (pv 2) pa_nil)))) (pss_one (ps_ret pe_bl)) pss_nil)
  (pss_one (ps_expr (cbm K (pe_bm PySem.F.plainAttrs_list PySem.F.slot_list_extend PySem.F.type_list_extend mt_extend (pv 1) (pa_cons (pe_ix (ix_tupK K) (pv 2) pe_int (fun _ _ => rfl)) pa_nil))))))))
  (pss_one (ps_ret pe_bl)))), ?_⟩
    walk_at "rd"
    refine ⟨(by walk_at "sz"), fun wl nw => ?_⟩
    refine ⟨fun m σ H' => ∃ (ps : List Fp) (pv : Option V), m = Tr.sizes (ps.map (·.2.1)) ∧ σ = [some v, some (.ref wl), pv] ∧ Same H H' ∧ H' wl = some (.lst (ps.map (·.1))) ∧ (∀ p ∈ ps, TF H p.2.1 p.1 p.2.2) ∧ Tr.oks (ps.map (·.2.1)) = true ∧ Tr.sizes (ps.map (·.2.1)) ≤ 100000,
      ⟨_, [(v, t, as)], none, rfl, rfl, same_new nw, upd_same, ?_, ?_, ?_⟩, ?_⟩
    · intro p hp
      obtain rfl := List.mem_singleton.mp hp
      exact ht
    · simp [Tr.oks, hok]
    · simpa [Tr.sizes] using hsz
    · rintro m σ H1 ⟨ps, pv, rfl, rfl, S1, hw, hps, hoks, hszs⟩
      walk_at "rd"
      rcases snoc_cases ps with rfl | ⟨qs, ⟨qv, qt, qa⟩, rfl⟩
      · walk_at "rd"
        exact k _ S1
      · simp only [List.map_append, List.map_cons, List.map_nil, Tr.oks_append, Tr.sizes_append, Tr.oks, Tr.sizes, Bool.and_true, Bool.and_eq_true] at hw hoks hszs ⊢
        have hq : TF H qt qv qa := hps (qv, qt, qa) (by simp)
        obtain ⟨a, l, us, ha, hl, hu, et, rfl, has⟩ := hq.out
        have hc : isL qt.c = true ∧ Tr.oks qt.ts = true := by
          have z := hoks.2
          rw [qt.eta, Tr.ok, Bool.and_eq_true] at z
          exact z
        have hz : qt.size = 1 + Tr.sizes qt.ts := by
          cases qt
          rfl
        refine ifNe1 ?_
        refine ⟨fun σ H' => ∃ (ps : List Fp) (pv : Option V), Tr.sizes (ps.map (·.2.1)) < Tr.sizes (qs.map (·.2.1)) + (qt.size + 0) ∧ σ = [some v, some (.ref wl), pv] ∧ Same H H' ∧ H' wl = some (.lst (ps.map (·.1))) ∧ (∀ p ∈ ps, TF H p.2.1 p.1 p.2.2) ∧ Tr.oks (ps.map (·.2.1)) = true ∧ Tr.sizes (ps.map (·.2.1)) ≤ 100000,
          fun σ' H' ⟨ps, pv, h1, h2⟩ => ⟨_, h1, ps, pv, rfl, h2⟩, ?_⟩
        walk_at "rd"
        rw [List.dropLast_concat]
        generalize e : upd H1 wl _ = H2
        obtain ⟨S2, hw2⟩ := ownF S1 nw e
        refine ⟨_, _, _, rfl, hq.same S2, hc.1, true, rfl, iteF ?_⟩
        walk_at "rd"
        have l1 := Tr.sizes_len (qs.map (·.2.1))
        have l2 := Tr.sizes_len (us.map (·.2.1))
        rw [List.length_map] at l1 l2
        rw [hz, et] at hszs
        refine ⟨_, _, _, _, rfl, rfl, hw2, S2 _ _ hl, ?_, ?_⟩
        · rw [List.length_map, List.length_map]
          exact Nat.le_trans (show _ ≤ 100000 by omega) (by decide)
        generalize e3 : upd H2 wl _ = H3
        obtain ⟨S3, hw3⟩ := ownF S2 nw e3
        refine ⟨qs ++ us, _, ?_, rfl, S3, by rw [hw3, List.map_append], fun p hp => ?_, ?_, ?_⟩
        · rw [List.map_append, Tr.sizes_append, hz, et]
          omega
        · rcases List.mem_append.mp hp with hp | hp
          · exact hps p (List.mem_append_left _ hp)
          · exact hu p hp
        · rw [List.map_append, Tr.oks_append, hoks.1, ← et, hc.2]
          rfl
        · rw [List.map_append, Tr.sizes_append]
          omega

def sp_need_tree : Sp := fun vs H Q _ => ∃ v t as, vs = [v] ∧ TF H t v as ∧ t.ok = true ∧ t.size ≤ 100000 ∧ ∀ H', Same H H' → Q .non H'
theorem ok_need_tree (D : Df K mg "need_tree" s_need_tree ["thing"]) (T : Txt K mg) (G_is_tree : G' P w K mg base "is_tree" 3 ["thing"] sp_is_tree) : G' P w K mg base "need_tree" 4 ["thing"] sp_need_tree := by
  refine D.ok fun f fd F => F.okX sc_need_tree (fun vs H Q E h => ?_) (fun cdv A outer s H vs Q E hr h => ?_)
  · obtain ⟨v, t, as, rfl, _⟩ := h
    rfl
  · obtain ⟨v, t, as, rfl, ht, hok, hsz, k⟩ := h
    refine ⟨_, (pss_one (ps_if (pt_not (pt_val (pe_cl G_is_tree (hr.mono (by omega)) passF (pa_cons (pv 0) pa_nil)))) (pss_one (ps_rs T.x_NoTree rfl (takes_of rfl rfl rfl rfl))) pss_nil)), ?_⟩
    walk_at "rd"
    refine ⟨_, _, _, rfl, ht, hok, hsz, fun H' S => ⟨true, rfl, iteF ?_⟩⟩
    exact k _ S

/-! ### parts_in_order: the parts themselves -/
/-- the values vs are the trees ts, at some lists -/
def TVs (H : Hp) (ts : List Tr) (vs : List V) : Prop := ∃ ps : List Fp, ts = ps.map (·.2.1) ∧ vs = ps.map (·.1) ∧ ∀ p ∈ ps, TF H p.2.1 p.1 p.2.2
def sp_parts_in_order : Sp := fun vs H Q _ => ∃ v t as, vs = [v] ∧ TF H t v as ∧ t.size ≤ 100000 ∧ ∀ H' p ws, Same H H' → H p = none → H' p = some (.lst ws) → TVs H t.parts ws → Q (.ref p) H'
theorem ok_parts_in_order (D : Df K mg "parts_in_order" s_parts_in_order ["tree"]) (T : Txt K mg) : G' P w K mg base "parts_in_order" 1 ["tree"] sp_parts_in_order := by
  refine D.ok fun f fd F => F.okX sc_parts_in_order (fun vs H Q E h => ?_) (fun cdv A outer s H vs Q E hr h => ?_)
  · obtain ⟨v, t, as, rfl, _⟩ := h
    rfl
  · obtain ⟨v, t, as, rfl, ht, hsz, k⟩ := h
    refine ⟨_, (pss_cons (ps_set (i := 1) sc_parts_in_order.nd rfl (by first | exact Or.inl rfl | exact Or.inr rfl) (pe_lst pa_nil))
  (pss_cons (ps_set (i := 2) sc_parts_in_order.nd rfl (by first | exact Or.inl rfl | exact Or.inr rfl) (pe_lst (pa_cons (pv 0) pa_nil)))
  (pss_cons (ps_while (passes_of rfl) (pt_cmp (pc_neNilK K hr (pv 2))) (pss_cons (ps_expr (cbm K (pe_bm PySem.F.plainAttrs_list PySem.F.slot_list_append PySem.F.type_list_append mt_append (pv 1) (pa_cons (cbm0 K (pe_bm0 PySem.F.plainAttrs_list PySem.F.slot_list_pop PySem.F.type_list_pop mt_pop (pv 2))) pa_nil))))
  (pss_one (ps_expr (cbm K (pe_bm PySem.F.plainAttrs_list PySem.F.slot_list_extend PySem.F.type_list_extend mt_extend (pv 2) (pa_cons (pe_ix (ix_tupK K) (pe_ix (ix_listK K) (pv 1) (pe_un un_neg pe_int) (fun _ _ => rfl)) pe_int (fun _ _ => rfl)) pa_nil)))))))
  (pss_one (ps_ret (pe_revK K (pv 1))))))), ?_⟩
    walk_at "rd"
    refine ⟨(by walk_at "sz"), fun fl nf => ?_⟩
    generalize e0 : upd H fl _ = H0
    obtain ⟨S0, hf0⟩ := newF nf e0
    walk_at "rd"
    refine ⟨(by walk_at "sz"), fun wl nw0 => ?_⟩
    have nw : H wl = none := S0.free nw0
    have nfw : fl ≠ wl := ne_of_none hf0 nw0
    generalize e1 : upd H0 wl _ = H1
    have S1 : Same H H1 := by subst e1; exact Same.upd_own S0 nw
    have hf1 : H1 fl = some (.lst []) := by subst e1; rw [upd_ne nfw]; exact hf0
    have hw1 : H1 wl = some (.lst [v]) := by subst e1; exact upd_same
    refine ⟨fun m σ H' => ∃ (ds ps : List Fp), m = Tr.sizes (ps.map (·.2.1)) ∧ σ = [some v, some (.ref fl), some (.ref wl)] ∧ Same H H' ∧ H' fl = some (.lst (ds.map (·.1))) ∧ H' wl = some (.lst (ps.map (·.1))) ∧ (∀ p ∈ ps, TF H p.2.1 p.1 p.2.2) ∧ (∀ p ∈ ds, TF H p.2.1 p.1 p.2.2) ∧
        ds.map (·.2.1) ++ (Tr.partss (ps.map (·.2.1))).reverse = t.parts.reverse,
      ⟨_, [], [(v, t, as)], rfl, rfl, S1, hf1, hw1, ?_, ?_, ?_⟩, ?_⟩
    · intro p hp
      obtain rfl := List.mem_singleton.mp hp
      exact ht
    · intro p hp
      cases hp
    · simp [Tr.partss]
    · rintro m σ H1 ⟨ds, ps, rfl, rfl, S1, hf, hw, hps, hds, heq⟩
      have hlen : ds.length + (Tr.partss (ps.map (·.2.1))).length = t.size := by
        have q := congrArg List.length heq
        rw [List.length_append, List.length_map, List.length_reverse, List.length_reverse, Tr.parts_len] at q
        exact q
      rw [Tr.partss_len] at hlen
      walk_at "rd"
      rcases snoc_cases ps with rfl | ⟨qs, ⟨qv, qt, qa⟩, rfl⟩
      · walk_at "rd"
        refine fun p np => k _ p _ (Same.upd_new S1 np) (S1.free np) upd_same ⟨ds.reverse, ?_, by rw [List.map_reverse], fun p hp => hds p (List.mem_reverse.mp hp)⟩
        simp only [List.map_nil, Tr.partss, List.reverse_nil, List.append_nil] at heq
        rw [List.map_reverse, heq, List.reverse_reverse]
      · simp only [List.map_append, List.map_cons, List.map_nil, Tr.sizes_append, Tr.sizes, Tr.partss_append, Tr.partss, List.append_nil, List.reverse_append] at hw heq hlen ⊢
        have hq : TF H qt qv qa := hps (qv, qt, qa) (by simp)
        obtain ⟨a, l, us, ha, hl, hu, et, rfl, has⟩ := hq.out
        have hz : qt.size = 1 + Tr.sizes qt.ts := by
          cases qt
          rfl
        have hp : qt.parts = Tr.partss qt.ts ++ [qt] := by
          cases qt
          rfl
        have l1 := Tr.sizes_len (qs.map (·.2.1))
        have l2 := Tr.sizes_len (us.map (·.2.1))
        rw [List.length_map] at l1 l2
        rw [hz, et] at hlen
        refine ifNe1 ?_
        refine ⟨fun σ H' => ∃ (ds ps : List Fp), Tr.sizes (ps.map (·.2.1)) < Tr.sizes (qs.map (·.2.1)) + (qt.size + 0) ∧ σ = [some v, some (.ref fl), some (.ref wl)] ∧ Same H H' ∧ H' fl = some (.lst (ds.map (·.1))) ∧ H' wl = some (.lst (ps.map (·.1))) ∧ (∀ p ∈ ps, TF H p.2.1 p.1 p.2.2) ∧ (∀ p ∈ ds, TF H p.2.1 p.1 p.2.2) ∧
            ds.map (·.2.1) ++ (Tr.partss (ps.map (·.2.1))).reverse = t.parts.reverse, fun σ' H' ⟨ds, ps, h1, h2⟩ => ⟨_, h1, ds, ps, rfl, h2⟩, ?_⟩
        walk_at "rd"
        rw [List.dropLast_concat]
        generalize e2 : upd H1 wl _ = H2
        obtain ⟨S2, hw2⟩ := ownF S1 nw e2
        have hf2 : H2 fl = some (.lst (ds.map (·.1))) := by subst e2; rw [upd_ne nfw]; exact hf
        walk_at "rd"
        refine ⟨_, _, _, rfl, rfl, hf2, ?_, ?_⟩
        · rw [List.length_map]
          exact Nat.lt_of_le_of_lt (show _ ≤ 100000 by omega) (by decide)
        generalize e3 : upd H2 fl _ = H3
        obtain ⟨S3, hf3⟩ := ownF S2 nf e3
        have hw3 : H3 wl = some (.lst (qs.map (·.1))) := by subst e3; rw [upd_ne nfw.symm]; exact hw2
        walk_at "rd"
        refine ⟨_, _, _, _, rfl, rfl, SqL.of hf3, atI_end, ?_⟩
        walk_at "rd"
        refine ⟨_, _, _, _, rfl, rfl, hw3, S3 _ _ hl, ?_, ?_⟩
        · rw [List.length_map, List.length_map]
          exact Nat.le_trans (show _ ≤ 100000 by omega) (by decide)
        generalize e4 : upd H3 wl _ = H4
        obtain ⟨S4, hw4⟩ := ownF S3 nw e4
        have hf4 : H4 fl = some (.lst (ds.map (·.1) ++ [.ref a])) := by subst e4; rw [upd_ne nfw]; exact hf3
        refine ⟨ds ++ [(.ref a, qt, qa)], qs ++ us, ?_, rfl, S4, by rw [hf4, List.map_append]; rfl, by rw [hw4, List.map_append], fun p hp => ?_, fun p hp => ?_, ?_⟩
        · rw [List.map_append, Tr.sizes_append, hz, et]
          omega
        · rcases List.mem_append.mp hp with hp | hp
          · exact hps p (List.mem_append_left _ hp)
          · exact hu p hp
        · rcases List.mem_append.mp hp with hp | hp
          · exact hds p hp
          · obtain rfl := List.mem_singleton.mp hp
            exact hq
        · rw [← heq, hp, et, List.map_append, List.map_append, Tr.partss_append]
          simp
end
end Hy
set_option Elab.async false
set_option linter.all false
set_option maxRecDepth 100000
set_option maxHeartbeats 4000000
namespace Hy
open PySem L2
local macro_rules | `(tactic| walk_at "hp") => `(tactic| first
  | assumption | exact upd_same
  | (refine (upd_ne ?_).trans ?_ <;> first | assumption | (exact Ne.symm (by assumption)) | walk_at "ne" | walk_at "hp")
  | (refine (by assumption : Same _ _) _ _ ?_; assumption))
local macro_rules | `(tactic| walk_at "ne") => `(tactic| first
  | assumption | (exact Ne.symm (by assumption))
  | exact ne_of_none (by assumption) (by assumption) | exact Ne.symm (ne_of_none (by assumption) (by assumption)))
local macro_rules | `(tactic| walk_at "sz") => `(tactic| first | assumption | (show 0 ≤ sizeLine; decide) | (show 1 ≤ sizeLine; decide) | (show 2 ≤ sizeLine; decide) | (show 3 ≤ sizeLine; decide))
local macro_rules | `(tactic| walk_at "ar") => `(tactic| first
  | ((with_reducible show (0 : Int) < _); first | decide | omega)
  | ((with_reducible show CMul _ _); first | exact Or.inr (And.intro (by decide) (by decide)) | exact Or.inl (And.intro (by decide) (by decide)) | (refine Or.inl (And.intro ?_ ?_) <;> omega) | (refine Or.inr (And.intro ?_ ?_) <;> omega))
  | ((with_reducible show CPow _ _); exact And.intro (by decide) (And.intro (by decide) (by decide)))
  | ((with_reducible show CDiv _ _); first | exact And.intro (by decide) (by decide) | (refine And.intro ?_ ?_ <;> omega)))
/- one step of a reading -/
local macro_rules | `(tactic| walk_at "r1") => `(tactic| first
  | refine ⟨_, rfl, ?_⟩
  | refine iteB (by rfl) ?_ | refine iteC (by rfl) ?_
  | refine ⟨_, _, rfl, rfl, ?_⟩
  | refine ⟨rfl, ?_⟩
  | refine ⟨⟨_, rfl⟩, ?_⟩
  | refine ⟨_, _, _, _, true, rfl, .ty _, .base (.str _), kit_ty (by decide +kernel), ?_⟩
  | refine ⟨_, _, _, _, false, rfl, .ty _, .base (.str _), kit_ty (by decide +kernel), ?_⟩
  | refine ⟨_, _, _, _, true, rfl, .ty _, .base (.int _), kit_ty (by decide +kernel), ?_⟩
  | refine ⟨_, _, _, _, false, rfl, .ty _, .base (.int _), kit_ty (by decide +kernel), ?_⟩
  | refine ⟨_, _, _, _, true, rfl, .ty _, .base (.tup (by walk_at "hp")), kit_ty (by decide +kernel), ?_⟩
  | refine ⟨_, _, _, _, false, rfl, .ty _, .base (.tup (by walk_at "hp")), kit_ty (by decide +kernel), ?_⟩
  | refine ⟨_, _, _, _, true, rfl, .ty _, .base (.lst (by walk_at "hp")), kit_ty (by decide +kernel), ?_⟩
  | refine ⟨_, _, _, _, false, rfl, .ty _, .base (.lst (by walk_at "hp")), kit_ty (by decide +kernel), ?_⟩
  | refine ⟨_, _, rfl, ⟨by walk_at "sz", rfl⟩, ?_⟩
  | refine ⟨_, _, _, _, rfl, rfl, SqT.of (by walk_at "hp"), by rfl, ?_⟩
  | refine ⟨_, _, _, _, rfl, rfl, SqL.of (by walk_at "hp"), by rfl, ?_⟩
  | refine ⟨.inl ⟨rfl, _, SqL.of (by walk_at "hp")⟩, ?_⟩
  | refine ⟨_, _, _, rfl, rfl, (by walk_at "hp"), snoc_get, ?_⟩
  | refine ⟨_, _, _, _, rfl, rfl, (by walk_at "hp"), by rfl, ?_⟩
  | refine ⟨_, _, rfl, SqL.of (by walk_at "hp"), ?_⟩
  | refine ⟨_, _, rfl, SqT.of (by walk_at "hp"), by rfl, ?_⟩
  | refine ⟨_, (_ : List V), rfl, ?_⟩
  | refine ⟨_, _, rfl, .inl ⟨_, (by assumption), rfl⟩, ?_⟩
  | refine ⟨_, _, rfl, .inl ⟨_, SqL.of (by walk_at "hp"), rfl⟩, ?_⟩
  | refine ⟨_, _, rfl, .inr ⟨_, SqT.of (by walk_at "hp"), rfl⟩, ?_⟩
  | refine Or.inl ⟨(_ : Int), rfl, ?_⟩ | refine Or.inr ⟨(_ : Bool), rfl, ?_⟩
  | refine ⟨_, _, _, _, true, rfl, (by assumption : ND _ _ _ _), .ty _, kit_ty (by decide +kernel), ?_⟩
  | refine ⟨_, _, _, _, false, rfl, (by assumption : ND _ _ _ _), .ty _, kit_ty (by decide +kernel), ?_⟩
  | refine ⟨_, _, rfl, (by assumption : ND _ _ _ _), ?_⟩
  | refine And.intro (by walk_at "ar") ?_)
local macro_rules | `(tactic| walk_at "rd") => `(tactic| repeat walk_at "r1")

abbrev Fp.v (p : Fp) : V := p.1
abbrev Fp.t (p : Fp) : Tr := p.2.1
abbrev Fp.as (p : Fp) : List Addr := p.2.2
/-- the writings' order, told of pairs (writing, place) -/
theorem le_pair {a b : Tr} {i j : Int} (h : PySem.W.dataLe false (fun p : V × PyData => p.2) (x, .tuple [.str (txS a.W), .int i]) (y, .tuple [.str (txS b.W), .int j]) = true) : leW a b = true := by
  have h' : (!PySem.W.dataLt (.tuple [.str (txS b.W), .int j]) (.tuple [.str (txS a.W), .int i])) = true := h
  rw [PySem.W.dataLt_pair (by simp [PySem.W.alike]) (by simp [PySem.W.alike])] at h'
  unfold leW
  by_cases e : PyData.eqv (.str (txS b.W)) (.str (txS a.W)) = true
  · have e' : txS b.W = txS a.W := by simpa [PyData.eqv] using e
    have e2 : b.W = a.W := by simpa using congrArg (fun s : Str => s.cps.toList) e'
    rw [e2]
    exact decide_eq_true (List.le_refl _)
  · rw [if_neg e, PySem.W.dataLt_str] at h'
    have h2 : ¬ (b.W < a.W) := by simpa using h'
    exact decide_eq_true (List.not_lt.mp h2)
theorem alike_pair (a b : Tr) (i j : Int) : PySem.W.alike (.tuple [.str (txS a.W), .int i]) (.tuple [.str (txS b.W), .int j]) = true := by simp [PySem.W.alike, PySem.W.alikeAll]
theorem dataLe_total {β : Type} (k : β → PyData) : PySem.W.TotalLe (PySem.W.dataLe false k) := PySem.W.sortLe_total _ _ _
def d0 : Fp := (.non, .node 0 [], [])
theorem getD_some {ps : List Fp} {i : Nat} (h : i < ps.length) : ps[i]? = some (ps.getD i d0) := by
  rw [List.getD_eq_getElem?_getD, List.getElem?_eq_getElem h]
  rfl
theorem map_getD {ps : List Fp} : (List.range ps.length).map (fun i => ps.getD i d0) = ps := by
  refine List.ext_getElem? fun i => ?_
  rw [List.getElem?_map]
  by_cases h : i < ps.length
  · rw [List.getElem?_range h, getD_some h]
    rfl
  · rw [List.getElem?_eq_none (by simp; omega), List.getElem?_eq_none (by omega)]
    rfl

theorem wipe2 {σ : St} {a b : Nat} (x y : Option V) : wipe (((wipe σ [a, b]).set a x).set b y) [a, b] = wipe σ [a, b] := by
  refine List.ext_getElem? fun i => ?_
  simp only [wipe, List.getElem?_set, List.length_set]
  by_cases h1 : a = i
  · simp [h1]
  · by_cases h2 : b = i
    · simp [h1, h2]
    · simp [h1, h2]
/-! ### [more for more, child in xs], [child for more, child in xs] -/
/-- what a comprehension over a list asks, behind its list -/
abbrev LcR (g : TG) (tt : TT) (te : TE) (vs : List Nat) (σ : St) (Qd : Addr → Hp → Prop) (J : It) (H1 : Hp) : Prop := ∀ D, H1 D = none → ∃ W : Nat → Nat → Hp → Prop, (∃ m, W 0 m (upd H1 D (.lst []))) ∧
  ∀ i m H, W i m H → (J.stop i H ∧ Qd D H) ∨ (J.go i H ∧ ∃ Nx : Hp → Prop, (∀ H', Nx H' → ∃ m', m' < m ∧ W (i + 1) m' H') ∧
    ∀ x H', J.yld i H x H' → g x (wipe σ vs) H' fun σ2 H2 => wipe σ2 vs = wipe σ vs ∧ tt σ2 H2 fun b H3 => if b = true then te σ2 H3 fun y H4 => ∃ acc, H4 D = some (.lst acc) ∧ acc.length < sizeLine ∧ Nx (upd H4 D (.lst (acc ++ [y]))) else Nx H3)
theorem lc_more {K : PySem.W.Frag} {σ : St} {H : Hp} {Qd : Addr → Hp → Prop} {p : Addr} {qs : List Fp} {a b : Nat} (ha : a < σ.length) (hb : b < σ.length) (hab : a ≠ b) (hp : H p = some (.lst (qs.map Fp.v))) (hF : ∀ q ∈ qs, FF H q.t q.v q.as) (hn : qs.length ≤ 100000)
    (k : ∀ (D : Addr) (H' : Hp), Same H H' → H D = none → H' D = some (.lst (qs.map fun q => tx q.t.W)) → Qd D H') : (∃ xs, SqL K H p xs) ∧ LcR (gTup K 2 (gCons (gName a) (gCons (gName b) gNil))) tYes (tVar a) [a, b] σ Qd (Itl K p) H := by
  refine ⟨⟨_, SqL.of hp⟩, fun D nD => lc_list (xs := qs.map Fp.v) (fun j H' => Same H H' ∧ H' D = some (.lst ((qs.take j).map fun q => tx q.t.W))) ⟨same_new nD, upd_same⟩ (fun j H' _ h => SqL.of (h.1 _ _ hp)) ?_ ?_⟩
  · rintro j x H3 hx ⟨S3, hD⟩
    rw [List.getElem?_map] at hx
    obtain ⟨q, hj, rfl⟩ := Option.map_eq_some_iff.mp hx
    obtain ⟨c, u, e, hc, hu⟩ := hF q (List.mem_of_getElem? hj)
    refine ⟨c, _, e, SqT.of (S3 _ _ hc), rfl, _, _, rfl, _, _, rfl, rfl, ?_⟩
    refine ⟨wipe2 _ _, tx q.t.W, ?_, _, hD, ?_, Same.upd_own S3 nD, ?_⟩
    · show (((wipe σ [a, b]).set a (some (tx q.t.W))).set b (some u))[a]? = _
      rw [List.getElem?_set_ne (Ne.symm hab), List.getElem?_set_self (by simpa [wipe] using ha)]
    · rw [List.length_map, List.length_take]
      exact Nat.lt_of_le_of_lt (Nat.le_trans (Nat.min_le_right _ _) hn) (by decide)
    · rw [upd_same, List.take_succ, List.map_append, hj]
      rfl
  · rintro H3 ⟨S3, hD⟩
    refine k D _ S3 nD ?_
    rw [hD, List.take_of_length_le (by simp)]
theorem lc_child {K : PySem.W.Frag} {σ : St} {H : Hp} {Qd : Addr → Hp → Prop} {p : Addr} {qs : List Fp} {a b : Nat} (ha : a < σ.length) (hb : b < σ.length) (hab : a ≠ b) (hp : H p = some (.lst (qs.map Fp.v))) (hF : ∀ q ∈ qs, FF H q.t q.v q.as) (hn : qs.length ≤ 100000)
    (k : ∀ (D : Addr) (H' : Hp) (us : List Fp), Same H H' → H D = none → H' D = some (.lst (us.map Fp.v)) → us.map Fp.t = qs.map Fp.t → us.map Fp.as = qs.map Fp.as → (∀ u ∈ us, TF H u.t u.v u.as) → Qd D H') : (∃ xs, SqL K H p xs) ∧ LcR (gTup K 2 (gCons (gName a) (gCons (gName b) gNil))) tYes (tVar b) [a, b] σ Qd (Itl K p) H := by
  refine ⟨⟨_, SqL.of hp⟩, fun D nD => lc_list (xs := qs.map Fp.v) (fun j H' => Same H H' ∧ ∃ us : List Fp, H' D = some (.lst (us.map Fp.v)) ∧ us.map Fp.t = (qs.take j).map Fp.t ∧ us.map Fp.as = (qs.take j).map Fp.as ∧ ∀ u ∈ us, TF H u.t u.v u.as) ⟨same_new nD, [], upd_same, rfl, rfl, fun u hu => by cases hu⟩ (fun j H' _ h => SqL.of (h.1 _ _ hp)) ?_ ?_⟩
  · rintro j x H3 hx ⟨S3, us, hD, h1, h2, h3⟩
    rw [List.getElem?_map] at hx
    obtain ⟨q, hj, rfl⟩ := Option.map_eq_some_iff.mp hx
    obtain ⟨c, u, e, hc, hu⟩ := hF q (List.mem_of_getElem? hj)
    refine ⟨c, _, e, SqT.of (S3 _ _ hc), rfl, _, _, rfl, _, _, rfl, rfl, ?_⟩
    refine ⟨wipe2 _ _, u, ?_, _, hD, ?_, Same.upd_own S3 nD, us ++ [(u, q.t, q.as)], ?_, ?_, ?_, ?_⟩
    · show (((wipe σ [a, b]).set a (some (tx q.t.W))).set b (some u))[b]? = _
      rw [List.getElem?_set_self (by simpa [wipe] using hb)]
    · have q := congrArg List.length h1
      rw [List.length_map, List.length_map, List.length_take] at q
      rw [List.length_map, q]
      exact Nat.lt_of_le_of_lt (Nat.le_trans (Nat.min_le_right _ _) hn) (by decide)
    · rw [upd_same, List.map_append]
      rfl
    · rw [List.take_succ, List.map_append, List.map_append, h1, hj]
      rfl
    · rw [List.take_succ, List.map_append, List.map_append, h2, hj]
      rfl
    · intro w hw
      rcases List.mem_append.mp hw with hw | hw
      · exact h3 w hw
      · obtain rfl := List.mem_singleton.mp hw
        exact hu
  · rintro H3 ⟨S3, us, hD, h1, h2, h3⟩
    rw [List.take_of_length_le (by simp)] at h1 h2
    exact k D _ us S3 nD hD h1 h2 h3
section
variable {P : Program} {w : World} {K : PySem.W.Frag} {mg : Str → Option Value} {base : Heap}
abbrev s_in_order : Stmt := top 17
theorem sc_in_order : FnScope ["formed", "places", "at", "written"] ["formed"] (defScope s_in_order) := ⟨rfl, rfl, rfl, by decide +kernel, rfl, by decide +kernel, by decide +kernel⟩
abbrev s_formed_part : Stmt := top 18
theorem sc_formed_part : FnScope ["letter", "formed", "children", "written", "more", "child"] ["letter", "formed"] (defScope s_formed_part) := ⟨rfl, rfl, rfl, by decide +kernel, rfl, by decide +kernel, by decide +kernel⟩

def sp_in_order : Sp := fun vs H Q _ => ∃ (fl : Addr) (ps : List Fp), vs = [.ref fl] ∧ H fl = some (.lst (ps.map Fp.v)) ∧ (∀ p ∈ ps, FF H p.t p.v p.as) ∧ ps.length ≤ 100000 ∧
  ∀ (H' : Hp) (p : Addr) (qs : List Fp), Same H H' → H p = none → H' p = some (.lst (qs.map Fp.v)) → qs.Perm ps → SrtW (qs.map Fp.t) → Q (.ref p) H'
theorem ok_in_order (D : Df K mg "in_order" s_in_order ["formed"]) (T : Txt K mg) : G' P w K mg base "in_order" 1 ["formed"] sp_in_order := by
  refine D.ok fun f fd F => F.okX sc_in_order (fun vs H Q E h => ?_) (fun cdv A outer s H vs Q E hr h => ?_)
  · obtain ⟨fl, ps, rfl, _⟩ := h
    rfl
  · obtain ⟨fl, ps, rfl, hf, hF, hn, k⟩ := h
    refine ⟨_, (pss_cons (ps_set (i := 1) sc_in_order.nd rfl (by first | exact Or.inl rfl | exact Or.inr rfl) (pe_callB (cr_sortedDK K hr) (by rfl) T.n_sorted (by decide +kernel) (pa_cons (pe_lc (own := [("at", 2)]) rfl sc_in_order.nd (pi_range1 (by rfl) T.n_range (pa_cons (pe_callB (call_lenK K) (by rfl) T.n_len PySem.boot_len (pa_cons (pv 0) pa_nil)) pa_nil)) (blkOk_by (own := [("at", 2)]) (N := ["formed", "places", "at", "written"]) (sc := defScope s_in_order) (by decide +kernel)) (fun _ _ _ _ _ => (pg_name (i := 2) sc_in_order.nd rfl (by first | exact Or.inl rfl | exact Or.inr rfl))) (fun _ _ _ _ _ => pts_nil) (fun _ _ _ _ _ => (pe_tup (pa_cons (pe_ix (ix_tupK K) (pe_ix (ix_listK K) (pv 0) (pv 2) (fun _ _ => rfl)) pe_int (fun _ _ => rfl)) (pa_cons (pv 2) pa_nil))))) pa_nil)))
  (pss_one (ps_ret (pe_lc (own := [("written", 3), ("at", 2)]) (g := (gTup K 2 (gCons (gName 3) (gCons (gName 2) gNil)))) rfl sc_in_order.nd (pi_listK K (pv 1)) (blkOk_by (own := [("written", 3), ("at", 2)]) (N := ["formed", "places", "at", "written"]) (sc := defScope s_in_order) (by decide +kernel)) (fun _ _ _ _ _ => (pg_tup (by rfl) (pgs_cons (pg_name (i := 3) sc_in_order.nd rfl (by first | exact Or.inl rfl | exact Or.inr rfl)) (pgs_cons (pg_name (i := 2) sc_in_order.nd rfl (by first | exact Or.inl rfl | exact Or.inr rfl)) pgs_nil)))) (fun _ _ _ _ _ => pts_nil) (fun _ _ _ _ _ => (pe_ix (ix_listK K) (pv 0) (pv 2) (fun _ _ => rfl))))))), ?_⟩
    walk_at "rd"
    rw [List.length_map]
    refine ⟨by omega, by omega, ?_⟩
    rw [Int.toNat_natCast]
    refine fun D1 n1 => lc_range (lo := 0) (n := ps.length) (fun i H' => Same H H' ∧ ∃ rs : List Addr, rs.length = i ∧ H' D1 = some (.lst (rs.map V.ref)) ∧ ∀ (j : Nat) (r : Addr), rs[j]? = some r → H' r = some (.tup [tx (ps.getD j d0).t.W, .int j]))
      ⟨same_new n1, [], rfl, upd_same, fun j r z => by simp at z⟩ ?_ ?_
    · rintro i H1 hi ⟨S1, rs, rfl, hD, hrs⟩
      rw [Int.zero_add]
      walk_at "rd"
      have hg : (ps.map Fp.v)[rs.length]? = some (ps.getD rs.length d0).v := by rw [List.getElem?_map, getD_some hi]; rfl
      obtain ⟨a, u, e, ha, hu⟩ := hF _ (List.mem_of_getElem? (getD_some hi))
      refine ⟨_, _, _, _, rfl, rfl, SqL.of (S1 _ _ hf), atI_nat hg, ?_⟩
      rw [e]
      walk_at "rd"
      refine ⟨(by walk_at "sz"), fun p np => ?_⟩
      have nD : D1 ≠ p := ne_of_none hD np
      refine ⟨rs.map V.ref, by rw [upd_ne nD]; exact hD, by rw [List.length_map]; exact Nat.lt_of_le_of_lt (show _ ≤ 100000 by omega) (by decide), ?_⟩
      refine ⟨Same.upd_own (Same.upd_new S1 np) n1, rs ++ [p], by simp, by rw [upd_same, List.map_append]; rfl, fun j r hj => ?_⟩
      have hj' : (j < rs.length ∧ rs[j]? = some r) ∨ (j = rs.length ∧ r = p) := by
        by_cases hlt : j < rs.length
        · rw [List.getElem?_append_left hlt] at hj
          exact .inl ⟨hlt, hj⟩
        · rw [List.getElem?_append_right (by omega)] at hj
          have : j - rs.length = 0 := by
            cases e : j - rs.length with
            | zero => rfl
            | succ n => rw [e] at hj; simp at hj
          rw [this] at hj
          exact .inr ⟨by omega, by simpa using hj.symm⟩
      rcases hj' with ⟨hlt, hj⟩ | ⟨rfl, rfl⟩
      · have hr := hrs j r hj
        rw [upd_ne (ne_of hr hD (fun z => nomatch z)), upd_ne (ne_of_none hr np)]
        exact hr
      · rw [upd_ne nD.symm, upd_same]
    · rintro H1 ⟨S1, rs, hlen, hD, hrs⟩
      walk_at "rd"
      have hps : rs.map V.ref = ((List.range rs.length).map fun j => ((V.ref (rs.getD j 0)), PyData.tuple [.str (txS (ps.getD j d0).t.W), .int j])).map (·.1) := by
        rw [List.map_map]
        refine List.ext_getElem? fun i => ?_
        rw [List.getElem?_map, List.getElem?_map]
        by_cases h : i < rs.length
        · rw [List.getElem?_range h, List.getElem?_eq_getElem h]
          simp [List.getD_eq_getElem?_getD, List.getElem?_eq_getElem h]
        · rw [List.getElem?_eq_none (by omega), List.getElem?_eq_none (by simp; omega)]
          rfl
      rw [hps] at hD
      refine ⟨D1, _, rfl, SqL.of hD, ?_, ?_, ?_, ?_⟩
      · intro q hq
        obtain ⟨j, hj, rfl⟩ := List.mem_map.mp hq
        have hj' : j < rs.length := List.mem_range.mp hj
        have hr := hrs j (rs.getD j 0) (by rw [List.getD_eq_getElem?_getD, List.getElem?_eq_getElem hj']; rfl)
        exact ⟨.tup (SqT.of hr) (.cons (.str _) (.cons (.int _) .nil)), by simp [PyData.depth, PyData.depthAll]⟩
      · intro a ha b hb
        simp only [List.map_map, List.mem_map] at ha hb
        obtain ⟨i, _, rfl⟩ := ha
        obtain ⟨j, _, rfl⟩ := hb
        exact alike_pair _ _ _ _
      · refine .inl fun a ha => ?_
        simp only [List.map_map, List.mem_map] at ha
        obtain ⟨i, _, rfl⟩ := ha
        exact ⟨_, _, rfl⟩
      intro p np
      rw [← PySem.W.sort_maps (r := fun i j => PySem.W.dataLe false (fun p : V × PyData => p.2) (V.ref (rs.getD i 0), PyData.tuple [.str (txS (ps.getD i d0).t.W), .int i]) (V.ref (rs.getD j 0), PyData.tuple [.str (txS (ps.getD j d0).t.W), .int j])) _ (fun _ _ _ _ => rfl)]
      have hpw := PySem.W.sort_pairwise (le := fun i j : Nat => PySem.W.dataLe false (fun p : V × PyData => p.2) (V.ref (rs.getD i 0), PyData.tuple [.str (txS (ps.getD i d0).t.W), .int i]) (V.ref (rs.getD j 0), PyData.tuple [.str (txS (ps.getD j d0).t.W), .int j]))
        (dataLe_total fun i : Nat => PyData.tuple [.str (txS (ps.getD i d0).t.W), .int i]) (List.range rs.length)
      generalize em : (List.range rs.length).mergeSort _ = M at hpw ⊢
      have hM : M.Perm (List.range ps.length) := by rw [← em, ← hlen]; exact List.mergeSort_perm _ _
      have hs : SrtW ((M.map fun j => ps.getD j d0).map Fp.t) := by
        rw [List.map_map]
        exact List.pairwise_map.mpr (hpw.imp fun h => le_pair h)
      have hq : (M.map fun j => ps.getD j d0).Perm ps := by
        have q := hM.map fun j => ps.getD j d0
        rw [map_getD] at q
        exact q
      rw [List.map_map]
      generalize e2 : upd H1 p _ = H2
      have S2 : Same H H2 := by subst e2; exact Same.upd_new S1 np
      have hp2 : H2 p = some (.lst (M.map fun j => V.ref (rs.getD j 0))) := by subst e2; exact upd_same
      have hr2 : ∀ (j : Nat), j < ps.length → H2 (rs.getD j 0) = some (.tup [tx (ps.getD j d0).t.W, .int j]) := fun j hj => by
        have hr := hrs j (rs.getD j 0) (by rw [List.getD_eq_getElem?_getD, List.getElem?_eq_getElem (by omega)]; rfl)
        subst e2
        rw [upd_ne (ne_of_none hr np)]
        exact hr
      refine ⟨_, rfl, _, rfl, ⟨_, SqL.of hp2⟩, fun D2 n2 => lc_list (xs := M.map fun j => V.ref (rs.getD j 0)) (fun i H' => Same H2 H' ∧ H' D2 = some (.lst (((M.map fun j => ps.getD j d0).take i).map Fp.v)))
        ⟨same_new n2, upd_same⟩ (fun i H' _ h => SqL.of (h.1 _ _ hp2)) ?_ ?_⟩
      · rintro i x H3 hx ⟨S3, hD3⟩
        rw [List.getElem?_map] at hx
        obtain ⟨j, hj, rfl⟩ := Option.map_eq_some_iff.mp hx
        have hjn : j < ps.length := List.mem_range.mp (hM.mem_iff.mp (List.mem_of_getElem? hj))
        have hg : (ps.map Fp.v)[j]? = some (ps.getD j d0).v := by rw [List.getElem?_map, getD_some hjn]; rfl
        have hr3 := S3 _ _ (hr2 j hjn)
        walk_at "rd"
        refine ⟨_, _, _, _, rfl, rfl, SqL.of (S3 _ _ (S2 _ _ hf)), atI_nat hg, _, hD3, ?_, Same.upd_own S3 n2, ?_⟩
        · rw [List.length_map, List.length_take]
          refine Nat.lt_of_le_of_lt (Nat.min_le_right _ _) ?_
          rw [hq.length_eq]
          exact Nat.lt_of_le_of_lt hn (by decide)
        · rw [upd_same, List.take_succ, List.map_append, List.getElem?_map, hj]
          rfl
      · rintro H3 ⟨S3, hD3⟩
        refine k _ D2 _ (S2.trans S3) (S2.free n2) ?_ hq hs
        rw [hD3, List.take_of_length_le (by simp)]

/-! ### formed_part -/
def sp_formed_part : Sp := fun vs H Q _ => ∃ (c : Nat) (fl : Addr) (ps : List Fp), vs = [.str ⟨#[c]⟩, .ref fl] ∧ H fl = some (.lst (ps.map Fp.v)) ∧ (∀ p ∈ ps, FF H p.t p.v p.as) ∧ Tr.sizes (ps.map Fp.t) ≤ 100000 ∧
  ∀ (H' : Hp) (v : V) (l : Addr) (qs : List Fp), Same H H' → H l = none → qs.Perm ps → SrtW (qs.map Fp.t) → FF H' (.node c (qs.map Fp.t)) v (l :: qs.flatMap Fp.as) → Q v H'
theorem ok_formed_part (D : Df K mg "formed_part" s_formed_part ["letter", "formed"]) (T : Txt K mg) (G_in_order : G' P w K mg base "in_order" 1 ["formed"] sp_in_order) : G' P w K mg base "formed_part" 2 ["letter", "formed"] sp_formed_part := by
  refine D.ok fun f fd F => F.okX sc_formed_part (fun vs H Q E h => ?_) (fun cdv A outer s H vs Q E hr h => ?_)
  · obtain ⟨c, fl, ps, rfl, _⟩ := h
    rfl
  · obtain ⟨c, fl, ps, rfl, hf, hF, hz, k⟩ := h
    have hlen := Tr.sizes_len (ps.map Fp.t)
    rw [List.length_map] at hlen
    refine ⟨_, (pss_cons (ps_set (i := 2) sc_formed_part.nd rfl (by first | exact Or.inl rfl | exact Or.inr rfl) (pe_cl G_in_order (hr.mono (by omega)) passF (pa_cons (pv 1) pa_nil)))
  (pss_cons (ps_set (i := 3) sc_formed_part.nd rfl (by first | exact Or.inl rfl | exact Or.inr rfl) (pv 0))
  (pss_cons (ps_if (pt_cmp (pc_neNilK K hr (pv 2))) (pss_one (ps_set (i := 3) sc_formed_part.nd rfl (by first | exact Or.inl rfl | exact Or.inr rfl) (pe_op op_add_str (pe_op op_add_str (pe_op op_add_str (pv 0) pe_str) (pe_join pe_str (pe_lc (own := [("more", 4), ("child", 5)]) (g := (gTup K 2 (gCons (gName 4) (gCons (gName 5) gNil)))) rfl sc_formed_part.nd (pi_listK K (pv 2)) (blkOk_by (own := [("more", 4), ("child", 5)]) (N := ["letter", "formed", "children", "written", "more", "child"]) (sc := defScope s_formed_part) (by decide +kernel)) (fun _ _ _ _ _ => (pg_tup (by rfl) (pgs_cons (pg_name (i := 4) sc_formed_part.nd rfl (by first | exact Or.inl rfl | exact Or.inr rfl)) (pgs_cons (pg_name (i := 5) sc_formed_part.nd rfl (by first | exact Or.inl rfl | exact Or.inr rfl)) pgs_nil)))) (fun _ _ _ _ _ => pts_nil) (fun _ _ _ _ _ => (pv 4))))) pe_str))) pss_nil)
  (pss_one (ps_ret (pe_tup (pa_cons (pv 3) (pa_cons (pe_tup (pa_cons (pv 0) (pa_cons (pe_lc (own := [("more", 4), ("child", 5)]) (g := (gTup K 2 (gCons (gName 4) (gCons (gName 5) gNil)))) rfl sc_formed_part.nd (pi_listK K (pv 2)) (blkOk_by (own := [("more", 4), ("child", 5)]) (N := ["letter", "formed", "children", "written", "more", "child"]) (sc := defScope s_formed_part) (by decide +kernel)) (fun _ _ _ _ _ => (pg_tup (by rfl) (pgs_cons (pg_name (i := 4) sc_formed_part.nd rfl (by first | exact Or.inl rfl | exact Or.inr rfl)) (pgs_cons (pg_name (i := 5) sc_formed_part.nd rfl (by first | exact Or.inl rfl | exact Or.inr rfl)) pgs_nil)))) (fun _ _ _ _ _ => pts_nil) (fun _ _ _ _ _ => (pv 5))) pa_nil))) pa_nil)))))))), ?_⟩
    walk_at "rd"
    refine ⟨fl, ps, rfl, hf, hF, by omega, fun H1 p qs S1 np hp hqp hsr => ?_⟩
    have hql : qs.length = ps.length := hqp.length_eq
    have hqF : ∀ q ∈ qs, FF H1 q.t q.v q.as := fun q hq => (hF q (hqp.mem_iff.mp hq)).same S1
    have hqs : Tr.sizes (qs.map Fp.t) ≤ 100000 := by rw [Tr.sizes_perm (hqp.map Fp.t)]; exact hz
    have hW := Tr.Ws_len (qs.map Fp.t)
    /- the last tuple -/
    have fin : ∀ (H2 : Hp) (D : Addr) (us : List Fp) (z : List Nat), Same H1 H2 → H1 D = none → H2 D = some (.lst (us.map Fp.v)) → us.map Fp.t = qs.map Fp.t → us.map Fp.as = qs.map Fp.as → (∀ u ∈ us, TF H2 u.t u.v u.as) → z = (Tr.node c (qs.map Fp.t)).W →
        ∀ t2, H2 t2 = none → ∀ t3, upd H2 t2 (.tup [.str ⟨#[c]⟩, .ref D]) t3 = none → Q (.ref t3) (upd (upd H2 t2 (.tup [.str ⟨#[c]⟩, .ref D])) t3 (.tup [tx z, .ref t2])) := by
      intro H2 D us z S2 nD hD e1 e2 hu hz t2 n2 t3 n3
      have n23 : t3 ≠ t2 := fun q => by rw [q, upd_same] at n3; cases n3
      have n3' : H2 t3 = none := by rw [upd_ne n23] at n3; exact n3
      have Sa : Same H2 (upd (upd H2 t2 (.tup [.str ⟨#[c]⟩, .ref D])) t3 (.tup [tx z, .ref t2])) := Same.upd_new (same_new n2) n3
      refine k _ _ D qs ((S1.trans S2).trans Sa) (S1.free nD) hqp hsr ⟨t3, .ref t2, rfl, by rw [upd_same, hz], ?_⟩
      refine .mk t2 D us (by rw [upd_ne n23.symm, upd_same]; rfl) (Sa _ _ hD) (fun u hu' => (hu u hu').same Sa) e1.symm rfl ?_
      rw [List.flatMap_def, List.flatMap_def]
      show D :: (qs.map Fp.as).flatten = D :: (us.map Fp.as).flatten
      rw [e2]
    walk_at "rd"
    cases qs with
    | nil =>
      refine iteF ?_
      walk_at "rd"
      refine lc_child (a := 4) (b := 5) (qs := []) (show 4 < 6 by decide) (show 5 < 6 by decide) (by decide) hp (fun q hq => by cases hq) (by simp) fun D H2 us S2 nD hD e1 e2 hu => ?_
      refine ⟨(by walk_at "sz"), fun t2 n2 => ⟨(by walk_at "sz"), fun t3 n3 => ?_⟩⟩
      exact fin H2 D us [c] S2 nD hD e1 e2 (fun u h => (hu u h).same S2) (Tr.W_leaf c).symm t2 n2 t3 n3
    | cons q0 qr =>
      have hll : (q0 :: qr).length ≤ 100000 := by omega
      generalize hqq : q0 :: qr = qs at *
      have hne : qs.map Fp.t ≠ [] := by rw [← hqq]; simp
      have hw : (Tr.node c (qs.map Fp.t)).W = c :: 40 :: (((qs.map Fp.t).map Tr.W).flatten ++ [41]) := by rw [Tr.W_node c hne, Tr.Ws_flat]
      rw [Tr.Ws_flat] at hW
      refine ifNe (by rw [← hqq]; simp) ?_
      walk_at "rd"
      refine ⟨by show 1 + 1 ≤ sizeLine; decide, ?_⟩
      walk_at "rd"
      refine lc_more (a := 4) (b := 5) (qs := qs) (show 4 < 6 by decide) (show 5 < 6 by decide) (by decide) hp hqF hll fun D1 H2 S2 nD1 hD1 => ?_
      have hl : ((qs.map Fp.t).map Tr.W).map (fun l => (txS l)) = qs.map fun q => txS q.t.W := by rw [List.map_map, List.map_map]; rfl
      refine ⟨txS [], D1, ((qs.map Fp.t).map Tr.W).map txS, rfl, rfl, .inl (SqL.of ?_), ?_, ?_⟩
      · rw [hD1, List.map_map, List.map_map, List.map_map]
        rfl
      · have e : ((((qs.map Fp.t).map Tr.W).map txS).map (·.length)).sum = (((qs.map Fp.t).map Tr.W).flatten).length := by
          rw [List.map_map, List.length_flatten]
          congr 1
        rw [e]
        show _ + _ * 0 ≤ 16777216
        omega
      rw [join_nil]
      have e40 : (⟨#[c]⟩ : Str) ++ PySem.Str.ofString "(" = txS [c, 40] := txS_app [c] [40]
      have e41 : PySem.Str.ofString ")" = txS [41] := rfl
      rw [e40, e41]
      refine ⟨_, _, rfl, rfl, ?_, ?_⟩
      · rw [txS_len, txS_len]
        exact Nat.le_trans (show _ ≤ 400000 by show 2 + _ ≤ _; omega) (by decide)
      rw [txS_app]
      refine ⟨_, _, rfl, rfl, ?_, ?_⟩
      · rw [txS_len, txS_len]
        exact Nat.le_trans (show _ ≤ 400000 by rw [List.length_append]; show 2 + _ + 1 ≤ _; omega) (by decide)
      rw [txS_app]
      have hqF2 : ∀ q ∈ qs, FF H2 q.t q.v q.as := fun q hq => (hqF q hq).same S2
      walk_at "rd"
      refine lc_child (a := 4) (b := 5) (qs := qs) (show 4 < 6 by decide) (show 5 < 6 by decide) (by decide) (S2 _ _ hp) hqF2 hll fun D H3 us S3 nD hD e1 e2 hu => ?_
      refine ⟨(by walk_at "sz"), fun t2 n2 => ⟨(by walk_at "sz"), fun t3 n3 => ?_⟩⟩
      exact fin H3 D us _ (S2.trans S3) (S2.free nD) hD e1 e2 (fun u h => (hu u h).same S3) (by rw [hw]; rfl) t2 n2 t3 n3
end
end Hy
set_option Elab.async false
set_option linter.all false
set_option maxRecDepth 100000
set_option maxHeartbeats 4000000
namespace Hy
open PySem L2
local macro_rules | `(tactic| walk_at "hp") => `(tactic| first
  | assumption | exact upd_same
  | (refine (upd_ne ?_).trans ?_ <;> first | assumption | (exact Ne.symm (by assumption)) | walk_at "ne" | walk_at "hp")
  | (refine (by assumption : Same _ _) _ _ ?_; assumption))
local macro_rules | `(tactic| walk_at "ne") => `(tactic| first
  | assumption | (exact Ne.symm (by assumption))
  | exact ne_of_none (by assumption) (by assumption) | exact Ne.symm (ne_of_none (by assumption) (by assumption)))
local macro_rules | `(tactic| walk_at "sz") => `(tactic| first | assumption | (show 0 ≤ sizeLine; decide) | (show 1 ≤ sizeLine; decide) | (show 2 ≤ sizeLine; decide) | (show 3 ≤ sizeLine; decide))
local macro_rules | `(tactic| walk_at "ar") => `(tactic| first
  | ((with_reducible show (0 : Int) < _); first | decide | omega)
  | ((with_reducible show CMul _ _); first | exact Or.inr (And.intro (by decide) (by decide)) | exact Or.inl (And.intro (by decide) (by decide)) | (refine Or.inl (And.intro ?_ ?_) <;> omega) | (refine Or.inr (And.intro ?_ ?_) <;> omega))
  | ((with_reducible show CPow _ _); exact And.intro (by decide) (And.intro (by decide) (by decide)))
  | ((with_reducible show CDiv _ _); first | exact And.intro (by decide) (by decide) | (refine And.intro ?_ ?_ <;> omega)))
/- one step of a reading -/
local macro_rules | `(tactic| walk_at "r1") => `(tactic| first
  | refine ⟨_, rfl, ?_⟩
  | refine iteB (by rfl) ?_ | refine iteC (by rfl) ?_
  | refine ⟨_, _, rfl, rfl, ?_⟩
  | refine ⟨rfl, ?_⟩
  | refine ⟨⟨_, rfl⟩, ?_⟩
  | refine ⟨_, _, _, _, true, rfl, .ty _, .base (.str _), kit_ty (by decide +kernel), ?_⟩
  | refine ⟨_, _, _, _, false, rfl, .ty _, .base (.str _), kit_ty (by decide +kernel), ?_⟩
  | refine ⟨_, _, _, _, true, rfl, .ty _, .base (.int _), kit_ty (by decide +kernel), ?_⟩
  | refine ⟨_, _, _, _, false, rfl, .ty _, .base (.int _), kit_ty (by decide +kernel), ?_⟩
  | refine ⟨_, _, _, _, true, rfl, .ty _, .base (.tup (by walk_at "hp")), kit_ty (by decide +kernel), ?_⟩
  | refine ⟨_, _, _, _, false, rfl, .ty _, .base (.tup (by walk_at "hp")), kit_ty (by decide +kernel), ?_⟩
  | refine ⟨_, _, _, _, true, rfl, .ty _, .base (.lst (by walk_at "hp")), kit_ty (by decide +kernel), ?_⟩
  | refine ⟨_, _, _, _, false, rfl, .ty _, .base (.lst (by walk_at "hp")), kit_ty (by decide +kernel), ?_⟩
  | refine ⟨_, _, rfl, ⟨by walk_at "sz", rfl⟩, ?_⟩
  | refine ⟨_, _, _, _, rfl, rfl, SqT.of (by walk_at "hp"), by rfl, ?_⟩
  | refine ⟨_, _, _, _, rfl, rfl, SqL.of (by walk_at "hp"), by rfl, ?_⟩
  | refine ⟨.inl ⟨rfl, _, SqL.of (by walk_at "hp")⟩, ?_⟩
  | refine ⟨_, _, _, rfl, rfl, (by walk_at "hp"), snoc_get, ?_⟩
  | refine ⟨_, _, _, _, rfl, rfl, (by walk_at "hp"), by rfl, ?_⟩
  | refine ⟨_, _, rfl, SqL.of (by walk_at "hp"), ?_⟩
  | refine ⟨_, _, rfl, SqT.of (by walk_at "hp"), by rfl, ?_⟩
  | refine ⟨_, (_ : List V), rfl, ?_⟩
  | refine ⟨_, _, rfl, .inl ⟨_, (by assumption), rfl⟩, ?_⟩
  | refine ⟨_, _, rfl, .inl ⟨_, SqL.of (by walk_at "hp"), rfl⟩, ?_⟩
  | refine ⟨_, _, rfl, .inr ⟨_, SqT.of (by walk_at "hp"), rfl⟩, ?_⟩
  | refine Or.inl ⟨(_ : Int), rfl, ?_⟩ | refine Or.inr ⟨(_ : Bool), rfl, ?_⟩
  | refine ⟨_, _, _, _, true, rfl, (by assumption : ND _ _ _ _), .ty _, kit_ty (by decide +kernel), ?_⟩
  | refine ⟨_, _, _, _, false, rfl, (by assumption : ND _ _ _ _), .ty _, kit_ty (by decide +kernel), ?_⟩
  | refine ⟨_, _, rfl, (by assumption : ND _ _ _ _), ?_⟩
  | refine And.intro (by walk_at "ar") ?_)
local macro_rules | `(tactic| walk_at "rd") => `(tactic| repeat walk_at "r1")

theorem Tr.parts_size (t : Tr) : ∀ q ∈ t.parts, q.size ≤ t.size := by
  refine Tr.parts_prop (fun q => q.size ≤ t.size) (fun c ts h u hu => ?_) t (Nat.le_refl _)
  have := Tr.sizes_mem hu
  simp only [Tr.size] at h
  omega
theorem Tr.parts_ok (t : Tr) (h : t.ok = true) : ∀ q ∈ t.parts, q.ok = true := by
  refine Tr.parts_prop (fun q => q.ok = true) (fun c ts h u hu => ?_) t h
  simp only [Tr.ok, Bool.and_eq_true] at h
  exact Tr.oks_iff.mp h.2 u hu
section
variable {P : Program} {w : World} {K : PySem.W.Frag} {mg : Str → Option Value} {base : Heap}
abbrev s_formed_tree : Stmt := top 19
theorem sc_formed_tree : FnScope ["tree", "found", "part", "at"] ["tree"] (defScope s_formed_tree) := ⟨rfl, rfl, rfl, by decide +kernel, rfl, by decide +kernel, by decide +kernel⟩
abbrev s_written_tree : Stmt := top 21
theorem sc_written_tree : FnScope ["tree"] ["tree"] (defScope s_written_tree) := ⟨rfl, rfl, rfl, by decide +kernel, rfl, by decide +kernel, by decide +kernel⟩

def sp_formed_tree : Sp := fun vs H Q _ => ∃ v t as, vs = [v] ∧ TF H t v as ∧ t.ok = true ∧ t.size ≤ 30000 ∧
  ∀ (H' : Hp) (v' : V) (as' : List Addr), Same H H' → FF H' t.form v' as' → (∀ a ∈ as', H a = none) → as'.Nodup → Q v' H'
theorem ok_formed_tree (D : Df K mg "formed_tree" s_formed_tree ["tree"]) (T : Txt K mg) (G_parts_in_order : G' P w K mg base "parts_in_order" 1 ["tree"] sp_parts_in_order) (G_formed_part : G' P w K mg base "formed_part" 2 ["letter", "formed"] sp_formed_part) :
    G' P w K mg base "formed_tree" 3 ["tree"] sp_formed_tree := by
  refine D.ok fun f fd F => F.okX sc_formed_tree (fun vs H Q E h => ?_) (fun cdv A outer s H vs Q E hr h => ?_)
  · obtain ⟨v, t, as, rfl, _⟩ := h
    rfl
  · obtain ⟨v, t, as, rfl, ht, hok, hsz, k⟩ := h
    refine ⟨_, (pss_cons (ps_set (i := 1) sc_formed_tree.nd rfl (by first | exact Or.inl rfl | exact Or.inr rfl) (pe_lst pa_nil))
  (pss_cons (ps_for (passes_of rfl) rfl (pi_listK K (pe_cl G_parts_in_order (hr.mono (by omega)) passF (pa_cons (pv 0) pa_nil))) (pg_name (i := 2) sc_formed_tree.nd rfl (by first | exact Or.inl rfl | exact Or.inr rfl)) (pss_cons (ps_set (i := 3) sc_formed_tree.nd rfl (by first | exact Or.inl rfl | exact Or.inr rfl) (pe_op op_sub (pe_callB (call_lenK K) (by rfl) T.n_len PySem.boot_len (pa_cons (pv 1) pa_nil)) (pe_callB (call_lenK K) (by rfl) T.n_len PySem.boot_len (pa_cons (pe_ix (ix_tupK K) (pv 2) pe_int (fun _ _ => rfl)) pa_nil))))
  (pss_one (ps_set (i := 1) sc_formed_tree.nd rfl (by first | exact Or.inl rfl | exact Or.inr rfl) (pe_op op_cat (pe_slice (sl_listK K) (pv 1) po_none (po_some (pv 3))) (pe_lst (pa_cons (pe_cl G_formed_part (hr.mono (by omega)) passF (pa_cons (pe_ix (ix_tupK K) (pv 2) pe_int (fun _ _ => rfl)) (pa_cons (pe_slice (sl_listK K) (pv 1) (po_some (pv 3)) po_none) pa_nil))) pa_nil)))))))
  (pss_one (ps_ret (pe_ix (ix_listK K) (pv 1) pe_int (fun _ _ => rfl)))))), ?_⟩
    walk_at "rd"
    refine ⟨(by walk_at "sz"), fun fl0 nf => ?_⟩
    generalize e0 : upd H fl0 _ = H0
    obtain ⟨S0, hf0⟩ := newF nf e0
    walk_at "rd"
    refine ⟨_, t, as, rfl, ht.same S0, by omega, fun H1 pl ws S1 npl hpl ⟨rs, ers, ews, hrs⟩ => ?_⟩
    subst ews
    have hrl : rs.length = t.size := by rw [← Tr.parts_len, ers, List.length_map]
    have S01 : Same H H1 := S0.trans S1
    refine ⟨pl, rfl, ⟨_, SqL.of hpl⟩, for_list (K := K) (a := pl) (xs := rs.map Fp.v) (fun i σ H' => ∃ (fl : Addr) (ds : List Fp) (x3 x4 : Option V), σ = [some v, some (.ref fl), x3, x4] ∧ Same H1 H' ∧ H' fl = some (.lst (ds.map Fp.v)) ∧
        (∀ d ∈ ds, FF H' d.t.form d.v d.as) ∧ (∀ a ∈ ds.flatMap Fp.as, H a = none) ∧ (ds.flatMap Fp.as).Nodup ∧ Post (ds.map Fp.t) (t.parts.drop i) [t] ∧ ds.length ≤ i)
      ⟨fl0, [], none, none, rfl, Same.refl _, S1 _ _ hf0, fun d hd => by (cases hd), fun a ha => by (cases ha), List.nodup_nil, Post.all t, Nat.le_refl _⟩ (fun i σ H' _ ⟨_, _, _, _, _, S, _⟩ => SqL.of (S _ _ hpl)) ?_ ?_⟩
    · rintro i x σ H2 hx ⟨fl, ds, x3, x4, rfl, S2, hf, hds, hfr, hnd, hpo, hdi⟩
      rw [List.getElem?_map] at hx
      obtain ⟨⟨qv, q, qa⟩, hi, rfl⟩ := Option.map_eq_some_iff.mp hx
      have hil : i < rs.length := (List.getElem?_eq_some_iff.mp hi).1
      have hq : TF H0 q qv qa := hrs _ (List.mem_of_getElem? hi)
      have hqm : q ∈ t.parts := by rw [ers]; exact List.mem_map.mpr ⟨_, List.mem_of_getElem? hi, rfl⟩
      have hdrop : t.parts.drop i = q :: t.parts.drop (i + 1) := by
        rw [List.drop_eq_getElem_cons (by rw [Tr.parts_len]; omega)]
        congr 1
        have z : t.parts[i]? = some q := by rw [ers, List.getElem?_map, hi]; rfl
        exact (List.getElem?_eq_some_iff.mp z).2
      rw [hdrop] at hpo
      obtain ⟨ss, ess, hpo'⟩ := hpo.out
      obtain ⟨d1, d2, rfl, e1, e2⟩ := List.map_eq_append_iff.mp ess
      obtain ⟨a, l, us, ha, hl, hu, et, rfl, has⟩ := hq.out
      have hqs := Tr.parts_size t q hqm
      have hqo := Tr.parts_ok t hok q hqm
      have hul : us.length = d2.length := by
        have z := congrArg List.length (et.symm.trans e2.symm)
        rw [List.length_map, List.length_map] at z
        exact z
      have S02 : Same H0 H2 := S1.trans S2
      walk_at "rd"
      have eat : (fun i j : Int => V.int (i - j)) ((List.map Fp.v (d1 ++ d2)).length : Int) ((List.map (fun x => x.fst) us).length : Int) = .int (d1.length : Int) := by
        show V.int _ = _
        rw [List.length_map, List.length_map, List.length_append, hul]
        congr 1
        omega
      intro p1 n1
      rw [cut_take (n := d1.length) (by rw [List.length_map, List.length_map, List.length_append, hul]; omega) (by rw [List.length_map, List.length_append]; omega), List.map_append, List.take_left' (by rw [List.length_map])]
      generalize e3 : upd H2 p1 _ = H3
      obtain ⟨S23, hp1⟩ := newF n1 e3
      have ha3 : H3 a = some (.tup [.str ⟨#[q.c]⟩, .ref l]) := S23 _ _ (S02 _ _ ha)
      have hf3 := S23 _ _ hf
      rw [List.map_append] at hf3
      walk_at "rd"
      intro p2 n2
      rw [cut_drop (n := d1.length) (by rw [List.length_append, List.length_map, List.length_map, List.length_map, hul]; omega) (by rw [List.length_append, List.length_map]; omega), List.drop_left' (by rw [List.length_map])]
      generalize e4 : upd H3 p2 _ = H4
      obtain ⟨S34, hp2⟩ := newF n2 e4
      have S24 : Same H2 H4 := S23.trans S34
      walk_at "rd"
      have hmap : (d2.map fun d => ((d.v, d.t.form, d.as) : Fp)).map Fp.t = Tr.forms (d2.map Fp.t) := by
        rw [Tr.forms_map, List.map_map, List.map_map]
        rfl
      refine ⟨q.c, p2, d2.map fun d => (d.v, d.t.form, d.as), rfl, ?_, fun p hp => ?_, ?_, fun H5 v5 l5 qs S45 n5 hpm hsr hFF => ?_⟩
      · rw [hp2, List.map_map]
        rfl
      · obtain ⟨d, hd, rfl⟩ := List.mem_map.mp hp
        exact (hds d (List.mem_append_right _ hd)).same S24
      · rw [hmap, Tr.forms_sizes, e2]
        rw [q.eta, Tr.size] at hqs
        omega
      have htold : Tr.tolds (Tr.forms (d2.map Fp.t)) := Tr.forms_told _ (by
        rw [e2]
        rw [q.eta, Tr.ok, Bool.and_eq_true] at hqo
        exact hqo.2)
      have heq : qs.map Fp.t = sortT (Tr.forms (d2.map Fp.t)) := by
        have pm := hpm.map Fp.t
        rw [hmap] at pm
        refine srt_uniq hsr (sortT_srt _) (pm.trans (sortT_perm _).symm) (Tr.tolds_iff.mpr fun t ht => Tr.tolds_iff.mp htold t (pm.mem_iff.mp ht))
      have hform : Tr.node q.c (qs.map Fp.t) = q.form := by
        rw [heq, e2]
        cases q
        rfl
      rw [hform] at hFF
      have S25 : Same H2 H5 := S24.trans S45
      have S05 : Same H H5 := S01.trans (S2.trans S25)
      have hasp : (qs.flatMap Fp.as).Perm (d2.flatMap Fp.as) := by
        have z := hpm.flatMap_right Fp.as
        rw [List.flatMap_map] at z
        exact z
      walk_at "rd"
      refine ⟨(by walk_at "sz"), fun p3 n3 => ?_⟩
      generalize e6 : upd H5 p3 _ = H6
      obtain ⟨S56, hp3⟩ := newF n3 e6
      refine ⟨p1, p3, _, _, rfl, rfl, S56 _ _ (S45 _ _ (S34 _ _ hp1)), hp3, ?_, fun p4 n4 => ?_⟩
      · rw [List.length_map]
        rw [List.length_append] at hdi
        exact Nat.le_trans (show _ ≤ 100000 by show _ + 1 ≤ _; omega) (by decide)
      generalize e7 : upd H6 p4 _ = H7
      obtain ⟨S67, hp4⟩ := newF n4 e7
      have S27 : Same H2 H7 := S25.trans (S56.trans S67)
      refine ⟨p4, d1 ++ [(v5, q, l5 :: qs.flatMap Fp.as)], _, _, rfl, S2.trans S27, ?_, ?_, ?_, ?_, ?_, ?_⟩
      · rw [hp4, List.map_append]
        rfl
      · intro d hd
        rcases List.mem_append.mp hd with hd | hd
        · exact (hds d (List.mem_append_left _ hd)).same S27
        · obtain rfl := List.mem_singleton.mp hd
          exact hFF.same (S56.trans S67)
      · intro b hb
        rw [List.flatMap_append] at hb hfr
        rcases List.mem_append.mp hb with hb | hb
        · exact hfr b (List.mem_append_left _ hb)
        · have hb' : b ∈ l5 :: qs.flatMap Fp.as := by simpa only [List.flatMap_cons, List.flatMap_nil, List.append_nil] using hb
          rcases List.mem_cons.mp hb' with rfl | hb
          · exact (S01.trans (S2.trans S24)).free n5
          · exact hfr b (List.mem_append_right _ (hasp.mem_iff.mp hb))
      · rw [List.flatMap_append] at hnd ⊢
        have hl5 : l5 ∉ d1.flatMap Fp.as ++ d2.flatMap Fp.as := by
          intro hm
          rw [← List.flatMap_append] at hm
          obtain ⟨d, hd, hb⟩ := List.mem_flatMap.mp hm
          obtain ⟨xs, z⟩ := (hds d hd).live l5 hb
          rw [S24 _ _ z] at n5
          cases n5
        have z : (d1.flatMap Fp.as ++ (l5 :: qs.flatMap Fp.as)).Perm (l5 :: (d1.flatMap Fp.as ++ d2.flatMap Fp.as)) := List.perm_middle.trans ((hasp.append_left _).cons _)
        have z2 := z.nodup_iff.mpr (List.nodup_cons.mpr ⟨hl5, hnd⟩)
        simpa using z2
      · rw [List.map_append, e1]
        exact hpo'
      · rw [List.length_append, List.length_singleton]
        rw [List.length_append] at hdi
        have : ¬ d2.length = 0 ∨ d2.length = 0 := by omega
        omega
    · rintro σ H2 ⟨fl, ds, x3, x4, rfl, S2, hf, hds, hfr, hnd, hpo, hdi⟩
      rw [List.drop_of_length_le (by rw [Tr.parts_len, List.length_map, hrl]; exact Nat.le_refl _)] at hpo
      have e := hpo.end_
      match ds, e with
      | [d], e =>
        obtain rfl : d.t = t := by simpa using e
        walk_at "rd"
        exact k _ _ _ (S01.trans S2) (hds d (by simp)) (by simpa using hfr) (by simpa using hnd)

def sp_written_tree : Sp := fun vs H Q _ => ∃ v t as, vs = [v] ∧ TF H t v as ∧ t.ok = true ∧ t.size ≤ 30000 ∧ ∀ H' : Hp, Same H H' → Q (tx t.form.W) H'
theorem ok_written_tree (D : Df K mg "written_tree" s_written_tree ["tree"]) (T : Txt K mg) (G_need_tree : G' P w K mg base "need_tree" 4 ["thing"] sp_need_tree) (G_formed_tree : G' P w K mg base "formed_tree" 3 ["tree"] sp_formed_tree) :
    G' P w K mg base "written_tree" 5 ["tree"] sp_written_tree := by
  refine D.ok fun f fd F => F.okX sc_written_tree (fun vs H Q E h => ?_) (fun cdv A outer s H vs Q E hr h => ?_)
  · obtain ⟨v, t, as, rfl, _⟩ := h
    rfl
  · obtain ⟨v, t, as, rfl, ht, hok, hsz, k⟩ := h
    refine ⟨_, (pss_cons (ps_expr (pe_cl G_need_tree (hr.mono (by omega)) (passW (takes_of rfl rfl rfl rfl) (fun _ _ _ _ z => z)) (pa_cons (pv 0) pa_nil)))
  (pss_one (ps_ret (pe_ix (ix_tupK K) (pe_cl G_formed_tree (hr.mono (by omega)) passF (pa_cons (pv 0) pa_nil)) pe_int (fun _ _ => rfl))))), ?_⟩
    walk_at "rd"
    refine ⟨_, t, as, rfl, ht, hok, by omega, fun H1 S1 => ?_⟩
    walk_at "rd"
    refine ⟨_, t, as, rfl, ht.same S1, hok, hsz, fun H2 v' as' S2 ⟨a, u, e, ha, hu⟩ _ _ => ?_⟩
    subst e
    walk_at "rd"
    exact k _ (S1.trans S2)
theorem rep_one {α : Type} (m : Nat) (v : α) : (List.replicate m [v]).flatten = List.replicate m v := by
  induction m with
  | zero => rfl
  | succ n ih => rw [List.replicate_succ, List.flatten_cons, ih]; rfl
/-- a child, and how often -/
abbrev Hv := Fp × Addr × Nat
def kids (hs : List Hv) : List Fp := hs.flatMap fun h => List.replicate h.2.2 h.1
theorem kids_snoc (hs : List Hv) (h : Hv) : kids (hs ++ [h]) = kids hs ++ List.replicate h.2.2 h.1 := by simp [kids]
theorem kids_take (hs : List Hv) (i : Nat) : (kids (hs.take i)).length ≤ (kids hs).length := by
  conv => rhs; rw [← List.take_append_drop i hs]
  unfold kids
  rw [List.flatMap_append, List.length_append]
  omega
end
end Hy
set_option Elab.async false
set_option linter.all false
set_option maxRecDepth 100000
set_option maxHeartbeats 4000000
namespace Hy
open PySem L2
local macro_rules | `(tactic| walk_at "hp") => `(tactic| first
  | assumption | exact upd_same
  | (refine (upd_ne ?_).trans ?_ <;> first | assumption | (exact Ne.symm (by assumption)) | walk_at "ne" | walk_at "hp")
  | (refine (by assumption : Same _ _) _ _ ?_; assumption))
local macro_rules | `(tactic| walk_at "ne") => `(tactic| first
  | assumption | (exact Ne.symm (by assumption))
  | exact ne_of_none (by assumption) (by assumption) | exact Ne.symm (ne_of_none (by assumption) (by assumption)))
local macro_rules | `(tactic| walk_at "sz") => `(tactic| first | assumption | (show 0 ≤ sizeLine; decide) | (show 1 ≤ sizeLine; decide) | (show 2 ≤ sizeLine; decide) | (show 3 ≤ sizeLine; decide))
local macro_rules | `(tactic| walk_at "ar") => `(tactic| first
  | ((with_reducible show (0 : Int) < _); first | decide | omega)
  | ((with_reducible show CMul _ _); first | exact Or.inr (And.intro (by decide) (by decide)) | exact Or.inl (And.intro (by decide) (by decide)) | (refine Or.inl (And.intro ?_ ?_) <;> omega) | (refine Or.inr (And.intro ?_ ?_) <;> omega))
  | ((with_reducible show CPow _ _); exact And.intro (by decide) (And.intro (by decide) (by decide)))
  | ((with_reducible show CDiv _ _); first | exact And.intro (by decide) (by decide) | (refine And.intro ?_ ?_ <;> omega)))
/- one step of a reading -/
local macro_rules | `(tactic| walk_at "r1") => `(tactic| first
  | refine ⟨_, rfl, ?_⟩
  | refine iteB (by rfl) ?_ | refine iteC (by rfl) ?_
  | refine ⟨_, _, rfl, rfl, ?_⟩
  | refine ⟨rfl, ?_⟩
  | refine ⟨⟨_, rfl⟩, ?_⟩
  | refine ⟨_, _, _, _, true, rfl, .ty _, .base (.str _), kit_ty (by decide +kernel), ?_⟩
  | refine ⟨_, _, _, _, false, rfl, .ty _, .base (.str _), kit_ty (by decide +kernel), ?_⟩
  | refine ⟨_, _, _, _, true, rfl, .ty _, .base (.int _), kit_ty (by decide +kernel), ?_⟩
  | refine ⟨_, _, _, _, false, rfl, .ty _, .base (.int _), kit_ty (by decide +kernel), ?_⟩
  | refine ⟨_, _, _, _, true, rfl, .ty _, .base (.tup (by walk_at "hp")), kit_ty (by decide +kernel), ?_⟩
  | refine ⟨_, _, _, _, false, rfl, .ty _, .base (.tup (by walk_at "hp")), kit_ty (by decide +kernel), ?_⟩
  | refine ⟨_, _, _, _, true, rfl, .ty _, .base (.lst (by walk_at "hp")), kit_ty (by decide +kernel), ?_⟩
  | refine ⟨_, _, _, _, false, rfl, .ty _, .base (.lst (by walk_at "hp")), kit_ty (by decide +kernel), ?_⟩
  | refine ⟨_, _, rfl, ⟨by walk_at "sz", rfl⟩, ?_⟩
  | refine ⟨_, _, _, _, rfl, rfl, SqT.of (by walk_at "hp"), by rfl, ?_⟩
  | refine ⟨_, _, _, _, rfl, rfl, SqL.of (by walk_at "hp"), by rfl, ?_⟩
  | refine ⟨.inl ⟨rfl, _, SqL.of (by walk_at "hp")⟩, ?_⟩
  | refine ⟨_, _, _, rfl, rfl, (by walk_at "hp"), snoc_get, ?_⟩
  | refine ⟨_, _, _, _, rfl, rfl, (by walk_at "hp"), by rfl, ?_⟩
  | refine ⟨_, _, rfl, SqL.of (by walk_at "hp"), ?_⟩
  | refine ⟨_, _, rfl, SqT.of (by walk_at "hp"), by rfl, ?_⟩
  | refine ⟨_, (_ : List V), rfl, ?_⟩
  | refine ⟨_, _, rfl, .inl ⟨_, (by assumption), rfl⟩, ?_⟩
  | refine ⟨_, _, rfl, .inl ⟨_, SqL.of (by walk_at "hp"), rfl⟩, ?_⟩
  | refine ⟨_, _, rfl, .inr ⟨_, SqT.of (by walk_at "hp"), rfl⟩, ?_⟩
  | refine Or.inl ⟨(_ : Int), rfl, ?_⟩ | refine Or.inr ⟨(_ : Bool), rfl, ?_⟩
  | refine ⟨_, _, _, _, true, rfl, (by assumption : ND _ _ _ _), .ty _, kit_ty (by decide +kernel), ?_⟩
  | refine ⟨_, _, _, _, false, rfl, (by assumption : ND _ _ _ _), .ty _, kit_ty (by decide +kernel), ?_⟩
  | refine ⟨_, _, rfl, (by assumption : ND _ _ _ _), ?_⟩
  | refine And.intro (by walk_at "ar") ?_)
local macro_rules | `(tactic| walk_at "rd") => `(tactic| repeat walk_at "r1")

def leL (a b : List Nat) : Bool := decide (a ≤ b)
theorem leL_total (a b : List Nat) : (leL a b || leL b a) = true := by
  unfold leL
  rcases List.le_total a b with h | h <;> simp [h]
theorem leL_trans (a b c : List Nat) (h1 : leL a b = true) (h2 : leL b c = true) : leL a c = true := decide_eq_true (List.le_trans (of_decide_eq_true h1) (of_decide_eq_true h2))
theorem leL_anti {a b : List Nat} (h1 : leL a b = true) (h2 : leL b a = true) : a = b := List.le_antisymm (of_decide_eq_true h1) (of_decide_eq_true h2)
def sortL (ws : List (List Nat)) : List (List Nat) := ws.mergeSort leL
theorem sortL_iff (ws : List (List Nat)) : sortL ws = ws ↔ ws.Pairwise fun a b => leL a b = true := by
  constructor
  · intro h
    rw [← h]
    exact List.pairwise_mergeSort leL_trans leL_total ws
  · intro h
    exact List.mergeSort_of_pairwise h
theorem srt_strs (ws : List (List Nat)) : ((ws.map fun l => (tx l, PyData.str (txS l))).mergeSort (PySem.W.dataLe false fun p : V × PyData => p.2)).map (·.1) = (sortL ws).map tx := by
  rw [← PySem.W.sort_maps (r := leL) (fun l => (tx l, PyData.str (txS l))) (fun a _ b _ => ?_), List.map_map]
  · rfl
  · show leL a b = PySem.W.dataLe false (fun l : List Nat => PyData.str (txS l)) a b
    rw [PySem.W.dataLe_str]
    show leL a b = decide ((txS a).cps.toList ≤ (txS b).cps.toList)
    simp [leL]
theorem fst_strs (ws : List (List Nat)) : (ws.map fun l => (tx l, PyData.str (txS l))).map (·.1) = ws.map tx := by rw [List.map_map]; rfl
theorem txs_strs (ws : List (List Nat)) : (ws.map txS).map V.str = ws.map tx := by rw [List.map_map]; rfl
theorem eqv_strs : ∀ (a b : List (List Nat)), PyData.eqvAll (a.map fun l => PyData.str (txS l)) (b.map fun l => PyData.str (txS l)) = decide (a = b)
  | [], [] => by simp [PyData.eqvAll]
  | [], _ :: _ => by simp [PyData.eqvAll]
  | _ :: _, [] => by simp [PyData.eqvAll]
  | x :: a, y :: b => by
    have e : (txS x = txS y) = (x = y) := by
      refine propext ⟨fun h => ?_, fun h => by rw [h]⟩
      simpa using congrArg (fun s : Str => s.cps.toList) h
    simp only [List.map_cons, PyData.eqvAll, eqv_strs a b, PyData.eqv]
    by_cases h1 : x = y
    · by_cases h2 : a = b <;> simp [h1, h2]
    · have : ¬ txS x = txS y := by rw [e]; exact h1
      simp [h1, this]
theorem plain_strs : ∀ a : List (List Nat), PyData.plainAll (a.map fun l => PyData.str (txS l)) = true
  | [] => rfl
  | x :: a => by simp only [List.map_cons, PyData.plainAll, PyData.plain, plain_strs a, Bool.and_self]
theorem depth_strs : ∀ a : List (List Nat), PyData.depthAll (a.map fun l => PyData.str (txS l)) = 0
  | [] => rfl
  | x :: a => by simp only [List.map_cons, PyData.depthAll, PyData.depth, depth_strs a]; rfl
theorem dp_strs {K : PySem.W.Frag} {H : Hp} {p : Addr} {a : List (List Nat)} (h : H p = some (.lst (a.map tx))) : Dp K H (.ref p) (.list (a.map fun l => PyData.str (txS l))) := .lst (SqL.of h) (dpAll_of _ _ fun l _ => .str _)
theorem srtW_iff (ts : List Tr) : SrtW ts ↔ (ts.map Tr.W).Pairwise fun a b => leL a b = true := by rw [List.pairwise_map]; rfl
section
variable {P : Program} {w : World} {K : PySem.W.Frag} {mg : Str → Option Value} {base : Heap}
abbrev s_closed_part : Stmt := top 79
theorem sc_closed_part : FnScope ["letter", "children", "written", "more", "child"] ["letter", "children"] (defScope s_closed_part) := ⟨rfl, rfl, rfl, by decide +kernel, rfl, by decide +kernel, by decide +kernel⟩

def sp_closed_part : Sp := fun vs H Q E => ∃ (c : Nat) (fl : Addr) (ps : List Fp), vs = [.str ⟨#[c]⟩, .ref fl] ∧ H fl = some (.lst (ps.map Fp.v)) ∧ (∀ p ∈ ps, FF H p.t p.v p.as) ∧ Tr.sizes (ps.map Fp.t) ≤ 100000 ∧
  (ps ≠ [] → SrtW (ps.map Fp.t) → ∀ (H' : Hp) (v : V) (l : Addr), Same H H' → H l = none → FF H' (.node c (ps.map Fp.t)) v (l :: ps.flatMap Fp.as) → Q v H') ∧
  (¬ (ps ≠ [] ∧ SrtW (ps.map Fp.t)) → ∀ x, mg "NoText" = some x → ∀ H' : Hp, Same H H' → E x none H')
theorem ok_closed_part (D : Df K mg "closed_part" s_closed_part ["letter", "children"]) (T : Txt K mg) : G' P w K mg base "closed_part" 1 ["letter", "children"] (sp_closed_part (mg := mg)) := by
  refine D.ok fun f fd F => F.okX sc_closed_part (fun vs H Q E h => ?_) (fun cdv A outer s H vs Q E hr h => ?_)
  · obtain ⟨c, fl, ps, rfl, _⟩ := h
    rfl
  · obtain ⟨c, fl, ps, rfl, hf, hF, hz, k1, k2⟩ := h
    have hlen := Tr.sizes_len (ps.map Fp.t)
    rw [List.length_map] at hlen
    have hW := Tr.Ws_len (ps.map Fp.t)
    rw [Tr.Ws_flat] at hW
    refine ⟨_, (pss_cons (ps_setLc (i := 2) (own := [("more", 3), ("child", 4)]) (g := (gTup K 2 (gCons (gName 3) (gCons (gName 4) gNil)))) rfl sc_closed_part.nd rfl rfl (sw_true rfl rfl rfl (by decide +kernel)) (pi_listK K (pv 1)) (blkOk_by (own := [("more", 3), ("child", 4)]) (N := ["letter", "children", "written", "more", "child"]) (sc := defScope s_closed_part) (by decide +kernel)) (fun _ _ _ _ _ => (pg_tup (by rfl) (pgs_cons (pg_name (i := 3) sc_closed_part.nd rfl (by first | exact Or.inl rfl | exact Or.inr rfl)) (pgs_cons (pg_name (i := 4) sc_closed_part.nd rfl (by first | exact Or.inl rfl | exact Or.inr rfl)) pgs_nil)))) (fun _ _ _ _ _ => pts_nil) (fun _ _ _ _ _ => (pv 3)))
  (pss_cons (ps_if (PW.pt (pw_or (pt_cmp (pc_eqNilK K hr (pv 1))) (pw_or1 (pt_cmpR (op_nePK K hr) (pe_callB (cr_sortedDK K hr) (by rfl) T.n_sorted (by decide +kernel) (pa_cons (pv 2) pa_nil)) (pv 2) (nomark _))))) (pss_one (ps_rs T.x_NoText rfl (takes_of rfl rfl rfl rfl))) pss_nil)
  (pss_one (ps_ret (pe_tup (pa_cons (pe_op op_add_str (pe_op op_add_str (pe_op op_add_str (pv 0) pe_str) (pe_join pe_str (pv 2))) pe_str) (pa_cons (pe_tup (pa_cons (pv 0) (pa_cons (pe_lc (own := [("more", 3), ("child", 4)]) (g := (gTup K 2 (gCons (gName 3) (gCons (gName 4) gNil)))) rfl sc_closed_part.nd (pi_listK K (pv 1)) (blkOk_by (own := [("more", 3), ("child", 4)]) (N := ["letter", "children", "written", "more", "child"]) (sc := defScope s_closed_part) (by decide +kernel)) (fun _ _ _ _ _ => (pg_tup (by rfl) (pgs_cons (pg_name (i := 3) sc_closed_part.nd rfl (by first | exact Or.inl rfl | exact Or.inr rfl)) (pgs_cons (pg_name (i := 4) sc_closed_part.nd rfl (by first | exact Or.inl rfl | exact Or.inr rfl)) pgs_nil)))) (fun _ _ _ _ _ => pts_nil) (fun _ _ _ _ _ => (pv 4))) pa_nil))) pa_nil))))))), ?_⟩
    walk_at "rd"
    refine lc_more (a := 3) (b := 4) (qs := ps) (show 3 < 5 by decide) (show 4 < 5 by decide) (by decide) hf hF (by omega) fun D1 H1 S1 nD1 hD1 => ?_
    have eW : (ps.map fun q => tx q.t.W) = ((ps.map Fp.t).map Tr.W).map tx := by rw [List.map_map, List.map_map]; rfl
    rw [eW] at hD1
    have hf1 := S1 _ _ hf
    walk_at "rd"
    by_cases he : ps = []
    · subst he
      walk_at "rd"
      intro x hx
      exact k2 (by simp) x hx _ S1
    · refine iteC (by cases ps with | nil => exact absurd rfl he | cons => rfl) ?_
      walk_at "rd"
      refine ⟨D1, (((ps.map Fp.t).map Tr.W).map fun l => (tx l, PyData.str (txS l))), rfl, SqL.of (by rw [fst_strs]; exact hD1), ?_, ?_, ?_, fun p np => ?_⟩
      · intro q hq
        obtain ⟨l, _, rfl⟩ := List.mem_map.mp hq
        exact ⟨.str _, by simp [PyData.depth]⟩
      · intro a ha b hb
        simp only [List.mem_map] at ha hb
        obtain ⟨_, ⟨_, _, rfl⟩, rfl⟩ := ha
        obtain ⟨_, ⟨_, _, rfl⟩, rfl⟩ := hb
        simp [PySem.W.alike]
      · refine .inr fun a ha => ?_
        simp only [List.mem_map] at ha
        obtain ⟨_, ⟨_, _, rfl⟩, rfl⟩ := ha
        exact ⟨(fun z => nomatch z), (fun _ z => nomatch z)⟩
      rw [srt_strs]
      generalize e2 : upd H1 p _ = H2
      obtain ⟨S2, hp2⟩ := newF np e2
      have hD2 := S2 _ _ hD1
      have hf2 := S2 _ _ hf1
      walk_at "rd"
      refine ⟨_, _, dp_strs hp2, dp_strs hD2, plain_strs _, plain_strs _, ?_, ?_⟩
      · simp only [PyData.depth, depth_strs]
        decide
      have ev : PyData.eqv (.list ((sortL ((ps.map Fp.t).map Tr.W)).map fun l => PyData.str (txS l))) (.list (((ps.map Fp.t).map Tr.W).map fun l => PyData.str (txS l))) = decide (sortL ((ps.map Fp.t).map Tr.W) = (ps.map Fp.t).map Tr.W) := by
        rw [← eqv_strs]
        rfl
      rw [ev]
      by_cases hs : SrtW (ps.map Fp.t)
      · rw [decide_eq_true ((sortL_iff _).mpr ((srtW_iff _).mp hs))]
        walk_at "rd"
        have hne : ps.map Fp.t ≠ [] := by simpa using he
        have hw : (Tr.node c (ps.map Fp.t)).W = c :: 40 :: (((ps.map Fp.t).map Tr.W).flatten ++ [41]) := by rw [Tr.W_node c hne, Tr.Ws_flat]
        have e40 : (⟨#[c]⟩ : Str) ++ PySem.Str.ofString "(" = txS [c, 40] := txS_app [c] [40]
        have e41 : PySem.Str.ofString ")" = txS [41] := rfl
        refine ⟨by show 1 + 1 ≤ sizeLine; decide, ?_⟩
        walk_at "rd"
        refine ⟨txS [], D1, ((ps.map Fp.t).map Tr.W).map txS, rfl, rfl, .inl (SqL.of (by rw [txs_strs]; exact hD2)), ?_, ?_⟩
        · have e : ((((ps.map Fp.t).map Tr.W).map txS).map (·.length)).sum = (((ps.map Fp.t).map Tr.W).flatten).length := by
            rw [List.map_map, List.length_flatten]
            congr 1
          rw [e]
          show _ + _ * 0 ≤ 16777216
          omega
        rw [join_nil, e40, e41]
        refine ⟨_, _, rfl, rfl, ?_, ?_⟩
        · rw [txS_len, txS_len]
          exact Nat.le_trans (show _ ≤ 400000 by show 2 + _ ≤ _; omega) (by decide)
        rw [txS_app]
        refine ⟨_, _, rfl, rfl, ?_, ?_⟩
        · rw [txS_len, txS_len]
          exact Nat.le_trans (show _ ≤ 400000 by rw [List.length_append]; show 2 + _ + 1 ≤ _; omega) (by decide)
        rw [txS_app]
        have S02 : Same H H2 := S1.trans S2
        walk_at "rd"
        refine lc_child (a := 3) (b := 4) (qs := ps) (show 3 < 5 by decide) (show 4 < 5 by decide) (by decide) hf2 (fun q hq => (hF q hq).same S02) (by omega) fun D H3 us S3 nD hD e1 e2 hu => ?_
        refine ⟨(by walk_at "sz"), fun t2 n2 => ⟨(by walk_at "sz"), fun t3 n3 => ?_⟩⟩
        have n23 : t3 ≠ t2 := fun q => by rw [q, upd_same] at n3; cases n3
        have Sa : Same H3 (upd (upd H3 t2 (.tup [.str ⟨#[c]⟩, .ref D])) t3 (.tup [tx (([c, 40] ++ ((ps.map Fp.t).map Tr.W).flatten) ++ [41]), .ref t2])) := Same.upd_new (same_new n2) n3
        refine k1 he hs _ _ D ((S02.trans S3).trans Sa) (S02.free nD) ⟨t3, .ref t2, rfl, by rw [upd_same, hw]; rfl, ?_⟩
        refine .mk t2 D us (by rw [upd_ne n23.symm, upd_same]; rfl) (Sa _ _ hD) (fun u hu' => ((hu u hu').same S3).same Sa) e1.symm rfl ?_
        rw [List.flatMap_def, List.flatMap_def]
        show D :: (ps.map Fp.as).flatten = D :: (us.map Fp.as).flatten
        rw [e2]
      · rw [decide_eq_false fun h => hs ((srtW_iff _).mpr ((sortL_iff _).mp h))]
        walk_at "rd"
        intro x hx
        exact k2 (fun z => hs z.2) x hx _ (S1.trans S2)
end
end Hy
set_option Elab.async false
set_option linter.all false
set_option maxRecDepth 100000
set_option maxHeartbeats 4000000
namespace Hy
open PySem L2
local macro_rules | `(tactic| walk_at "hp") => `(tactic| first
  | assumption | exact upd_same
  | (refine (upd_ne ?_).trans ?_ <;> first | assumption | (exact Ne.symm (by assumption)) | walk_at "ne" | walk_at "hp")
  | (refine (by assumption : Same _ _) _ _ ?_; assumption))
local macro_rules | `(tactic| walk_at "ne") => `(tactic| first
  | assumption | (exact Ne.symm (by assumption))
  | exact ne_of_none (by assumption) (by assumption) | exact Ne.symm (ne_of_none (by assumption) (by assumption)))
local macro_rules | `(tactic| walk_at "sz") => `(tactic| first | assumption | (show 0 ≤ sizeLine; decide) | (show 1 ≤ sizeLine; decide) | (show 2 ≤ sizeLine; decide) | (show 3 ≤ sizeLine; decide))
local macro_rules | `(tactic| walk_at "ar") => `(tactic| first
  | ((with_reducible show (0 : Int) < _); first | decide | omega)
  | ((with_reducible show CMul _ _); first | exact Or.inr (And.intro (by decide) (by decide)) | exact Or.inl (And.intro (by decide) (by decide)) | (refine Or.inl (And.intro ?_ ?_) <;> omega) | (refine Or.inr (And.intro ?_ ?_) <;> omega))
  | ((with_reducible show CPow _ _); exact And.intro (by decide) (And.intro (by decide) (by decide)))
  | ((with_reducible show CDiv _ _); first | exact And.intro (by decide) (by decide) | (refine And.intro ?_ ?_ <;> omega)))
/- one step of a reading -/
local macro_rules | `(tactic| walk_at "r1") => `(tactic| first
  | refine ⟨_, rfl, ?_⟩
  | refine iteB (by rfl) ?_ | refine iteC (by rfl) ?_
  | refine ⟨_, _, rfl, rfl, ?_⟩
  | refine ⟨rfl, ?_⟩
  | refine ⟨⟨_, rfl⟩, ?_⟩
  | refine ⟨_, _, _, _, true, rfl, .ty _, .base (.str _), kit_ty (by decide +kernel), ?_⟩
  | refine ⟨_, _, _, _, false, rfl, .ty _, .base (.str _), kit_ty (by decide +kernel), ?_⟩
  | refine ⟨_, _, _, _, true, rfl, .ty _, .base (.int _), kit_ty (by decide +kernel), ?_⟩
  | refine ⟨_, _, _, _, false, rfl, .ty _, .base (.int _), kit_ty (by decide +kernel), ?_⟩
  | refine ⟨_, _, _, _, true, rfl, .ty _, .base (.tup (by walk_at "hp")), kit_ty (by decide +kernel), ?_⟩
  | refine ⟨_, _, _, _, false, rfl, .ty _, .base (.tup (by walk_at "hp")), kit_ty (by decide +kernel), ?_⟩
  | refine ⟨_, _, _, _, true, rfl, .ty _, .base (.lst (by walk_at "hp")), kit_ty (by decide +kernel), ?_⟩
  | refine ⟨_, _, _, _, false, rfl, .ty _, .base (.lst (by walk_at "hp")), kit_ty (by decide +kernel), ?_⟩
  | refine ⟨_, _, rfl, ⟨by walk_at "sz", rfl⟩, ?_⟩
  | refine ⟨_, _, _, _, rfl, rfl, SqT.of (by walk_at "hp"), by rfl, ?_⟩
  | refine ⟨_, _, _, _, rfl, rfl, SqL.of (by walk_at "hp"), by rfl, ?_⟩
  | refine ⟨.inl ⟨rfl, _, SqL.of (by walk_at "hp")⟩, ?_⟩
  | refine ⟨_, _, _, rfl, rfl, (by walk_at "hp"), snoc_get, ?_⟩
  | refine ⟨_, _, _, _, rfl, rfl, (by walk_at "hp"), by rfl, ?_⟩
  | refine ⟨_, _, rfl, SqL.of (by walk_at "hp"), ?_⟩
  | refine ⟨_, _, rfl, SqT.of (by walk_at "hp"), by rfl, ?_⟩
  | refine ⟨_, (_ : List V), rfl, ?_⟩
  | refine ⟨_, _, rfl, .inl ⟨_, (by assumption), rfl⟩, ?_⟩
  | refine ⟨_, _, rfl, .inl ⟨_, SqL.of (by walk_at "hp"), rfl⟩, ?_⟩
  | refine ⟨_, _, rfl, .inr ⟨_, SqT.of (by walk_at "hp"), rfl⟩, ?_⟩
  | refine Or.inl ⟨(_ : Int), rfl, ?_⟩ | refine Or.inr ⟨(_ : Bool), rfl, ?_⟩
  | refine ⟨_, _, _, _, true, rfl, (by assumption : ND _ _ _ _), .ty _, kit_ty (by decide +kernel), ?_⟩
  | refine ⟨_, _, _, _, false, rfl, (by assumption : ND _ _ _ _), .ty _, kit_ty (by decide +kernel), ?_⟩
  | refine ⟨_, _, rfl, (by assumption : ND _ _ _ _), ?_⟩
  | refine And.intro (by walk_at "ar") ?_)
local macro_rules | `(tactic| walk_at "rd") => `(tactic| repeat walk_at "r1")

theorem sign_eq {c d : Nat} : decide (V.str ⟨#[c]⟩ = V.str ⟨#[d]⟩) = decide (c = d) := by
  by_cases h : c = d
  · rw [h, decide_eq_true rfl, decide_eq_true rfl]
  · rw [decide_eq_false h, decide_eq_false fun z => h ?_]
    have z2 : (⟨#[c]⟩ : Str) = ⟨#[d]⟩ := V.str.inj z
    have z3 := congrArg (fun s : Str => s.cps.toList) z2
    simpa using z3
theorem sign_op {c : Nat} : decide (V.str ⟨#[c]⟩ = V.str (PySem.Str.ofString "(")) = decide (c = 40) := by
  have e : PySem.Str.ofString "(" = ⟨#[40]⟩ := by decide +kernel
  rw [e, sign_eq]
theorem sign_cl {c : Nat} : decide (V.str ⟨#[c]⟩ = V.str (PySem.Str.ofString ")")) = decide (c = 41) := by
  have e : PySem.Str.ofString ")" = ⟨#[41]⟩ := by decide +kernel
  rw [e, sign_eq]
theorem RS.step40 {s : RS} (h : isL s.prev = false) : s.step 40 = none := by
  unfold RS.step
  rw [if_neg (by decide), if_neg (fun z => by rw [h] at z; exact absurd z.2 (by decide)), if_neg (by decide)]
theorem RS.step40_ok {s : RS} (h : isL s.prev = true) : s.step 40 = some ⟨40, s.ab ++ [(s.prev, s.here.dropLast)], []⟩ := by
  unfold RS.step
  rw [if_neg (by decide), if_pos ⟨rfl, h⟩]
theorem RS.step_other {s : RS} {x : Nat} (h1 : isL x = false) (h2 : x ≠ 40) (h3 : x ≠ 41) : s.step x = none := by
  unfold RS.step
  rw [if_neg (by rw [h1]; decide), if_neg (fun z => h2 z.1), if_neg h3]
theorem RS.step41_none {s : RS} (h : s.ab = []) : s.step 41 = none := by
  unfold RS.step
  rw [if_neg (by decide), if_neg (fun z => absurd z.1 (by decide)), if_pos rfl, h]
  rfl
theorem RS.step41 {prev l : Nat} {ab : List (Nat × List Tr)} {more here : List Tr} : RS.step ⟨prev, ab ++ [(l, more)], here⟩ 41 = if here ≠ [] ∧ SrtW here then some ⟨41, ab, more ++ [.node l here]⟩ else none := by
  unfold RS.step
  rw [if_neg (by decide), if_neg (fun z => absurd z.1 (by decide)), if_pos rfl]
  simp only [List.getLast?_concat, List.dropLast_concat]
theorem sum_ge {α : Type} (g : α → Nat) (h : ∀ x, 1 ≤ g x) : ∀ l : List α, l.length ≤ (l.map g).sum
  | [] => Nat.zero_le _
  | x :: l => by
    have := sum_ge g h l
    have := h x
    simp only [List.length_cons, List.map_cons, List.sum_cons]
    omega
/-- an open part: its tuple, its letter, its list, what stands in it -/
structure Op where
  tup : Addr
  c : Nat
  lst : Addr
  ps : List Fp
def fpO (fs : List Op) : List Addr := fs.flatMap fun f => f.lst :: f.ps.flatMap Fp.as
def fpR (al hh : Addr) (fs : List Op) (hs : List Fp) : List Addr := al :: (fpO fs ++ (hh :: hs.flatMap Fp.as))
structure RepR (H0 H : Hp) (al hh : Addr) (fs : List Op) (hs : List Fp) : Prop where
  ab : H al = some (.lst (fs.map fun f => V.ref f.tup))
  op : ∀ f ∈ fs, H f.tup = some (.tup [.str ⟨#[f.c]⟩, .ref f.lst]) ∧ H f.lst = some (.lst (f.ps.map Fp.v)) ∧ ∀ p ∈ f.ps, FF H p.t p.v p.as
  he : H hh = some (.lst (hs.map Fp.v))
  hp : ∀ p ∈ hs, FF H p.t p.v p.as
  nd : (fpR al hh fs hs).Nodup
  fr : ∀ a ∈ fpR al hh fs hs, H0 a = none
def rsOf (prev : Nat) (fs : List Op) (hs : List Fp) : RS := ⟨prev, fs.map fun f => (f.c, f.ps.map Fp.t), hs.map Fp.t⟩
theorem nodup_swap {A B : List Addr} {x y : Addr} (h : (A ++ x :: B).Nodup) (hy : y ∉ A ++ B) : (A ++ y :: B).Nodup := by
  have h1 := List.perm_middle.nodup_iff.mp h
  exact List.perm_middle.nodup_iff.mpr (List.nodup_cons.mpr ⟨hy, (List.nodup_cons.mp h1).2⟩)
theorem fpR_app (al hh : Addr) (fs : List Op) (hs : List Fp) (p : Fp) : fpR al hh fs (hs ++ [p]) = fpR al hh fs hs ++ p.as := by
  simp [fpR, List.flatMap_append]
theorem RepR.live {H0 H : Hp} {al hh : Addr} {fs : List Op} {hs : List Fp} (R : RepR H0 H al hh fs hs) : ∀ a ∈ fpR al hh fs hs, ∃ xs, H a = some (.lst xs) := by
  intro a ha
  unfold fpR fpO at ha
  rcases List.mem_cons.mp ha with rfl | ha
  · exact ⟨_, R.ab⟩
  rcases List.mem_append.mp ha with ha | ha
  · obtain ⟨f, hf, ha⟩ := List.mem_flatMap.mp ha
    obtain ⟨h1, h2, h3⟩ := R.op f hf
    rcases List.mem_cons.mp ha with rfl | ha
    · exact ⟨_, h2⟩
    · obtain ⟨p, hp, ha⟩ := List.mem_flatMap.mp ha
      exact (h3 p hp).live a ha
  · rcases List.mem_cons.mp ha with rfl | ha
    · exact ⟨_, R.he⟩
    · obtain ⟨p, hp, ha⟩ := List.mem_flatMap.mp ha
      exact (R.hp p hp).live a ha
theorem RepR.new {H0 H : Hp} {al hh a : Addr} {fs : List Op} {hs : List Fp} (R : RepR H0 H al hh fs hs) (n : H a = none) : a ∉ fpR al hh fs hs := fun h => by
  obtain ⟨xs, e⟩ := R.live a h
  rw [n] at e
  cases e
theorem RepR.same {H0 H H' : Hp} {al hh : Addr} {fs : List Op} {hs : List Fp} (R : RepR H0 H al hh fs hs) (S : Same H H') : RepR H0 H' al hh fs hs :=
  ⟨S _ _ R.ab, fun f hf => ⟨S _ _ (R.op f hf).1, S _ _ (R.op f hf).2.1, fun p hp => ((R.op f hf).2.2 p hp).same S⟩, S _ _ R.he, fun p hp => (R.hp p hp).same S, R.nd, R.fr⟩
theorem mem_op {al hh a : Addr} {fs : List Op} {hs : List Fp} {f : Op} (hf : f ∈ fs) (h : a = f.lst ∨ ∃ p ∈ f.ps, a ∈ p.as) : a ∈ fpO fs := by
  refine List.mem_flatMap.mpr ⟨f, hf, ?_⟩
  rcases h with rfl | ⟨p, hp, ha⟩
  · exact List.mem_cons_self
  · exact List.mem_cons_of_mem _ (List.mem_flatMap.mpr ⟨p, hp, ha⟩)
/-- the list of those here is changed -/
theorem RepR.here {H0 H H' : Hp} {al hh : Addr} {fs : List Op} {hs hs' : List Fp} (R : RepR H0 H al hh fs hs) (k : Keep [hh] H H') (e : H' hh = some (.lst (hs'.map Fp.v))) (hp : ∀ p ∈ hs', FF H' p.t p.v p.as) (nd : (fpR al hh fs hs').Nodup)
    (fr : ∀ a ∈ fpR al hh fs hs', H0 a = none) : RepR H0 H' al hh fs hs' := by
  have nd0 := R.nd
  unfold fpR at nd0
  obtain ⟨n1, n2⟩ := List.nodup_cons.mp nd0
  obtain ⟨n3, n4, n5⟩ := List.nodup_append.mp n2
  have nah : al ∉ [hh] := fun z => n1 (by rw [List.mem_singleton.mp z]; exact List.mem_append_right _ List.mem_cons_self)
  have nO : ∀ a ∈ fpO fs, a ∉ [hh] := fun a ha z => n5 a ha hh List.mem_cons_self (List.mem_singleton.mp z)
  refine ⟨k.but _ _ nah R.ab, fun f hf => ?_, e, hp, nd, fr⟩
  obtain ⟨h1, h2, h3⟩ := R.op f hf
  exact ⟨k.tup _ _ h1, k.but _ _ (nO _ (mem_op (al := al) (hh := hh) (hs := hs) hf (.inl rfl))) h2, fun p hp => (h3 p hp).keep k fun b hb => nO _ (mem_op (al := al) (hh := hh) (hs := hs) hf (.inr ⟨p, hp, hb⟩))⟩
theorem RepR.put {H0 H H' : Hp} {al hh : Addr} {fs : List Op} {hs : List Fp} {p : Fp} (R : RepR H0 H al hh fs hs) (k : Keep [hh] H H') (e : H' hh = some (.lst ((hs ++ [p]).map Fp.v))) (hp : FF H' p.t p.v p.as) (h1 : ∀ a ∈ p.as, a ∉ fpR al hh fs hs) (h2 : p.as.Nodup)
    (h3 : ∀ a ∈ p.as, H0 a = none) : RepR H0 H' al hh fs (hs ++ [p]) := by
  have nd0 := R.nd
  unfold fpR at nd0
  obtain ⟨_, n2⟩ := List.nodup_cons.mp nd0
  obtain ⟨_, n4, _⟩ := List.nodup_append.mp n2
  obtain ⟨n6, _⟩ := List.nodup_cons.mp n4
  refine R.here k e (fun q hq => ?_) ?_ ?_
  · rcases List.mem_append.mp hq with hq | hq
    · exact (R.hp q hq).keep k fun b hb z => n6 (by rw [← List.mem_singleton.mp z]; exact List.mem_flatMap.mpr ⟨q, hq, hb⟩)
    · obtain rfl := List.mem_singleton.mp hq
      exact hp
  · rw [fpR_app]
    exact List.nodup_append.mpr ⟨R.nd, h2, fun a ha b hb z => h1 b hb (z ▸ ha)⟩
  · intro a ha
    rw [fpR_app] at ha
    rcases List.mem_append.mp ha with ha | ha
    · exact R.fr a ha
    · exact h3 a ha
theorem RepR.pop {H0 H H' : Hp} {al hh : Addr} {fs : List Op} {hs : List Fp} {p : Fp} (R : RepR H0 H al hh fs (hs ++ [p])) (k : Keep [hh] H H') (e : H' hh = some (.lst (hs.map Fp.v))) : RepR H0 H' al hh fs hs := by
  have nd0 := R.nd
  have nd1 := nd0
  unfold fpR at nd0
  obtain ⟨_, n2⟩ := List.nodup_cons.mp nd0
  obtain ⟨_, n4, _⟩ := List.nodup_append.mp n2
  obtain ⟨n6, _⟩ := List.nodup_cons.mp n4
  rw [fpR_app] at nd1
  refine R.here k e (fun q hq => ?_) (List.nodup_append.mp nd1).1 fun a ha => R.fr a (by rw [fpR_app]; exact List.mem_append_left _ ha)
  exact (R.hp q (List.mem_append_left _ hq)).keep k fun b hb z => n6 (by rw [← List.mem_singleton.mp z]; exact List.mem_flatMap.mpr ⟨q, List.mem_append_left _ hq, hb⟩)
/-- the list of the open ones is changed: all else stands -/
theorem RepR.away {H0 H H' : Hp} {al hh : Addr} {fs : List Op} {hs : List Fp} (R : RepR H0 H al hh fs hs) (k : Keep [al] H H') :
    (∀ f ∈ fs, H' f.tup = some (.tup [.str ⟨#[f.c]⟩, .ref f.lst]) ∧ H' f.lst = some (.lst (f.ps.map Fp.v)) ∧ ∀ p ∈ f.ps, FF H' p.t p.v p.as) ∧ H' hh = some (.lst (hs.map Fp.v)) ∧ ∀ p ∈ hs, FF H' p.t p.v p.as := by
  have nd0 := R.nd
  unfold fpR at nd0
  obtain ⟨n1, _⟩ := List.nodup_cons.mp nd0
  have nO : ∀ a ∈ fpO fs, a ∉ [al] := fun a ha z => n1 (by rw [← List.mem_singleton.mp z]; exact List.mem_append_left _ ha)
  have nH : ∀ a ∈ hh :: hs.flatMap Fp.as, a ∉ [al] := fun a ha z => n1 (by rw [← List.mem_singleton.mp z]; exact List.mem_append_right _ ha)
  refine ⟨fun f hf => ?_, k.but _ _ (nH _ List.mem_cons_self) R.he, fun p hp => (R.hp p hp).keep k fun b hb => nH _ (List.mem_cons_of_mem _ (List.mem_flatMap.mpr ⟨p, hp, hb⟩))⟩
  obtain ⟨h1, h2', h3⟩ := R.op f hf
  exact ⟨k.tup _ _ h1, k.but _ _ (nO _ (mem_op (al := al) (hh := hh) (hs := hs) hf (.inl rfl))) h2', fun p hp => (h3 p hp).keep k fun b hb => nO _ (mem_op (al := al) (hh := hh) (hs := hs) hf (.inr ⟨p, hp, hb⟩))⟩
/-- a part is opened -/
theorem RepR.opened {H0 H H' : Hp} {al hh h2 t : Addr} {c : Nat} {fs : List Op} {hs : List Fp} (R : RepR H0 H al hh fs hs) (k : Keep [al] H H') (ht : H t = some (.tup [.str ⟨#[c]⟩, .ref hh])) (ea : H' al = some (.lst ((fs ++ [(⟨t, c, hh, hs⟩ : Op)]).map fun f => V.ref f.tup)))
    (e2 : H' h2 = some (.lst [])) (n2 : H h2 = none) (n0 : H0 h2 = none) : RepR H0 H' al h2 (fs ++ [⟨t, c, hh, hs⟩]) [] := by
  have nd0 := R.nd
  unfold fpR at nd0
  obtain ⟨n1, _⟩ := List.nodup_cons.mp nd0
  have nO : ∀ a ∈ fpO fs, a ∉ [al] := fun a ha z => n1 (by rw [← List.mem_singleton.mp z]; exact List.mem_append_left _ ha)
  have nH : ∀ a ∈ hh :: hs.flatMap Fp.as, a ∉ [al] := fun a ha z => n1 (by rw [← List.mem_singleton.mp z]; exact List.mem_append_right _ ha)
  have ef : fpR al h2 (fs ++ [⟨t, c, hh, hs⟩]) [] = fpR al hh fs hs ++ [h2] := by simp [fpR, fpO, List.flatMap_append]
  refine ⟨ea, fun f hf => ?_, e2, fun p hp => (by cases hp), ?_, ?_⟩
  · rcases List.mem_append.mp hf with hf | hf
    · obtain ⟨h1, h2', h3⟩ := R.op f hf
      exact ⟨k.tup _ _ h1, k.but _ _ (nO _ (mem_op (al := al) (hh := hh) (hs := hs) hf (.inl rfl))) h2', fun p hp => (h3 p hp).keep k fun b hb => nO _ (mem_op (al := al) (hh := hh) (hs := hs) hf (.inr ⟨p, hp, hb⟩))⟩
    · obtain rfl := List.mem_singleton.mp hf
      exact ⟨k.tup _ _ ht, k.but _ _ (nH _ List.mem_cons_self) R.he, fun p hp => (R.hp p hp).keep k fun b hb => nH _ (List.mem_cons_of_mem _ (List.mem_flatMap.mpr ⟨p, hp, hb⟩))⟩
  · rw [ef]
    exact List.nodup_append.mpr ⟨R.nd, by simp, fun a ha b hb z => R.new n2 (by rw [← List.mem_singleton.mp hb, ← z]; exact ha)⟩
  · intro a ha
    rw [ef] at ha
    rcases List.mem_append.mp ha with ha | ha
    · exact R.fr a ha
    · rw [List.mem_singleton.mp ha]
      exact n0
/-- a part is closed -/
theorem RepR.closed {H0 H H' : Hp} {al hh ml t l : Addr} {c : Nat} {u : Tr} {v : V} {fs : List Op} {hs ms : List Fp} (R : RepR H0 H al hh (fs ++ [⟨t, c, ml, ms⟩]) hs) (k : Keep [al, ml] H H') (ea : H' al = some (.lst (fs.map fun f => V.ref f.tup)))
    (em : H' ml = some (.lst ((ms ++ [(v, u, l :: hs.flatMap Fp.as)]).map Fp.v))) (hF : FF H' u v (l :: hs.flatMap Fp.as)) (nl : H l = none) (n0 : H0 l = none) : RepR H0 H' al ml fs (ms ++ [(v, u, l :: hs.flatMap Fp.as)]) := by
  have eO : fpR al hh (fs ++ [⟨t, c, ml, ms⟩]) hs = (al :: (fpO fs ++ (ml :: ms.flatMap Fp.as))) ++ (hh :: hs.flatMap Fp.as) := by simp [fpR, fpO, List.flatMap_append]
  have eN : fpR al ml fs (ms ++ [(v, u, l :: hs.flatMap Fp.as)]) = (al :: (fpO fs ++ (ml :: ms.flatMap Fp.as))) ++ (l :: hs.flatMap Fp.as) := by simp [fpR, fpO, List.flatMap_append]
  have nd0 := R.nd
  have hl := R.new nl
  rw [eO] at nd0 hl
  obtain ⟨n1, _, _⟩ := List.nodup_append.mp nd0
  obtain ⟨n2, n3⟩ := List.nodup_cons.mp n1
  obtain ⟨_, n4, n5⟩ := List.nodup_append.mp n3
  obtain ⟨n6, _⟩ := List.nodup_cons.mp n4
  have nO : ∀ a ∈ fpO fs, a ∉ [al, ml] := fun a ha z => by
    rcases List.mem_cons.mp z with rfl | z
    · exact n2 (List.mem_append_left _ ha)
    · exact n5 a ha ml List.mem_cons_self (List.mem_singleton.mp z)
  have nM : ∀ a ∈ ms.flatMap Fp.as, a ∉ [al, ml] := fun a ha z => by
    rcases List.mem_cons.mp z with rfl | z
    · exact n2 (List.mem_append_right _ (List.mem_cons_of_mem _ ha))
    · exact n6 (by rw [← List.mem_singleton.mp z]; exact ha)
  have op := (R.op ⟨t, c, ml, ms⟩ (by simp)).2.2
  refine ⟨ea, fun f hf => ?_, em, fun p hp => ?_, ?_, ?_⟩
  · obtain ⟨h1, h2', h3⟩ := R.op f (List.mem_append_left _ hf)
    exact ⟨k.tup _ _ h1, k.but _ _ (nO _ (mem_op (al := al) (hh := hh) (hs := hs) hf (.inl rfl))) h2', fun p hp => (h3 p hp).keep k fun b hb => nO _ (mem_op (al := al) (hh := hh) (hs := hs) hf (.inr ⟨p, hp, hb⟩))⟩
  · rcases List.mem_append.mp hp with hp | hp
    · exact (op p hp).keep k fun b hb => nM _ (List.mem_flatMap.mpr ⟨p, hp, hb⟩)
    · obtain rfl := List.mem_singleton.mp hp
      exact hF
  · rw [eN]
    refine nodup_swap nd0 fun z => hl ?_
    rcases List.mem_append.mp z with z | z
    · exact List.mem_append_left _ z
    · exact List.mem_append_right _ (List.mem_cons_of_mem _ z)
  · intro a ha
    rw [eN] at ha
    rcases List.mem_append.mp ha with ha | ha
    · exact R.fr a (by rw [eO]; exact List.mem_append_left _ ha)
    · rcases List.mem_cons.mp ha with rfl | ha
      · exact n0
      · exact R.fr a (by rw [eO]; exact List.mem_append_right _ (List.mem_cons_of_mem _ ha))
section
variable {P : Program} {w : World} {K : PySem.W.Frag} {mg : Str → Option Value} {base : Heap}
abbrev s_read_tree : Stmt := top 80
theorem sc_read_tree : FnScope ["text", "above", "here", "at", "sign", "letter", "more"] ["text"] (defScope s_read_tree) := ⟨rfl, rfl, rfl, by decide +kernel, rfl, by decide +kernel, by decide +kernel⟩

def sp_read_tree : Sp := fun vs H Q E => (∃ l : List Nat, vs = [tx l] ∧ l.length ≤ 90000 ∧
  (∀ t, parse l = some t → ∀ (H' : Hp) (v : V) (as : List Addr), Same H H' → TF H' t v as → (∀ a ∈ as, H a = none) → as.Nodup → Q v H') ∧
  (parse l = none → ∀ x, mg "NoText" = some x → ∀ H' : Hp, Same H H' → E x none H')) ∨
  ∃ v u, vs = [v] ∧ TyX K H v u ∧ PySem.W.kitOne K u (.type "str") = some false ∧ ∀ x, mg "NoText" = some x → E x none H
theorem ok_read_tree (D : Df K mg "read_tree" s_read_tree ["text"]) (T : Txt K mg) (G_closed_part : G' P w K mg base "closed_part" 1 ["letter", "children"] (sp_closed_part (mg := mg))) : G' P w K mg base "read_tree" 2 ["text"] (sp_read_tree (K := K) (mg := mg)) := by
  refine D.ok fun f fd F => F.okX sc_read_tree (fun vs H Q E h => ?_) (fun cdv A outer s H vs Q E hr h => ?_)
  · rcases h with ⟨l, rfl, _⟩ | ⟨v, u, rfl, _⟩
    · rfl
    · rfl
  · refine ⟨_, (pss_cons (ps_if (pt_not (pt_val (pe_callB (call_isiK K) (by rfl) T.n_isinstance (by decide +kernel) (pa_cons (pv 0) (pa_cons (pe_ty (n := "str") T.n_str (by decide +kernel)) pa_nil))))) (pss_one (ps_rs T.x_NoText rfl (takes_of rfl rfl rfl rfl))) pss_nil)
  (pss_cons (ps_set (i := 1) sc_read_tree.nd rfl (by first | exact Or.inl rfl | exact Or.inr rfl) (pe_lst pa_nil))
  (pss_cons (ps_set (i := 2) sc_read_tree.nd rfl (by first | exact Or.inl rfl | exact Or.inr rfl) (pe_lst pa_nil))
  (pss_cons (ps_for (passes_of rfl) rfl (pi_enumS T.n_enumerate (pa_cons (pv 0) pa_nil)) (pg_tup (by rfl) (pgs_cons (pg_name (i := 3) sc_read_tree.nd rfl (by first | exact Or.inl rfl | exact Or.inr rfl)) (pgs_cons (pg_name (i := 4) sc_read_tree.nd rfl (by first | exact Or.inl rfl | exact Or.inr rfl)) pgs_nil))) (pss_one (ps_if (pt_cmpR op_in_sign (pv 4) (pe_gv T.g_LETTERS_trees) (by rfl)) (pss_one (ps_expr (cbm K (pe_bm PySem.F.plainAttrs_list PySem.F.slot_list_append PySem.F.type_list_append mt_append (pv 2) (pa_cons (pe_tup (pa_cons (pv 4) (pa_cons (pe_tup (pa_cons (pv 4) (pa_cons (pe_lst pa_nil) pa_nil))) pa_nil))) pa_nil))))) (pss_one (ps_if (PW.pt (pw_and (pt_cmpR op_eq (pv 4) pe_str (nomark _)) (pw_and (pt_cmpR op_gt (pv 3) pe_int (nomark _)) (pw_and1 (pt_cmpR op_in_sign (pe_ix ix_str (pv 0) (pe_op op_sub (pv 3) pe_int) (fun _ _ => rfl)) (pe_gv T.g_LETTERS_trees) (by rfl)))))) (pss_cons (ps_set (i := 5) sc_read_tree.nd rfl (by first | exact Or.inl rfl | exact Or.inr rfl) (pe_ix (ix_tupK K) (cbm0 K (pe_bm0 PySem.F.plainAttrs_list PySem.F.slot_list_pop PySem.F.type_list_pop mt_pop (pv 2))) pe_int (fun _ _ => rfl)))
  (pss_cons (ps_expr (cbm K (pe_bm PySem.F.plainAttrs_list PySem.F.slot_list_append PySem.F.type_list_append mt_append (pv 1) (pa_cons (pe_tup (pa_cons (pv 5) (pa_cons (pv 2) pa_nil))) pa_nil))))
  (pss_one (ps_set (i := 2) sc_read_tree.nd rfl (by first | exact Or.inl rfl | exact Or.inr rfl) (pe_lst pa_nil))))) (pss_one (ps_if (PW.pt (pw_and (pt_cmpR op_eq (pv 4) pe_str (nomark _)) (pw_and1 (pt_cmp (pc_neNilK K hr (pv 1)))))) (pss_cons (ps_asg (cbm0 K (pe_bm0 PySem.F.plainAttrs_list PySem.F.slot_list_pop PySem.F.type_list_pop mt_pop (pv 1))) (pg_tup (by rfl) (pgs_cons (pg_name (i := 5) sc_read_tree.nd rfl (by first | exact Or.inl rfl | exact Or.inr rfl)) (pgs_cons (pg_name (i := 6) sc_read_tree.nd rfl (by first | exact Or.inl rfl | exact Or.inr rfl)) pgs_nil))))
  (pss_cons (ps_expr (cbm K (pe_bm PySem.F.plainAttrs_list PySem.F.slot_list_append PySem.F.type_list_append mt_append (pv 6) (pa_cons (pe_cl G_closed_part (hr.mono (by omega)) (passW (takes_of rfl rfl rfl rfl) (fun _ _ _ _ z => z)) (pa_cons (pv 5) (pa_cons (pv 2) pa_nil))) pa_nil))))
  (pss_one (ps_set (i := 2) sc_read_tree.nd rfl (by first | exact Or.inl rfl | exact Or.inr rfl) (pv 6))))) (pss_one (ps_rs T.x_NoText rfl (takes_of rfl rfl rfl rfl))))))))))
  (pss_cons (ps_if (PW.pt (pw_or (pt_cmp (pc_neNilK K hr (pv 1))) (pw_or1 (pt_cmpR op_ne (pe_callB (call_lenK K) (by rfl) T.n_len PySem.boot_len (pa_cons (pv 2) pa_nil)) pe_int (nomark _))))) (pss_one (ps_rs T.x_NoText rfl (takes_of rfl rfl rfl rfl))) pss_nil)
  (pss_one (ps_ret (pe_ix (ix_tupK K) (pe_ix (ix_listK K) (pv 2) pe_int (fun _ _ => rfl)) pe_int (fun _ _ => rfl))))))))), ?_⟩
    rcases h with ⟨l, rfl, hl, k1, k2⟩ | ⟨v, u, rfl, ty, ku, k2⟩
    rotate_left
    · walk_at "rd"
      refine ⟨_, _, _, _, false, rfl, .ty _, ty, ku, ?_⟩
      walk_at "rd"
      exact fun x hx => k2 x hx
    walk_at "rd"
    refine ⟨(by walk_at "sz"), fun al na => ?_⟩
    generalize e0 : upd H al _ = H0
    obtain ⟨S0, ha0⟩ := newF na e0
    walk_at "rd"
    refine ⟨(by walk_at "sz"), fun hh nh0 => ?_⟩
    have nh : H hh = none := S0.free nh0
    have nah : al ≠ hh := ne_of_none ha0 nh0
    generalize e1 : upd H0 hh _ = H1
    obtain ⟨S1, hh1⟩ := newF nh0 e1
    have ha1 := S1 _ _ ha0
    walk_at "rd"
    refine for_enumS (fun i σ H' => ∃ (al hh : Addr) (fs : List Op) (hs : List Fp) (prev : Nat) (x3 x4 x5 x6 : Option V), σ = [some (tx l), some (.ref al), some (.ref hh), x3, x4, x5, x6] ∧ Same H H' ∧ RepR H H' al hh fs hs ∧
        RS.run ⟨0, [], []⟩ (l.take i) = some (rsOf prev fs hs) ∧ (rsOf prev fs hs).Inv ∧ (rsOf prev fs hs).tot ≤ i ∧ (i = 0 → prev = 0) ∧ (0 < i → l[i - 1]? = some prev))
      ⟨al, hh, [], [], 0, none, none, none, none, rfl, S0.trans S1, ⟨ha1, fun f hf => (by cases hf), hh1, fun p hp => (by cases hp), ?_, ?_⟩, rfl, RS.inv0, Nat.le_refl _, fun _ => rfl, fun h => absurd h (by decide)⟩ ?_ ?_
    · simpa [fpR, fpO] using nah
    · intro a ha'
      have : a = al ∨ a = hh := by simpa [fpR, fpO] using ha'
      rcases this with rfl | rfl
      · exact na
      · exact nh
    · rintro i c σ H2 T' hc ⟨al, hh, fs, hs, prev, x3, x4, x5, x6, rfl, S2, R, hrun, hinv, htot, hp0, hp1⟩ nT
      generalize e2 : upd H2 T' _ = H3
      obtain ⟨S23, hT3⟩ := newF nT e2
      have S3 : Same H H3 := S2.trans S23
      have hc' : l[i]? = some c := by simpa using hc
      have hi : i < l.length := (List.getElem?_eq_some_iff.mp hc').1
      have nh' : H hh = none := R.fr hh (by simp [fpR])
      have na' : H al = none := R.fr al (by simp [fpR])
      have Ra := S23 _ _ R.ab
      have Rh := S23 _ _ R.he
      walk_at "rd"
      rw [letter_in]
      cases hL : isL c with
      | true =>
        have hstep : (rsOf prev fs hs).step c = some (rsOf c fs (hs ++ [(.non, .node c [], [])])) := by
          unfold RS.step
          rw [if_pos hL]
          simp [rsOf]
        walk_at "rd"
        refine ⟨(by walk_at "sz"), fun l0 n0 => ?_⟩
        generalize e4 : upd H3 l0 _ = H4
        obtain ⟨S34, hl4⟩ := newF n0 e4
        walk_at "rd"
        refine ⟨(by walk_at "sz"), fun t1 n1 => ?_⟩
        generalize e5 : upd H4 t1 _ = H5
        obtain ⟨S45, ht5⟩ := newF n1 e5
        walk_at "rd"
        refine ⟨(by walk_at "sz"), fun t2 n2 => ?_⟩
        generalize e6 : upd H5 t2 _ = H6
        obtain ⟨S56, ht6⟩ := newF n2 e6
        have S36 : Same H3 H6 := S34.trans (S45.trans S56)
        have R6 := (R.same S23).same S36
        have Rh6 := R6.he
        walk_at "rd"
        refine ⟨_, _, _, rfl, rfl, Rh6, ?_, ?_⟩
        · rw [List.length_map]
          have z := Tr.sizes_len (hs.map Fp.t)
          rw [List.length_map] at z
          simp only [RS.tot, rsOf] at htot
          exact Nat.lt_of_le_of_lt (show _ ≤ 90000 by omega) (by decide)
        generalize e7 : upd H6 hh _ = H7
        have k7 : Keep [hh] H6 H7 := by subst e7; exact (Keep.refl _ _).upd (by simp) Rh6
        have hh7 : H7 hh = some (.lst (hs.map Fp.v ++ [.ref t2])) := by subst e7; exact upd_same
        have nl : H l0 = none := S3.free n0
        have nlhh : l0 ≠ hh := (ne_of_none (S23 _ _ R.he) n0).symm
        have FF6 : FF H6 (.node c []) (.ref t2) [l0] := ⟨t2, .ref t1, rfl, by rw [ht6, Tr.W_leaf], .mk t1 l0 [] (S56 _ _ ht5) (S56 _ _ (S45 _ _ hl4)) (fun p hp => by cases hp) rfl rfl rfl⟩
        have FF7 : FF H7 (.node c []) (.ref t2) [l0] := FF6.keep k7 fun b hb z => nlhh (by rw [← List.mem_singleton.mp hb, List.mem_singleton.mp z])
        have R7 : RepR H H7 al hh fs (hs ++ [(.ref t2, .node c [], [l0])]) := R6.put k7 (by rw [hh7, List.map_append]; rfl) FF7 (fun a ha z => (R.same S23).new n0 (by rw [← List.mem_singleton.mp ha]; exact z)) (by simp [Fp.as]) (fun a ha => by rw [List.mem_singleton.mp ha]; exact nl)
        have hr7 : RS.run ⟨0, [], []⟩ (l.take (i + 1)) = some (rsOf c fs (hs ++ [(.ref t2, .node c [], [l0])])) := by
          rw [RS.run_next hrun hc', hstep]
          simp [rsOf, Fp.t]
        have S07 : Same H H7 := by subst e7; exact Same.upd_own (S3.trans S36) nh'
        exact ⟨al, hh, fs, _, c, _, _, _, _, rfl, S07, R7, hr7, RS.step_inv ((RS.run_next hrun hc').symm.trans hr7), Nat.le_trans (RS.step_tot hinv ((RS.run_next hrun hc').symm.trans hr7)) (by omega), fun z => absurd z (by omega), fun _ => hc'⟩
      | false =>
        have hraise : (rsOf prev fs hs).step c = none → ∀ x, mg "NoText" = some x → ∀ H', Same H H' → E x none H' := fun hn x hx H' S => k2 (by unfold parse; rw [RS.run_stop hrun hc' hn]) x hx H' S
        walk_at "rd"
        rw [sign_op]
        have Rf : RepR H H3 al hh fs hs := R.same S23
        by_cases h40 : c = 40
        · subst h40
          by_cases hi0 : i = 0
          · subst hi0
            have hp := hp0 rfl
            subst hp
            walk_at "rd"
            exact fun x hx => hraise (by simp [RS.step, rsOf, isL]) x hx _ S3
          · have hprev := hp1 (by omega)
            have hix : atI (txS l).cps.toList ((i : Int) - 1) = some prev := by
              have e : (i : Int) - 1 = ((i - 1 : Nat) : Int) := by omega
              rw [e]
              exact atI_nat (by simpa using hprev)
            walk_at "rd"
            refine iteB (decide_eq_true (by omega)) ?_
            walk_at "rd"
            refine ⟨_, _, prev, rfl, rfl, ?_, hix, ?_⟩
            · rw [txS_len]
              exact Nat.le_trans hl (by decide)
            walk_at "rd"
            rw [letter_in]
            cases hLp : isL prev with
            | false =>
              walk_at "rd"
              exact fun x hx => hraise (RS.step40 hLp) x hx _ S3
            | true =>
              obtain ⟨ts0, ets⟩ := hinv hLp
              obtain ⟨hs0, q, rfl⟩ : ∃ hs0 q, hs = hs0 ++ [q] := by
                rcases snoc_cases hs with rfl | ⟨a, b, e⟩
                · have z : ([] : List Tr) = ts0 ++ [.node prev []] := ets
                  simp at z
                · exact ⟨a, b, e⟩
              have eq1 : q.t = .node prev [] ∧ hs0.map Fp.t = ts0 := by
                have z : (hs0 ++ [q]).map Fp.t = ts0 ++ [.node prev []] := ets
                rw [List.map_append] at z
                obtain ⟨z1, z2⟩ := List.append_inj' z rfl
                exact ⟨by simpa using z2, z1⟩
              obtain ⟨a, u, ev, hau, hu⟩ := Rf.hp q (by simp)
              have Rh3 : H3 hh = some (.lst (hs0.map Fp.v ++ [.ref a])) := by rw [Rf.he, List.map_append, ← ev]; rfl
              walk_at "rd"
              rw [List.dropLast_concat]
              generalize e4 : upd H3 hh _ = H4
              have k4 : Keep [hh] H3 H4 := by subst e4; exact (Keep.refl _ _).upd (by simp) Rh3
              have hh4 : H4 hh = some (.lst (hs0.map Fp.v)) := by subst e4; exact upd_same
              have S4 : Same H H4 := by subst e4; exact Same.upd_own S3 nh'
              have R4 := Rf.pop k4 hh4
              have ha4 := k4.tup _ _ hau
              have hal4 := R4.ab
              rw [eq1.1, Tr.W_leaf] at ha4
              walk_at "rd"
              refine ⟨(by walk_at "sz"), fun t1 n1 => ?_⟩
              generalize e5 : upd H4 t1 _ = H5
              obtain ⟨S45, ht5⟩ := newF n1 e5
              have hal5 := S45 _ _ hal4
              walk_at "rd"
              refine ⟨_, _, _, rfl, rfl, hal5, ?_, ?_⟩
              · rw [List.length_map]
                have z : fs.length ≤ i := by
                  have z2 := sum_ge (fun f : Op => 1 + Tr.sizes (f.ps.map Fp.t)) (fun f => Nat.le_add_right _ _) fs
                  simp only [RS.tot, rsOf, List.map_map] at htot
                  exact Nat.le_trans z2 (Nat.le_trans (Nat.le_add_right _ _) htot)
                exact Nat.lt_of_le_of_lt (show _ ≤ 90000 by omega) (by decide)
              generalize e6 : upd H5 al _ = H6
              have k6 : Keep [al] H5 H6 := by subst e6; exact (Keep.refl _ _).upd (by simp) hal5
              have hal6 : H6 al = some (.lst (fs.map (fun f => V.ref f.tup) ++ [.ref t1])) := by subst e6; exact upd_same
              walk_at "rd"
              refine ⟨(by walk_at "sz"), fun h2 n2 => ?_⟩
              generalize e7 : upd H6 h2 _ = H7
              obtain ⟨S67, hh7⟩ := newF n2 e7
              have n2al : h2 ≠ al := fun z => by rw [z, hal6] at n2; cases n2
              have n25 : H5 h2 = none := by subst e6; rw [upd_ne n2al] at n2; exact n2
              have S5 : Same H H5 := S4.trans S45
              have n20 : H h2 = none := S5.free n25
              have k7 : Keep [al] H5 H7 := k6.trans (Same.keep S67)
              have S7 : Same H H7 := by
                refine Same.trans ?_ S67
                subst e6
                exact Same.upd_own S5 na'
              have R7 : RepR H H7 al h2 (fs ++ [⟨t1, prev, hh, hs0⟩]) [] := (R4.same S45).opened k7 ht5 (by rw [S67 _ _ hal6, List.map_append]; rfl) hh7 n25 n20
              have hr7 : RS.run ⟨0, [], []⟩ (l.take (i + 1)) = some (rsOf 40 (fs ++ [⟨t1, prev, hh, hs0⟩]) []) := by
                rw [RS.run_next hrun hc', RS.step40_ok hLp]
                simp [rsOf]
              exact ⟨al, h2, _, [], 40, _, _, _, _, rfl, S7, R7, hr7, RS.step_inv ((RS.run_next hrun hc').symm.trans hr7), Nat.le_trans (RS.step_tot hinv ((RS.run_next hrun hc').symm.trans hr7)) (by omega), fun z => absurd z (by omega), fun _ => hc'⟩
        · rw [decide_eq_false h40]
          walk_at "rd"
          rw [sign_cl]
          by_cases h41 : c = 41
          · subst h41
            walk_at "rd"
            rcases snoc_cases fs with rfl | ⟨fs0, ⟨t, lc, ml, ms⟩, rfl⟩
            · walk_at "rd"
              exact fun x hx => hraise (RS.step41_none rfl) x hx _ S3
            · rw [List.map_append]
              refine ifNe (by simp) ?_
              have hop := Rf.op ⟨t, lc, ml, ms⟩ (by simp)
              have Ra3 : H3 al = some (.lst (fs0.map (fun f => V.ref f.tup) ++ [.ref t])) := by rw [Rf.ab, List.map_append]; rfl
              walk_at "rd"
              rw [List.dropLast_concat]
              generalize e4 : upd H3 al _ = H4
              have k4 : Keep [al] H3 H4 := by subst e4; exact (Keep.refl _ _).upd (by simp) Ra3
              have hal4 : H4 al = some (.lst (fs0.map fun f => V.ref f.tup)) := by subst e4; exact upd_same
              have S4 : Same H H4 := by subst e4; exact Same.upd_own S3 na'
              obtain ⟨hop4, hh4, hF4⟩ := Rf.away k4
              obtain ⟨ht4, hml4, hms4⟩ := hop4 ⟨t, lc, ml, ms⟩ (by simp)
              dsimp only at ht4 hml4 hms4
              have etot : RS.tot (rsOf prev (fs0 ++ [⟨t, lc, ml, ms⟩]) hs) = RS.tot (rsOf prev fs0 ms) + 1 + Tr.sizes (hs.map Fp.t) := by
                simp only [RS.tot, rsOf, List.map_append, List.map_cons, List.map_nil, List.sum_append, List.sum_cons, List.sum_nil]
                omega
              rw [etot] at htot
              have nml : H ml = none := R.fr ml (by simp [fpR, fpO])
              walk_at "rd"
              refine ⟨lc, hh, hs, rfl, hh4, hF4, by omega, fun hne hsr H5 v l' S45 nl hFF => ?_, fun hbad x hx H5 S5 => ?_⟩
              · have hml5 := S45 _ _ hml4
                refine ⟨_, _, _, rfl, rfl, hml5, ?_, ?_⟩
                · rw [List.length_map]
                  have z := Tr.sizes_len (ms.map Fp.t)
                  rw [List.length_map] at z
                  simp only [RS.tot, rsOf] at htot
                  exact Nat.lt_of_le_of_lt (show _ ≤ 90000 by omega) (by decide)
                generalize e6 : upd H5 ml _ = H6
                have k6 : Keep [ml] H5 H6 := by subst e6; exact (Keep.refl _ _).upd (by simp) hml5
                have hml6 : H6 ml = some (.lst (ms.map Fp.v ++ [v])) := by subst e6; exact upd_same
                have S6 : Same H H6 := by subst e6; exact Same.upd_own (S4.trans S45) nml
                have k36 : Keep [al, ml] H3 H6 := (k4.mono (by simp)).trans ((Same.keep S45).trans (k6.mono (by simp)))
                have nlml : l' ≠ ml := fun z => by rw [z, hml4] at nl; cases nl
                have namL : al ≠ ml := fun z => by
                  have q := Rf.nd
                  simp [fpR, fpO, z] at q
                have hal6 : H6 al = some (.lst (fs0.map fun f => V.ref f.tup)) := by subst e6; rw [upd_ne namL]; exact S45 _ _ hal4
                have nl3 : H3 l' = none := by
                  cases q : H3 l' with
                  | none => rfl
                  | some o =>
                    by_cases hla : l' = al
                    · rw [hla, hal4] at nl
                      cases nl
                    · have := k4.but l' o (by simpa using hla) q
                      rw [nl] at this
                      cases this
                have nml' : ml ∉ hs.flatMap Fp.as := fun hm => by
                  have q := Rf.nd
                  rw [show fpR al hh (fs0 ++ [⟨t, lc, ml, ms⟩]) hs = (al :: (fpO fs0 ++ (ml :: ms.flatMap Fp.as))) ++ (hh :: hs.flatMap Fp.as) by simp [fpR, fpO, List.flatMap_append]] at q
                  exact (List.nodup_append.mp q).2.2 ml (by simp) ml (List.mem_cons_of_mem _ hm) rfl
                have hFF6 : FF H6 (.node lc (hs.map Fp.t)) v (l' :: hs.flatMap Fp.as) := hFF.keep k6 fun b hb z => by
                  rw [List.mem_singleton.mp z] at hb
                  rcases List.mem_cons.mp hb with e | hb
                  · exact nlml e.symm
                  · exact nml' hb
                have R6 : RepR H H6 al ml fs0 (ms ++ [(v, .node lc (hs.map Fp.t), l' :: hs.flatMap Fp.as)]) := Rf.closed k36 hal6 (by rw [hml6, List.map_append]; rfl) hFF6 nl3 (S3.free nl3)
                have hne' : hs.map Fp.t ≠ [] := by simpa using hne
                have hr6 : RS.run ⟨0, [], []⟩ (l.take (i + 1)) = some (rsOf 41 fs0 (ms ++ [(v, .node lc (hs.map Fp.t), l' :: hs.flatMap Fp.as)])) := by
                  rw [RS.run_next hrun hc']
                  have e : rsOf prev (fs0 ++ [⟨t, lc, ml, ms⟩]) hs = ⟨prev, fs0.map (fun f => (f.c, f.ps.map Fp.t)) ++ [(lc, ms.map Fp.t)], hs.map Fp.t⟩ := by simp [rsOf]
                  rw [e, RS.step41, if_pos ⟨hne', hsr⟩]
                  simp [rsOf, Fp.t]
                walk_at "rd"
                have hst := (RS.run_next hrun hc').symm.trans hr6
                exact ⟨al, ml, fs0, _, 41, _, _, _, _, rfl, S6, R6, hr6, RS.step_inv hst, Nat.le_trans (RS.step_tot hinv hst) (by omega), fun z => absurd z (by omega), fun _ => hc'⟩
              · refine hraise ?_ x hx _ (S4.trans S5)
                have e : rsOf prev (fs0 ++ [⟨t, lc, ml, ms⟩]) hs = ⟨prev, fs0.map (fun f => (f.c, f.ps.map Fp.t)) ++ [(lc, ms.map Fp.t)], hs.map Fp.t⟩ := by simp [rsOf]
                rw [e, RS.step41, if_neg]
                rintro ⟨z1, z2⟩
                exact hbad ⟨by simpa using z1, z2⟩
          · rw [decide_eq_false h41]
            walk_at "rd"
            exact fun x hx => hraise (RS.step_other hL h40 h41) x hx _ S3
    · rintro σ H2 ⟨al, hh, fs, hs, prev, x3, x4, x5, x6, rfl, S2, R, hrun, hinv, htot, hp0, hp1⟩
      have esz : (txS l).cps.size = l.length := by simp
      rw [esz, List.take_length] at hrun
      have Ra := R.ab
      have Rh := R.he
      walk_at "rd"
      rcases snoc_cases fs with rfl | ⟨fs0, f0, rfl⟩
      · walk_at "rd"
        match hs, R with
        | [], R =>
          walk_at "rd"
          exact fun x hx => k2 (by unfold parse; rw [hrun]; rfl) x hx _ S2
        | p :: q :: r, R =>
          refine iteB ?_ ?_
          · show (!decide (V.int (((p :: q :: r).map Fp.v).length : Int) = V.int 1)) = true
            rw [decide_eq_false]
            · rfl
            · intro z
              have z2 := V.int.inj z
              simp at z2
              omega
          · walk_at "rd"
            exact fun x hx => k2 (by unfold parse; rw [hrun]; rfl) x hx _ S2
        | [p], R =>
          obtain ⟨a, u, ev, ha, hu⟩ := R.hp p (by simp)
          obtain ⟨pv, pt, pa⟩ := p
          obtain rfl : pv = .ref a := ev
          walk_at "rd"
          refine k1 pt (by unfold parse; rw [hrun]; rfl) _ _ _ S2 hu (fun b hb => R.fr b ?_) ?_
          · simp [fpR, fpO]
            exact .inr (.inr hb)
          · have q := R.nd
            simp only [fpR, fpO, List.flatMap_nil, List.nil_append, List.flatMap_cons, List.append_nil] at q
            exact (List.nodup_cons.mp (List.nodup_cons.mp q).2).2
      · rw [List.map_append]
        refine ifNe (by simp) ?_
        walk_at "rd"
        refine fun x hx => k2 ?_ x hx _ S2
        unfold parse
        rw [hrun]
        have e : ((fs0 ++ [f0]).map fun f : Op => (f.c, f.ps.map Fp.t)) ≠ [] := by simp
        unfold rsOf
        cases q : (fs0 ++ [f0]).map fun f : Op => (f.c, f.ps.map Fp.t) with
        | nil => exact absurd q e
        | cons y ys => rfl
end
end Hy
set_option Elab.async false
set_option linter.all false
set_option maxRecDepth 100000
set_option maxHeartbeats 4000000
namespace Hy
open PySem L2
local macro_rules | `(tactic| walk_at "hp") => `(tactic| first
  | assumption | exact upd_same
  | (refine (upd_ne ?_).trans ?_ <;> first | assumption | (exact Ne.symm (by assumption)) | walk_at "ne" | walk_at "hp")
  | (refine (by assumption : Same _ _) _ _ ?_; assumption))
local macro_rules | `(tactic| walk_at "ne") => `(tactic| first
  | assumption | (exact Ne.symm (by assumption))
  | exact ne_of_none (by assumption) (by assumption) | exact Ne.symm (ne_of_none (by assumption) (by assumption)))
local macro_rules | `(tactic| walk_at "sz") => `(tactic| first | assumption | (show 0 ≤ sizeLine; decide) | (show 1 ≤ sizeLine; decide) | (show 2 ≤ sizeLine; decide) | (show 3 ≤ sizeLine; decide))
local macro_rules | `(tactic| walk_at "ar") => `(tactic| first
  | ((with_reducible show (0 : Int) < _); first | decide | omega)
  | ((with_reducible show CMul _ _); first | exact Or.inr (And.intro (by decide) (by decide)) | exact Or.inl (And.intro (by decide) (by decide)) | (refine Or.inl (And.intro ?_ ?_) <;> omega) | (refine Or.inr (And.intro ?_ ?_) <;> omega))
  | ((with_reducible show CPow _ _); exact And.intro (by decide) (And.intro (by decide) (by decide)))
  | ((with_reducible show CDiv _ _); first | exact And.intro (by decide) (by decide) | (refine And.intro ?_ ?_ <;> omega)))
/- one step of a reading -/
local macro_rules | `(tactic| walk_at "r1") => `(tactic| first
  | refine ⟨_, rfl, ?_⟩
  | refine iteB (by rfl) ?_ | refine iteC (by rfl) ?_
  | refine ⟨_, _, rfl, rfl, ?_⟩
  | refine ⟨rfl, ?_⟩
  | refine ⟨⟨_, rfl⟩, ?_⟩
  | refine ⟨_, _, _, _, true, rfl, .ty _, .base (.str _), kit_ty (by decide +kernel), ?_⟩
  | refine ⟨_, _, _, _, false, rfl, .ty _, .base (.str _), kit_ty (by decide +kernel), ?_⟩
  | refine ⟨_, _, _, _, true, rfl, .ty _, .base (.int _), kit_ty (by decide +kernel), ?_⟩
  | refine ⟨_, _, _, _, false, rfl, .ty _, .base (.int _), kit_ty (by decide +kernel), ?_⟩
  | refine ⟨_, _, _, _, true, rfl, .ty _, .base (.tup (by walk_at "hp")), kit_ty (by decide +kernel), ?_⟩
  | refine ⟨_, _, _, _, false, rfl, .ty _, .base (.tup (by walk_at "hp")), kit_ty (by decide +kernel), ?_⟩
  | refine ⟨_, _, _, _, true, rfl, .ty _, .base (.lst (by walk_at "hp")), kit_ty (by decide +kernel), ?_⟩
  | refine ⟨_, _, _, _, false, rfl, .ty _, .base (.lst (by walk_at "hp")), kit_ty (by decide +kernel), ?_⟩
  | refine ⟨_, _, rfl, ⟨by walk_at "sz", rfl⟩, ?_⟩
  | refine ⟨_, _, _, _, rfl, rfl, SqT.of (by walk_at "hp"), by rfl, ?_⟩
  | refine ⟨_, _, _, _, rfl, rfl, SqL.of (by walk_at "hp"), by rfl, ?_⟩
  | refine ⟨.inl ⟨rfl, _, SqL.of (by walk_at "hp")⟩, ?_⟩
  | refine ⟨_, _, _, rfl, rfl, (by walk_at "hp"), snoc_get, ?_⟩
  | refine ⟨_, _, _, _, rfl, rfl, (by walk_at "hp"), by rfl, ?_⟩
  | refine ⟨_, _, rfl, SqL.of (by walk_at "hp"), ?_⟩
  | refine ⟨_, _, rfl, SqT.of (by walk_at "hp"), by rfl, ?_⟩
  | refine ⟨_, (_ : List V), rfl, ?_⟩
  | refine ⟨_, _, rfl, .inl ⟨_, (by assumption), rfl⟩, ?_⟩
  | refine ⟨_, _, rfl, .inl ⟨_, SqL.of (by walk_at "hp"), rfl⟩, ?_⟩
  | refine ⟨_, _, rfl, .inr ⟨_, SqT.of (by walk_at "hp"), rfl⟩, ?_⟩
  | refine Or.inl ⟨(_ : Int), rfl, ?_⟩ | refine Or.inr ⟨(_ : Bool), rfl, ?_⟩
  | refine ⟨_, _, _, _, true, rfl, (by assumption : ND _ _ _ _), .ty _, kit_ty (by decide +kernel), ?_⟩
  | refine ⟨_, _, _, _, false, rfl, (by assumption : ND _ _ _ _), .ty _, kit_ty (by decide +kernel), ?_⟩
  | refine ⟨_, _, rfl, (by assumption : ND _ _ _ _), ?_⟩
  | refine And.intro (by walk_at "ar") ?_)
local macro_rules | `(tactic| walk_at "rd") => `(tactic| repeat walk_at "r1")

section
variable {P : Program} {w : World} {K : PySem.W.Frag} {mg : Str → Option Value} {base : Heap}
abbrev s__law_cell : Stmt := top 100
theorem sc__law_cell : FnScope ["script", "k"] ["script", "k"] (defScope s__law_cell) := ⟨rfl, rfl, rfl, by decide +kernel, rfl, by decide +kernel, by decide +kernel⟩
abbrev s__law_store : Stmt := top 101
theorem sc__law_store : FnScope ["cell", "great"] ["cell"] (defScope s__law_store) := ⟨rfl, rfl, rfl, by decide +kernel, rfl, by decide +kernel, by decide +kernel⟩
abbrev s__law_take : Stmt := top 102
theorem sc__law_take : FnScope ["store", "many", "told", "one"] ["store", "many"] (defScope s__law_take) := ⟨rfl, rfl, rfl, by decide +kernel, rfl, by decide +kernel, by decide +kernel⟩

def sp__law_cell : Sp := fun vs H Q _ => ∃ (a : Addr) (ns : List Int) (k : Nat), vs = [.ref a, .int (k : Int)] ∧ SqL K H a (ns.map V.int) ∧ k < 1000 ∧ ∀ z : Int, Q (.int z) H
theorem ok__law_cell (D : Df K mg "_law_cell" s__law_cell ["script", "k"]) (T : Txt K mg) : G' P w K mg base "_law_cell" 1 ["script", "k"] (sp__law_cell (K := K)) := by
  refine D.ok fun f fd F => F.okX sc__law_cell (fun vs H Q E h => ?_) (fun cdv A outer s H vs Q E hr h => ?_)
  · obtain ⟨a, ns, k, rfl, _⟩ := h
    rfl
  · obtain ⟨a, ns, k, rfl, hs, hk, q⟩ := h
    refine ⟨_, (pss_cons (ps_if (pt_cmpR op_lt (pv 1) (pe_callB (call_lenK K) (by rfl) T.n_len PySem.boot_len (pa_cons (pv 0) pa_nil)) (nomark _)) (pss_one (ps_ret (pe_ix (ix_listK K) (pv 0) (pv 1) (fun _ _ => rfl)))) pss_nil)
  (pss_one (ps_ret (pe_op op_add (pe_op op_add (pe_op op_mul (pe_op op_mul pe_int (pv 1)) (pv 1)) (pe_op op_mul pe_int (pv 1))) pe_int)))), ?_⟩
    walk_at "rd"
    rw [List.length_map]
    by_cases h : k < ns.length
    · refine iteB (decide_eq_true (by omega)) ?_
      walk_at "rd"
      refine ⟨_, _, _, _, rfl, rfl, hs, atI_nat (by rw [List.getElem?_map, List.getElem?_eq_getElem h]; rfl), ?_⟩
      exact q _
    · refine iteC (decide_eq_false (by omega)) ?_
      walk_at "rd"
      exact q _
def sp__law_store : Sp := fun vs H Q _ => ∃ c : Int, vs = [.int c] ∧ ∀ (H' : Hp) (p : Addr) (g x : Int), Same H H' → H p = none → H' p = some (.lst [.int g, .int x, .int 1]) → Q (.ref p) H'
theorem ok__law_store (D : Df K mg "_law_store" s__law_store ["cell"]) (T : Txt K mg) : G' P w K mg base "_law_store" 1 ["cell"] sp__law_store := by
  refine D.ok fun f fd F => F.okX sc__law_store (fun vs H Q E h => ?_) (fun cdv A outer s H vs Q E hr h => ?_)
  · obtain ⟨c, rfl, _⟩ := h
    rfl
  · obtain ⟨c, rfl, q⟩ := h
    refine ⟨_, (pss_cons (ps_set (i := 1) sc__law_store.nd rfl (by first | exact Or.inl rfl | exact Or.inr rfl) pe_int)
  (pss_cons (ps_if (pt_cmpR op_ge (pv 0) (pe_op op_pow pe_int pe_int) (nomark _)) (pss_one (ps_set (i := 1) sc__law_store.nd rfl (by first | exact Or.inl rfl | exact Or.inr rfl) (pv 0))) pss_nil)
  (pss_one (ps_ret (pe_lst (pa_cons (pv 1) (pa_cons (pe_op op_mod (pv 0) pe_int) (pa_cons pe_int pa_nil)))))))), ?_⟩
    walk_at "rd"
    have fin : ∀ (g : Int) (p : Addr), H p = none → Q (.ref p) (upd H p (.lst [.int g, .int (c % 2147483629), .int 1])) := fun g p np => q _ p _ _ (same_new np) np upd_same
    by_cases h : c ≥ 1000000000000000000
    · refine iteB (decide_eq_true (by first | exact h | omega)) ?_
      walk_at "rd"
      exact ⟨(by walk_at "sz"), fun p np => fin _ p np⟩
    · refine iteC (decide_eq_false (by first | exact h | omega)) ?_
      walk_at "rd"
      exact ⟨(by walk_at "sz"), fun p np => fin _ p np⟩
/-- the store of draws -/
def StoreAt (H : Hp) (s : Addr) : Prop := ∃ g x n : Int, H s = some (.lst [.int g, .int x, .int n])
def sp__law_take : Sp := fun vs H Q _ => ∃ (s : Addr) (m : Int), vs = [.ref s, .int m] ∧ StoreAt H s ∧ 1 ≤ m ∧ m ≤ 1000000 ∧ ∀ (H' : Hp) (r : Int), Keep [s] H H' → StoreAt H' s → 0 ≤ r → r < m → Q (.int r) H'
theorem ok__law_take (D : Df K mg "_law_take" s__law_take ["store", "many"]) (T : Txt K mg) : G' P w K mg base "_law_take" 1 ["store", "many"] sp__law_take := by
  refine D.ok fun f fd F => F.okX sc__law_take (fun vs H Q E h => ?_) (fun cdv A outer s H vs Q E hr h => ?_)
  · obtain ⟨s, m, rfl, _⟩ := h
    rfl
  · obtain ⟨st, m, rfl, ⟨g, x, n, hst⟩, h1, h2, q⟩ := h
    refine ⟨_, (pss_cons (ps_if (pt_cmpR op_gt (pe_ix (ix_listK K) (pv 0) pe_int (fun _ _ => rfl)) pe_int (nomark _)) (pss_cons (ps_set (i := 2) sc__law_take.nd rfl (by first | exact Or.inl rfl | exact Or.inr rfl) (pe_op op_mod (pe_ix (ix_listK K) (pv 0) pe_int (fun _ _ => rfl)) (pv 1)))
  (pss_cons (ps_asg (pe_op op_fdiv (pe_ix (ix_listK K) (pv 0) pe_int (fun _ _ => rfl)) (pv 1)) (pg_sub (pv 0) pe_int set_list))
  (pss_one (ps_ret (pv 2))))) pss_nil)
  (pss_cons (ps_asg (pe_op op_add (pe_ix (ix_listK K) (pv 0) pe_int (fun _ _ => rfl)) pe_int) (pg_sub (pv 0) pe_int set_list))
  (pss_cons (ps_set (i := 3) sc__law_take.nd rfl (by first | exact Or.inl rfl | exact Or.inr rfl) (pe_op op_mod (pe_op op_mul (pe_op op_add (pe_ix (ix_listK K) (pv 0) pe_int (fun _ _ => rfl)) (pe_op op_mul pe_int (pe_ix (ix_listK K) (pv 0) pe_int (fun _ _ => rfl)))) pe_int) pe_int))
  (pss_cons (ps_set (i := 3) sc__law_take.nd rfl (by first | exact Or.inl rfl | exact Or.inr rfl) (pe_op op_mod (pe_op op_mul (pv 3) (pv 3)) pe_int))
  (pss_cons (ps_set (i := 3) sc__law_take.nd rfl (by first | exact Or.inl rfl | exact Or.inr rfl) (pe_op op_mod (pe_op op_mul (pe_op op_add (pv 3) (pe_op op_mul pe_int (pe_ix (ix_listK K) (pv 0) pe_int (fun _ _ => rfl)))) pe_int) pe_int))
  (pss_one (ps_ret (pe_op op_mod (pe_op op_fdiv (pv 3) pe_int) (pv 1))))))))), ?_⟩
    walk_at "rd"
    by_cases h : g > 0
    · refine iteB (decide_eq_true (by omega)) ?_
      walk_at "rd"
      exact q _ _ ((Keep.refl _ _).upd (by simp) hst) ⟨_, _, _, upd_same⟩ (Int.emod_nonneg _ (by omega)) (Int.emod_lt_of_pos _ (by omega))
    · refine iteC (decide_eq_false (by omega)) ?_
      walk_at "rd"
      exact q _ _ ((Keep.refl _ _).upd (by simp) hst) ⟨_, _, _, upd_same⟩ (Int.emod_nonneg _ (by omega)) (Int.emod_lt_of_pos _ (by omega))
end
end Hy
set_option Elab.async false
set_option linter.all false
set_option maxRecDepth 100000
set_option maxHeartbeats 4000000
namespace Hy
open PySem L2
local macro_rules | `(tactic| walk_at "hp") => `(tactic| first
  | assumption | exact upd_same
  | (refine (upd_ne ?_).trans ?_ <;> first | assumption | (exact Ne.symm (by assumption)) | walk_at "ne" | walk_at "hp")
  | (refine (by assumption : Same _ _) _ _ ?_; assumption))
local macro_rules | `(tactic| walk_at "ne") => `(tactic| first
  | assumption | (exact Ne.symm (by assumption))
  | exact ne_of_none (by assumption) (by assumption) | exact Ne.symm (ne_of_none (by assumption) (by assumption)))
local macro_rules | `(tactic| walk_at "sz") => `(tactic| first | assumption | (show 0 ≤ sizeLine; decide) | (show 1 ≤ sizeLine; decide) | (show 2 ≤ sizeLine; decide) | (show 3 ≤ sizeLine; decide))
local macro_rules | `(tactic| walk_at "ar") => `(tactic| first
  | ((with_reducible show (0 : Int) < _); first | decide | omega)
  | ((with_reducible show CMul _ _); first | exact Or.inr (And.intro (by decide) (by decide)) | exact Or.inl (And.intro (by decide) (by decide)) | (refine Or.inl (And.intro ?_ ?_) <;> omega) | (refine Or.inr (And.intro ?_ ?_) <;> omega))
  | ((with_reducible show CPow _ _); exact And.intro (by decide) (And.intro (by decide) (by decide)))
  | ((with_reducible show CDiv _ _); first | exact And.intro (by decide) (by decide) | (refine And.intro ?_ ?_ <;> omega)))
/- one step of a reading -/
local macro_rules | `(tactic| walk_at "r1") => `(tactic| first
  | refine ⟨_, rfl, ?_⟩
  | refine iteB (by rfl) ?_ | refine iteC (by rfl) ?_
  | refine ⟨_, _, rfl, rfl, ?_⟩
  | refine ⟨rfl, ?_⟩
  | refine ⟨⟨_, rfl⟩, ?_⟩
  | refine ⟨_, _, _, _, true, rfl, .ty _, .base (.str _), kit_ty (by decide +kernel), ?_⟩
  | refine ⟨_, _, _, _, false, rfl, .ty _, .base (.str _), kit_ty (by decide +kernel), ?_⟩
  | refine ⟨_, _, _, _, true, rfl, .ty _, .base (.int _), kit_ty (by decide +kernel), ?_⟩
  | refine ⟨_, _, _, _, false, rfl, .ty _, .base (.int _), kit_ty (by decide +kernel), ?_⟩
  | refine ⟨_, _, _, _, true, rfl, .ty _, .base (.tup (by walk_at "hp")), kit_ty (by decide +kernel), ?_⟩
  | refine ⟨_, _, _, _, false, rfl, .ty _, .base (.tup (by walk_at "hp")), kit_ty (by decide +kernel), ?_⟩
  | refine ⟨_, _, _, _, true, rfl, .ty _, .base (.lst (by walk_at "hp")), kit_ty (by decide +kernel), ?_⟩
  | refine ⟨_, _, _, _, false, rfl, .ty _, .base (.lst (by walk_at "hp")), kit_ty (by decide +kernel), ?_⟩
  | refine ⟨_, _, rfl, ⟨by walk_at "sz", rfl⟩, ?_⟩
  | refine ⟨_, _, _, _, rfl, rfl, SqT.of (by walk_at "hp"), by rfl, ?_⟩
  | refine ⟨_, _, _, _, rfl, rfl, SqL.of (by walk_at "hp"), by rfl, ?_⟩
  | refine ⟨.inl ⟨rfl, _, SqL.of (by walk_at "hp")⟩, ?_⟩
  | refine ⟨_, _, _, rfl, rfl, (by walk_at "hp"), snoc_get, ?_⟩
  | refine ⟨_, _, _, _, rfl, rfl, (by walk_at "hp"), by rfl, ?_⟩
  | refine ⟨_, _, rfl, SqL.of (by walk_at "hp"), ?_⟩
  | refine ⟨_, _, rfl, SqT.of (by walk_at "hp"), by rfl, ?_⟩
  | refine ⟨_, (_ : List V), rfl, ?_⟩
  | refine ⟨_, _, rfl, .inl ⟨_, (by assumption), rfl⟩, ?_⟩
  | refine ⟨_, _, rfl, .inl ⟨_, SqL.of (by walk_at "hp"), rfl⟩, ?_⟩
  | refine ⟨_, _, rfl, .inr ⟨_, SqT.of (by walk_at "hp"), rfl⟩, ?_⟩
  | refine Or.inl ⟨(_ : Int), rfl, ?_⟩ | refine Or.inr ⟨(_ : Bool), rfl, ?_⟩
  | refine ⟨_, _, _, _, true, rfl, (by assumption : ND _ _ _ _), .ty _, kit_ty (by decide +kernel), ?_⟩
  | refine ⟨_, _, _, _, false, rfl, (by assumption : ND _ _ _ _), .ty _, kit_ty (by decide +kernel), ?_⟩
  | refine ⟨_, _, rfl, (by assumption : ND _ _ _ _), ?_⟩
  | refine And.intro (by walk_at "ar") ?_)
local macro_rules | `(tactic| walk_at "rd") => `(tactic| repeat walk_at "r1")

theorem tup_upd {H : Hp} {D : Addr} {ys : List V} {o : HO} (h : H D = some (.lst ys)) (b : Addr) (xs : List V) (e : H b = some (.tup xs)) : upd H D o b = some (.tup xs) := by
  rw [upd_ne (ne_of e h (fun z => nomatch z))]
  exact e
theorem row_snoc {K : PySem.W.Frag} {H : Hp} {b p : Addr} {r : List Nat} {q : Nat} {z : Int} {Q : V → Hp → Prop} (hb : H b = some (.tup (r.map fun n => V.int (n : Nat)))) (hp : H p = some (.tup [.int z])) (hz : z = (q : Int)) (hl : r.length + 1 ≤ sizeLine)
    (k : ∀ H' v, Same H H' → NKv H' (kR (r ++ [q])) v → Q v H') : rCatA K (.ref b) (.ref p) H Q := by
  subst hz
  refine ⟨b, p, _, _, rfl, rfl, SqT.of hb, SqT.of hp, by rw [List.length_map]; exact hl, fun e => ?_, (fun _ e => (nomatch e)), fun _ _ u nu => ?_⟩
  · have : r = [] := List.map_eq_nil_iff.mp e
    subst this
    exact k _ _ (Same.refl _) (row_mk hp)
  · refine k _ _ (same_new nu) (row_mk ?_)
    rw [upd_same, List.map_append]
    rfl
section
variable {P : Program} {w : World} {K : PySem.W.Frag} {mg : Str → Option Value} {base : Heap}
abbrev s_class_rows : Stmt := top 81
theorem sc_class_rows : FnScope ["states", "classes", "rows", "turn", "longer", "row", "one"] ["states", "classes"] (defScope s_class_rows) := ⟨rfl, rfl, rfl, by decide +kernel, rfl, by decide +kernel, by decide +kernel⟩
abbrev s__law_classes : Stmt := top 103
theorem sc__law_classes : FnScope ["many", "states", "rows", "k", "longer", "row", "one"] ["many", "states"] (defScope s__law_classes) := ⟨rfl, rfl, rfl, by decide +kernel, rfl, by decide +kernel, by decide +kernel⟩

def sp_class_rows : Sp := fun vs H Q _ => ∃ s m : Nat, vs = [.int (s : Int), .int (m : Int)] ∧ s ≤ 1000 ∧ m ≤ 1000 ∧ (∀ i, i ≤ s → m ^ i ≤ 3000) ∧ ∀ (H' : Hp) (p : Addr) (ws : List V), Same H H' → H p = none → H' p = some (.lst ws) → RowsV H' ws (rowsL m s) → Q (.ref p) H'
theorem ok_class_rows (D : Df K mg "class_rows" s_class_rows ["states", "classes"]) (T : Txt K mg) : G' P w K mg base "class_rows" 1 ["states", "classes"] sp_class_rows := by
  refine D.ok fun f fd F => F.okX sc_class_rows (fun vs H Q E h => ?_) (fun cdv A outer s H vs Q E hr h => ?_)
  · obtain ⟨s, m, rfl, _⟩ := h
    rfl
  · obtain ⟨st, m, rfl, hst, hm, hpow, k⟩ := h
    refine ⟨_, (pss_cons (ps_set (i := 2) sc_class_rows.nd rfl (by first | exact Or.inl rfl | exact Or.inr rfl) (pe_lst (pa_cons (pe_tup pa_nil) pa_nil)))
  (pss_cons (ps_for (passes_of rfl) rfl (pi_range1 (by rfl) T.n_range (pa_cons (pv 0) pa_nil)) (pg_name (i := 3) sc_class_rows.nd rfl (by first | exact Or.inl rfl | exact Or.inr rfl)) (pss_cons (ps_set (i := 4) sc_class_rows.nd rfl (by first | exact Or.inl rfl | exact Or.inr rfl) (pe_lst pa_nil))
  (pss_cons (ps_for (passes_of rfl) rfl (pi_listK K (pv 2)) (pg_name (i := 5) sc_class_rows.nd rfl (by first | exact Or.inl rfl | exact Or.inr rfl)) (pss_one (ps_expr (cbm K (pe_bm PySem.F.plainAttrs_list PySem.F.slot_list_extend PySem.F.type_list_extend mt_extend (pv 4) (pa_cons (pe_lc (own := [("one", 6)]) rfl sc_class_rows.nd (pi_range1 (by rfl) T.n_range (pa_cons (pv 1) pa_nil)) (blkOk_by (own := [("one", 6)]) (N := ["states", "classes", "rows", "turn", "longer", "row", "one"]) (sc := defScope s_class_rows) (by decide +kernel)) (fun _ _ _ _ _ => (pg_name (i := 6) sc_class_rows.nd rfl (by first | exact Or.inl rfl | exact Or.inr rfl))) (fun _ _ _ _ _ => pts_nil) (fun _ _ _ _ _ => (pe_op (op_catAK K) (pv 5) (pe_tup (pa_cons (pv 6) pa_nil))))) pa_nil))))))
  (pss_one (ps_set (i := 2) sc_class_rows.nd rfl (by first | exact Or.inl rfl | exact Or.inr rfl) (pv 4))))))
  (pss_one (ps_ret (pv 2))))), ?_⟩
    walk_at "rd"
    refine ⟨(by walk_at "sz"), fun t0 nt0 => ?_⟩
    generalize e0 : upd H t0 _ = H0
    obtain ⟨S0, h0⟩ := newF nt0 e0
    walk_at "rd"
    refine ⟨(by walk_at "sz"), fun r0 nr0 => ?_⟩
    generalize e1 : upd H0 r0 _ = H1
    obtain ⟨S1, h1⟩ := newF nr0 e1
    walk_at "rd"
    refine ⟨by omega, by omega, ?_⟩
    refine for_range (lo := 0) (n := st) (fun i σ H' => ∃ (rl : Addr) (vs : List V) (tv lv rv : Option V), σ = [some (.int (st : Int)), some (.int (m : Int)), some (.ref rl), tv, lv, rv, none] ∧ Same H H' ∧ H rl = none ∧ H' rl = some (.lst vs) ∧ RowsV H' vs (rowsL m i))
      ⟨r0, [.ref t0], none, none, none, rfl, S0.trans S1, S0.free nr0, h1, .cons (row_mk (S1 _ _ h0)) .nil⟩ ?_ ?_
    · rintro i σ H2 hi ⟨rl, vs, tv, lv, rv, rfl, S2, nrl, hrl, hvs⟩
      refine ⟨(by walk_at "sz"), fun l1 n1 => ?_⟩
      generalize e2 : upd H2 l1 _ = H3
      obtain ⟨S23, hl1⟩ := newF n1 e2
      have S3 := S2.trans S23
      have hrl3 := S23 _ _ hrl
      have hvs3 := hvs.stay fun _ _ h => S23 _ _ h
      have nl1 : H l1 = none := S2.free n1
      walk_at "rd"
      refine ⟨⟨_, SqL.of hrl3⟩, for_list (K := K) (a := rl) (xs := vs) (fun j σ H' => ∃ (ws : List V) (rv : Option V), σ = [some (.int (st : Int)), some (.int (m : Int)), some (.ref rl), some (.int (0 + (i : Int))), some (.ref l1), rv, none] ∧ Same H2 H' ∧ H' l1 = some (.lst ws) ∧ RowsV H' ws (((rowsL m i).take j).flatMap fun r => (List.range m).map fun c => r ++ [c]))
        ⟨[], rv, rfl, S23, hl1, .nil⟩ (fun j σ H' _ ⟨_, _, _, S, _⟩ => SqL.of (S _ _ hrl)) ?_ ?_⟩
      · rintro j x σ H4 hx ⟨ws, rv, rfl, S4, hl4, hws⟩
        obtain ⟨r, hr2, hxr⟩ := paired_get hvs hx
        have hj : j < (rowsL m i).length := (List.getElem?_eq_some_iff.mp hr2).1
        have hlen := rowsL_len m i
        have hpi := hpow (i + 1) (by omega)
        rw [Nat.pow_succ] at hpi
        have hwl : ws.length = j * m := by
          rw [Paired.length hws, flatMap_len _ m _ (fun x _ => by simp), List.length_take]
          congr 1
          omega
        have hjm : j * m + m ≤ 3000 := by
          have : (j + 1) * m ≤ (rowsL m i).length * m := Nat.mul_le_mul_right m (by omega)
          rw [Nat.succ_mul, hlen] at this
          omega
        obtain ⟨b, rfl, hb⟩ := row_of hxr
        have hb4 := S4 _ _ hb
        walk_at "rd"
        refine ⟨by omega, by omega, ?_⟩
        refine fun D nD => lc_range (lo := 0) (n := m) (fun q H' => Same H4 H' ∧ ∃ acc, H' D = some (.lst acc) ∧ RowsV H' acc ((List.range q).map fun c => r ++ [c])) ⟨same_new nD, [], upd_same, .nil⟩ ?_ ?_
        · rintro q H5 hq ⟨S5, acc, hD, hacc⟩
          have hb5 := S5 _ _ hb4
          have hrl : r.length = i := (rowsL_mem.mp (List.mem_of_getElem? hr2)).1
          walk_at "rd"
          refine ⟨(by walk_at "sz"), fun p1 n1 => row_snoc (q := q) (by rw [upd_ne (ne_of_none hb5 n1)]; exact hb5) upd_same (by omega) (by rw [hrl]; exact Nat.le_trans (show i + 1 ≤ 1001 by omega) (by decide)) fun H6 v S6 hv => ?_⟩
          have S56 : Same H5 H6 := (same_new n1).trans S6
          have hD6 := S56 _ _ hD
          refine ⟨acc, hD6, ?_, Same.upd_own (S5.trans S56) nD, _, upd_same, ?_⟩
          · rw [Paired.length hacc, List.length_map, List.length_range]
            exact Nat.lt_of_lt_of_le (show q < 3000 by omega) (by decide)
          · rw [List.range_succ, List.map_append]
            exact ((hacc.stay fun _ _ h => S56 _ _ h).app (.cons hv .nil)).stay fun b xs e => tup_upd hD6 b xs e
        · rintro H5 ⟨S5, acc, hD, hacc⟩
          walk_at "rd"
          have hl5 := S5 _ _ hl4
          refine ⟨l1, D, ws, acc, rfl, rfl, hl5, hD, ?_, ?_⟩
          · rw [hwl, Paired.length hacc, List.length_map, List.length_range]
            exact Nat.le_trans hjm (by decide)
          · refine ⟨_, _, rfl, Same.upd_own (S4.trans S5) n1, upd_same, ?_⟩
            rw [List.take_succ, hr2, List.flatMap_append]
            refine RowsV.stay (RowsV.app (hws.stay fun _ _ h => S5 _ _ h) ?_) fun b xs e => tup_upd hl5 b xs e
            simpa using hacc
      · rintro σ H4 ⟨ws, rv, rfl, S4, hl4, hws⟩
        walk_at "rd"
        refine ⟨l1, ws, _, _, _, rfl, S2.trans S4, nl1, hl4, ?_⟩
        rw [Paired.length hvs, List.take_length] at hws
        exact hws
    · rintro σ H2 ⟨rl, vs, tv, lv, rv, rfl, S2, nrl, hrl, hvs⟩
      walk_at "rd"
      exact k _ _ _ S2 nrl hrl hvs
def sp__law_classes : Sp := fun vs H Q _ => ∃ s m : Nat, vs = [.int (m : Int), .int (s : Int)] ∧ s ≤ 1000 ∧ m ≤ 1000 ∧ (∀ i, i ≤ s → m ^ i ≤ 3000) ∧ ∀ (H' : Hp) (p : Addr) (ws : List V), Same H H' → H p = none → H' p = some (.lst ws) → RowsV H' ws (rowsL m s) → Q (.ref p) H'
theorem ok__law_classes (D : Df K mg "_law_classes" s__law_classes ["many", "states"]) (T : Txt K mg) : G' P w K mg base "_law_classes" 1 ["many", "states"] sp__law_classes := by
  refine D.ok fun f fd F => F.okX sc__law_classes (fun vs H Q E h => ?_) (fun cdv A outer s H vs Q E hr h => ?_)
  · obtain ⟨s, m, rfl, _⟩ := h
    rfl
  · obtain ⟨st, m, rfl, hst, hm, hpow, k⟩ := h
    refine ⟨_, (pss_cons (ps_set (i := 2) sc__law_classes.nd rfl (by first | exact Or.inl rfl | exact Or.inr rfl) (pe_lst (pa_cons (pe_tup pa_nil) pa_nil)))
  (pss_cons (ps_for (passes_of rfl) rfl (pi_range1 (by rfl) T.n_range (pa_cons (pv 1) pa_nil)) (pg_name (i := 3) sc__law_classes.nd rfl (by first | exact Or.inl rfl | exact Or.inr rfl)) (pss_cons (ps_set (i := 4) sc__law_classes.nd rfl (by first | exact Or.inl rfl | exact Or.inr rfl) (pe_lst pa_nil))
  (pss_cons (ps_for (passes_of rfl) rfl (pi_listK K (pv 2)) (pg_name (i := 5) sc__law_classes.nd rfl (by first | exact Or.inl rfl | exact Or.inr rfl)) (pss_one (ps_expr (cbm K (pe_bm PySem.F.plainAttrs_list PySem.F.slot_list_extend PySem.F.type_list_extend mt_extend (pv 4) (pa_cons (pe_lc (own := [("one", 6)]) rfl sc__law_classes.nd (pi_range1 (by rfl) T.n_range (pa_cons (pv 0) pa_nil)) (blkOk_by (own := [("one", 6)]) (N := ["many", "states", "rows", "k", "longer", "row", "one"]) (sc := defScope s__law_classes) (by decide +kernel)) (fun _ _ _ _ _ => (pg_name (i := 6) sc__law_classes.nd rfl (by first | exact Or.inl rfl | exact Or.inr rfl))) (fun _ _ _ _ _ => pts_nil) (fun _ _ _ _ _ => (pe_op (op_catAK K) (pv 5) (pe_tup (pa_cons (pv 6) pa_nil))))) pa_nil))))))
  (pss_one (ps_set (i := 2) sc__law_classes.nd rfl (by first | exact Or.inl rfl | exact Or.inr rfl) (pv 4))))))
  (pss_one (ps_ret (pv 2))))), ?_⟩
    walk_at "rd"
    refine ⟨(by walk_at "sz"), fun t0 nt0 => ?_⟩
    generalize e0 : upd H t0 _ = H0
    obtain ⟨S0, h0⟩ := newF nt0 e0
    walk_at "rd"
    refine ⟨(by walk_at "sz"), fun r0 nr0 => ?_⟩
    generalize e1 : upd H0 r0 _ = H1
    obtain ⟨S1, h1⟩ := newF nr0 e1
    walk_at "rd"
    refine ⟨by omega, by omega, ?_⟩
    refine for_range (lo := 0) (n := st) (fun i σ H' => ∃ (rl : Addr) (vs : List V) (tv lv rv : Option V), σ = [some (.int (m : Int)), some (.int (st : Int)), some (.ref rl), tv, lv, rv, none] ∧ Same H H' ∧ H rl = none ∧ H' rl = some (.lst vs) ∧ RowsV H' vs (rowsL m i))
      ⟨r0, [.ref t0], none, none, none, rfl, S0.trans S1, S0.free nr0, h1, .cons (row_mk (S1 _ _ h0)) .nil⟩ ?_ ?_
    · rintro i σ H2 hi ⟨rl, vs, tv, lv, rv, rfl, S2, nrl, hrl, hvs⟩
      refine ⟨(by walk_at "sz"), fun l1 n1 => ?_⟩
      generalize e2 : upd H2 l1 _ = H3
      obtain ⟨S23, hl1⟩ := newF n1 e2
      have S3 := S2.trans S23
      have hrl3 := S23 _ _ hrl
      have hvs3 := hvs.stay fun _ _ h => S23 _ _ h
      have nl1 : H l1 = none := S2.free n1
      walk_at "rd"
      refine ⟨⟨_, SqL.of hrl3⟩, for_list (K := K) (a := rl) (xs := vs) (fun j σ H' => ∃ (ws : List V) (rv : Option V), σ = [some (.int (m : Int)), some (.int (st : Int)), some (.ref rl), some (.int (0 + (i : Int))), some (.ref l1), rv, none] ∧ Same H2 H' ∧ H' l1 = some (.lst ws) ∧ RowsV H' ws (((rowsL m i).take j).flatMap fun r => (List.range m).map fun c => r ++ [c]))
        ⟨[], rv, rfl, S23, hl1, .nil⟩ (fun j σ H' _ ⟨_, _, _, S, _⟩ => SqL.of (S _ _ hrl)) ?_ ?_⟩
      · rintro j x σ H4 hx ⟨ws, rv, rfl, S4, hl4, hws⟩
        obtain ⟨r, hr2, hxr⟩ := paired_get hvs hx
        have hj : j < (rowsL m i).length := (List.getElem?_eq_some_iff.mp hr2).1
        have hlen := rowsL_len m i
        have hpi := hpow (i + 1) (by omega)
        rw [Nat.pow_succ] at hpi
        have hwl : ws.length = j * m := by
          rw [Paired.length hws, flatMap_len _ m _ (fun x _ => by simp), List.length_take]
          congr 1
          omega
        have hjm : j * m + m ≤ 3000 := by
          have : (j + 1) * m ≤ (rowsL m i).length * m := Nat.mul_le_mul_right m (by omega)
          rw [Nat.succ_mul, hlen] at this
          omega
        obtain ⟨b, rfl, hb⟩ := row_of hxr
        have hb4 := S4 _ _ hb
        walk_at "rd"
        refine ⟨by omega, by omega, ?_⟩
        refine fun D nD => lc_range (lo := 0) (n := m) (fun q H' => Same H4 H' ∧ ∃ acc, H' D = some (.lst acc) ∧ RowsV H' acc ((List.range q).map fun c => r ++ [c])) ⟨same_new nD, [], upd_same, .nil⟩ ?_ ?_
        · rintro q H5 hq ⟨S5, acc, hD, hacc⟩
          have hb5 := S5 _ _ hb4
          have hrl : r.length = i := (rowsL_mem.mp (List.mem_of_getElem? hr2)).1
          walk_at "rd"
          refine ⟨(by walk_at "sz"), fun p1 n1 => row_snoc (q := q) (by rw [upd_ne (ne_of_none hb5 n1)]; exact hb5) upd_same (by omega) (by rw [hrl]; exact Nat.le_trans (show i + 1 ≤ 1001 by omega) (by decide)) fun H6 v S6 hv => ?_⟩
          have S56 : Same H5 H6 := (same_new n1).trans S6
          have hD6 := S56 _ _ hD
          refine ⟨acc, hD6, ?_, Same.upd_own (S5.trans S56) nD, _, upd_same, ?_⟩
          · rw [Paired.length hacc, List.length_map, List.length_range]
            exact Nat.lt_of_lt_of_le (show q < 3000 by omega) (by decide)
          · rw [List.range_succ, List.map_append]
            exact ((hacc.stay fun _ _ h => S56 _ _ h).app (.cons hv .nil)).stay fun b xs e => tup_upd hD6 b xs e
        · rintro H5 ⟨S5, acc, hD, hacc⟩
          walk_at "rd"
          have hl5 := S5 _ _ hl4
          refine ⟨l1, D, ws, acc, rfl, rfl, hl5, hD, ?_, ?_⟩
          · rw [hwl, Paired.length hacc, List.length_map, List.length_range]
            exact Nat.le_trans hjm (by decide)
          · refine ⟨_, _, rfl, Same.upd_own (S4.trans S5) n1, upd_same, ?_⟩
            rw [List.take_succ, hr2, List.flatMap_append]
            refine RowsV.stay (RowsV.app (hws.stay fun _ _ h => S5 _ _ h) ?_) fun b xs e => tup_upd hl5 b xs e
            simpa using hacc
      · rintro σ H4 ⟨ws, rv, rfl, S4, hl4, hws⟩
        walk_at "rd"
        refine ⟨l1, ws, _, _, _, rfl, S2.trans S4, nl1, hl4, ?_⟩
        rw [Paired.length hvs, List.take_length] at hws
        exact hws
    · rintro σ H2 ⟨rl, vs, tv, lv, rv, rfl, S2, nrl, hrl, hvs⟩
      walk_at "rd"
      exact k _ _ _ S2 nrl hrl hvs
end
end Hy
set_option Elab.async false
set_option linter.all false
set_option maxRecDepth 100000
set_option maxHeartbeats 4000000
namespace Hy
open PySem L2
local macro_rules | `(tactic| walk_at "hp") => `(tactic| first
  | assumption | exact upd_same
  | (refine (upd_ne ?_).trans ?_ <;> first | assumption | (exact Ne.symm (by assumption)) | walk_at "ne" | walk_at "hp")
  | (refine (by assumption : Same _ _) _ _ ?_; assumption))
local macro_rules | `(tactic| walk_at "ne") => `(tactic| first
  | assumption | (exact Ne.symm (by assumption))
  | exact ne_of_none (by assumption) (by assumption) | exact Ne.symm (ne_of_none (by assumption) (by assumption)))
local macro_rules | `(tactic| walk_at "sz") => `(tactic| first | assumption | (show 0 ≤ sizeLine; decide) | (show 1 ≤ sizeLine; decide) | (show 2 ≤ sizeLine; decide) | (show 3 ≤ sizeLine; decide))
local macro_rules | `(tactic| walk_at "ar") => `(tactic| first
  | ((with_reducible show (0 : Int) < _); first | decide | omega)
  | ((with_reducible show CMul _ _); first | exact Or.inr (And.intro (by decide) (by decide)) | exact Or.inl (And.intro (by decide) (by decide)) | (refine Or.inl (And.intro ?_ ?_) <;> omega) | (refine Or.inr (And.intro ?_ ?_) <;> omega))
  | ((with_reducible show CPow _ _); exact And.intro (by decide) (And.intro (by decide) (by decide)))
  | ((with_reducible show CDiv _ _); first | exact And.intro (by decide) (by decide) | (refine And.intro ?_ ?_ <;> omega)))
/- one step of a reading -/
local macro_rules | `(tactic| walk_at "r1") => `(tactic| first
  | refine ⟨_, rfl, ?_⟩
  | refine iteB (by rfl) ?_ | refine iteC (by rfl) ?_
  | refine ⟨_, _, rfl, rfl, ?_⟩
  | refine ⟨rfl, ?_⟩
  | refine ⟨⟨_, rfl⟩, ?_⟩
  | refine ⟨_, _, _, _, true, rfl, .ty _, .base (.str _), kit_ty (by decide +kernel), ?_⟩
  | refine ⟨_, _, _, _, false, rfl, .ty _, .base (.str _), kit_ty (by decide +kernel), ?_⟩
  | refine ⟨_, _, _, _, true, rfl, .ty _, .base (.int _), kit_ty (by decide +kernel), ?_⟩
  | refine ⟨_, _, _, _, false, rfl, .ty _, .base (.int _), kit_ty (by decide +kernel), ?_⟩
  | refine ⟨_, _, _, _, true, rfl, .ty _, .base (.tup (by walk_at "hp")), kit_ty (by decide +kernel), ?_⟩
  | refine ⟨_, _, _, _, false, rfl, .ty _, .base (.tup (by walk_at "hp")), kit_ty (by decide +kernel), ?_⟩
  | refine ⟨_, _, _, _, true, rfl, .ty _, .base (.lst (by walk_at "hp")), kit_ty (by decide +kernel), ?_⟩
  | refine ⟨_, _, _, _, false, rfl, .ty _, .base (.lst (by walk_at "hp")), kit_ty (by decide +kernel), ?_⟩
  | refine ⟨_, _, rfl, ⟨by walk_at "sz", rfl⟩, ?_⟩
  | refine ⟨_, _, _, _, rfl, rfl, SqT.of (by walk_at "hp"), by rfl, ?_⟩
  | refine ⟨_, _, _, _, rfl, rfl, SqL.of (by walk_at "hp"), by rfl, ?_⟩
  | refine ⟨.inl ⟨rfl, _, SqL.of (by walk_at "hp")⟩, ?_⟩
  | refine ⟨_, _, _, rfl, rfl, (by walk_at "hp"), snoc_get, ?_⟩
  | refine ⟨_, _, _, _, rfl, rfl, (by walk_at "hp"), by rfl, ?_⟩
  | refine ⟨_, _, rfl, SqL.of (by walk_at "hp"), ?_⟩
  | refine ⟨_, _, rfl, SqT.of (by walk_at "hp"), by rfl, ?_⟩
  | refine ⟨_, (_ : List V), rfl, ?_⟩
  | refine ⟨_, _, rfl, .inl ⟨_, (by assumption), rfl⟩, ?_⟩
  | refine ⟨_, _, rfl, .inl ⟨_, SqL.of (by walk_at "hp"), rfl⟩, ?_⟩
  | refine ⟨_, _, rfl, .inr ⟨_, SqT.of (by walk_at "hp"), rfl⟩, ?_⟩
  | refine Or.inl ⟨(_ : Int), rfl, ?_⟩ | refine Or.inr ⟨(_ : Bool), rfl, ?_⟩
  | refine ⟨_, _, _, _, true, rfl, (by assumption : ND _ _ _ _), .ty _, kit_ty (by decide +kernel), ?_⟩
  | refine ⟨_, _, _, _, false, rfl, (by assumption : ND _ _ _ _), .ty _, kit_ty (by decide +kernel), ?_⟩
  | refine ⟨_, _, rfl, (by assumption : ND _ _ _ _), ?_⟩
  | refine And.intro (by walk_at "ar") ?_)
local macro_rules | `(tactic| walk_at "rd") => `(tactic| repeat walk_at "r1")

section
variable {P : Program} {w : World} {K : PySem.W.Frag} {mg : Str → Option Value} {base : Heap}
abbrev s_is_whole_within : Stmt := top 30
theorem sc_is_whole_within : FnScope ["thing", "low", "high"] ["thing", "low", "high"] (defScope s_is_whole_within) := ⟨rfl, rfl, rfl, by decide +kernel, rfl, by decide +kernel, by decide +kernel⟩
abbrev s_are_letters : Stmt := top 31
theorem sc_are_letters : FnScope ["thing", "sign", "k"] ["thing"] (defScope s_are_letters) := ⟨rfl, rfl, rfl, by decide +kernel, rfl, by decide +kernel, by decide +kernel⟩
abbrev s_how_many_tuples : Stmt := top 32
theorem sc_how_many_tuples : FnScope ["letters", "states", "classes", "found", "turn"] ["letters", "states", "classes"] (defScope s_how_many_tuples) := ⟨rfl, rfl, rfl, by decide +kernel, rfl, by decide +kernel, by decide +kernel⟩
abbrev s_are_good : Stmt := top 35
theorem sc_are_good : FnScope ["thing", "states", "one", "k"] ["thing", "states"] (defScope s_are_good) := ⟨rfl, rfl, rfl, by decide +kernel, rfl, by decide +kernel, by decide +kernel⟩

def sp_is_whole_within : Sp := fun vs H Q _ => ∃ x lo hi : Int, vs = [.int x, .int lo, .int hi] ∧ Q (.bl (decide (lo ≤ x) && decide (x ≤ hi))) H
theorem ok_is_whole_within (D : Df K mg "is_whole_within" s_is_whole_within ["thing", "low", "high"]) (T : Txt K mg) : G' P w K mg base "is_whole_within" 1 ["thing", "low", "high"] sp_is_whole_within := by
  refine D.ok fun f fd F => F.okX sc_is_whole_within (fun vs H Q E h => ?_) (fun cdv A outer s H vs Q E hr h => ?_)
  · obtain ⟨x, lo, hi, rfl, _⟩ := h
    rfl
  · obtain ⟨x, lo, hi, rfl, k⟩ := h
    refine ⟨_, (pss_one (ps_ret (pe_and (pe_callB (call_isiK K) (by rfl) T.n_isinstance (by decide +kernel) (pa_cons (pv 0) (pa_cons (pe_ty (n := "int") T.n_int (by decide +kernel)) pa_nil))) (pe_and (pe_not (pe_callB (call_isiK K) (by rfl) T.n_isinstance (by decide +kernel) (pa_cons (pv 0) (pa_cons (pe_ty (n := "bool") T.n_bool (by decide +kernel)) pa_nil)))) (pe_one (pe_chain op_le op_le (pv 1) (pv 0) (pv 2))))))), ?_⟩
    walk_at "rd"
    by_cases h1 : lo ≤ x
    · rw [decide_eq_true h1] at k ⊢
      walk_at "rd"
      exact k
    · rw [decide_eq_false h1] at k ⊢
      walk_at "rd"
      exact k
def lettersB (l : List Nat) : Bool := !l.isEmpty && l.all isL && riseB l
def sp_are_letters : Sp := fun vs H Q _ => ∃ l : List Nat, vs = [tx l] ∧ l.length ≤ 3000 ∧ ∀ H', Same H H' → Q (.bl (lettersB l)) H'
theorem ok_are_letters (D : Df K mg "are_letters" s_are_letters ["thing"]) (T : Txt K mg) : G' P w K mg base "are_letters" 1 ["thing"] sp_are_letters := by
  refine D.ok fun f fd F => F.okX sc_are_letters (fun vs H Q E h => ?_) (fun cdv A outer s H vs Q E hr h => ?_)
  · obtain ⟨l, rfl, _⟩ := h
    rfl
  · obtain ⟨l, rfl, hl, k⟩ := h
    have hz : (txS l).length ≤ sizeLine := by rw [txS_len]; exact Nat.le_of_lt (big_of hl (by decide))
    refine ⟨_, (pss_cons (ps_if (PW.pt (pw_or (pt_not (pt_val (pe_callB (call_isiK K) (by rfl) T.n_isinstance (by decide +kernel) (pa_cons (pv 0) (pa_cons (pe_ty (n := "str") T.n_str (by decide +kernel)) pa_nil))))) (pw_or (pt_cmpR op_eq (pv 0) pe_str (nomark _)) (pw_or1 (pt_cmp (pc_neNilK K hr (pe_lc (own := [("sign", 1)]) rfl sc_are_letters.nd (pi_str (pv 0)) (blkOk_by (own := [("sign", 1)]) (N := ["thing", "sign", "k"]) (sc := defScope s_are_letters) (by decide +kernel)) (fun _ _ _ _ _ => (pg_name (i := 1) sc_are_letters.nd rfl (by first | exact Or.inl rfl | exact Or.inr rfl))) (fun _ _ _ _ _ => (pts_one (pt_cmpR op_notIn_sign (pv 1) (pe_gv T.g_LETTERS_trees) (by rfl)))) (fun _ _ _ _ _ => (pv 1))))))))) (pss_one (ps_ret pe_bl)) pss_nil)
  (pss_one (ps_ret (pe_cmp (pc_eqNilK K hr (pe_lc (own := [("k", 2)]) rfl sc_are_letters.nd (pi_range2 (by rfl) T.n_range (pa_cons pe_int (pa_cons (pe_callB (call_lenK K) (by rfl) T.n_len PySem.boot_len (pa_cons (pv 0) pa_nil)) pa_nil))) (blkOk_by (own := [("k", 2)]) (N := ["thing", "sign", "k"]) (sc := defScope s_are_letters) (by decide +kernel)) (fun _ _ _ _ _ => (pg_name (i := 2) sc_are_letters.nd rfl (by first | exact Or.inl rfl | exact Or.inr rfl))) (fun _ _ _ _ _ => (pts_one (pt_cmpR op_le_str (pe_ix ix_str (pv 0) (pv 2) (fun _ _ => rfl)) (pe_ix ix_str (pv 0) (pe_op op_sub (pv 2) pe_int) (fun _ _ => rfl)) (nomark _)))) (fun _ _ _ _ _ => (pv 2)))))))), ?_⟩
    walk_at "rd"
    by_cases h0 : l = []
    · subst h0
      walk_at "rd"
      exact k _ (Same.refl _)
    refine iteC (decide_eq_false fun z => h0 (tx_inj z)) ?_
    walk_at "rd"
    have hat : ∀ i : Nat, (txS l).cps[i]? = l[i]? := fun i => by show l.toArray[i]? = _; simp
    refine fun D nD => lc_it walk_str (PvE H D fun i => !isL ((l[i]?).getD 0)) (PvE.start nD) (fun i H' _ p => trivial) ?_ ?_
    · rintro i x H1 H2 hi p ⟨rfl, c, hc, rfl⟩
      rw [hat] at hc
      walk_at "rd"
      rw [letter_in]
      refine iteJ (c := !isL ((l[i]?).getD 0)) (by rw [hc]; rfl) (fun hc => ?_) fun hc => ?_
      · walk_at "rd"
        exact p.push (Same.refl _) nD hc (big_of (Nat.le_trans (Nat.le_of_lt (by simpa using hi)) hl) (by decide))
      · exact p.skip (Same.refl _) hc
    · rintro H1 ⟨S1, acc, hD, _, hacc⟩
      rw [show (txS l).cps.size = l.length by simp, all_range l isL _ (fun i x hx => by rw [hx]; simp)] at hacc
      walk_at "rd"
      rw [hacc]
      refine iteJ rfl (fun hc => ?_) fun hc => ?_
      · have hc' : l.all isL = false := by simpa using hc
        rw [lettersB, hc', Bool.and_false, Bool.false_and] at k
        walk_at "rd"
        exact k _ S1
      · have hc' : l.all isL = true := by simpa using hc
        have hl0 : 1 ≤ l.length := by
          cases l with
          | nil => exact absurd rfl h0
          | cons => simp
        have hemp : l.isEmpty = false := by
          cases l with
          | nil => exact absurd rfl h0
          | cons => rfl
        rw [lettersB, hc', hemp] at k
        walk_at "rd"
        rw [txS_len]
        refine ⟨_, _, rfl, ⟨by omega, by omega, by omega, by omega⟩, ?_⟩
        have e1 : ((l.length : Int) - 1).toNat = l.length - 1 := by omega
        rw [e1]
        refine fun D2 nD2 => lc_range (lo := 1) (n := l.length - 1) (PvE H1 D2 fun i => !decide ((l[i]?).getD 0 < (l[i + 1]?).getD 0)) (PvE.start nD2) ?_ ?_
        · rintro i H2 hi p
          have x1 : l[i + 1]? = some l[i + 1] := List.getElem?_eq_getElem (by omega)
          have x0 : l[i]? = some l[i] := List.getElem?_eq_getElem (by omega)
          have i1 : (1 : Int) + (i : Int) = ((i + 1 : Nat) : Int) := by omega
          have i0 : (1 : Int) + (i : Int) - 1 = ((i : Nat) : Int) := by omega
          have el : (txS l).cps.toList = l := by simp
          walk_at "rd"
          refine ⟨_, _, l[i + 1], rfl, rfl, hz, (by rw [el, i1]; exact atI_nat x1), ?_⟩
          walk_at "rd"
          refine ⟨_, _, l[i], rfl, rfl, hz, (by rw [el, i0]; exact atI_nat x0), ?_⟩
          walk_at "rd"
          refine iteJ (c := !decide ((l[i]?).getD 0 < (l[i + 1]?).getD 0)) ?_ (fun hc => ?_) fun hc => ?_
          · rw [x0, x1]
            show (!decide ([l[i]] < [l[i + 1]])) = !decide (l[i] < l[i + 1])
            simp [List.cons_lt_cons_iff]
          · walk_at "rd"
            exact p.push (Same.refl _) nD2 hc (big_of (show i ≤ 3000 by omega) (by decide))
          · exact p.skip (Same.refl _) hc
        · rintro H2 ⟨S2, acc2, hD2, _, hacc2⟩
          walk_at "rd"
          rw [hacc2]
          have e3 : ((List.range (l.length - 1)).all fun j => !!decide ((l[j]?).getD 0 < (l[j + 1]?).getD 0)) = riseB l := by
            rw [riseB_at]
            simp
          rw [e3]
          exact k _ (S1.trans S2)
def manyT (n : Nat) (c : Nat) : Nat → Nat
  | 0 => n
  | s + 1 => min 601 (manyT n c s * c)
def sp_how_many_tuples : Sp := fun vs H Q _ => ∃ (l : List Nat) (s c : Nat), vs = [tx l, .int (s : Int), .int (c : Int)] ∧ l.length ≤ 3000 ∧ s ≤ 1000 ∧ c ≤ 1000 ∧ Q (.int (manyT l.length c s : Nat)) H
theorem ok_how_many_tuples (D : Df K mg "how_many_tuples" s_how_many_tuples ["letters", "states", "classes"]) (T : Txt K mg) : G' P w K mg base "how_many_tuples" 1 ["letters", "states", "classes"] sp_how_many_tuples := by
  refine D.ok fun f fd F => F.okX sc_how_many_tuples (fun vs H Q E h => ?_) (fun cdv A outer s H vs Q E hr h => ?_)
  · obtain ⟨l, s, c, rfl, _⟩ := h
    rfl
  · obtain ⟨l, s, c, rfl, hl, hs, hc, k⟩ := h
    have hz : (txS l).length ≤ sizeLine := by rw [txS_len]; exact Nat.le_of_lt (big_of hl (by decide))
    refine ⟨_, (pss_cons (ps_set (i := 3) sc_how_many_tuples.nd rfl (by first | exact Or.inl rfl | exact Or.inr rfl) (pe_callB (call_lenK K) (by rfl) T.n_len PySem.boot_len (pa_cons (pv 0) pa_nil)))
  (pss_cons (ps_for (passes_of rfl) rfl (pi_range1 (by rfl) T.n_range (pa_cons (pv 1) pa_nil)) (pg_name (i := 4) sc_how_many_tuples.nd rfl (by first | exact Or.inl rfl | exact Or.inr rfl)) (pss_one (ps_set (i := 3) sc_how_many_tuples.nd rfl (by first | exact Or.inl rfl | exact Or.inr rfl) (pe_callB (call_min2 rfl) (by rfl) T.n_min (by decide +kernel) (pa_cons (pe_op op_add (pe_gv T.g_MOST_TUPLES_judges) pe_int) (pa_cons (pe_op op_mul (pv 3) (pv 2)) pa_nil))))))
  (pss_one (ps_ret (pv 3))))), ?_⟩
    walk_at "rd"
    rw [txS_len]
    refine ⟨by omega, by omega, ?_⟩
    refine for_range (lo := 0) (n := s) (fun i σ H' => ∃ x4 : Option V, σ = [some (tx l), some (.int (s : Int)), some (.int (c : Int)), some (.int (manyT l.length c i : Nat)), x4] ∧ H' = H) ⟨none, rfl, rfl⟩ ?_ ?_
    · rintro i σ H' hi ⟨x4, rfl, rfl⟩
      walk_at "rd"
      refine ⟨_, _, rfl, ?_⟩
      walk_at "rd"
      refine ⟨some (.int (0 + (i : Int))), ?_, rfl⟩
      have e : (if ((manyT l.length c i : Nat) : Int) * (c : Int) < 600 + 1 then ((manyT l.length c i : Nat) : Int) * (c : Int) else 600 + 1) = ((manyT l.length c (i + 1) : Nat) : Int) := by
        rw [manyT]
        have e2 : ((manyT l.length c i : Nat) : Int) * (c : Int) = ((manyT l.length c i * c : Nat) : Int) := by simp
        rw [e2]
        split <;> omega
      rw [e]
      rfl
    · rintro σ H' ⟨x4, rfl, rfl⟩
      walk_at "rd"
      exact k
def sp_are_good : Sp := fun vs H Q _ => ∃ (g : Addr) (l : List Nat) (s : Nat), vs = [.ref g, .int (s : Int)] ∧ H g = some (.lst (l.map fun n => V.int (n : Nat))) ∧ l.length ≤ 3000 ∧ ∀ H', Same H H' → Q (.bl (l.all (fun n => decide (n < s)) && riseB l)) H'
theorem ok_are_good (D : Df K mg "are_good" s_are_good ["thing", "states"]) (T : Txt K mg) (G_is_whole_within : G' P w K mg base "is_whole_within" 1 ["thing", "low", "high"] sp_is_whole_within) : G' P w K mg base "are_good" 2 ["thing", "states"] sp_are_good := by
  refine D.ok fun f fd F => F.okX sc_are_good (fun vs H Q E h => ?_) (fun cdv A outer s H vs Q E hr h => ?_)
  · obtain ⟨g, l, s, rfl, _⟩ := h
    rfl
  · obtain ⟨g, l, s, rfl, hg, hl, k⟩ := h
    refine ⟨_, (pss_cons (ps_if (PW.pt (pw_or (pt_not (pt_val (pe_callB (call_isiK K) (by rfl) T.n_isinstance (by decide +kernel) (pa_cons (pv 0) (pa_cons (pe_ty (n := "list") T.n_list (by decide +kernel)) pa_nil))))) (pw_or1 (pt_cmp (pc_neNilK K hr (pe_lc (own := [("one", 2)]) rfl sc_are_good.nd (pi_listK K (pv 0)) (blkOk_by (own := [("one", 2)]) (N := ["thing", "states", "one", "k"]) (sc := defScope s_are_good) (by decide +kernel)) (fun _ _ _ _ _ => (pg_name (i := 2) sc_are_good.nd rfl (by first | exact Or.inl rfl | exact Or.inr rfl))) (fun _ _ _ _ _ => (pts_one (pt_not (pt_val (pe_cl G_is_whole_within (hr.mono (by omega)) passF (pa_cons (pv 2) (pa_cons pe_int (pa_cons (pe_op op_sub (pv 1) pe_int) pa_nil)))))))) (fun _ _ _ _ _ => (pv 2)))))))) (pss_one (ps_ret pe_bl)) pss_nil)
  (pss_one (ps_ret (pe_cmp (pc_eqNilK K hr (pe_lc (own := [("k", 3)]) rfl sc_are_good.nd (pi_range2 (by rfl) T.n_range (pa_cons pe_int (pa_cons (pe_callB (call_lenK K) (by rfl) T.n_len PySem.boot_len (pa_cons (pv 0) pa_nil)) pa_nil))) (blkOk_by (own := [("k", 3)]) (N := ["thing", "states", "one", "k"]) (sc := defScope s_are_good) (by decide +kernel)) (fun _ _ _ _ _ => (pg_name (i := 3) sc_are_good.nd rfl (by first | exact Or.inl rfl | exact Or.inr rfl))) (fun _ _ _ _ _ => (pts_one (pt_cmpR op_le (pe_ix (ix_listK K) (pv 0) (pv 3) (fun _ _ => rfl)) (pe_ix (ix_listK K) (pv 0) (pe_op op_sub (pv 3) pe_int) (fun _ _ => rfl)) (nomark _)))) (fun _ _ _ _ _ => (pv 3)))))))), ?_⟩
    walk_at "rd"
    refine ⟨⟨_, SqL.of hg⟩, fun D nD => lc_it walk_list (PvE H D fun i => !decide ((l[i]?).getD 0 < s)) (PvE.start nD) (fun i H' _ p => SqL.of (p.S _ _ hg)) ?_ ?_⟩
    · rintro i x H1 H2 hi p ⟨rfl, hx⟩
      rw [List.length_map] at hi
      rw [List.getElem?_map, List.getElem?_eq_getElem hi] at hx
      cases hx
      walk_at "rd"
      refine ⟨_, _, _, rfl, ?_⟩
      walk_at "rd"
      have e : (l[i]?).getD 0 = l[i] := by rw [List.getElem?_eq_getElem hi]; rfl
      refine iteJ (c := !decide ((l[i]?).getD 0 < s)) ?_ (fun hc => ?_) fun hc => ?_
      · rw [e]
        by_cases h : l[i] < s
        · rw [decide_eq_true h, decide_eq_true (show (l[i] : Int) ≤ (s : Int) - 1 by omega), decide_eq_true (show (0 : Int) ≤ (l[i] : Int) by omega)]
          rfl
        · rw [decide_eq_false h, decide_eq_false (show ¬ (l[i] : Int) ≤ (s : Int) - 1 by omega), Bool.and_false]
      · walk_at "rd"
        exact p.push (Same.refl _) nD hc (big_of (Nat.le_trans (Nat.le_of_lt hi) hl) (by decide))
      · exact p.skip (Same.refl _) hc
    · rintro H1 ⟨S1, acc, hD, _, hacc⟩
      rw [List.length_map, all_range l (fun n => decide (n < s)) _ (fun i x hx => by rw [hx]; simp)] at hacc
      walk_at "rd"
      rw [hacc]
      have hg1 := S1 _ _ hg
      refine iteJ rfl (fun hc => ?_) fun hc => ?_
      · have hc' : l.all (fun n => decide (n < s)) = false := by simpa using hc
        rw [hc'] at k
        walk_at "rd"
        exact k _ S1
      · have hc' : l.all (fun n => decide (n < s)) = true := by simpa using hc
        rw [hc'] at k
        walk_at "rd"
        rw [List.length_map]
        refine ⟨_, _, rfl, ⟨by omega, by omega, by omega, by omega⟩, ?_⟩
        have e1 : ((l.length : Int) - 1).toNat = l.length - 1 := by omega
        rw [e1]
        refine fun D2 nD2 => lc_range (lo := 1) (n := l.length - 1) (PvE H1 D2 fun i => !decide ((l[i]?).getD 0 < (l[i + 1]?).getD 0)) (PvE.start nD2) ?_ ?_
        · rintro i H2 hi p
          have hg2 := p.S _ _ hg1
          have x1 : l[i + 1]? = some l[i + 1] := List.getElem?_eq_getElem (by omega)
          have x0 : l[i]? = some l[i] := List.getElem?_eq_getElem (by omega)
          have i1 : (1 : Int) + (i : Int) = ((i + 1 : Nat) : Int) := by omega
          have i0 : (1 : Int) + (i : Int) - 1 = ((i : Nat) : Int) := by omega
          walk_at "rd"
          refine ⟨_, _, _, _, rfl, rfl, SqL.of hg2, (by rw [i1]; exact atI_nat (by rw [List.getElem?_map, x1]; rfl)), ?_⟩
          walk_at "rd"
          refine ⟨_, _, _, _, rfl, rfl, SqL.of hg2, (by rw [i0]; exact atI_nat (by rw [List.getElem?_map, x0]; rfl)), ?_⟩
          walk_at "rd"
          refine iteJ (c := !decide ((l[i]?).getD 0 < (l[i + 1]?).getD 0)) ?_ (fun hc => ?_) fun hc => ?_
          · rw [x0, x1]
            show decide ((l[i + 1] : Int) ≤ (l[i] : Int)) = !decide (l[i] < l[i + 1])
            by_cases h : l[i] < l[i + 1]
            · rw [decide_eq_true h, decide_eq_false (by omega)]; rfl
            · rw [decide_eq_false h, decide_eq_true (by omega)]; rfl
          · walk_at "rd"
            exact p.push (Same.refl _) nD2 hc (big_of (show i ≤ 3000 by omega) (by decide))
          · exact p.skip (Same.refl _) hc
        · rintro H2 ⟨S2, acc2, hD2, _, hacc2⟩
          walk_at "rd"
          rw [hacc2]
          have e3 : ((List.range (l.length - 1)).all fun j => !!decide ((l[j]?).getD 0 < (l[j + 1]?).getD 0)) = riseB l := by
            rw [riseB_at]
            simp
          rw [e3]
          exact k _ (S1.trans S2)
end
end Hy
set_option Elab.async false
set_option linter.all false
set_option maxRecDepth 100000
set_option maxHeartbeats 4000000
namespace Hy
open PySem L2
local macro_rules | `(tactic| walk_at "hp") => `(tactic| first
  | assumption | exact upd_same
  | (refine (upd_ne ?_).trans ?_ <;> first | assumption | (exact Ne.symm (by assumption)) | walk_at "ne" | walk_at "hp")
  | (refine (by assumption : Same _ _) _ _ ?_; assumption))
local macro_rules | `(tactic| walk_at "ne") => `(tactic| first
  | assumption | (exact Ne.symm (by assumption))
  | exact ne_of_none (by assumption) (by assumption) | exact Ne.symm (ne_of_none (by assumption) (by assumption)))
local macro_rules | `(tactic| walk_at "sz") => `(tactic| first | assumption | (show 0 ≤ sizeLine; decide) | (show 1 ≤ sizeLine; decide) | (show 2 ≤ sizeLine; decide) | (show 3 ≤ sizeLine; decide))
local macro_rules | `(tactic| walk_at "ar") => `(tactic| first
  | ((with_reducible show (0 : Int) < _); first | decide | omega)
  | ((with_reducible show CMul _ _); first | exact Or.inr (And.intro (by decide) (by decide)) | exact Or.inl (And.intro (by decide) (by decide)) | (refine Or.inl (And.intro ?_ ?_) <;> omega) | (refine Or.inr (And.intro ?_ ?_) <;> omega))
  | ((with_reducible show CPow _ _); exact And.intro (by decide) (And.intro (by decide) (by decide)))
  | ((with_reducible show CDiv _ _); first | exact And.intro (by decide) (by decide) | (refine And.intro ?_ ?_ <;> omega)))
/- one step of a reading -/
local macro_rules | `(tactic| walk_at "r1") => `(tactic| first
  | refine ⟨_, rfl, ?_⟩
  | refine iteB (by rfl) ?_ | refine iteC (by rfl) ?_
  | refine ⟨_, _, rfl, rfl, ?_⟩
  | refine ⟨rfl, ?_⟩
  | refine ⟨⟨_, rfl⟩, ?_⟩
  | refine ⟨_, _, _, _, true, rfl, .ty _, .base (.str _), kit_ty (by decide +kernel), ?_⟩
  | refine ⟨_, _, _, _, false, rfl, .ty _, .base (.str _), kit_ty (by decide +kernel), ?_⟩
  | refine ⟨_, _, _, _, true, rfl, .ty _, .base (.int _), kit_ty (by decide +kernel), ?_⟩
  | refine ⟨_, _, _, _, false, rfl, .ty _, .base (.int _), kit_ty (by decide +kernel), ?_⟩
  | refine ⟨_, _, _, _, true, rfl, .ty _, .base (.tup (by walk_at "hp")), kit_ty (by decide +kernel), ?_⟩
  | refine ⟨_, _, _, _, false, rfl, .ty _, .base (.tup (by walk_at "hp")), kit_ty (by decide +kernel), ?_⟩
  | refine ⟨_, _, _, _, true, rfl, .ty _, .base (.lst (by walk_at "hp")), kit_ty (by decide +kernel), ?_⟩
  | refine ⟨_, _, _, _, false, rfl, .ty _, .base (.lst (by walk_at "hp")), kit_ty (by decide +kernel), ?_⟩
  | refine ⟨_, _, rfl, ⟨by walk_at "sz", rfl⟩, ?_⟩
  | refine ⟨_, _, _, _, rfl, rfl, SqT.of (by walk_at "hp"), by rfl, ?_⟩
  | refine ⟨_, _, _, _, rfl, rfl, SqL.of (by walk_at "hp"), by rfl, ?_⟩
  | refine ⟨.inl ⟨rfl, _, SqL.of (by walk_at "hp")⟩, ?_⟩
  | refine ⟨_, _, _, rfl, rfl, (by walk_at "hp"), snoc_get, ?_⟩
  | refine ⟨_, _, _, _, rfl, rfl, (by walk_at "hp"), by rfl, ?_⟩
  | refine ⟨_, _, rfl, SqL.of (by walk_at "hp"), ?_⟩
  | refine ⟨_, _, rfl, SqT.of (by walk_at "hp"), by rfl, ?_⟩
  | refine ⟨_, (_ : List V), rfl, ?_⟩
  | refine ⟨_, _, rfl, .inl ⟨_, (by assumption), rfl⟩, ?_⟩
  | refine ⟨_, _, rfl, .inl ⟨_, SqL.of (by walk_at "hp"), rfl⟩, ?_⟩
  | refine ⟨_, _, rfl, .inr ⟨_, SqT.of (by walk_at "hp"), rfl⟩, ?_⟩
  | refine Or.inl ⟨(_ : Int), rfl, ?_⟩ | refine Or.inr ⟨(_ : Bool), rfl, ?_⟩
  | refine ⟨_, _, _, _, true, rfl, (by assumption : ND _ _ _ _), .ty _, kit_ty (by decide +kernel), ?_⟩
  | refine ⟨_, _, _, _, false, rfl, (by assumption : ND _ _ _ _), .ty _, kit_ty (by decide +kernel), ?_⟩
  | refine ⟨_, _, rfl, (by assumption : ND _ _ _ _), ?_⟩
  | refine And.intro (by walk_at "ar") ?_)
local macro_rules | `(tactic| walk_at "rd") => `(tactic| repeat walk_at "r1")

theorem manyT_le (n c : Nat) : ∀ s, manyT n c s ≤ 600 → manyT n c s = n * c ^ s
  | 0, _ => by simp [manyT]
  | s + 1, h => by
    rw [manyT] at h ⊢
    have h1 : manyT n c s * c ≤ 600 := by omega
    rw [Nat.min_eq_right (by omega)]
    by_cases hc : c = 0
    · subst hc
      simp
    · have : manyT n c s ≤ manyT n c s * c := Nat.le_mul_of_pos_right _ (by omega)
      rw [manyT_le n c s (by omega), Nat.pow_succ, Nat.mul_assoc]
theorem manyT_eq (n c s : Nat) (h : n * c ^ s ≤ 600) : manyT n c s = n * c ^ s := by
  induction s with
  | zero => simp [manyT]
  | succ s ih =>
    rw [manyT]
    by_cases hc : c = 0
    · subst hc
      simp
    · have h2 : n * c ^ s ≤ n * c ^ (s + 1) := Nat.mul_le_mul_left n (Nat.pow_le_pow_right (by omega) (by omega))
      rw [ih (by omega), Nat.mul_assoc, ← Nat.pow_succ, Nat.min_eq_right (Nat.le_trans h (by decide))]
section
variable {P : Program} {w : World} {K : PySem.W.Frag} {mg : Str → Option Value} {base : Heap}
abbrev s_is_key : Stmt := top 33
theorem sc_is_key : FnScope ["thing", "letters", "states", "classes", "one"] ["thing", "letters", "states", "classes"] (defScope s_is_key) := ⟨rfl, rfl, rfl, by decide +kernel, rfl, by decide +kernel, by decide +kernel⟩
abbrev s_is_table : Stmt := top 34
theorem sc_is_table : FnScope ["thing", "letters", "states", "classes", "key"] ["thing", "letters", "states", "classes"] (defScope s_is_table) := ⟨rfl, rfl, rfl, by decide +kernel, rfl, by decide +kernel, by decide +kernel⟩
abbrev s_is_judge : Stmt := top 36
theorem sc_is_judge : FnScope ["thing", "letters", "states", "few", "turn", "table", "good"] ["thing"] (defScope s_is_judge) := ⟨rfl, rfl, rfl, by decide +kernel, rfl, by decide +kernel, by decide +kernel⟩

def sp_is_key : Sp := fun vs H Q _ => ∃ (v : V) (c : Nat) (r ls : List Nat) (st m : Nat), vs = [v, tx ls, .int (st : Int), .int (m : Int)] ∧ NKv H (kJ (c, r)) v ∧ c ∈ ls ∧ r.length = st ∧ st ≤ 3000 ∧ (∀ x ∈ r, x < m) ∧ ∀ H', Same H H' → Q (.bl true) H'
theorem ok_is_key (D : Df K mg "is_key" s_is_key ["thing", "letters", "states", "classes"]) (T : Txt K mg) (G_is_whole_within : G' P w K mg base "is_whole_within" 1 ["thing", "low", "high"] sp_is_whole_within) : G' P w K mg base "is_key" 2 ["thing", "letters", "states", "classes"] sp_is_key := by
  refine D.ok fun f fd F => F.okX sc_is_key (fun vs H Q E h => ?_) (fun cdv A outer s H vs Q E hr h => ?_)
  · obtain ⟨v, c, r, ls, st, m, rfl, _⟩ := h
    rfl
  · obtain ⟨v, c, r, ls, st, m, rfl, hv, hc, hr2, hst, hm, k⟩ := h
    obtain ⟨b, t, rfl, hb, ht⟩ : ∃ b t, v = .ref b ∧ H b = some (.tup [.str ⟨#[c]⟩, .ref t]) ∧ H t = some (.tup (r.map fun n => V.int (n : Nat))) := by
      unfold kJ at hv
      cases hv with
      | @tup b _ vs hb hs =>
        cases hs with
        | cons h1 h2 =>
          cases h2 with
          | cons h3 h4 =>
            cases h4
            cases h1
            obtain ⟨t, rfl, ht⟩ := row_of h3
            exact ⟨b, t, rfl, hb, ht⟩
    refine ⟨_, (pss_cons (ps_if (PW.pt (pw_or (pt_not (pt_val (pe_callB (call_isiK K) (by rfl) T.n_isinstance (by decide +kernel) (pa_cons (pv 0) (pa_cons (pe_ty (n := "tuple") T.n_tuple (by decide +kernel)) pa_nil))))) (pw_or (pt_cmpR op_ne (pe_callB (call_lenK K) (by rfl) T.n_len PySem.boot_len (pa_cons (pv 0) pa_nil)) pe_int (nomark _)) (pw_or (pt_not (pt_val (pe_callB (call_isiK K) (by rfl) T.n_isinstance (by decide +kernel) (pa_cons (pe_ix (ix_tupK K) (pv 0) pe_int (fun _ _ => rfl)) (pa_cons (pe_ty (n := "str") T.n_str (by decide +kernel)) pa_nil))))) (pw_or1 (pt_cmpR op_ne (pe_callB (call_lenK K) (by rfl) T.n_len PySem.boot_len (pa_cons (pe_ix (ix_tupK K) (pv 0) pe_int (fun _ _ => rfl)) pa_nil)) pe_int (nomark _))))))) (pss_one (ps_ret pe_bl)) pss_nil)
  (pss_cons (ps_if (PW.pt (pw_or (pt_cmpR op_notIn_sign (pe_ix (ix_tupK K) (pv 0) pe_int (fun _ _ => rfl)) (pv 1) (by rfl)) (pw_or (pt_not (pt_val (pe_callB (call_isiK K) (by rfl) T.n_isinstance (by decide +kernel) (pa_cons (pe_ix (ix_tupK K) (pv 0) pe_int (fun _ _ => rfl)) (pa_cons (pe_ty (n := "tuple") T.n_tuple (by decide +kernel)) pa_nil))))) (pw_or1 (pt_cmpR op_ne (pe_callB (call_lenK K) (by rfl) T.n_len PySem.boot_len (pa_cons (pe_ix (ix_tupK K) (pv 0) pe_int (fun _ _ => rfl)) pa_nil)) (pv 2) (nomark _)))))) (pss_one (ps_ret pe_bl)) pss_nil)
  (pss_one (ps_ret (pe_cmp (pc_eqNilK K hr (pe_lc (own := [("one", 4)]) rfl sc_is_key.nd (pi_tupK K (pe_ix (ix_tupK K) (pv 0) pe_int (fun _ _ => rfl))) (blkOk_by (own := [("one", 4)]) (N := ["thing", "letters", "states", "classes", "one"]) (sc := defScope s_is_key) (by decide +kernel)) (fun _ _ _ _ _ => (pg_name (i := 4) sc_is_key.nd rfl (by first | exact Or.inl rfl | exact Or.inr rfl))) (fun _ _ _ _ _ => (pts_one (pt_not (pt_val (pe_cl G_is_whole_within (hr.mono (by omega)) passF (pa_cons (pv 4) (pa_cons pe_int (pa_cons (pe_op op_sub (pv 3) pe_int) pa_nil)))))))) (fun _ _ _ _ _ => (pv 4))))))))), ?_⟩
    walk_at "rd"
    have e1 : decide (c ∈ (txS ls).cps.toList) = true := by simpa using hc
    rw [e1]
    walk_at "rd"
    rw [List.length_map, hr2]
    refine iteC (by simp) ?_
    walk_at "rd"
    refine ⟨⟨_, SqT.of ht⟩, fun D nD => lc_it walk_tup (PvE H D fun _ => false) (PvE.start nD) (fun i H' _ p => SqT.of (p.S _ _ ht)) ?_ ?_⟩
    · rintro i x H1 H2 hi p ⟨rfl, hx⟩
      rw [List.length_map] at hi
      rw [List.getElem?_map, List.getElem?_eq_getElem hi] at hx
      cases hx
      have hmi := hm _ (List.getElem_mem hi)
      walk_at "rd"
      refine ⟨_, _, _, rfl, ?_⟩
      walk_at "rd"
      refine iteC (by rw [decide_eq_true (show (r[i] : Int) ≤ (m : Int) - 1 by omega), decide_eq_true (show (0 : Int) ≤ (r[i] : Int) by omega)]; rfl) ?_
      exact p.skip (Same.refl _) rfl
    · rintro H1 ⟨S1, acc, hD, _, hacc⟩
      walk_at "rd"
      rw [hacc]
      have e2 : ((List.range (r.map fun n : Nat => V.int (n : Nat)).length).all fun j => !false) = true := by simp
      rw [e2]
      exact k _ S1
def sp_is_table (w : World) : Sp := fun vs H Q _ => ∃ (d : Addr) (es : List NE) (ls tb : List Nat) (st m : Nat), vs = [.ref d, tx ls, .int (st : Int), .int (m : Int)] ∧ H d = some (ndO w d es) ∧ NKeys H es ∧ ls.length ≤ 3000 ∧ st ≤ 1000 ∧ m ≤ 1000 ∧
  es.map (·.1) = (keysL ls m st).map kJ ∧ es.map (·.2.2) = tb.map (fun n => V.int (n : Nat)) ∧ tb.length ≤ 600 ∧ (∀ v ∈ tb, v ≤ 1000) ∧ ls.Nodup ∧ ∀ H', Same H H' → Q (.bl (tb.all fun v => decide (v < st))) H'
theorem ok_is_table (D : Df K mg "is_table" s_is_table ["thing", "letters", "states", "classes"]) (T : Txt K mg) (G_is_whole_within : G' P w K mg base "is_whole_within" 1 ["thing", "low", "high"] sp_is_whole_within)
    (G_how_many_tuples : G' P w K mg base "how_many_tuples" 1 ["letters", "states", "classes"] sp_how_many_tuples) (G_is_key : G' P w K mg base "is_key" 2 ["thing", "letters", "states", "classes"] sp_is_key) : G' P w K mg base "is_table" 3 ["thing", "letters", "states", "classes"] (sp_is_table w) := by
  refine D.ok fun f fd F => F.okX sc_is_table (fun vs H Q E h => ?_) (fun cdv A outer s H vs Q E hr h => ?_)
  · obtain ⟨d, es, ls, tb, st, m, rfl, _⟩ := h
    rfl
  · obtain ⟨d, es, ls, tb, st, m, rfl, hd, hks, hls, hst, hm, hek, hev, htb, htv, hlsn, k⟩ := h
    have hnd := ND.of hd hks
    refine ⟨_, (pss_cons (ps_if (PW.pt (pw_or (pt_not (pt_val (pe_callB (call_isiNK w K) (by rfl) T.n_isinstance (by decide +kernel) (pa_cons (pv 0) (pa_cons (pe_ty (n := "dict") T.n_dict (by decide +kernel)) pa_nil))))) (pw_or1 (pt_cmpR op_ne (pe_callB (call_len_nd w) (by rfl) T.n_len PySem.boot_len (pa_cons (pv 0) pa_nil)) (pe_cl G_how_many_tuples (hr.mono (by omega)) passF (pa_cons (pv 1) (pa_cons (pv 2) (pa_cons (pv 3) pa_nil)))) (nomark _))))) (pss_one (ps_ret pe_bl)) pss_nil)
  (pss_cons (ps_if (PW.pt (pw_or (pt_cmpR op_gt (pe_callB (call_len_nd w) (by rfl) T.n_len PySem.boot_len (pa_cons (pv 0) pa_nil)) (pe_gv T.g_MOST_TUPLES_judges) (nomark _)) (pw_or1 (pt_cmp (pc_neNilK K hr (pe_lock (pe_lc (own := [("key", 4)]) rfl sc_is_table.nd (pi_nkeys w (pv 0)) (blkOk_by (own := [("key", 4)]) (N := ["thing", "letters", "states", "classes", "key"]) (sc := defScope s_is_table) (by decide +kernel)) (fun _ _ _ _ _ => (pg_name (i := 4) sc_is_table.nd rfl (by first | exact Or.inl rfl | exact Or.inr rfl))) (fun _ _ _ _ _ => (pts_one (pt_not (pt_val (pe_cl G_is_key (hr.mono (by omega)) passF (pa_cons (pv 4) (pa_cons (pv 1) (pa_cons (pv 2) (pa_cons (pv 3) pa_nil))))))))) (fun _ _ _ _ _ => (pv 4))))))))) (pss_one (ps_ret pe_bl)) pss_nil)
  (pss_one (ps_ret (pe_cmp (pc_eqNilK K hr (pe_lock (pe_lc (own := [("key", 4)]) rfl sc_is_table.nd (pi_nkeys w (pv 0)) (blkOk_by (own := [("key", 4)]) (N := ["thing", "letters", "states", "classes", "key"]) (sc := defScope s_is_table) (by decide +kernel)) (fun _ _ _ _ _ => (pg_name (i := 4) sc_is_table.nd rfl (by first | exact Or.inl rfl | exact Or.inr rfl))) (fun _ _ _ _ _ => (pts_one (pt_not (pt_val (pe_cl G_is_whole_within (hr.mono (by omega)) passF (pa_cons (pe_nget w hr (pv 0) (pv 4)) (pa_cons pe_int (pa_cons (pe_op op_sub (pv 2) pe_int) pa_nil)))))))) (fun _ _ _ _ _ => (pv 4)))))))))), ?_⟩
    walk_at "rd"
    refine ⟨_, _, _, rfl, hls, hst, hm, ?_⟩
    walk_at "rd"
    have hlen : es.length = tb.length := by
      have := congrArg List.length hev
      rw [List.length_map, List.length_map] at this
      exact this
    have hlen2 : es.length = ls.length * m ^ st := by
      have := congrArg List.length hek
      rw [List.length_map, List.length_map, keysL_len] at this
      exact this
    have hmt : manyT ls.length m st = es.length := by rw [manyT_eq _ _ _ (by omega), hlen2]
    rw [hmt]
    refine iteC (by simp) ?_
    walk_at "rd"
    refine iteC (decide_eq_false (show ¬ (600 : Int) < (es.length : Int) by omega)) ?_
    walk_at "rd"
    have nx : ∀ (i : Nat), i < es.length → ∃ c r v, (c, r) ∈ keysL ls m st ∧ v ∈ tb ∧ tb[i]? = some v ∧ ∃ b, es[i]? = some (kJ (c, r), b, .int (v : Nat)) := by
      intro i hi
      have h1 : (es.map (·.1))[i]? = some es[i].1 := by rw [List.getElem?_map, List.getElem?_eq_getElem hi]; rfl
      rw [hek, List.getElem?_map] at h1
      obtain ⟨⟨c, r⟩, hcr, e1⟩ := Option.map_eq_some_iff.mp h1
      have h2 : (es.map (·.2.2))[i]? = some es[i].2.2 := by rw [List.getElem?_map, List.getElem?_eq_getElem hi]; rfl
      rw [hev, List.getElem?_map] at h2
      obtain ⟨v, hv, e2⟩ := Option.map_eq_some_iff.mp h2
      refine ⟨c, r, v, List.mem_of_getElem? hcr, List.mem_of_getElem? hv, hv, es[i].2.1, ?_⟩
      rw [List.getElem?_eq_getElem hi, e1, e2]
    refine ⟨d, _, hd, trivial, fun od => ?_⟩
    generalize eF : upd H d (.frz od _) = HF
    have hF : ∀ H2, Same HF H2 → ND w H2 d es := fun H2 S => nd_own hd hks od (by rw [eF]; exact S)
    have hFd : HF d = some (.frz od (ndO w d es)) := by rw [← eF]; exact upd_same
    walk_at "rd"
    refine ⟨_, _, _, rfl, hFd, fun D nD => lc_it walk_nkeys (PvE HF D fun _ => false) (PvE.start nD) (fun i H' _ p => p.S _ _ hFd) ?_ ?_⟩
    · rintro i x H1 H2 hi p ⟨rfl, e, he, rfl⟩
      obtain ⟨c, r, v, hcr, hv, hvi, b, he2⟩ := nx i hi
      rw [he] at he2
      cases he2
      obtain ⟨m1, m2⟩ := keysL_mem.mp hcr
      obtain ⟨m3, m4⟩ := rowsL_mem.mp m2
      walk_at "rd"
      refine ⟨_, c, r, ls, st, m, rfl, ((hF _ p.S).ks _ (List.mem_of_getElem? he)).1, m1, m3, by omega, m4, fun H3 S3 => ?_⟩
      walk_at "rd"
      exact p.skip S3 rfl
    · rintro H1 ⟨S1, acc, hD, _, hacc⟩
      have hd1 := S1 _ _ hFd
      refine ⟨hd1, ?_⟩
      generalize eU : upd H1 d _ = H2
      have S2 : Same H H2 := by rw [← eU]; exact lock_same hd (by rw [eF]; exact S1)
      have hD2 : H2 D = some (.lst acc) := by rw [← eU, upd_ne (ne_of hD hd1 (fun z => nomatch z))]; exact hD
      have hd2 : H2 d = some (ndO w d es) := by rw [← eU]; exact upd_same
      have hks2 : NKeys H2 es := hks.stay fun _ _ h => S2 _ _ h
      walk_at "rd"
      rw [hacc]
      refine iteC (by simp) ?_
      walk_at "rd"
      refine ⟨d, _, hd2, trivial, fun od2 => ?_⟩
      generalize eF2 : upd H2 d (.frz od2 _) = HF2
      have hF2 : ∀ H3, Same HF2 H3 → ND w H3 d es := fun H3 S => nd_own hd2 hks2 od2 (by rw [eF2]; exact S)
      have hFd2 : HF2 d = some (.frz od2 (ndO w d es)) := by rw [← eF2]; exact upd_same
      walk_at "rd"
      refine ⟨_, _, _, rfl, hFd2, fun D2 nD2 => lc_it walk_nkeys (PvE HF2 D2 fun i => !decide ((tb[i]?).getD 0 < st)) (PvE.start nD2) (fun i H' _ p => p.S _ _ hFd2) ?_ ?_⟩
      · rintro i x H3 H4 hi p ⟨rfl, e, he, rfl⟩
        obtain ⟨c, r, v, hcr, hv, hvi, b, he2⟩ := nx i hi
        rw [he] at he2
        cases he2
        have hN := hF2 _ p.S
        have hnod : (es.map (·.1)).Nodup := by
          rw [hek]
          exact nodup_map' (fun _ _ => kJ_inj) (keysL_nodup hlsn _ _)
        have hat : atN es (kJ (c, r)) = some (.int (v : Nat)) := atN_of_mem hnod (List.mem_map.mpr ⟨_, List.mem_of_getElem? he, rfl⟩)
        walk_at "rd"
        refine ⟨_, _, _, _, _, rfl, rfl, hN, (hN.ks _ (List.mem_of_getElem? he)).1, by rw [kJ_depth]; decide, hat, ?_⟩
        walk_at "rd"
        refine ⟨_, _, _, rfl, ?_⟩
        walk_at "rd"
        refine iteJ (c := !decide ((tb[i]?).getD 0 < st)) ?_ (fun hc => ?_) fun hc => ?_
        · rw [hvi]
          show (!(decide ((0 : Int) ≤ (v : Int)) && decide ((v : Int) ≤ (st : Int) - 1))) = !decide (v < st)
          by_cases h : v < st
          · rw [decide_eq_true h, decide_eq_true (show (v : Int) ≤ (st : Int) - 1 by omega), decide_eq_true (show (0 : Int) ≤ (v : Int) by omega)]
            rfl
          · rw [decide_eq_false h, decide_eq_false (show ¬ (v : Int) ≤ (st : Int) - 1 by omega), Bool.and_false]
        · walk_at "rd"
          exact p.push (Same.refl _) nD2 hc (big_of (show i ≤ 600 by omega) (by decide))
        · exact p.skip (Same.refl _) hc
      · rintro H3 ⟨S3, acc3, hD3, _, hacc3⟩
        have hd3 := S3 _ _ hFd2
        refine ⟨hd3, ?_⟩
        generalize eU3 : upd H3 d _ = H4
        have S4 : Same H H4 := S2.trans (by rw [← eU3]; exact lock_same hd2 (by rw [eF2]; exact S3))
        have hD4 : H4 D2 = some (.lst acc3) := by rw [← eU3, upd_ne (ne_of hD3 hd3 (fun z => nomatch z))]; exact hD3
        walk_at "rd"
        rw [hacc3, hlen, all_range tb (fun v => decide (v < st)) _ (fun i x hx => by rw [hx]; simp)]
        exact k _ S4
def Jd.okB (J : Jd) : Bool := lettersB J.ls && (decide (1 ≤ J.st) && decide (J.st ≤ 6)) && decide (J.few ≤ 4) && (decide (1 ≤ J.turn) && decide (J.turn ≤ 4)) && J.tb.all (fun v => decide (v < J.st)) && (J.gd.all (fun g => decide (g < J.st)) && riseB J.gd)
/-- a tuple of a judge's form -/
structure JForm (w : World) (H : Hp) (J : Jd) (a d g : Addr) (es : List NE) : Prop where
  tup : H a = some (.tup [.str (txS J.ls), .int (J.st : Nat), .int (J.few : Nat), .int (J.turn : Nat), .ref d, .ref g])
  dic : H d = some (ndO w d es)
  ks : NKeys H es
  lst : H g = some (.lst (J.gd.map fun n => V.int (n : Nat)))
  ek : lettersB J.ls = true → es.map (·.1) = J.keys.map kJ
  ev : lettersB J.ls = true → es.map (·.2.2) = J.tb.map (fun n => V.int (n : Nat))
  l3 : J.ls.length ≤ 3000
  st9 : J.st ≤ 9
  few9 : J.few ≤ 9
  turn9 : J.turn ≤ 9
  tb6 : J.tb.length ≤ 600
  tb9 : ∀ v ∈ J.tb, v ≤ 9
  gd3 : J.gd.length ≤ 3000
theorem JForm.same {w : World} {H H' : Hp} {J : Jd} {a d g : Addr} {es : List NE} (h : JForm w H J a d g es) (s : Same H H') : JForm w H' J a d g es :=
  { h with tup := s _ _ h.tup, dic := s _ _ h.dic, ks := h.ks.stay fun _ _ e => s _ _ e, lst := s _ _ h.lst }
def sp_is_judge (w : World) : Sp := fun vs H Q _ => ∃ (J : Jd) (a d g : Addr) (es : List NE), vs = [.ref a] ∧ JForm w H J a d g es ∧ ∀ H', Same H H' → Q (.bl J.okB) H'
theorem ok_is_judge (D : Df K mg "is_judge" s_is_judge ["thing"]) (T : Txt K mg) (G_are_letters : G' P w K mg base "are_letters" 1 ["thing"] sp_are_letters) (G_is_whole_within : G' P w K mg base "is_whole_within" 1 ["thing", "low", "high"] sp_is_whole_within)
    (G_is_table : G' P w K mg base "is_table" 3 ["thing", "letters", "states", "classes"] (sp_is_table w)) (G_are_good : G' P w K mg base "are_good" 2 ["thing", "states"] sp_are_good) : G' P w K mg base "is_judge" 4 ["thing"] (sp_is_judge w) := by
  refine D.ok fun f fd F => F.okX sc_is_judge (fun vs H Q E h => ?_) (fun cdv A outer s H vs Q E hr h => ?_)
  · obtain ⟨J, a, d, g, es, rfl, _⟩ := h
    rfl
  · obtain ⟨J, a, d, g, es, rfl, hj, k⟩ := h
    have htup := hj.tup
    refine ⟨_, (pss_cons (ps_if (PW.pt (pw_or (pt_not (pt_val (pe_callB (call_isiK K) (by rfl) T.n_isinstance (by decide +kernel) (pa_cons (pv 0) (pa_cons (pe_ty (n := "tuple") T.n_tuple (by decide +kernel)) pa_nil))))) (pw_or1 (pt_cmpR op_ne (pe_callB (call_lenK K) (by rfl) T.n_len PySem.boot_len (pa_cons (pv 0) pa_nil)) pe_int (nomark _))))) (pss_one (ps_ret pe_bl)) pss_nil)
  (pss_cons (ps_asg (pv 0) (pg_tup (by rfl) (pgs_cons (pg_name (i := 1) sc_is_judge.nd rfl (by first | exact Or.inl rfl | exact Or.inr rfl)) (pgs_cons (pg_name (i := 2) sc_is_judge.nd rfl (by first | exact Or.inl rfl | exact Or.inr rfl)) (pgs_cons (pg_name (i := 3) sc_is_judge.nd rfl (by first | exact Or.inl rfl | exact Or.inr rfl)) (pgs_cons (pg_name (i := 4) sc_is_judge.nd rfl (by first | exact Or.inl rfl | exact Or.inr rfl)) (pgs_cons (pg_name (i := 5) sc_is_judge.nd rfl (by first | exact Or.inl rfl | exact Or.inr rfl)) (pgs_cons (pg_name (i := 6) sc_is_judge.nd rfl (by first | exact Or.inl rfl | exact Or.inr rfl)) pgs_nil))))))))
  (pss_cons (ps_if (PW.pt (pw_or (pt_not (pt_val (pe_cl G_are_letters (hr.mono (by omega)) passF (pa_cons (pv 1) pa_nil)))) (pw_or1 (pt_not (pt_val (pe_cl G_is_whole_within (hr.mono (by omega)) passF (pa_cons (pv 2) (pa_cons pe_int (pa_cons (pe_gv T.g_MOST_STATES_judges) pa_nil))))))))) (pss_one (ps_ret pe_bl)) pss_nil)
  (pss_cons (ps_if (PW.pt (pw_or (pt_not (pt_val (pe_cl G_is_whole_within (hr.mono (by omega)) passF (pa_cons (pv 3) (pa_cons pe_int (pa_cons (pe_gv T.g_MOST_FEW) pa_nil)))))) (pw_or1 (pt_not (pt_val (pe_cl G_is_whole_within (hr.mono (by omega)) passF (pa_cons (pv 4) (pa_cons pe_int (pa_cons (pe_gv T.g_MOST_TURN_judges) pa_nil))))))))) (pss_one (ps_ret pe_bl)) pss_nil)
  (pss_one (ps_ret (pe_and (pe_cl G_is_table (hr.mono (by omega)) passF (pa_cons (pv 5) (pa_cons (pv 1) (pa_cons (pv 2) (pa_cons (pe_op op_add (pv 3) (pv 4)) pa_nil))))) (pe_one (pe_cl G_are_good (hr.mono (by omega)) passF (pa_cons (pv 6) (pa_cons (pv 2) pa_nil))))))))))), ?_⟩
    walk_at "rd"
    refine ⟨hj.l3, fun H1 S1 => ?_⟩
    have fin : ∀ (b : Bool) H', b = J.okB → Same H H' → Q (.bl b) H' := fun b H' e S => by rw [e]; exact k H' S
    cases hA : lettersB J.ls with
    | false =>
      walk_at "rd"
      exact fin false _ (by simp [Jd.okB, hA]) S1
    | true =>
      walk_at "rd"
      refine ⟨_, _, _, rfl, ?_⟩
      walk_at "rd"
      have e1 : (decide ((1 : Int) ≤ (J.st : Int)) && decide ((J.st : Int) ≤ 6)) = (decide (1 ≤ J.st) && decide (J.st ≤ 6)) := by rw [Bool.eq_iff_iff]; simp; omega
      rw [e1]
      cases hB : (decide (1 ≤ J.st) && decide (J.st ≤ 6)) with
      | false =>
        walk_at "rd"
        exact fin false _ (by simp only [Jd.okB, hA, hB]; simp) S1
      | true =>
        walk_at "rd"
        refine ⟨_, _, _, rfl, ?_⟩
        walk_at "rd"
        have e2 : (decide ((0 : Int) ≤ (J.few : Int)) && decide ((J.few : Int) ≤ 4)) = decide (J.few ≤ 4) := by rw [Bool.eq_iff_iff]; simp; omega
        rw [e2]
        cases hC : decide (J.few ≤ 4) with
        | false =>
          walk_at "rd"
          exact fin false _ (by simp only [Jd.okB, hA, hB, hC]; simp) S1
        | true =>
          walk_at "rd"
          refine ⟨_, _, _, rfl, ?_⟩
          walk_at "rd"
          have e3 : (decide ((1 : Int) ≤ (J.turn : Int)) && decide ((J.turn : Int) ≤ 4)) = (decide (1 ≤ J.turn) && decide (J.turn ≤ 4)) := by rw [Bool.eq_iff_iff]; simp; omega
          rw [e3]
          cases hD : (decide (1 ≤ J.turn) && decide (J.turn ≤ 4)) with
          | false =>
            walk_at "rd"
            exact fin false _ (by simp only [Jd.okB, hA, hB, hC, hD]; simp) S1
          | true =>
            have hj1 := hj.same S1
            have hn : J.ls.Nodup := by
              rw [lettersB, Bool.and_eq_true] at hA
              exact riseB_nodup hA.2
            have := hj.few9
            have := hj.turn9
            have := hj.st9
            walk_at "rd"
            refine ⟨d, es, J.ls, J.tb, J.st, J.m, by rw [Jd.m]; rfl, hj1.dic, hj1.ks, hj.l3, by omega, by rw [Jd.m]; omega, hj.ek hA, hj.ev hA, hj.tb6, fun v hv => Nat.le_trans (hj.tb9 v hv) (by decide), hn, fun H2 S2 => ?_⟩
            cases hE : (J.tb.all fun v => decide (v < J.st)) with
            | false =>
              walk_at "rd"
              exact fin false _ (by simp only [Jd.okB, hA, hB, hC, hD, hE]; simp) (S1.trans S2)
            | true =>
              walk_at "rd"
              refine ⟨g, J.gd, J.st, rfl, (hj1.same S2).lst, hj.gd3, fun H3 S3 => ?_⟩
              refine fin _ _ (by simp only [Jd.okB, hA, hB, hC, hD, hE]; simp) ((S1.trans S2).trans S3)
end
end Hy
set_option Elab.async false
set_option linter.all false
set_option maxRecDepth 100000
set_option maxHeartbeats 4000000
namespace Hy
open PySem L2
local macro_rules | `(tactic| walk_at "hp") => `(tactic| first
  | assumption | exact upd_same
  | (refine (upd_ne ?_).trans ?_ <;> first | assumption | (exact Ne.symm (by assumption)) | walk_at "ne" | walk_at "hp")
  | (refine (by assumption : Same _ _) _ _ ?_; assumption))
local macro_rules | `(tactic| walk_at "ne") => `(tactic| first
  | assumption | (exact Ne.symm (by assumption))
  | exact ne_of_none (by assumption) (by assumption) | exact Ne.symm (ne_of_none (by assumption) (by assumption)))
local macro_rules | `(tactic| walk_at "sz") => `(tactic| first | assumption | (show 0 ≤ sizeLine; decide) | (show 1 ≤ sizeLine; decide) | (show 2 ≤ sizeLine; decide) | (show 3 ≤ sizeLine; decide))
local macro_rules | `(tactic| walk_at "ar") => `(tactic| first
  | ((with_reducible show (0 : Int) < _); first | decide | omega)
  | ((with_reducible show CMul _ _); first | exact Or.inr (And.intro (by decide) (by decide)) | exact Or.inl (And.intro (by decide) (by decide)) | (refine Or.inl (And.intro ?_ ?_) <;> omega) | (refine Or.inr (And.intro ?_ ?_) <;> omega))
  | ((with_reducible show CPow _ _); exact And.intro (by decide) (And.intro (by decide) (by decide)))
  | ((with_reducible show CDiv _ _); first | exact And.intro (by decide) (by decide) | (refine And.intro ?_ ?_ <;> omega)))
/- one step of a reading -/
local macro_rules | `(tactic| walk_at "r1") => `(tactic| first
  | refine ⟨_, rfl, ?_⟩
  | refine iteB (by rfl) ?_ | refine iteC (by rfl) ?_
  | refine ⟨_, _, rfl, rfl, ?_⟩
  | refine ⟨rfl, ?_⟩
  | refine ⟨⟨_, rfl⟩, ?_⟩
  | refine ⟨_, _, _, _, true, rfl, .ty _, .base (.str _), kit_ty (by decide +kernel), ?_⟩
  | refine ⟨_, _, _, _, false, rfl, .ty _, .base (.str _), kit_ty (by decide +kernel), ?_⟩
  | refine ⟨_, _, _, _, true, rfl, .ty _, .base (.int _), kit_ty (by decide +kernel), ?_⟩
  | refine ⟨_, _, _, _, false, rfl, .ty _, .base (.int _), kit_ty (by decide +kernel), ?_⟩
  | refine ⟨_, _, _, _, true, rfl, .ty _, .base (.tup (by walk_at "hp")), kit_ty (by decide +kernel), ?_⟩
  | refine ⟨_, _, _, _, false, rfl, .ty _, .base (.tup (by walk_at "hp")), kit_ty (by decide +kernel), ?_⟩
  | refine ⟨_, _, _, _, true, rfl, .ty _, .base (.lst (by walk_at "hp")), kit_ty (by decide +kernel), ?_⟩
  | refine ⟨_, _, _, _, false, rfl, .ty _, .base (.lst (by walk_at "hp")), kit_ty (by decide +kernel), ?_⟩
  | refine ⟨_, _, rfl, ⟨by walk_at "sz", rfl⟩, ?_⟩
  | refine ⟨_, _, _, _, rfl, rfl, SqT.of (by walk_at "hp"), by rfl, ?_⟩
  | refine ⟨_, _, _, _, rfl, rfl, SqL.of (by walk_at "hp"), by rfl, ?_⟩
  | refine ⟨.inl ⟨rfl, _, SqL.of (by walk_at "hp")⟩, ?_⟩
  | refine ⟨_, _, _, rfl, rfl, (by walk_at "hp"), snoc_get, ?_⟩
  | refine ⟨_, _, _, _, rfl, rfl, (by walk_at "hp"), by rfl, ?_⟩
  | refine ⟨_, _, rfl, SqL.of (by walk_at "hp"), ?_⟩
  | refine ⟨_, _, rfl, SqT.of (by walk_at "hp"), by rfl, ?_⟩
  | refine ⟨_, (_ : List V), rfl, ?_⟩
  | refine ⟨_, _, rfl, .inl ⟨_, (by assumption), rfl⟩, ?_⟩
  | refine ⟨_, _, rfl, .inl ⟨_, SqL.of (by walk_at "hp"), rfl⟩, ?_⟩
  | refine ⟨_, _, rfl, .inr ⟨_, SqT.of (by walk_at "hp"), rfl⟩, ?_⟩
  | refine Or.inl ⟨(_ : Int), rfl, ?_⟩ | refine Or.inr ⟨(_ : Bool), rfl, ?_⟩
  | refine ⟨_, _, _, _, true, rfl, (by assumption : ND _ _ _ _), .ty _, kit_ty (by decide +kernel), ?_⟩
  | refine ⟨_, _, _, _, false, rfl, (by assumption : ND _ _ _ _), .ty _, kit_ty (by decide +kernel), ?_⟩
  | refine ⟨_, _, rfl, (by assumption : ND _ _ _ _), ?_⟩
  | refine And.intro (by walk_at "ar") ?_)
local macro_rules | `(tactic| walk_at "rd") => `(tactic| repeat walk_at "r1")

theorem str_dig : ∀ n : Nat, n ≤ 9 → (PySem.Str.ofString (toString ((n : Nat) : Int))) = txS [dig n]
  | 0, _ => by decide +kernel
  | 1, _ => by decide +kernel
  | 2, _ => by decide +kernel
  | 3, _ => by decide +kernel
  | 4, _ => by decide +kernel
  | 5, _ => by decide +kernel
  | 6, _ => by decide +kernel
  | 7, _ => by decide +kernel
  | 8, _ => by decide +kernel
  | 9, _ => by decide +kernel
  | n + 10, h => by omega
def figV (x : Str) : Option Nat := match x.cps.toList with
  | [c] => if 48 ≤ c ∧ c ≤ 57 then some (c - 48) else none
  | _ => none
theorem figV_dig {n : Nat} (h : n ≤ 9) : figV (txS [dig n]) = some n := by
  show (if 48 ≤ 48 + n ∧ 48 + n ≤ 57 then some (48 + n - 48) else none) = some n
  rw [if_pos (by omega), Nat.add_sub_cancel_left]
theorem join_txS (s : List Nat) (ws : List (List Nat)) : Txt.join (txS s) (ws.map txS) = txS (TL.joinL s ws) := by
  rw [TL.join_eq]
  have h := TL.tl_join (txS s) (ws.map txS)
  rw [List.map_map] at h
  have e : ws.map (TL.tl ∘ txS) = ws := by
    have : (TL.tl ∘ txS) = id := funext fun l => by simp [TL.tl]
    rw [this, List.map_id]
  have e0 : TL.tl (txS s) = s := by simp [TL.tl]
  rw [e, e0] at h
  have h2 : (Str.join (txS s) (ws.map txS)).cps = (TL.joinL s ws).toArray := by
    rw [← h]
  calc Str.join (txS s) (ws.map txS) = ⟨(Str.join (txS s) (ws.map txS)).cps⟩ := rfl
    _ = _ := by rw [h2]
theorem joinL_len (s : List Nat) : ∀ ws : List (List Nat), (TL.joinL s ws).length ≤ (ws.map (·.length)).sum + ws.length * s.length
  | [] => by simp [TL.joinL]
  | [p] => by simp [TL.joinL]
  | p :: q :: r => by
    have ih := joinL_len s (q :: r)
    rw [TL.joinL]
    simp only [List.length_append, List.map_cons, List.sum_cons, List.length_cons] at ih ⊢
    rw [Nat.succ_mul]
    omega
def goodL (g : List Nat) : List Nat := if g = [] then [45] else TL.joinL [44] (g.map fun n => [dig n])
theorem goodW_eq (g : List Nat) : goodW g = txS (goodL g) := by
  unfold goodW goodL
  split
  · rfl
  · rw [← join_txS, List.map_map]
    rfl
theorem goodL_len (g : List Nat) : (goodL g).length ≤ 2 * g.length + 1 := by
  unfold goodL
  split
  · simp
  · have h := joinL_len [44] (g.map fun n => [dig n])
    have h2 := sum_ones ((fun x : List Nat => x.length) ∘ fun n => [dig n]) 1 g (fun x _ => Nat.le_refl _)
    rw [List.map_map, List.length_map] at h
    simp only [List.length_cons, List.length_nil] at h
    omega
theorem rise_len : ∀ (l : List Nat) (k n : Nat), l.Pairwise (· < ·) → (∀ x ∈ l, k ≤ x ∧ x < n) → l = [] ∨ l.length + k ≤ n
  | [], _, _, _, _ => .inl rfl
  | x :: l, k, n, hp, hx => by
    obtain ⟨h1, h2⟩ := List.pairwise_cons.mp hp
    have hx1 := hx x List.mem_cons_self
    rcases rise_len l (x + 1) n h2 (fun y hy => ⟨h1 y hy, (hx y (List.mem_cons_of_mem _ hy)).2⟩) with e | e
    · subst e
      exact .inr (by simp; omega)
    · exact .inr (by rw [List.length_cons]; omega)
theorem Jd.Ok.gd6 {J : Jd} (ok : J.Ok) : J.gd.length ≤ 6 := by
  have := ok.st6
  rcases rise_len J.gd 0 J.st (riseB_pair ok.gdR) (fun x hx => ⟨Nat.zero_le _, ok.gdv x hx⟩) with e | e
  · rw [e]; simp
  · omega
theorem log_small {n : Nat} (h : n ≤ 9) : ((n : Nat) : Int).natAbs.log2 < 1920 := by
  rw [Int.natAbs_natCast]
  exact Nat.lt_of_le_of_lt (Nat.log2_le_self _) (by omega)
theorem flat_ones {α : Type} (f : α → Nat) : ∀ l : List α, (l.map fun x => [f x]).flatten = l.map f
  | [] => rfl
  | x :: l => by rw [List.map_cons, List.flatten_cons, flat_ones f l]; rfl
theorem join_ones (l : List Nat) : Txt.join (txS []) (l.map fun n => txS [dig n]) = txS (l.map dig) := by
  have e : (l.map fun n => txS [dig n]) = (l.map fun n => [dig n]).map txS := by rw [List.map_map]; rfl
  rw [e, join_nil, flat_ones]
theorem mul_add_lt {i j N n : Nat} (hi : i < n) (hj : j < N) : i * N + j < n * N := by
  have : (i + 1) * N ≤ n * N := Nat.mul_le_mul_right N hi
  rw [Nat.succ_mul] at this
  omega
theorem flat_at {α β : Type} (f : α → List β) (N : Nat) : ∀ (l : List α), (∀ x ∈ l, (f x).length = N) → ∀ (i j : Nat) (x : α) (y : β), l[i]? = some x → (f x)[j]? = some y → (l.flatMap f)[i * N + j]? = some y
  | [], _, i, j, x, y, h, _ => by simp at h
  | a :: l, hN, 0, j, x, y, h1, h2 => by
    simp only [List.getElem?_cons_zero, Option.some.injEq] at h1
    subst h1
    rw [List.flatMap_cons, Nat.zero_mul, Nat.zero_add, List.getElem?_append_left (List.getElem?_eq_some_iff.mp h2).1]
    exact h2
  | a :: l, hN, i + 1, j, x, y, h1, h2 => by
    simp only [List.getElem?_cons_succ] at h1
    have ha := hN a List.mem_cons_self
    rw [List.flatMap_cons, List.getElem?_append_right (by rw [ha, Nat.succ_mul]; omega), ha, show (i + 1) * N + j - N = i * N + j by rw [Nat.succ_mul]; omega]
    exact flat_at f N l (fun z hz => hN z (List.mem_cons_of_mem _ hz)) i j x y h1 h2
theorem keysL_at {ls : List Nat} {m s i j c : Nat} {r : List Nat} (h1 : ls[i]? = some c) (h2 : (rowsL m s)[j]? = some r) : (keysL ls m s)[i * m ^ s + j]? = some (c, r) :=
  flat_at _ (m ^ s) ls (fun x _ => by rw [List.length_map, rowsL_len]) i j c (c, r) h1 (by rw [List.getElem?_map, h2]; rfl)
theorem Jd.Ok.tab_at {J : Jd} (ok : J.Ok) {i j c : Nat} {r : List Nat} (h1 : J.ls[i]? = some c) (h2 : (rowsL J.m J.st)[j]? = some r) : ∃ v, J.tb[i * J.m ^ J.st + j]? = some v ∧ ((c, r), v) ∈ J.tab := by
  have hk := keysL_at h1 h2
  have hlt : i * J.m ^ J.st + j < J.tb.length := by
    rw [← ok.klen]
    exact (List.getElem?_eq_some_iff.mp hk).1
  refine ⟨J.tb[i * J.m ^ J.st + j], List.getElem?_eq_getElem hlt, List.mem_of_getElem? (i := i * J.m ^ J.st + j) ?_⟩
  rw [Jd.tab, List.getElem?_zip_eq_some]
  exact ⟨hk, List.getElem?_eq_getElem hlt⟩
theorem Jd.Ok.pow {J : Jd} (ok : J.Ok) : ∀ i, i ≤ J.st → J.m ^ i ≤ 600 := by
  intro i hi
  have h1 : J.m ^ i ≤ J.m ^ J.st := Nat.pow_le_pow_right (by have := ok.turn1; rw [Jd.m]; omega) hi
  have h2 : 1 ≤ J.ls.length := by
    have := ok.ls1
    cases h : J.ls with
    | nil => exact absurd h this
    | cons => simp
  have h3 := ok.tbl
  have h4 := ok.size
  have h5 : J.m ^ J.st ≤ J.ls.length * J.m ^ J.st := Nat.le_mul_of_pos_left _ h2
  omega
theorem Jd.Ok.ls26 {J : Jd} (ok : J.Ok) : J.ls.length ≤ 600 := by
  have h3 := ok.tbl
  have h4 := ok.size
  have h0 := ok.turn1
  have h1 : 1 ≤ J.m ^ J.st := Nat.pow_pos (by rw [Jd.m]; omega)
  have h5 : J.ls.length ≤ J.ls.length * J.m ^ J.st := Nat.le_mul_of_pos_right _ h1
  omega
theorem words_sum {J : Jd} (ok : J.Ok) : (J.words.map (·.length)).sum + J.words.length * (txS [32]).length ≤ 16777216 := by
  have h1 := ok.ls26
  have h2 := ok.size
  have h3 := goodL_len J.gd
  have h4 := ok.gd6
  simp only [Jd.words, List.map_cons, List.map_nil, List.sum_cons, List.sum_nil, List.length_cons, List.length_nil, goodW_eq, txS_len, List.length_map]
  omega
theorem take_next {α : Type} (l : List α) (i N : Nat) : l.take (i * N) ++ (l.drop (i * N)).take N = l.take ((i + 1) * N) := by
  rw [Nat.succ_mul, List.take_add]
section
variable {P : Program} {w : World} {K : PySem.W.Frag} {mg : Str → Option Value} {base : Heap}
abbrev s_written_good : Stmt := top 82
theorem sc_written_good : FnScope ["good", "one"] ["good"] (defScope s_written_good) := ⟨rfl, rfl, rfl, by decide +kernel, rfl, by decide +kernel, by decide +kernel⟩
abbrev s_show_judge : Stmt := top 83
theorem sc_show_judge : FnScope ["judge", "letters", "states", "few", "turn", "table", "good", "told", "letter", "row"] ["judge"] (defScope s_show_judge) := ⟨rfl, rfl, rfl, by decide +kernel, rfl, by decide +kernel, by decide +kernel⟩
abbrev s__law_shown : Stmt := top 105
theorem sc__law_shown : FnScope ["judge", "letters", "states", "few", "turn", "table", "good", "told", "letter", "row", "some", "state"] ["judge"] (defScope s__law_shown) := ⟨rfl, rfl, rfl, by decide +kernel, rfl, by decide +kernel, by decide +kernel⟩
abbrev s_figure_of : Stmt := top 84
theorem sc_figure_of : FnScope ["word"] ["word"] (defScope s_figure_of) := ⟨rfl, rfl, rfl, by decide +kernel, rfl, by decide +kernel, by decide +kernel⟩
abbrev s_read_good : Stmt := top 85
theorem sc_read_good : FnScope ["word", "one"] ["word"] (defScope s_read_good) := ⟨rfl, rfl, rfl, by decide +kernel, rfl, by decide +kernel, by decide +kernel⟩
abbrev s_read_judge : Stmt := top 86
theorem sc_read_judge : FnScope ["text", "letters", "states", "few", "turn", "good", "told", "numbers", "many", "keys", "letter", "row", "table", "sign", "judge"] ["text"] (defScope s_read_judge) := ⟨rfl, rfl, rfl, by decide +kernel, rfl, by decide +kernel, by decide +kernel⟩

def sp_written_good : Sp := fun vs H Q _ => ∃ (g : Addr) (l : List Nat), vs = [.ref g] ∧ H g = some (.lst (l.map fun n => V.int (n : Nat))) ∧ l.length ≤ 3000 ∧ (∀ n ∈ l, n ≤ 9) ∧ ∀ H', Same H H' → Q (.str (goodW l)) H'
theorem ok_written_good (D : Df K mg "written_good" s_written_good ["good"]) (T : Txt K mg) : G' P w K mg base "written_good" 1 ["good"] sp_written_good := by
  refine D.ok fun f fd F => F.okX sc_written_good (fun vs H Q E h => ?_) (fun cdv A outer s H vs Q E hr h => ?_)
  · obtain ⟨g, l, rfl, _⟩ := h
    rfl
  · obtain ⟨g, l, rfl, hg, hl, h9, k⟩ := h
    refine ⟨_, (pss_cons (ps_if (pt_cmp (pc_eqNilK K hr (pv 0))) (pss_one (ps_ret pe_str)) pss_nil)
  (pss_one (ps_ret (pe_join pe_str (pe_lc (own := [("one", 1)]) rfl sc_written_good.nd (pi_listK K (pv 0)) (blkOk_by (own := [("one", 1)]) (N := ["good", "one"]) (sc := defScope s_written_good) (by decide +kernel)) (fun _ _ _ _ _ => (pg_name (i := 1) sc_written_good.nd rfl (by first | exact Or.inl rfl | exact Or.inr rfl))) (fun _ _ _ _ _ => pts_nil) (fun _ _ _ _ _ => (pe_callTy call_str_int (by rfl) T.n_str (by decide +kernel) (pa_cons (pv 1) pa_nil)))))))), ?_⟩
    walk_at "rd"
    have e0 : PySem.Str.ofString "-" = txS [45] := by decide +kernel
    have e1 : PySem.Str.ofString "," = txS [44] := by decide +kernel
    by_cases h0 : l = []
    · subst h0
      walk_at "rd"
      rw [e0]
      exact k _ (Same.refl _)
    · refine iteC (by rw [List.isEmpty_map]; cases l with | nil => exact absurd rfl h0 | cons => rfl) ?_
      walk_at "rd"
      refine ⟨⟨_, SqL.of hg⟩, fun D nD => lc_it walk_list (PvM H D fun i => .str (txS [dig ((l[i]?).getD 0)])) (PvM.start nD) (fun i H' _ p => SqL.of (p.S _ _ hg)) ?_ ?_⟩
      · rintro i x H1 H2 hi p ⟨rfl, hx⟩
        rw [List.length_map] at hi
        rw [List.getElem?_map, List.getElem?_eq_getElem hi] at hx
        cases hx
        have h9' := h9 _ (List.getElem_mem hi)
        walk_at "rd"
        refine ⟨?_, ?_⟩
        · rw [Int.natAbs_natCast]
          exact Nat.lt_of_le_of_lt (Nat.log2_le_self _) (by omega)
        rw [str_dig _ h9']
        exact p.push (Same.refl _) nD (big_of (Nat.le_trans (Nat.le_of_lt hi) hl) (by decide)) (by rw [List.getElem?_eq_getElem hi]; rfl)
      · rintro H1 ⟨S1, hD⟩
        rw [List.length_map, map_range l _ (fun n => V.str (txS [dig n])) (fun i x hx => by rw [hx]; rfl)] at hD
        walk_at "rd"
        refine ⟨_, D, l.map fun n => txS [dig n], rfl, rfl, .inl (SqL.of (by rw [List.map_map]; exact hD)), ?_, ?_⟩
        · rw [List.length_map, List.map_map]
          have := sum_ones ((fun x : Str => x.length) ∘ fun n => txS [dig n]) 1 l (fun x _ => by show (txS [dig x]).length ≤ 1; rw [txS_len]; exact Nat.le_refl _)
          rw [e1, txS_len]
          show _ + l.length * 1 ≤ _
          omega
        · rw [e1]
          have := k _ S1
          rw [goodW, if_neg h0] at this
          exact this
def sp_show_judge (w : World) : Sp := fun vs H Q _ => ∃ (J : Jd) (a d g : Addr) (es : List NE), vs = [.ref a] ∧ JAt w H J a d g es ∧ TabP es J ∧ J.Ok ∧ ∀ H', Same H H' → Q (.str J.text) H'
theorem ok_show_judge (D : Df K mg "show_judge" s_show_judge ["judge"]) (T : Txt K mg) (G_class_rows : G' P w K mg base "class_rows" 1 ["states", "classes"] sp_class_rows) (G_written_good : G' P w K mg base "written_good" 1 ["good"] sp_written_good) : G' P w K mg base "show_judge" 2 ["judge"] (sp_show_judge w) := by
  refine D.ok fun f fd F => F.okX sc_show_judge (fun vs H Q E h => ?_) (fun cdv A outer s H vs Q E hr h => ?_)
  · obtain ⟨J, a, d, g, es, rfl, _⟩ := h
    rfl
  · obtain ⟨J, a, d, g, es, rfl, hj, htab, ok, k⟩ := h
    have htup := hj.tup
    refine ⟨_, (pss_cons (ps_asg (pv 0) (pg_tup (by rfl) (pgs_cons (pg_name (i := 1) sc_show_judge.nd rfl (by first | exact Or.inl rfl | exact Or.inr rfl)) (pgs_cons (pg_name (i := 2) sc_show_judge.nd rfl (by first | exact Or.inl rfl | exact Or.inr rfl)) (pgs_cons (pg_name (i := 3) sc_show_judge.nd rfl (by first | exact Or.inl rfl | exact Or.inr rfl)) (pgs_cons (pg_name (i := 4) sc_show_judge.nd rfl (by first | exact Or.inl rfl | exact Or.inr rfl)) (pgs_cons (pg_name (i := 5) sc_show_judge.nd rfl (by first | exact Or.inl rfl | exact Or.inr rfl)) (pgs_cons (pg_name (i := 6) sc_show_judge.nd rfl (by first | exact Or.inl rfl | exact Or.inr rfl)) pgs_nil))))))))
  (pss_cons (ps_set (i := 7) sc_show_judge.nd rfl (by first | exact Or.inl rfl | exact Or.inr rfl) pe_str)
  (pss_cons (ps_for (passes_of rfl) rfl (pi_str (pv 1)) (pg_name (i := 8) sc_show_judge.nd rfl (by first | exact Or.inl rfl | exact Or.inr rfl)) (pss_one (ps_set (i := 7) sc_show_judge.nd rfl (by first | exact Or.inl rfl | exact Or.inr rfl) (pe_op op_add_str (pv 7) (pe_join pe_str (pe_lc (own := [("row", 9)]) rfl sc_show_judge.nd (pi_listK K (pe_cl G_class_rows (hr.mono (by omega)) passF (pa_cons (pv 2) (pa_cons (pe_op op_add (pv 3) (pv 4)) pa_nil)))) (blkOk_by (own := [("row", 9)]) (N := ["judge", "letters", "states", "few", "turn", "table", "good", "told", "letter", "row"]) (sc := defScope s_show_judge) (by decide +kernel)) (fun _ _ _ _ _ => (pg_name (i := 9) sc_show_judge.nd rfl (by first | exact Or.inl rfl | exact Or.inr rfl))) (fun _ _ _ _ _ => pts_nil) (fun _ _ _ _ _ => (pe_callTy call_str_int (by rfl) T.n_str (by decide +kernel) (pa_cons (pe_nget w hr (pv 5) (pe_tup (pa_cons (pv 8) (pa_cons (pv 9) pa_nil)))) pa_nil)))))))))
  (pss_one (ps_ret (pe_join pe_str (pe_lst (pa_cons (pv 1) (pa_cons (pe_callTy call_str_int (by rfl) T.n_str (by decide +kernel) (pa_cons (pv 2) pa_nil)) (pa_cons (pe_callTy call_str_int (by rfl) T.n_str (by decide +kernel) (pa_cons (pv 3) pa_nil)) (pa_cons (pe_callTy call_str_int (by rfl) T.n_str (by decide +kernel) (pa_cons (pv 4) pa_nil)) (pa_cons (pe_cl G_written_good (hr.mono (by omega)) passF (pa_cons (pv 6) pa_nil)) (pa_cons (pv 7) pa_nil))))))))))))), ?_⟩
    have e00 : PySem.Str.ofString "" = txS [] := by decide +kernel
    have hlen := ok.ls26
    have htl := ok.tbl
    have hts := ok.size
    have hst6 := ok.st6
    have hm8 : J.m ≤ 8 := by rw [Jd.m]; have := ok.few4; have := ok.turn4; omega
    walk_at "rd"
    rw [e00]
    have hat : ∀ i : Nat, (txS J.ls).cps[i]? = J.ls[i]? := fun i => by show J.ls.toArray[i]? = _; simp
    refine for_it walk_str (fun i σ H' => ∃ x8 : Option V, σ = [some (.ref a), some (tx J.ls), some (.int (J.st : Nat)), some (.int (J.few : Nat)), some (.int (J.turn : Nat)), some (.ref d), some (.ref g), some (tx ((J.tb.take (i * J.m ^ J.st)).map dig)), x8, none] ∧ Same H H')
      ⟨none, by rw [Nat.zero_mul]; rfl, Same.refl _⟩ (fun _ _ _ _ _ => trivial) ?_ ?_
    · rintro i x σ H1 H2 hi ⟨x8, rfl, S1⟩ ⟨rfl, c, hc, rfl⟩
      rw [hat] at hc
      have hil : i < J.ls.length := (List.getElem?_eq_some_iff.mp hc).1
      walk_at "rd"
      refine ⟨J.st, J.m, by rw [Jd.m]; rfl, by omega, by omega, fun q hq => Nat.le_trans (ok.pow q hq) (by decide), fun H3 p ws S3 np hp hrows => ?_⟩
      have S13 := S1.trans S3
      have hj3 := hj.same S13
      have hwl : ws.length = J.m ^ J.st := by rw [Paired.length hrows, rowsL_len]
      walk_at "rd"
      refine ⟨⟨_, SqL.of hp⟩, fun D nD => lc_it walk_list (PvM H3 D fun q => .str (txS [dig ((J.tb[i * J.m ^ J.st + q]?).getD 0)])) (PvM.start nD) (fun q H' _ p' => SqL.of (p'.S _ _ hp)) ?_ ?_⟩
      · rintro q x H4 H5 hq p' ⟨rfl, hx⟩
        obtain ⟨r, hr1, hr2⟩ := paired_get hrows hx
        obtain ⟨v, hv1, hv2⟩ := ok.tab_at hc hr1
        have hv9 : v ≤ 9 := by
          have := ok.tbv v (List.mem_of_getElem? hv1)
          omega
        have hat2 := htab.at ok hv2
        obtain ⟨b, rfl, hb⟩ := row_of hr2
        walk_at "rd"
        refine ⟨(by walk_at "sz"), fun t nt => ?_⟩
        generalize et : upd H5 t _ = H6
        obtain ⟨S5, ht⟩ := newF nt et
        have hj5 := hj3.same (p'.S.trans S5)
        have hr5 : NKv H6 (kR r) (.ref b) := hr2.stay fun _ _ h => S5 _ _ (p'.S _ _ h)
        refine ⟨_, _, _, _, _, rfl, rfl, hj5.dic, keyJ_mk ht hr5, by rw [kJ_depth]; decide, hat2, ?_⟩
        walk_at "rd"
        refine ⟨?_, ?_⟩
        · rw [Int.natAbs_natCast]
          exact Nat.lt_of_le_of_lt (Nat.log2_le_self _) (by omega)
        rw [str_dig _ hv9]
        exact p'.push S5 nD (big_of (show q ≤ 600 by have := ok.pow J.st (Nat.le_refl _); omega) (by decide)) (by rw [hv1]; rfl)
      · rintro H4 ⟨S4, hD⟩
        have hm600 := ok.pow J.st (Nat.le_refl _)
        have hsl : ((J.tb.drop (i * J.m ^ J.st)).take (J.m ^ J.st)).length = ws.length := by
          rw [List.length_take, List.length_drop, hwl, htl]
          have : i * J.m ^ J.st + J.m ^ J.st ≤ J.ls.length * J.m ^ J.st := by
            have := Nat.mul_le_mul_right (J.m ^ J.st) hil
            rw [Nat.succ_mul] at this
            exact this
          omega
        rw [← hsl, map_range _ _ (fun n => V.str (txS [dig n])) (fun q x hx => by
          rw [List.getElem?_take] at hx
          split at hx
          · rw [List.getElem?_drop] at hx
            rw [hx]
            rfl
          · cases hx)] at hD
        walk_at "rd"
        refine ⟨_, D, ((J.tb.drop (i * J.m ^ J.st)).take (J.m ^ J.st)).map fun n => txS [dig n], rfl, rfl, .inl (SqL.of (by rw [List.map_map]; exact hD)), ?_, ?_⟩
        · rw [List.length_map, List.map_map]
          have := sum_ones ((fun x : Str => x.length) ∘ fun n => txS [dig n]) 1 ((J.tb.drop (i * J.m ^ J.st)).take (J.m ^ J.st)) (fun x _ => by show (txS [dig x]).length ≤ 1; rw [txS_len]; exact Nat.le_refl _)
          rw [txS_len]
          rw [hsl] at this ⊢
          show _ + ws.length * 0 ≤ _
          omega
        rw [join_ones]
        walk_at "rd"
        refine ⟨?_, ?_⟩
        · show (txS _).length + (txS _).length ≤ _
          rw [txS_len, txS_len, List.length_map, List.length_map, List.length_take, List.length_take]
          exact Nat.le_trans (show _ ≤ 1200 by omega) (by decide)
        have e : V.str (txS ((J.tb.take (i * J.m ^ J.st)).map dig) ++ txS (((J.tb.drop (i * J.m ^ J.st)).take (J.m ^ J.st)).map dig)) = tx ((J.tb.take ((i + 1) * J.m ^ J.st)).map dig) := by
          rw [txS_app, ← List.map_append, take_next]
        refine ⟨some (.str ⟨#[c]⟩), ?_, S13.trans S4⟩
        rw [← e]
        rfl
    · rintro σ H1 ⟨x8, rfl, S1⟩
      have hj1 := hj.same S1
      have hcs : (txS J.ls).cps.size = J.ls.length := by simp
      rw [hcs, ← htl, List.take_length]
      have := ok.few4
      have := ok.turn4
      walk_at "rd"
      refine ⟨log_small (by omega), ?_⟩
      rw [str_dig _ (by omega)]
      walk_at "rd"
      refine ⟨log_small (by omega), ?_⟩
      rw [str_dig _ (by omega)]
      walk_at "rd"
      refine ⟨log_small (by omega), ?_⟩
      rw [str_dig _ (by omega)]
      walk_at "rd"
      refine ⟨g, J.gd, rfl, hj1.lst, ?_, fun n hn => by have := ok.gdv n hn; omega, fun H2 S2 => ?_⟩
      · have := ok.gd6
        omega
      walk_at "rd"
      refine ⟨(by show 6 ≤ sizeLine; decide), fun p np => ?_⟩
      generalize ep : upd H2 p _ = H3
      obtain ⟨S3, hp⟩ := newF np ep
      have e32 : PySem.Str.ofString " " = txS [32] := by decide +kernel
      rw [e32]
      refine ⟨txS [32], p, J.words, rfl, rfl, .inl (SqL.of hp), words_sum ok, ?_⟩
      exact k _ ((S1.trans S2).trans S3)
end
end Hy
set_option Elab.async false
set_option linter.all false
set_option maxRecDepth 100000
set_option maxHeartbeats 4000000
namespace Hy
open PySem L2
local macro_rules | `(tactic| walk_at "hp") => `(tactic| first
  | assumption | exact upd_same
  | (refine (upd_ne ?_).trans ?_ <;> first | assumption | (exact Ne.symm (by assumption)) | walk_at "ne" | walk_at "hp")
  | (refine (by assumption : Same _ _) _ _ ?_; assumption))
local macro_rules | `(tactic| walk_at "ne") => `(tactic| first
  | assumption | (exact Ne.symm (by assumption))
  | exact ne_of_none (by assumption) (by assumption) | exact Ne.symm (ne_of_none (by assumption) (by assumption)))
local macro_rules | `(tactic| walk_at "sz") => `(tactic| first | assumption | (show 0 ≤ sizeLine; decide) | (show 1 ≤ sizeLine; decide) | (show 2 ≤ sizeLine; decide) | (show 3 ≤ sizeLine; decide))
local macro_rules | `(tactic| walk_at "ar") => `(tactic| first
  | ((with_reducible show (0 : Int) < _); first | decide | omega)
  | ((with_reducible show CMul _ _); first | exact Or.inr (And.intro (by decide) (by decide)) | exact Or.inl (And.intro (by decide) (by decide)) | (refine Or.inl (And.intro ?_ ?_) <;> omega) | (refine Or.inr (And.intro ?_ ?_) <;> omega))
  | ((with_reducible show CPow _ _); exact And.intro (by decide) (And.intro (by decide) (by decide)))
  | ((with_reducible show CDiv _ _); first | exact And.intro (by decide) (by decide) | (refine And.intro ?_ ?_ <;> omega)))
/- one step of a reading -/
local macro_rules | `(tactic| walk_at "r1") => `(tactic| first
  | refine ⟨_, rfl, ?_⟩
  | refine iteB (by rfl) ?_ | refine iteC (by rfl) ?_
  | refine ⟨_, _, rfl, rfl, ?_⟩
  | refine ⟨rfl, ?_⟩
  | refine ⟨⟨_, rfl⟩, ?_⟩
  | refine ⟨_, _, _, _, true, rfl, .ty _, .base (.str _), kit_ty (by decide +kernel), ?_⟩
  | refine ⟨_, _, _, _, false, rfl, .ty _, .base (.str _), kit_ty (by decide +kernel), ?_⟩
  | refine ⟨_, _, _, _, true, rfl, .ty _, .base (.int _), kit_ty (by decide +kernel), ?_⟩
  | refine ⟨_, _, _, _, false, rfl, .ty _, .base (.int _), kit_ty (by decide +kernel), ?_⟩
  | refine ⟨_, _, _, _, true, rfl, .ty _, .base (.tup (by walk_at "hp")), kit_ty (by decide +kernel), ?_⟩
  | refine ⟨_, _, _, _, false, rfl, .ty _, .base (.tup (by walk_at "hp")), kit_ty (by decide +kernel), ?_⟩
  | refine ⟨_, _, _, _, true, rfl, .ty _, .base (.lst (by walk_at "hp")), kit_ty (by decide +kernel), ?_⟩
  | refine ⟨_, _, _, _, false, rfl, .ty _, .base (.lst (by walk_at "hp")), kit_ty (by decide +kernel), ?_⟩
  | refine ⟨_, _, rfl, ⟨by walk_at "sz", rfl⟩, ?_⟩
  | refine ⟨_, _, _, _, rfl, rfl, SqT.of (by walk_at "hp"), by rfl, ?_⟩
  | refine ⟨_, _, _, _, rfl, rfl, SqL.of (by walk_at "hp"), by rfl, ?_⟩
  | refine ⟨.inl ⟨rfl, _, SqL.of (by walk_at "hp")⟩, ?_⟩
  | refine ⟨_, _, _, rfl, rfl, (by walk_at "hp"), snoc_get, ?_⟩
  | refine ⟨_, _, _, _, rfl, rfl, (by walk_at "hp"), by rfl, ?_⟩
  | refine ⟨_, _, rfl, SqL.of (by walk_at "hp"), ?_⟩
  | refine ⟨_, _, rfl, SqT.of (by walk_at "hp"), by rfl, ?_⟩
  | refine ⟨_, (_ : List V), rfl, ?_⟩
  | refine ⟨_, _, rfl, .inl ⟨_, (by assumption), rfl⟩, ?_⟩
  | refine ⟨_, _, rfl, .inl ⟨_, SqL.of (by walk_at "hp"), rfl⟩, ?_⟩
  | refine ⟨_, _, rfl, .inr ⟨_, SqT.of (by walk_at "hp"), rfl⟩, ?_⟩
  | refine Or.inl ⟨(_ : Int), rfl, ?_⟩ | refine Or.inr ⟨(_ : Bool), rfl, ?_⟩
  | refine ⟨_, _, _, _, true, rfl, (by assumption : ND _ _ _ _), .ty _, kit_ty (by decide +kernel), ?_⟩
  | refine ⟨_, _, _, _, false, rfl, (by assumption : ND _ _ _ _), .ty _, kit_ty (by decide +kernel), ?_⟩
  | refine ⟨_, _, rfl, (by assumption : ND _ _ _ _), ?_⟩
  | refine And.intro (by walk_at "ar") ?_)
local macro_rules | `(tactic| walk_at "rd") => `(tactic| repeat walk_at "r1")

section
variable {P : Program} {w : World} {K : PySem.W.Frag} {mg : Str → Option Value} {base : Heap}
def sp__law_shown (w : World) : Sp := fun vs H Q _ => ∃ (J : Jd) (a d g : Addr) (es : List NE), vs = [.ref a] ∧ JAt w H J a d g es ∧ TabP es J ∧ J.Ok ∧ ∀ H', Same H H' → Q (.str J.text) H'
theorem ok__law_shown (D : Df K mg "_law_shown" s__law_shown ["judge"]) (T : Txt K mg) (G__law_classes : G' P w K mg base "_law_classes" 1 ["many", "states"] sp__law_classes) : G' P w K mg base "_law_shown" 2 ["judge"] (sp__law_shown w) := by
  refine D.ok fun f fd F => F.okX sc__law_shown (fun vs H Q E h => ?_) (fun cdv A outer s H vs Q E hr h => ?_)
  · obtain ⟨J, a, d, g, es, rfl, _⟩ := h
    rfl
  · obtain ⟨J, a, d, g, es, rfl, hj, htab, ok, k⟩ := h
    have htup := hj.tup
    refine ⟨_, (pss_cons (ps_asg (pv 0) (pg_tup (by rfl) (pgs_cons (pg_name (i := 1) sc__law_shown.nd rfl (by first | exact Or.inl rfl | exact Or.inr rfl)) (pgs_cons (pg_name (i := 2) sc__law_shown.nd rfl (by first | exact Or.inl rfl | exact Or.inr rfl)) (pgs_cons (pg_name (i := 3) sc__law_shown.nd rfl (by first | exact Or.inl rfl | exact Or.inr rfl)) (pgs_cons (pg_name (i := 4) sc__law_shown.nd rfl (by first | exact Or.inl rfl | exact Or.inr rfl)) (pgs_cons (pg_name (i := 5) sc__law_shown.nd rfl (by first | exact Or.inl rfl | exact Or.inr rfl)) (pgs_cons (pg_name (i := 6) sc__law_shown.nd rfl (by first | exact Or.inl rfl | exact Or.inr rfl)) pgs_nil))))))))
  (pss_cons (ps_set (i := 7) sc__law_shown.nd rfl (by first | exact Or.inl rfl | exact Or.inr rfl) pe_str)
  (pss_cons (ps_for (passes_of rfl) rfl (pi_str (pv 1)) (pg_name (i := 8) sc__law_shown.nd rfl (by first | exact Or.inl rfl | exact Or.inr rfl)) (pss_one (ps_set (i := 7) sc__law_shown.nd rfl (by first | exact Or.inl rfl | exact Or.inr rfl) (pe_op op_add_str (pv 7) (pe_join pe_str (pe_lc (own := [("row", 9)]) rfl sc__law_shown.nd (pi_listK K (pe_cl G__law_classes (hr.mono (by omega)) passF (pa_cons (pe_op op_add (pv 3) (pv 4)) (pa_cons (pv 2) pa_nil)))) (blkOk_by (own := [("row", 9)]) (N := ["judge", "letters", "states", "few", "turn", "table", "good", "told", "letter", "row", "some", "state"]) (sc := defScope s__law_shown) (by decide +kernel)) (fun _ _ _ _ _ => (pg_name (i := 9) sc__law_shown.nd rfl (by first | exact Or.inl rfl | exact Or.inr rfl))) (fun _ _ _ _ _ => pts_nil) (fun _ _ _ _ _ => (pe_callTy call_str_int (by rfl) T.n_str (by decide +kernel) (pa_cons (pe_nget w hr (pv 5) (pe_tup (pa_cons (pv 8) (pa_cons (pv 9) pa_nil)))) pa_nil)))))))))
  (pss_cons (ps_set (i := 10) sc__law_shown.nd rfl (by first | exact Or.inl rfl | exact Or.inr rfl) (pe_ix (ix_listK K) (pe_lst (pa_cons (pe_lst (pa_cons pe_str pa_nil)) (pa_cons (pe_lst (pa_cons (pe_join pe_str (pe_lc (own := [("state", 11)]) rfl sc__law_shown.nd (pi_listK K (pv 6)) (blkOk_by (own := [("state", 11)]) (N := ["judge", "letters", "states", "few", "turn", "table", "good", "told", "letter", "row", "some", "state"]) (sc := defScope s__law_shown) (by decide +kernel)) (fun _ _ _ _ _ => (pg_name (i := 11) sc__law_shown.nd rfl (by first | exact Or.inl rfl | exact Or.inr rfl))) (fun _ _ _ _ _ => pts_nil) (fun _ _ _ _ _ => (pe_callTy call_str_int (by rfl) T.n_str (by decide +kernel) (pa_cons (pv 11) pa_nil))))) pa_nil)) pa_nil))) (pe_callTy call_int1 (by rfl) T.n_int (by decide +kernel) (pa_cons (pe_cmp (pc_neNilK K hr (pv 6))) pa_nil)) (fun _ _ => rfl)))
  (pss_one (ps_ret (pe_join pe_str (pe_lst (pa_cons (pv 1) (pa_cons (pe_callTy call_str_int (by rfl) T.n_str (by decide +kernel) (pa_cons (pv 2) pa_nil)) (pa_cons (pe_callTy call_str_int (by rfl) T.n_str (by decide +kernel) (pa_cons (pv 3) pa_nil)) (pa_cons (pe_callTy call_str_int (by rfl) T.n_str (by decide +kernel) (pa_cons (pv 4) pa_nil)) (pa_cons (pe_ix (ix_listK K) (pv 10) pe_int (fun _ _ => rfl)) (pa_cons (pv 7) pa_nil)))))))))))))), ?_⟩
    have e00 : PySem.Str.ofString "" = txS [] := by decide +kernel
    have hlen := ok.ls26
    have htl := ok.tbl
    have hts := ok.size
    have hst6 := ok.st6
    have hm8 : J.m ≤ 8 := by rw [Jd.m]; have := ok.few4; have := ok.turn4; omega
    walk_at "rd"
    rw [e00]
    have hat : ∀ i : Nat, (txS J.ls).cps[i]? = J.ls[i]? := fun i => by show J.ls.toArray[i]? = _; simp
    refine for_it walk_str (fun i σ H' => ∃ x8 : Option V, σ = [some (.ref a), some (tx J.ls), some (.int (J.st : Nat)), some (.int (J.few : Nat)), some (.int (J.turn : Nat)), some (.ref d), some (.ref g), some (tx ((J.tb.take (i * J.m ^ J.st)).map dig)), x8, none, none, none] ∧ Same H H')
      ⟨none, by rw [Nat.zero_mul]; rfl, Same.refl _⟩ (fun _ _ _ _ _ => trivial) ?_ ?_
    · rintro i x σ H1 H2 hi ⟨x8, rfl, S1⟩ ⟨rfl, c, hc, rfl⟩
      rw [hat] at hc
      have hil : i < J.ls.length := (List.getElem?_eq_some_iff.mp hc).1
      walk_at "rd"
      refine ⟨J.st, J.m, by rw [Jd.m]; rfl, by omega, by omega, fun q hq => Nat.le_trans (ok.pow q hq) (by decide), fun H3 p ws S3 np hp hrows => ?_⟩
      have S13 := S1.trans S3
      have hj3 := hj.same S13
      have hwl : ws.length = J.m ^ J.st := by rw [Paired.length hrows, rowsL_len]
      walk_at "rd"
      refine ⟨⟨_, SqL.of hp⟩, fun D nD => lc_it walk_list (PvM H3 D fun q => .str (txS [dig ((J.tb[i * J.m ^ J.st + q]?).getD 0)])) (PvM.start nD) (fun q H' _ p' => SqL.of (p'.S _ _ hp)) ?_ ?_⟩
      · rintro q x H4 H5 hq p' ⟨rfl, hx⟩
        obtain ⟨r, hr1, hr2⟩ := paired_get hrows hx
        obtain ⟨v, hv1, hv2⟩ := ok.tab_at hc hr1
        have hv9 : v ≤ 9 := by
          have := ok.tbv v (List.mem_of_getElem? hv1)
          omega
        have hat2 := htab.at ok hv2
        obtain ⟨b, rfl, hb⟩ := row_of hr2
        walk_at "rd"
        refine ⟨(by walk_at "sz"), fun t nt => ?_⟩
        generalize et : upd H5 t _ = H6
        obtain ⟨S5, ht⟩ := newF nt et
        have hj5 := hj3.same (p'.S.trans S5)
        have hr5 : NKv H6 (kR r) (.ref b) := hr2.stay fun _ _ h => S5 _ _ (p'.S _ _ h)
        refine ⟨_, _, _, _, _, rfl, rfl, hj5.dic, keyJ_mk ht hr5, by rw [kJ_depth]; decide, hat2, ?_⟩
        walk_at "rd"
        refine ⟨?_, ?_⟩
        · rw [Int.natAbs_natCast]
          exact Nat.lt_of_le_of_lt (Nat.log2_le_self _) (by omega)
        rw [str_dig _ hv9]
        exact p'.push S5 nD (big_of (show q ≤ 600 by have := ok.pow J.st (Nat.le_refl _); omega) (by decide)) (by rw [hv1]; rfl)
      · rintro H4 ⟨S4, hD⟩
        have hm600 := ok.pow J.st (Nat.le_refl _)
        have hsl : ((J.tb.drop (i * J.m ^ J.st)).take (J.m ^ J.st)).length = ws.length := by
          rw [List.length_take, List.length_drop, hwl, htl]
          have : i * J.m ^ J.st + J.m ^ J.st ≤ J.ls.length * J.m ^ J.st := by
            have := Nat.mul_le_mul_right (J.m ^ J.st) hil
            rw [Nat.succ_mul] at this
            exact this
          omega
        rw [← hsl, map_range _ _ (fun n => V.str (txS [dig n])) (fun q x hx => by
          rw [List.getElem?_take] at hx
          split at hx
          · rw [List.getElem?_drop] at hx
            rw [hx]
            rfl
          · cases hx)] at hD
        walk_at "rd"
        refine ⟨_, D, ((J.tb.drop (i * J.m ^ J.st)).take (J.m ^ J.st)).map fun n => txS [dig n], rfl, rfl, .inl (SqL.of (by rw [List.map_map]; exact hD)), ?_, ?_⟩
        · rw [List.length_map, List.map_map]
          have := sum_ones ((fun x : Str => x.length) ∘ fun n => txS [dig n]) 1 ((J.tb.drop (i * J.m ^ J.st)).take (J.m ^ J.st)) (fun x _ => by show (txS [dig x]).length ≤ 1; rw [txS_len]; exact Nat.le_refl _)
          rw [txS_len]
          rw [hsl] at this ⊢
          show _ + ws.length * 0 ≤ _
          omega
        rw [join_ones]
        walk_at "rd"
        refine ⟨?_, ?_⟩
        · show (txS _).length + (txS _).length ≤ _
          rw [txS_len, txS_len, List.length_map, List.length_map, List.length_take, List.length_take]
          exact Nat.le_trans (show _ ≤ 1200 by omega) (by decide)
        have e : V.str (txS ((J.tb.take (i * J.m ^ J.st)).map dig) ++ txS (((J.tb.drop (i * J.m ^ J.st)).take (J.m ^ J.st)).map dig)) = tx ((J.tb.take ((i + 1) * J.m ^ J.st)).map dig) := by
          rw [txS_app, ← List.map_append, take_next]
        refine ⟨some (.str ⟨#[c]⟩), ?_, S13.trans S4⟩
        rw [← e]
        rfl
    · rintro σ H1 ⟨x8, rfl, S1⟩
      have hj1 := hj.same S1
      have hcs : (txS J.ls).cps.size = J.ls.length := by simp
      rw [hcs, ← htl, List.take_length]
      have := ok.few4
      have := ok.turn4
      have h9g : ∀ n ∈ J.gd, n ≤ 9 := fun n hn => by have := ok.gdv n hn; omega
      have hgl := ok.gd6
      refine ⟨(by walk_at "sz"), fun p1 n1 => ?_⟩
      generalize e1 : upd H1 p1 _ = H2
      obtain ⟨S2, hp1⟩ := newF n1 e1
      have hj2 := hj1.same S2
      walk_at "rd"
      refine ⟨⟨_, SqL.of hj2.lst⟩, fun D nD => lc_it walk_list (PvM H2 D fun i => .str (txS [dig ((J.gd[i]?).getD 0)])) (PvM.start nD) (fun i H' _ p => SqL.of (p.S _ _ hj2.lst)) ?_ ?_⟩
      · rintro i x H3 H4 hi p ⟨rfl, hx⟩
        rw [List.length_map] at hi
        rw [List.getElem?_map, List.getElem?_eq_getElem hi] at hx
        cases hx
        have h9' := h9g _ (List.getElem_mem hi)
        walk_at "rd"
        refine ⟨log_small h9', ?_⟩
        rw [str_dig _ h9']
        exact p.push (Same.refl _) nD (big_of (show i ≤ 6 by omega) (by decide)) (by rw [List.getElem?_eq_getElem hi]; rfl)
      · rintro H3 ⟨S3, hD⟩
        rw [List.length_map, map_range J.gd _ (fun n => V.str (txS [dig n])) (fun i x hx => by rw [hx]; rfl)] at hD
        have e45 : PySem.Str.ofString "-" = txS [45] := by decide +kernel
        have e44 : PySem.Str.ofString "," = txS [44] := by decide +kernel
        have e32 : PySem.Str.ofString " " = txS [32] := by decide +kernel
        rw [e44]
        rw [e45] at hp1
        walk_at "rd"
        refine ⟨txS [44], D, J.gd.map fun n => txS [dig n], rfl, rfl, .inl (SqL.of (by rw [List.map_map]; exact hD)), ?_, ?_⟩
        · rw [List.length_map, List.map_map]
          have := sum_ones ((fun x : Str => x.length) ∘ fun n => txS [dig n]) 1 J.gd (fun x _ => by show (txS [dig x]).length ≤ 1; rw [txS_len]; exact Nat.le_refl _)
          rw [txS_len]
          show _ + J.gd.length * 1 ≤ _
          omega
        walk_at "rd"
        refine ⟨(by walk_at "sz"), fun p2 n2 => ?_⟩
        generalize e2 : upd H3 p2 _ = H4
        obtain ⟨S4, hp2⟩ := newF n2 e2
        walk_at "rd"
        refine ⟨(by walk_at "sz"), fun p3 n3 => ?_⟩
        generalize e3 : upd H4 p3 _ = H5
        obtain ⟨S5, hp3⟩ := newF n3 e3
        have hj5 := hj2.same ((S3.trans S4).trans S5)
        have hg5 := hj5.lst
        have hp15 := S5 _ _ (S4 _ _ (S3 _ _ hp1))
        have hp25 := S5 _ _ hp2
        walk_at "rd"
        have := ok.few4
        have := ok.turn4
        by_cases h0 : J.gd = []
        · rw [h0]
          walk_at "rd"
          refine ⟨log_small (by omega), ?_⟩
          rw [str_dig _ (by omega)]
          walk_at "rd"
          refine ⟨log_small (by omega), ?_⟩
          rw [str_dig _ (by omega)]
          walk_at "rd"
          refine ⟨log_small (by omega), ?_⟩
          rw [str_dig _ (by omega)]
          walk_at "rd"
          refine ⟨(by show 6 ≤ sizeLine; decide), fun p np => ?_⟩
          generalize ep : upd H5 p _ = H6
          obtain ⟨S6, hp⟩ := newF np ep
          rw [e32]
          have hw := words_sum ok
          refine ⟨txS [32], p, J.words, rfl, rfl, .inl (SqL.of (by rw [hp, Jd.words, goodW, if_pos h0]; rfl)), hw, ?_⟩
          exact k _ (((((S1.trans S2).trans S3).trans S4).trans S5).trans S6)
        · have hne : (J.gd.map fun n => V.int (n : Nat)).isEmpty = false := by
            rw [List.isEmpty_map]
            cases h : J.gd with
            | nil => exact absurd h h0
            | cons => rfl
          rw [hne]
          walk_at "rd"
          refine ⟨log_small (by omega), ?_⟩
          rw [str_dig _ (by omega)]
          walk_at "rd"
          refine ⟨log_small (by omega), ?_⟩
          rw [str_dig _ (by omega)]
          walk_at "rd"
          refine ⟨log_small (by omega), ?_⟩
          rw [str_dig _ (by omega)]
          walk_at "rd"
          refine ⟨(by show 6 ≤ sizeLine; decide), fun p np => ?_⟩
          generalize ep : upd H5 p _ = H6
          obtain ⟨S6, hp⟩ := newF np ep
          rw [e32]
          have hw := words_sum ok
          refine ⟨txS [32], p, J.words, rfl, rfl, .inl (SqL.of (by rw [hp, Jd.words, goodW, if_neg h0]; rfl)), hw, ?_⟩
          exact k _ (((((S1.trans S2).trans S3).trans S4).trans S5).trans S6)
end
end Hy
set_option Elab.async false
set_option linter.all false
set_option maxRecDepth 100000
set_option maxHeartbeats 4000000
namespace Hy
open PySem L2
local macro_rules | `(tactic| walk_at "hp") => `(tactic| first
  | assumption | exact upd_same
  | (refine (upd_ne ?_).trans ?_ <;> first | assumption | (exact Ne.symm (by assumption)) | walk_at "ne" | walk_at "hp")
  | (refine (by assumption : Same _ _) _ _ ?_; assumption))
local macro_rules | `(tactic| walk_at "ne") => `(tactic| first
  | assumption | (exact Ne.symm (by assumption))
  | exact ne_of_none (by assumption) (by assumption) | exact Ne.symm (ne_of_none (by assumption) (by assumption)))
local macro_rules | `(tactic| walk_at "sz") => `(tactic| first | assumption | (show 0 ≤ sizeLine; decide) | (show 1 ≤ sizeLine; decide) | (show 2 ≤ sizeLine; decide) | (show 3 ≤ sizeLine; decide))
local macro_rules | `(tactic| walk_at "ar") => `(tactic| first
  | ((with_reducible show (0 : Int) < _); first | decide | omega)
  | ((with_reducible show CMul _ _); first | exact Or.inr (And.intro (by decide) (by decide)) | exact Or.inl (And.intro (by decide) (by decide)) | (refine Or.inl (And.intro ?_ ?_) <;> omega) | (refine Or.inr (And.intro ?_ ?_) <;> omega))
  | ((with_reducible show CPow _ _); exact And.intro (by decide) (And.intro (by decide) (by decide)))
  | ((with_reducible show CDiv _ _); first | exact And.intro (by decide) (by decide) | (refine And.intro ?_ ?_ <;> omega)))
/- one step of a reading -/
local macro_rules | `(tactic| walk_at "r1") => `(tactic| first
  | refine ⟨_, rfl, ?_⟩
  | refine iteB (by rfl) ?_ | refine iteC (by rfl) ?_
  | refine ⟨_, _, rfl, rfl, ?_⟩
  | refine ⟨rfl, ?_⟩
  | refine ⟨⟨_, rfl⟩, ?_⟩
  | refine ⟨_, _, _, _, true, rfl, .ty _, .base (.str _), kit_ty (by decide +kernel), ?_⟩
  | refine ⟨_, _, _, _, false, rfl, .ty _, .base (.str _), kit_ty (by decide +kernel), ?_⟩
  | refine ⟨_, _, _, _, true, rfl, .ty _, .base (.int _), kit_ty (by decide +kernel), ?_⟩
  | refine ⟨_, _, _, _, false, rfl, .ty _, .base (.int _), kit_ty (by decide +kernel), ?_⟩
  | refine ⟨_, _, _, _, true, rfl, .ty _, .base (.tup (by walk_at "hp")), kit_ty (by decide +kernel), ?_⟩
  | refine ⟨_, _, _, _, false, rfl, .ty _, .base (.tup (by walk_at "hp")), kit_ty (by decide +kernel), ?_⟩
  | refine ⟨_, _, _, _, true, rfl, .ty _, .base (.lst (by walk_at "hp")), kit_ty (by decide +kernel), ?_⟩
  | refine ⟨_, _, _, _, false, rfl, .ty _, .base (.lst (by walk_at "hp")), kit_ty (by decide +kernel), ?_⟩
  | refine ⟨_, _, rfl, ⟨by walk_at "sz", rfl⟩, ?_⟩
  | refine ⟨_, _, _, _, rfl, rfl, SqT.of (by walk_at "hp"), by rfl, ?_⟩
  | refine ⟨_, _, _, _, rfl, rfl, SqL.of (by walk_at "hp"), by rfl, ?_⟩
  | refine ⟨.inl ⟨rfl, _, SqL.of (by walk_at "hp")⟩, ?_⟩
  | refine ⟨_, _, _, rfl, rfl, (by walk_at "hp"), snoc_get, ?_⟩
  | refine ⟨_, _, _, _, rfl, rfl, (by walk_at "hp"), by rfl, ?_⟩
  | refine ⟨_, _, rfl, SqL.of (by walk_at "hp"), ?_⟩
  | refine ⟨_, _, rfl, SqT.of (by walk_at "hp"), by rfl, ?_⟩
  | refine ⟨_, (_ : List V), rfl, ?_⟩
  | refine ⟨_, _, rfl, .inl ⟨_, (by assumption), rfl⟩, ?_⟩
  | refine ⟨_, _, rfl, .inl ⟨_, SqL.of (by walk_at "hp"), rfl⟩, ?_⟩
  | refine ⟨_, _, rfl, .inr ⟨_, SqT.of (by walk_at "hp"), rfl⟩, ?_⟩
  | refine Or.inl ⟨(_ : Int), rfl, ?_⟩ | refine Or.inr ⟨(_ : Bool), rfl, ?_⟩
  | refine ⟨_, _, _, _, true, rfl, (by assumption : ND _ _ _ _), .ty _, kit_ty (by decide +kernel), ?_⟩
  | refine ⟨_, _, _, _, false, rfl, (by assumption : ND _ _ _ _), .ty _, kit_ty (by decide +kernel), ?_⟩
  | refine ⟨_, _, rfl, (by assumption : ND _ _ _ _), ?_⟩
  | refine And.intro (by walk_at "ar") ?_)
local macro_rules | `(tactic| walk_at "rd") => `(tactic| repeat walk_at "r1")

theorem fig_in {c : Nat} : decide (c ∈ (PySem.Str.ofString "0123456789").cps.toList) = decide (48 ≤ c ∧ c ≤ 57) := by
  have e : (PySem.Str.ofString "0123456789").cps.toList = [48, 49, 50, 51, 52, 53, 54, 55, 56, 57] := by decide +kernel
  rw [e, Bool.eq_iff_iff]
  simp only [List.mem_cons, List.not_mem_nil, or_false, decide_eq_true_eq]
  omega
theorem fig_ix : ∀ n : Nat, n ≤ 9 → ∃ rest, Builtin.Str.occurrences (PySem.Str.ofString "0123456789") ⟨#[48 + n]⟩ 0 (PySem.Str.ofString "0123456789").length 1 = n :: rest
  | 0, _ => ⟨[], by decide +kernel⟩
  | 1, _ => ⟨[], by decide +kernel⟩
  | 2, _ => ⟨[], by decide +kernel⟩
  | 3, _ => ⟨[], by decide +kernel⟩
  | 4, _ => ⟨[], by decide +kernel⟩
  | 5, _ => ⟨[], by decide +kernel⟩
  | 6, _ => ⟨[], by decide +kernel⟩
  | 7, _ => ⟨[], by decide +kernel⟩
  | 8, _ => ⟨[], by decide +kernel⟩
  | 9, _ => ⟨[], by decide +kernel⟩
  | n + 10, h => by omega
def figL (l : List Nat) : Option Nat := match l with
  | [c] => if 48 ≤ c ∧ c ≤ 57 then some (c - 48) else none
  | _ => none
theorem figL_dig {n : Nat} (h : n ≤ 9) : figL [dig n] = some n := by
  show (if 48 ≤ 48 + n ∧ 48 + n ≤ 57 then some (48 + n - 48) else none) = some n
  rw [if_pos (by omega), Nat.add_sub_cancel_left]
theorem figL_9 {l : List Nat} {n : Nat} (h : figL l = some n) : n ≤ 9 := by
  unfold figL at h
  split at h
  · split at h
    · cases h
      omega
    · cases h
  · cases h
section
variable {P : Program} {w : World} {K : PySem.W.Frag} {mg : Str → Option Value} {base : Heap}
def sp_figure_of (mg : Str → Option Value) : Sp := fun vs H Q E => ∃ l : List Nat, vs = [tx l] ∧ l.length ≤ 100000 ∧ (∀ n, figL l = some n → Q (.int (n : Nat)) H) ∧ (figL l = none → ∀ x, mg "NoText" = some x → E x none H)
theorem ok_figure_of (D : Df K mg "figure_of" s_figure_of ["word"]) (T : Txt K mg) : G' P w K mg base "figure_of" 1 ["word"] (sp_figure_of mg) := by
  refine D.ok fun f fd F => F.okX sc_figure_of (fun vs H Q E h => ?_) (fun cdv A outer s H vs Q E hr h => ?_)
  · obtain ⟨l, rfl, _⟩ := h
    rfl
  · obtain ⟨l, rfl, hl, k1, k2⟩ := h
    have hz : (txS l).length ≤ sizeLine := by rw [txS_len]; exact Nat.le_of_lt (big_of hl (by decide))
    refine ⟨_, (pss_cons (ps_if (PW.pt (pw_or (pt_cmpR op_ne (pe_callB (call_lenK K) (by rfl) T.n_len PySem.boot_len (pa_cons (pv 0) pa_nil)) pe_int (nomark _)) (pw_or1 (pt_cmpR op_notIn_sign (pv 0) (pe_gv T.g_FIGURES_texts) (by rfl))))) (pss_one (ps_rs T.x_NoText rfl (takes_of rfl rfl rfl rfl))) pss_nil)
  (pss_one (ps_ret (cbm K (pe_bm PySem.F.plainAttrs_str PySem.F.slot_str_index PySem.F.type_str_index mt_sindex (pe_gv T.g_FIGURES_texts) (pa_cons (pv 0) pa_nil)))))), ?_⟩
    walk_at "rd"
    rw [txS_len]
    by_cases h1 : ∃ c, l = [c]
    · obtain ⟨c, rfl⟩ := h1
      walk_at "rd"
      rw [fig_in]
      by_cases h2 : 48 ≤ c ∧ c ≤ 57
      · rw [decide_eq_true h2]
        walk_at "rd"
        obtain ⟨n, hn, rfl⟩ : ∃ n, n ≤ 9 ∧ c = 48 + n := ⟨c - 48, by omega, by omega⟩
        obtain ⟨rest, hrest⟩ := fig_ix n hn
        exact ⟨_, _, n, rest, rfl, rfl, hrest, k1 n (figL_dig hn)⟩
      · rw [decide_eq_false h2]
        walk_at "rd"
        exact fun x hx => k2 (by show (if _ then _ else _) = _; rw [if_neg h2]) x hx
    · have hne : l.length ≠ 1 := fun z => h1 (List.length_eq_one_iff.mp z)
      refine iteB (by simp; omega) ?_
      exact fun x hx => k2 (by
        unfold figL
        split
        · exact absurd ⟨_, rfl⟩ h1
        · rfl) x hx
def ReadsG (l gd : List Nat) : Prop := (l = [45] ∧ gd = []) ∨ (l ≠ [45] ∧ ∃ ps : List (List Nat), Txt.split (txS l) (txS [44]) = ps.map txS ∧ (∀ p ∈ ps, p.length ≤ 3000) ∧ ps.length ≤ 3002 ∧ ps.map figL = gd.map some)
def sp_read_good : Sp := fun vs H Q E => ∃ l gd : List Nat, vs = [tx l] ∧ l.length ≤ 3000 ∧ ReadsG l gd ∧ ∀ (H' : Hp) (p : Addr), Same H H' → H p = none → H' p = some (.lst (gd.map fun n => V.int (n : Nat))) → Q (.ref p) H'
theorem ok_read_good (D : Df K mg "read_good" s_read_good ["word"]) (T : Txt K mg) (G_figure_of : G' P w K mg base "figure_of" 1 ["word"] (sp_figure_of mg)) : G' P w K mg base "read_good" 2 ["word"] sp_read_good := by
  refine D.ok fun f fd F => F.okX sc_read_good (fun vs H Q E h => ?_) (fun cdv A outer s H vs Q E hr h => ?_)
  · obtain ⟨l, gd, rfl, _⟩ := h
    rfl
  · obtain ⟨l, gd, rfl, hl, hg, k⟩ := h
    have e45 : PySem.Str.ofString "-" = txS [45] := by decide +kernel
    have e44 : PySem.Str.ofString "," = txS [44] := by decide +kernel
    refine ⟨_, (pss_cons (ps_if (pt_cmpR op_eq (pv 0) pe_str (nomark _)) (pss_one (ps_ret (pe_lst pa_nil))) pss_nil)
  (pss_one (ps_ret (pe_lc (own := [("one", 1)]) rfl sc_read_good.nd (pi_listK K (pe_split (pv 0) pe_str)) (blkOk_by (own := [("one", 1)]) (N := ["word", "one"]) (sc := defScope s_read_good) (by decide +kernel)) (fun _ _ _ _ _ => (pg_name (i := 1) sc_read_good.nd rfl (by first | exact Or.inl rfl | exact Or.inr rfl))) (fun _ _ _ _ _ => pts_nil) (fun _ _ _ _ _ => (pe_cl G_figure_of (hr.mono (by omega)) passF (pa_cons (pv 1) pa_nil))))))), ?_⟩
    walk_at "rd"
    rw [e45]
    rcases hg with ⟨rfl, rfl⟩ | ⟨hne, ps, hsp, hpl, hpn, hpg⟩
    · walk_at "rd"
      refine ⟨(by walk_at "sz"), fun p np => k _ _ (same_new np) np upd_same⟩
    · refine iteC (decide_eq_false fun z => hne (tx_inj z)) ?_
      walk_at "rd"
      rw [e44]
      refine ⟨by show (txS l).length + 2 ≤ _; rw [txS_len]; exact Nat.le_trans (show _ ≤ 3002 by omega) (by decide), ?_⟩
      have hpl2 : ps.length = gd.length := by
        have := congrArg List.length hpg
        rw [List.length_map, List.length_map] at this
        exact this
      rw [show Txt.split (⟨l.toArray⟩ : Str) (txS [44]) = ps.map txS from hsp]
      refine fun p np => ?_
      generalize e1 : upd H p _ = H1
      obtain ⟨S1, hp⟩ := newF np e1
      rw [List.map_map] at hp
      walk_at "rd"
      refine ⟨⟨_, SqL.of hp⟩, fun D nD => lc_it walk_list (PvM H1 D fun i => .int ((gd[i]?).getD 0 : Nat)) (PvM.start nD) (fun i H' _ p' => SqL.of (p'.S _ _ hp)) ?_ ?_⟩
      · rintro i x H2 H3 hi p' ⟨rfl, hx⟩
        rw [List.length_map] at hi
        rw [List.getElem?_map, List.getElem?_eq_getElem hi] at hx
        cases hx
        have hig : i < gd.length := by omega
        have hf : figL ps[i] = some gd[i] := by
          have h1 : (ps.map figL)[i]? = some (figL ps[i]) := by rw [List.getElem?_map, List.getElem?_eq_getElem hi]; rfl
          rw [hpg, List.getElem?_map, List.getElem?_eq_getElem hig] at h1
          exact (Option.some.inj h1).symm
        walk_at "rd"
        refine ⟨Nat.le_trans (hpl _ (List.getElem_mem hi)) (by decide), fun n hn => ?_, fun hn => by rw [hf] at hn; cases hn⟩
        rw [hf] at hn
        cases hn
        exact p'.push (Same.refl _) nD (big_of (show i ≤ 3002 by omega) (by decide)) (by rw [List.getElem?_eq_getElem hig]; rfl)
      · rintro H2 ⟨S2, hD⟩
        rw [List.length_map, hpl2, map_range gd _ (fun n => V.int (n : Nat)) (fun i x hx => by rw [hx]; rfl)] at hD
        exact k _ _ (S1.trans S2) (S1.free nD) hD
end
end Hy
set_option Elab.async false
set_option linter.all false
set_option maxRecDepth 100000
set_option maxHeartbeats 4000000
namespace Hy
open PySem L2
local macro_rules | `(tactic| walk_at "hp") => `(tactic| first
  | assumption | exact upd_same
  | (refine (upd_ne ?_).trans ?_ <;> first | assumption | (exact Ne.symm (by assumption)) | walk_at "ne" | walk_at "hp")
  | (refine (by assumption : Same _ _) _ _ ?_; assumption))
local macro_rules | `(tactic| walk_at "ne") => `(tactic| first
  | assumption | (exact Ne.symm (by assumption))
  | exact ne_of_none (by assumption) (by assumption) | exact Ne.symm (ne_of_none (by assumption) (by assumption)))
local macro_rules | `(tactic| walk_at "sz") => `(tactic| first | assumption | (show 0 ≤ sizeLine; decide) | (show 1 ≤ sizeLine; decide) | (show 2 ≤ sizeLine; decide) | (show 3 ≤ sizeLine; decide))
local macro_rules | `(tactic| walk_at "ar") => `(tactic| first
  | ((with_reducible show (0 : Int) < _); first | decide | omega)
  | ((with_reducible show CMul _ _); first | exact Or.inr (And.intro (by decide) (by decide)) | exact Or.inl (And.intro (by decide) (by decide)) | (refine Or.inl (And.intro ?_ ?_) <;> omega) | (refine Or.inr (And.intro ?_ ?_) <;> omega))
  | ((with_reducible show CPow _ _); exact And.intro (by decide) (And.intro (by decide) (by decide)))
  | ((with_reducible show CDiv _ _); first | exact And.intro (by decide) (by decide) | (refine And.intro ?_ ?_ <;> omega)))
/- one step of a reading -/
local macro_rules | `(tactic| walk_at "r1") => `(tactic| first
  | refine ⟨_, rfl, ?_⟩
  | refine iteB (by rfl) ?_ | refine iteC (by rfl) ?_
  | refine ⟨_, _, rfl, rfl, ?_⟩
  | refine ⟨rfl, ?_⟩
  | refine ⟨⟨_, rfl⟩, ?_⟩
  | refine ⟨_, _, _, _, true, rfl, .ty _, .base (.str _), kit_ty (by decide +kernel), ?_⟩
  | refine ⟨_, _, _, _, false, rfl, .ty _, .base (.str _), kit_ty (by decide +kernel), ?_⟩
  | refine ⟨_, _, _, _, true, rfl, .ty _, .base (.int _), kit_ty (by decide +kernel), ?_⟩
  | refine ⟨_, _, _, _, false, rfl, .ty _, .base (.int _), kit_ty (by decide +kernel), ?_⟩
  | refine ⟨_, _, _, _, true, rfl, .ty _, .base (.tup (by walk_at "hp")), kit_ty (by decide +kernel), ?_⟩
  | refine ⟨_, _, _, _, false, rfl, .ty _, .base (.tup (by walk_at "hp")), kit_ty (by decide +kernel), ?_⟩
  | refine ⟨_, _, _, _, true, rfl, .ty _, .base (.lst (by walk_at "hp")), kit_ty (by decide +kernel), ?_⟩
  | refine ⟨_, _, _, _, false, rfl, .ty _, .base (.lst (by walk_at "hp")), kit_ty (by decide +kernel), ?_⟩
  | refine ⟨_, _, rfl, ⟨by walk_at "sz", rfl⟩, ?_⟩
  | refine ⟨_, _, _, _, rfl, rfl, SqT.of (by walk_at "hp"), by rfl, ?_⟩
  | refine ⟨_, _, _, _, rfl, rfl, SqL.of (by walk_at "hp"), by rfl, ?_⟩
  | refine ⟨.inl ⟨rfl, _, SqL.of (by walk_at "hp")⟩, ?_⟩
  | refine ⟨_, _, _, rfl, rfl, (by walk_at "hp"), snoc_get, ?_⟩
  | refine ⟨_, _, _, _, rfl, rfl, (by walk_at "hp"), by rfl, ?_⟩
  | refine ⟨_, _, rfl, SqL.of (by walk_at "hp"), ?_⟩
  | refine ⟨_, _, rfl, SqT.of (by walk_at "hp"), by rfl, ?_⟩
  | refine ⟨_, (_ : List V), rfl, ?_⟩
  | refine ⟨_, _, rfl, .inl ⟨_, (by assumption), rfl⟩, ?_⟩
  | refine ⟨_, _, rfl, .inl ⟨_, SqL.of (by walk_at "hp"), rfl⟩, ?_⟩
  | refine ⟨_, _, rfl, .inr ⟨_, SqT.of (by walk_at "hp"), rfl⟩, ?_⟩
  | refine Or.inl ⟨(_ : Int), rfl, ?_⟩ | refine Or.inr ⟨(_ : Bool), rfl, ?_⟩
  | refine ⟨_, _, _, _, true, rfl, (by assumption : ND _ _ _ _), .ty _, kit_ty (by decide +kernel), ?_⟩
  | refine ⟨_, _, _, _, false, rfl, (by assumption : ND _ _ _ _), .ty _, kit_ty (by decide +kernel), ?_⟩
  | refine ⟨_, _, rfl, (by assumption : ND _ _ _ _), ?_⟩
  | refine And.intro (by walk_at "ar") ?_)
local macro_rules | `(tactic| walk_at "rd") => `(tactic| repeat walk_at "r1")

abbrev KeysV (H : Hp) (vs : List V) (ks : List (Nat × List Nat)) : Prop := Paired (fun v k => NKv H (kJ k) v) vs ks
theorem KeysV.stay {H H' : Hp} {vs : List V} {rs : List (Nat × List Nat)} (h : KeysV H vs rs) (ht : ∀ b xs, H b = some (.tup xs) → H' b = some (.tup xs)) : KeysV H' vs rs := Paired.mapP h fun _ _ k => k.stay ht
theorem KeysV.app {H : Hp} {vs ws : List V} {rs qs : List (Nat × List Nat)} (h : KeysV H vs rs) (g : KeysV H ws qs) : KeysV H (vs ++ ws) (rs ++ qs) := by
  induction h with
  | nil => exact g
  | cons a _ ih => exact .cons a ih
/-- entries of such keys and values -/
theorem KeysV.ents {H : Hp} {vs : List V} {ks : List (Nat × List Nat)} (h : KeysV H vs ks) : ∀ tb : List Nat, tb.length = ks.length → ∃ es : List NE, vs = es.map (fun e => .ref e.2.1) ∧ es.map (·.1) = ks.map kJ ∧ es.map (·.2.2) = tb.map (fun n => V.int (n : Nat)) ∧ NKeys H es := by
  induction h with
  | nil =>
    intro tb ht
    have : tb = [] := List.length_eq_zero_iff.mp ht
    subst this
    exact ⟨[], rfl, rfl, rfl, NKeys.nil⟩
  | @cons v k vs ks a _ ih =>
    intro tb ht
    cases tb with
    | nil => cases ht
    | cons t tb =>
      obtain ⟨es, h1, h2, h3, h4⟩ := ih tb (by simpa using ht)
      have a' := a
      unfold kJ at a'
      cases a' with
      | @tup b _ xs hb hs =>
        refine ⟨(kJ k, b, .int (t : Nat)) :: es, by rw [h1]; rfl, by rw [List.map_cons, h2]; rfl, by rw [List.map_cons, h3]; rfl, fun x hx => ?_⟩
        rcases List.mem_cons.mp hx with rfl | hx
        · exact ⟨a, by rw [kJ_depth]; decide⟩
        · exact h4 x hx
structure RJ (x : List Nat) (J : Jd) (gl : List Nat) : Prop where
  sp : Txt.split (txS x) (txS [32]) = [txS J.ls, txS [dig J.st], txS [dig J.few], txS [dig J.turn], txS gl, txS (J.tb.map dig)]
  st9 : J.st ≤ 9
  few9 : J.few ≤ 9
  turn9 : J.turn ≤ 9
  tb9 : ∀ v ∈ J.tb, v ≤ 9
  g : ReadsG gl J.gd
  gl3 : gl.length ≤ 3000
  gd3 : J.gd.length ≤ 3000
  l3 : J.ls.length ≤ 3000
  many : manyT J.ls.length J.m J.st = J.tb.length
  size : J.tb.length ≤ 600
inductive RJd (x : List Nat) : Option Jd → Prop where
  | six : (Txt.split (txS x) (txS [32])).length ≠ 6 → RJd x none
  | judge (J : Jd) (gl : List Nat) : RJ x J gl → RJd x (if J.okB = true then some J else none)
theorem pow_le_of {n m s : Nat} (h : n * m ^ s ≤ 600) (hn : 1 ≤ n) : ∀ i, i ≤ s → m ^ i ≤ 3000 := by
  intro i hi
  by_cases hm : m = 0
  · subst hm
    cases i with
    | zero => decide
    | succ i => rw [Nat.zero_pow (by omega)]; omega
  · have h1 : m ^ i ≤ m ^ s := Nat.pow_le_pow_right (by omega) hi
    have h2 : m ^ s ≤ n * m ^ s := Nat.le_mul_of_pos_left _ hn
    omega
section
variable {P : Program} {w : World} {K : PySem.W.Frag} {mg : Str → Option Value} {base : Heap}
def sp_read_judge (w : World) (K : PySem.W.Frag) (mg : Str → Option Value) : Sp := fun vs H Q E => (∃ (x : List Nat) (r : Option Jd), vs = [tx x] ∧ x.length ≤ 90000 ∧ RJd x r ∧
  (∀ J, r = some J → ∀ (H' : Hp) (a d g : Addr) (es : List NE), Same H H' → H a = none → H d = none → H g = none → d ≠ g → JForm w H' J a d g es → Q (.ref a) H') ∧
  (r = none → ∀ y, mg "NoText" = some y → ∀ H' : Hp, Same H H' → E y none H')) ∨
  ∃ v u, vs = [v] ∧ TyX K H v u ∧ PySem.W.kitOne K u (.type "str") = some false ∧ ∀ x, mg "NoText" = some x → E x none H
theorem ok_read_judge (D : Df K mg "read_judge" s_read_judge ["text"]) (T : Txt K mg) (G_figure_of : G' P w K mg base "figure_of" 1 ["word"] (sp_figure_of mg)) (G_how_many_tuples : G' P w K mg base "how_many_tuples" 1 ["letters", "states", "classes"] sp_how_many_tuples)
    (G_class_rows : G' P w K mg base "class_rows" 1 ["states", "classes"] sp_class_rows) (G_read_good : G' P w K mg base "read_good" 2 ["word"] sp_read_good) (G_is_judge : G' P w K mg base "is_judge" 4 ["thing"] (sp_is_judge w)) : G' P w K mg base "read_judge" 5 ["text"] (sp_read_judge w K mg) := by
  refine D.ok fun f fd F => F.okX sc_read_judge (fun vs H Q E h => ?_) (fun cdv A outer s H vs Q E hr h => ?_)
  · rcases h with ⟨x, r, rfl, _⟩ | ⟨v, u, rfl, _⟩
    · rfl
    · rfl
  · refine ⟨_, (pss_cons (ps_if (PW.pt (pw_or (pt_not (pt_val (pe_callB (call_isiK K) (by rfl) T.n_isinstance (by decide +kernel) (pa_cons (pv 0) (pa_cons (pe_ty (n := "str") T.n_str (by decide +kernel)) pa_nil))))) (pw_or1 (pt_cmpR op_ne (pe_callB (call_lenK K) (by rfl) T.n_len PySem.boot_len (pa_cons (pe_split (pv 0) pe_str) pa_nil)) pe_int (nomark _))))) (pss_one (ps_rs T.x_NoText rfl (takes_of rfl rfl rfl rfl))) pss_nil)
  (pss_cons (ps_asg (pe_split (pv 0) pe_str) (pg_unlK K rfl (pgs_cons (pg_name (i := 1) sc_read_judge.nd rfl (by first | exact Or.inl rfl | exact Or.inr rfl)) (pgs_cons (pg_name (i := 2) sc_read_judge.nd rfl (by first | exact Or.inl rfl | exact Or.inr rfl)) (pgs_cons (pg_name (i := 3) sc_read_judge.nd rfl (by first | exact Or.inl rfl | exact Or.inr rfl)) (pgs_cons (pg_name (i := 4) sc_read_judge.nd rfl (by first | exact Or.inl rfl | exact Or.inr rfl)) (pgs_cons (pg_name (i := 5) sc_read_judge.nd rfl (by first | exact Or.inl rfl | exact Or.inr rfl)) (pgs_cons (pg_name (i := 6) sc_read_judge.nd rfl (by first | exact Or.inl rfl | exact Or.inr rfl)) pgs_nil))))))))
  (pss_cons (ps_set (i := 7) sc_read_judge.nd rfl (by first | exact Or.inl rfl | exact Or.inr rfl) (pe_lst (pa_cons (pe_cl G_figure_of (hr.mono (by omega)) (passW (takes_of rfl rfl rfl rfl) (fun _ _ _ _ z => z)) (pa_cons (pv 2) pa_nil)) (pa_cons (pe_cl G_figure_of (hr.mono (by omega)) (passW (takes_of rfl rfl rfl rfl) (fun _ _ _ _ z => z)) (pa_cons (pv 3) pa_nil)) (pa_cons (pe_cl G_figure_of (hr.mono (by omega)) (passW (takes_of rfl rfl rfl rfl) (fun _ _ _ _ z => z)) (pa_cons (pv 4) pa_nil)) pa_nil)))))
  (pss_cons (ps_set (i := 8) sc_read_judge.nd rfl (by first | exact Or.inl rfl | exact Or.inr rfl) (pe_cl G_how_many_tuples (hr.mono (by omega)) passF (pa_cons (pv 1) (pa_cons (pe_ix (ix_listK K) (pv 7) pe_int (fun _ _ => rfl)) (pa_cons (pe_op op_add (pe_ix (ix_listK K) (pv 7) pe_int (fun _ _ => rfl)) (pe_ix (ix_listK K) (pv 7) pe_int (fun _ _ => rfl))) pa_nil)))))
  (pss_cons (ps_if (PW.pt (pw_or (pt_cmpR op_gt (pv 8) (pe_gv T.g_MOST_TUPLES_texts) (nomark _)) (pw_or1 (pt_cmpR op_ne (pe_callB (call_lenK K) (by rfl) T.n_len PySem.boot_len (pa_cons (pv 6) pa_nil)) (pv 8) (nomark _))))) (pss_one (ps_rs T.x_NoText rfl (takes_of rfl rfl rfl rfl))) pss_nil)
  (pss_cons (ps_set (i := 9) sc_read_judge.nd rfl (by first | exact Or.inl rfl | exact Or.inr rfl) (pe_lst pa_nil))
  (pss_cons (ps_for (passes_of rfl) rfl (pi_str (pv 1)) (pg_name (i := 10) sc_read_judge.nd rfl (by first | exact Or.inl rfl | exact Or.inr rfl)) (pss_one (ps_expr (cbm K (pe_bm PySem.F.plainAttrs_list PySem.F.slot_list_extend PySem.F.type_list_extend mt_extend (pv 9) (pa_cons (pe_lc (own := [("row", 11)]) rfl sc_read_judge.nd (pi_listK K (pe_cl G_class_rows (hr.mono (by omega)) passF (pa_cons (pe_ix (ix_listK K) (pv 7) pe_int (fun _ _ => rfl)) (pa_cons (pe_op op_add (pe_ix (ix_listK K) (pv 7) pe_int (fun _ _ => rfl)) (pe_ix (ix_listK K) (pv 7) pe_int (fun _ _ => rfl))) pa_nil)))) (blkOk_by (own := [("row", 11)]) (N := ["text", "letters", "states", "few", "turn", "good", "told", "numbers", "many", "keys", "letter", "row", "table", "sign", "judge"]) (sc := defScope s_read_judge) (by decide +kernel)) (fun _ _ _ _ _ => (pg_name (i := 11) sc_read_judge.nd rfl (by first | exact Or.inl rfl | exact Or.inr rfl))) (fun _ _ _ _ _ => pts_nil) (fun _ _ _ _ _ => (pe_tup (pa_cons (pv 10) (pa_cons (pv 11) pa_nil))))) pa_nil))))))
  (pss_cons (ps_set (i := 12) sc_read_judge.nd rfl (by first | exact Or.inl rfl | exact Or.inr rfl) (pe_dictZipK w K hr rfl T.n_dict T.n_zip (pa_cons (pv 9) (pa_cons (pe_lc (own := [("sign", 13)]) rfl sc_read_judge.nd (pi_str (pv 6)) (blkOk_by (own := [("sign", 13)]) (N := ["text", "letters", "states", "few", "turn", "good", "told", "numbers", "many", "keys", "letter", "row", "table", "sign", "judge"]) (sc := defScope s_read_judge) (by decide +kernel)) (fun _ _ _ _ _ => (pg_name (i := 13) sc_read_judge.nd rfl (by first | exact Or.inl rfl | exact Or.inr rfl))) (fun _ _ _ _ _ => pts_nil) (fun _ _ _ _ _ => (pe_cl G_figure_of (hr.mono (by omega)) passF (pa_cons (pv 13) pa_nil)))) pa_nil))))
  (pss_cons (ps_set (i := 14) sc_read_judge.nd rfl (by first | exact Or.inl rfl | exact Or.inr rfl) (pe_tup (pa_cons (pv 1) (pa_cons (pe_ix (ix_listK K) (pv 7) pe_int (fun _ _ => rfl)) (pa_cons (pe_ix (ix_listK K) (pv 7) pe_int (fun _ _ => rfl)) (pa_cons (pe_ix (ix_listK K) (pv 7) pe_int (fun _ _ => rfl)) (pa_cons (pv 12) (pa_cons (pe_cl G_read_good (hr.mono (by omega)) (passW (takes_of rfl rfl rfl rfl) (fun _ _ _ _ z => z)) (pa_cons (pv 5) pa_nil)) pa_nil))))))))
  (pss_cons (ps_if (pt_not (pt_val (pe_cl G_is_judge (hr.mono (by omega)) passF (pa_cons (pv 14) pa_nil)))) (pss_one (ps_rs T.x_NoText rfl (takes_of rfl rfl rfl rfl))) pss_nil)
  (pss_one (ps_ret (pv 14))))))))))))), ?_⟩
    rcases h with ⟨x, r, rfl, hx, hR, k1, k2⟩ | ⟨v, u, rfl, ty, ku, k2⟩
    rotate_left
    · walk_at "rd"
      refine ⟨_, _, _, _, false, rfl, .ty _, ty, ku, ?_⟩
      walk_at "rd"
      exact fun x hx => k2 x hx
    have e32 : PySem.Str.ofString " " = txS [32] := by decide +kernel
    walk_at "rd"
    rw [e32]
    have hlx : (⟨x.toArray⟩ : Str).length + 2 ≤ sizeLine := by show (txS x).length + 2 ≤ _; rw [txS_len]; exact Nat.le_trans (show _ ≤ 90002 by omega) (by decide)
    refine ⟨hlx, ?_⟩
    refine fun p1 n1 => ?_
    generalize e1 : upd H p1 _ = H1
    obtain ⟨S1, hp1⟩ := newF n1 e1
    walk_at "rd"
    rw [List.length_map]
    cases hR with
    | six h6 =>
      refine iteB (by
        have : ((Txt.split (⟨x.toArray⟩ : Str) (txS [32])).length : Int) ≠ 6 := by
          have : (Txt.split (⟨x.toArray⟩ : Str) (txS [32])).length ≠ 6 := h6
          omega
        simpa using this) ?_
      exact fun y hy => k2 rfl y hy _ S1
    | judge J gl R =>
      have hsp : Txt.split (⟨x.toArray⟩ : Str) (txS [32]) = _ := R.sp
      rw [hsp] at hp1 ⊢
      walk_at "rd"
      refine ⟨hlx, ?_⟩
      refine fun p2 n2 => ?_
      generalize e2 : upd H1 p2 _ = H2
      obtain ⟨S2, hp2⟩ := newF n2 e2
      rw [hsp] at hp2
      refine ⟨_, _, rfl, SqL.of hp2, rfl, ?_⟩
      walk_at "rd"
      refine ⟨by show 1 ≤ _; decide, fun n hn => ?_, fun hn => by rw [figL_dig R.st9] at hn; cases hn⟩
      rw [figL_dig R.st9] at hn
      cases hn
      walk_at "rd"
      refine ⟨by show 1 ≤ _; decide, fun n hn => ?_, fun hn => by rw [figL_dig R.few9] at hn; cases hn⟩
      rw [figL_dig R.few9] at hn
      cases hn
      walk_at "rd"
      refine ⟨by show 1 ≤ _; decide, fun n hn => ?_, fun hn => by rw [figL_dig R.turn9] at hn; cases hn⟩
      rw [figL_dig R.turn9] at hn
      cases hn
      walk_at "rd"
      refine ⟨(by walk_at "sz"), fun p3 n3 => ?_⟩
      generalize e3 : upd H2 p3 _ = H3
      obtain ⟨S3, hp3⟩ := newF n3 e3
      have hm18 : J.m ≤ 18 := by rw [Jd.m]; have := R.few9; have := R.turn9; omega
      have hst9 := R.st9
      have hsz := R.size
      have hmul : J.ls.length * J.m ^ J.st = J.tb.length := by rw [← manyT_le _ _ _ (by rw [R.many]; exact R.size), R.many]
      walk_at "rd"
      refine ⟨J.ls, J.st, J.m, by rw [Jd.m]; rfl, R.l3, by omega, by omega, ?_⟩
      rw [R.many]
      walk_at "rd"
      refine iteC (decide_eq_false (show ¬ (600 : Int) < (J.tb.length : Int) by omega)) ?_
      have hzt : (txS (J.tb.map dig)).length ≤ sizeLine := by rw [txS_len, List.length_map]; exact Nat.le_trans R.size (by decide)
      walk_at "rd"
      rw [txS_len, List.length_map]
      refine iteC (by simp) ?_
      walk_at "rd"
      refine ⟨(by walk_at "sz"), fun p4 n4 => ?_⟩
      generalize e4 : upd H3 p4 _ = H4
      obtain ⟨S4, hp4⟩ := newF n4 e4
      have hp34 := S4 _ _ hp3
      walk_at "rd"
      have hat : ∀ i : Nat, (txS J.ls).cps[i]? = J.ls[i]? := fun i => by show J.ls.toArray[i]? = _; simp
      refine for_it walk_str (fun i σ H' => ∃ (x10 : Option V) (vs : List V), σ = [some (tx x), some (tx J.ls), some (tx [dig J.st]), some (tx [dig J.few]), some (tx [dig J.turn]), some (tx gl), some (tx (J.tb.map dig)), some (.ref p3), some (.int (J.tb.length : Nat)), some (.ref p4), x10, none, none, none, none] ∧
        Same H3 H' ∧ H' p4 = some (.lst vs) ∧ KeysV H' vs (keysL (J.ls.take i) J.m J.st)) ⟨none, [], rfl, S4, hp4, .nil⟩ (fun _ _ _ _ _ => trivial) ?_ ?_
      · rintro i y σ H5 H6 hi ⟨x10, vs, rfl, S5, hp5, hvs⟩ ⟨rfl, c, hc, rfl⟩
        rw [hat] at hc
        have hil : i < J.ls.length := (List.getElem?_eq_some_iff.mp hc).1
        have hp35 := S5 _ _ hp3
        have hmul2 : (i + 1) * J.m ^ J.st ≤ 600 := by
          have := Nat.mul_le_mul_right (J.m ^ J.st) (show i + 1 ≤ J.ls.length by omega)
          omega
        walk_at "rd"
        refine ⟨J.st, J.m, by rw [Jd.m]; rfl, by omega, by omega, pow_le_of (n := J.ls.length) (by omega) (by omega), fun H7 pr ws S7 nr hpr hrows => ?_⟩
        have hwl : ws.length = J.m ^ J.st := by rw [Paired.length hrows, rowsL_len]
        walk_at "rd"
        refine ⟨⟨_, SqL.of hpr⟩, fun D nD => lc_it walk_list (fun j H' => Same H7 H' ∧ ∃ acc, H' D = some (.lst acc) ∧ KeysV H' acc (((rowsL J.m J.st).take j).map fun r => (c, r))) ⟨same_new nD, [], upd_same, .nil⟩ (fun q H' _ p' => SqL.of (p'.1 _ _ hpr)) ?_ ?_⟩
        · rintro j y H8 H9 hj ⟨S8, acc, hD, hacc⟩ ⟨rfl, hy⟩
          obtain ⟨r, hr1, hr2⟩ := paired_get hrows hy
          obtain ⟨b, rfl, hb⟩ := row_of hr2
          walk_at "rd"
          refine ⟨(by walk_at "sz"), fun t nt => ?_⟩
          generalize et : upd H9 t _ = H10
          obtain ⟨S10, ht⟩ := newF nt et
          have hk : NKv H10 (kJ (c, r)) (.ref t) := keyJ_mk ht (hr2.stay fun _ _ h => S10 _ _ (S8 _ _ h))
          have hD10 := S10 _ _ hD
          refine ⟨acc, hD10, ?_, Same.upd_own (S8.trans S10) nD, _, upd_same, ?_⟩
          · rw [Paired.length hacc, List.length_map, List.length_take]
            exact Nat.lt_of_le_of_lt (show _ ≤ 600 by rw [rowsL_len]; have hN : J.m ^ J.st ≤ 600 := Nat.le_trans (Nat.le_mul_of_pos_left _ (Nat.succ_pos i)) hmul2; omega) (by decide)
          · rw [List.take_succ, hr1, List.map_append]
            exact ((hacc.stay fun _ _ h => S10 _ _ h).app (.cons hk .nil)).stay fun b xs e => tup_upd hD10 b xs e
        · rintro H8 ⟨S8, acc, hD, hacc⟩
          have hp8 := S8 _ _ (S7 _ _ hp5)
          rw [hwl, show J.m ^ J.st = (rowsL J.m J.st).length by rw [rowsL_len], List.take_length] at hacc
          walk_at "rd"
          refine ⟨p4, D, vs, acc, rfl, rfl, hp8, hD, ?_, ?_⟩
          · rw [Paired.length hvs, Paired.length hacc, keysL_len, List.length_map, rowsL_len, List.length_take]
            exact Nat.le_trans (show _ ≤ 600 by rw [Nat.min_eq_left (by omega)]; rw [Nat.succ_mul] at hmul2; exact hmul2) (by decide)
          · refine ⟨_, _, rfl, Same.upd_own (S5.trans (S7.trans S8)) n4, upd_same, ?_⟩
            rw [List.take_succ, hc, keysL, List.flatMap_append]
            refine KeysV.stay (KeysV.app (hvs.stay fun _ _ h => S8 _ _ (S7 _ _ h)) ?_) fun b xs e => tup_upd hp8 b xs e
            simpa using hacc
      · rintro σ H5 ⟨x10, vs, rfl, S5, hp5, hvs⟩
        have hcs : (txS J.ls).cps.size = J.ls.length := by simp
        rw [hcs, List.take_length] at hvs
        have hp35 := S5 _ _ hp3
        have hat2 : ∀ i : Nat, (txS (J.tb.map dig)).cps[i]? = (J.tb.map dig)[i]? := fun i => by show (J.tb.map dig).toArray[i]? = _; simp
        walk_at "rd"
        refine fun D nD => lc_it walk_str (PvM H5 D fun i => .int ((J.tb[i]?).getD 0 : Nat)) (PvM.start nD) (fun i H' _ p' => trivial) ?_ ?_
        · rintro j y H6 H7 hj p' ⟨rfl, c, hc, rfl⟩
          rw [hat2, List.getElem?_map] at hc
          obtain ⟨v, hv, rfl⟩ := Option.map_eq_some_iff.mp hc
          have hv9 := R.tb9 v (List.mem_of_getElem? hv)
          have hjl : j < J.tb.length := (List.getElem?_eq_some_iff.mp hv).1
          walk_at "rd"
          refine ⟨by show 1 ≤ _; decide, fun n hn => ?_, fun hn => by rw [figL_dig hv9] at hn; cases hn⟩
          rw [figL_dig hv9] at hn
          cases hn
          exact p'.push (Same.refl _) nD (big_of (show j ≤ 600 by omega) (by decide)) (by rw [hv]; rfl)
        · rintro H6 ⟨S6, hD⟩
          rw [show (txS (J.tb.map dig)).cps.size = J.tb.length by simp, map_range J.tb _ (fun n => V.int (n : Nat)) (fun i x hx => by rw [hx]; rfl)] at hD
          have hkl : J.tb.length = (keysL J.ls J.m J.st).length := by rw [keysL_len, hmul]
          obtain ⟨es, h1, h2, h3, h4⟩ := (hvs.stay fun _ _ h => S6 _ _ h).ents J.tb hkl
          have hp6 := S6 _ _ hp5
          rw [h1] at hp6
          rw [← h3] at hD
          walk_at "rd"
          refine ⟨_, _, es, rfl, SqL.of hp6, SqL.of hD, h4, fun pd nd => ?_⟩
          generalize ed : upd H6 pd _ = H7
          obtain ⟨S7, hd7⟩ := newF nd ed
          have hp37 := S7 _ _ (S6 _ _ hp35)
          have hk7 : NKeys H7 (foldN [] es) := (NKeys.nil.fold h4).stay fun _ _ h => S7 _ _ h
          walk_at "rd"
          refine ⟨gl, J.gd, rfl, R.gl3, R.g, fun H8 pg S8 ng hg8 => ?_⟩
          walk_at "rd"
          refine ⟨(by show 6 ≤ sizeLine; decide), fun pa na => ?_⟩
          generalize ea : upd H8 pa _ = H9
          obtain ⟨S9, ha9⟩ := newF na ea
          have S05 : Same H H6 := ((((S1.trans S2).trans S3).trans S5).trans S6)
          have S07 : Same H H7 := S05.trans S7
          have S08 : Same H H8 := S07.trans S8
          have hne : pd ≠ pg := ne_of_none hd7 ng
          have fold : lettersB J.ls = true → foldN [] es = es := fun hl => by
            have hn : J.ls.Nodup := by
              rw [lettersB, Bool.and_eq_true] at hl
              exact riseB_nodup hl.2
            rw [foldN_new es [] (by rw [List.nil_append, h2]; exact nodup_map' (fun _ _ => kJ_inj) (keysL_nodup hn _ _)), List.nil_append]
          have hform : JForm w H9 J pa pd pg (foldN [] es) :=
            { tup := ha9, dic := S9 _ _ (S8 _ _ hd7), ks := hk7.stay fun _ _ h => S9 _ _ (S8 _ _ h), lst := S9 _ _ hg8, ek := fun hl => by rw [fold hl, h2, Jd.keys], ev := fun hl => by rw [fold hl, h3], l3 := R.l3, st9 := R.st9, few9 := R.few9, turn9 := R.turn9, tb6 := R.size, tb9 := R.tb9, gd3 := R.gd3 }
          walk_at "rd"
          refine ⟨J, pa, pd, pg, _, rfl, hform, fun H10 S10 => ?_⟩
          cases hok : J.okB with
          | true =>
            rw [if_pos hok] at k1
            walk_at "rd"
            exact k1 J rfl H10 pa pd pg _ ((S08.trans S9).trans S10) (S08.free na) (S05.free nd) (S07.free ng) hne (hform.same S10)
          | false =>
            rw [if_neg (by rw [hok]; decide)] at k2
            walk_at "rd"
            exact fun y hy => k2 rfl y hy _ ((S08.trans S9).trans S10)
end
end Hy
set_option Elab.async false
set_option linter.all false
set_option maxRecDepth 100000
set_option maxHeartbeats 4000000
namespace Hy
open PySem L2
/-! ### a dict of the module's own top, texts to texts, that is only read -/
abbrev EntT (w : World) (p : Str × Str) (e : DictEntry) : Prop := e.hash = keyH w (.inr p.1) ∧ (∃ t, e.key = .str p.1 t) ∧ ∃ t, e.val = .str p.2 t
structure GD (K : PySem.W.Frag) (mg : Str → Option Value) (w : World) (x : Str) (kvs : List (Str × Str)) : Prop where
  ex : ∃ (D : Addr) (o : Obj) (es : Array DictEntry) (ep : Nat), mg x = some (.ref D) ∧ (D == sysModules) = false ∧ K.lookup D = some o ∧ o.ExactDict ∧ o.data = .dict es ep ∧ Paired (EntT w) kvs es.toList
def lookT (kvs : List (Str × Str)) (x : Str) : Option Str := (kvs.find? fun p => decide (p.1 = x)).map (·.2)
def tGGet (kvs : List (Str × Str)) (ty : TE) : TE := fun σ H Q => ty σ H fun y H1 => ∃ x : Str, y = .str x ∧ Q (match lookT kvs x with | some v => .str v | none => .non) H1
theorem find_ent {w : World} {kvs : List (Str × Str)} {es : List DictEntry} (h : Paired (EntT w) kvs es) (x : Str) :
    RelV (match lookT kvs x with | some v => .str v | none => .non) (((es.find? fun e => keyIs (.inr x) e.key).map (·.val)).getD .none) := by
  induction h with
  | nil => exact rfl
  | @cons p e kvs es h1 _ ih =>
    obtain ⟨_, ⟨t, ek⟩, t2, ev⟩ := h1
    have his : keyIs (.inr x) e.key = decide (p.1 = x) := by
      rw [ek]
      by_cases q : p.1 = x
      · rw [q, keyIs_str, decide_eq_true rfl]
      · rw [decide_eq_false q]
        cases z : keyIs (.inr x) (.str p.1 t) with
        | false => rfl
        | true =>
          rcases keyIs_shape z with ⟨i, t', a1, a2⟩ | ⟨y, t', a1, a2⟩
          · cases a1
          · cases a1
            injection a2 with a3 _
            exact absurd a3 q
    unfold lookT at ih ⊢
    rw [List.find?_cons, List.find?_cons, his]
    by_cases q : p.1 = x
    · rw [decide_eq_true q]
      exact ⟨t2, ev⟩
    · rw [decide_eq_false q]
      exact ih
theorem keys_ent {P : Program} {w : World} {kvs : List (Str × Str)} {es : Array DictEntry} (h : Paired (EntT w) kvs es.toList) : KeysOf (mixKind P w) es := by
  obtain ⟨l⟩ := es
  intro e he
  have he' : e ∈ l := by simpa using he
  replace h : Paired (EntT w) kvs l := h
  clear he
  induction h with
  | nil => cases he'
  | @cons p e2 kvs es h1 _ ih =>
    rcases List.mem_cons.mp he' with rfl | he'
    · obtain ⟨a, ⟨t, b⟩, _⟩ := h1
      exact ⟨.inr p.1, by rw [b]; exact keyIs_str p.1 t, a⟩
    · exact ih he'
section
variable {X : Cx} {e : Expr} {p apos cpos : Pos} {ty : TE} {x : Str} {kvs : List (Str × Str)}
theorem pe_gget (w : World) (g : GD X.K X.mg w x kvs) (he : PE X e ty) (m : M1 X (.Name x p) "get" apos e cpos) (hg : Gl X x := by rfl) (hx : (x == ("__debug__" : Str)) = false := by decide) (h : X.w = w := by rfl) :
    PE X (.Call (.Attribute (.Name x p) "get" apos) [e] [] cpos) (tGGet kvs ty) := by
  subst h
  refine ⟨fun pins s σ H Q I h => ?_⟩
  obtain ⟨D, o, es, ep, hm, hd, hk, hc, hdat, hp⟩ := g.ex
  refine wpAny_Call_method m.base m.few m.line PySem.F.plainAttrs_dict PySem.F.slot_dict_get PySem.F.type_dict_get
    (thn ((pe_glob (pos := p) (v := .ref D) hg hm rfl hx).run pins s σ H (fun x H1 => x = .ref D ∧ tGGet kvs ty σ H1 Q) I ⟨rfl, h⟩) fun u s1 ⟨x1, H1, I1, rx, ex, q1⟩ => ?_)
  subst ex
  obtain rfl : u = Value.ref D := rx
  have ho := I1.kIn D o hk
  refine ⟨⟨o, ho, hc.1⟩, fun b q => ?_, ?_⟩
  · cases q
    exact ⟨o, ho, hc.2.1⟩
  rw [m.trees]
  refine Calls.callWith_builtin rfl (Calls.evalArgs_plain (Calls.spliced_cons (thn (he.run pins s1 σ H1 _ I1 q1) fun iv s2 ⟨y, H2, I2, ry, xs, ey, q2⟩ => Calls.spliced_nil ?_)))
  subst ey
  have ho2 := I2.kIn D o hk
  refine call_meetsIn PySem.F.slot_dict_get ⟨o, ho2, hc.1⟩ PySem.F.entry_dict_get (PySem.F.args_dict_get_2 _ _) (meets_dict_get (mixKind X.prog X.w) D (k := .inr xs) (kV_is (k := .inr xs) ry) hd)
    ⟨fun k => findBy (mixKind X.prog X.w).is es k, ⟨o, es, ep, ho2, hc, hdat, keys_ent hp, fun k => rfl⟩, _, H2, I2.tok _, ?_, q2⟩
  have hf := find_ent hp xs
  obtain ⟨l⟩ := es
  have e1 : findBy (mixKind X.prog X.w).is ⟨l⟩ (.inr xs) = (l.find? fun e => keyIs (.inr xs) e.key).map (·.val) := by
    simp [findBy]
    rfl
  show RelV _ ((findBy (mixKind X.prog X.w).is ⟨l⟩ (.inr xs)).getD .none)
  rw [e1]
  exact hf
end
/-! ### methods of an own class, as the defs of the text -/
structure Dm (K : PySem.W.Frag) (C : Addr) (m q : Str) (st : Stmt) (ps : List Str) : Prop where
  ex : ∃ (f : Addr) (fd : FuncData), Fun K m q st f fd ∧ Meth K C m f ∧ Binds K fd ps []
structure Gm (P : Program) (w : World) (K : PySem.W.Frag) (mg : Str → Option Value) (base : Heap) (C : Addr) (m : Str) (k : Nat) (ps : List Str) (sp : Sp) : Prop where
  ex : ∃ (f : Addr) (fd : FuncData), FnOk P w K mg base (L2.CX P w) k f fd ps sp ∧ Meth K C m f ∧ Binds K fd ps []
/-- a def that stands under another name of the module's top -/
structure Da (K : PySem.W.Frag) (mg : Str → Option Value) (x n : Str) (st : Stmt) (ps : List Str) : Prop where
  ex : ∃ (f : Addr) (fd : FuncData), Fun K n n st f fd ∧ mg x = some (.ref f) ∧ Binds K fd ps []
section
variable {P : Program} {w : World} {K : PySem.W.Frag} {mg : Str → Option Value} {base : Heap} {C : Addr} {x n m q : Str} {st : Stmt} {ps : List Str} {k : Nat} {sp : Sp}
theorem Dm.ok (D : Dm K C m q st ps) (h : ∀ (f : Addr) (fd : FuncData), Fun K m q st f fd → FnOk P w K mg base (L2.CX P w) k f fd ps sp) : Gm P w K mg base C m k ps sp := by
  obtain ⟨f, fd, F, mm, b⟩ := D.ex
  exact ⟨f, fd, h f fd F, mm, b⟩
theorem Da.ok (D : Da K mg x n st ps) (h : ∀ (f : Addr) (fd : FuncData), Fun K n n st f fd → FnOk P w K mg base (L2.CX P w) k f fd ps sp) : Gd P w K mg base x k ps sp := by
  obtain ⟨f, fd, F, mm, b⟩ := D.ex
  exact ⟨f, fd, h f fd F, mm, F.kp, b⟩
end
section
variable {X : Cx} {C : Addr} {k : Nat} {m : Str} {ps : List Str} {sp : Sp} {E : XK} {W : WX} {apos pos : Pos} {o e : Expr} {es : List Expr} {ta : TE} {t : TA}
theorem pe_mt (c : Cls X.K C) (G : Gm X.prog X.w X.K X.mg X.base C m k ps sp) (hr : Room k X.A) (hx : Passes (L2.CX X.prog X.w) X E) (he : PE X o ta) (ha : PA X (e :: es) t) {pl : Sem Bool}
    (hst : starEach (e :: es) X.env = (false, eval e X.env) :: starEach es X.env := by rfl) (hpl : (backTo pos (starEach es X.env)).any (·.1) = false := by rfl)
    (ht : eval (.Call (.Attribute o m apos) (e :: es) [] pos) X.env = (do
      let ov ← eval o X.env
      standAt apos.atName
      let (f, first) ← holding [ov] (getMethod ov m pl)
      callWith pos f first (backTo pos (starEach (e :: es) X.env)) (backToKw pos (keywordEach [] X.env))) := by rfl) :
    PE X (.Call (.Attribute o m apos) (e :: es) [] pos) (tMeth C m sp [] E ta t) := by
  obtain ⟨f, fd, F, mm, b⟩ := G.ex
  exact pe_meth he c mm F hr b .nil hx ha hst hpl ht
theorem pe_mt0 (c : Cls X.K C) (G : Gm X.prog X.w X.K X.mg X.base C m k ps sp) (hr : Room k X.A) (hx : Passes (L2.CX X.prog X.w) X E) (he : PE X o ta) {pl : Sem Bool}
    (ht : eval (.Call (.Attribute o m apos) [] [] pos) X.env = (do
      let ov ← eval o X.env
      standAt apos.atName
      let (f, first) ← holding [ov] (getMethod ov m pl)
      callWith pos f first (backTo pos (starEach [] X.env)) (backToKw pos (keywordEach [] X.env))) := by rfl) :
    PE X (.Call (.Attribute o m apos) [] [] pos) (tMeth C m sp [] E ta tNil) := by
  obtain ⟨f, fd, F, mm, b⟩ := G.ex
  exact pe_meth0 he c mm F hr b .nil hx ht
def tMethT (C : Addr) (m : Str) (sp : Sp) (E : St → XK) (ta : TE) (t : TA) : TE := fun σ H Q => ta σ H fun x H1 => ∃ a dx fs, x = .ref a ∧ H1 a = some (.ins C dx fs) ∧ fs.lookup m = none ∧
  t σ H1 fun vs H2 => sp (x :: vs) H2 Q (E σ)
/-- in a try: what is raised is told by the slots -/
theorem pe_mtS (c : Cls X.K C) (G : Gm X.prog X.w X.K X.mg X.base C m k ps sp) (hr : Room k X.A) (tk : Takes X W) (he : PE X o ta) (ha : PA X (e :: es) t) {pl : Sem Bool}
    (hst : starEach (e :: es) X.env = (false, eval e X.env) :: starEach es X.env := by rfl) (hpl : (backTo pos (starEach es X.env)).any (·.1) = false := by rfl)
    (ht : eval (.Call (.Attribute o m apos) (e :: es) [] pos) X.env = (do
      let ov ← eval o X.env
      standAt apos.atName
      let (f, first) ← holding [ov] (getMethod ov m pl)
      callWith pos f first (backTo pos (starEach (e :: es) X.env)) (backToKw pos (keywordEach [] X.env))) := by rfl) :
    PE X (.Call (.Attribute o m apos) (e :: es) [] pos) (tMethT C m sp (WE W) ta t) := by
  obtain ⟨f, fd, F, mm, b⟩ := G.ex
  refine ⟨fun pins s σ H Q I h => ?_⟩
  refine PySem.W.methodCall_KW (pl := pl) (thn (he.run pins s σ H _ I h) fun u s1 ⟨x, H1, I1, rx, a, dx, fs, ex, ea, l, q⟩ => ?_) ht
  subst ex
  obtain rfl : u = Value.ref a := rx
  refine getmeth_ok I1 ea c mm l ?_
  refine PySem.W.callWith_K (first := [.ref a]) (h₀ := X.base) I.ok.mod.kin mm.kp (thn (ha.run pos pins s1 σ H1 _ I1 q) fun us s2 ⟨vs, H2, I2, r, q2⟩ => ⟨I2.kIn, ?_⟩) hst hpl
  exact run_fnS (us := .ref a :: us) (vs := .ref a :: vs) F hr b (passAt tk σ) I2 (.cons rfl r) q2
end
end Hy
set_option Elab.async false
set_option linter.all false
set_option maxRecDepth 100000
set_option maxHeartbeats 4000000
namespace Hy
open PySem L2 PyProof.Rows
/-! ### zip of a list and a text -/
def Itzs (K : PySem.W.Frag) (a : Addr) (x : Str) : It :=
  ⟨fun i H => ∃ (xs : List V) (v : V) (c : Nat), SqL K H a xs ∧ xs[i]? = some v ∧ x.cps[i]? = some c,
    fun i H y H' => ∃ T v c, y = .ref T ∧ H T = none ∧ H' = upd H T (.tup [v, .str ⟨#[c]⟩]) ∧ x.cps[i]? = some c ∧ ∀ xs, SqL K H a xs → xs[i]? = some v,
    fun i H => ∃ xs : List V, SqL K H a xs ∧ i ≤ xs.length ∧ i ≤ x.cps.size ∧ (i = xs.length ∨ i = x.cps.size)⟩
theorem turn_zipLS {P : Program} {w : World} {K : PySem.W.Frag} {elts : List Expr} {kk : Nat} {tpos : Pos} {a z TI TO i1 i2 : Addr} (x : Str) (t : Tok) (S : ZipSep2 z TI TO i1 i2 [i1, a] [i2]) (ha1 : a ≠ i1) :
    Turn P w K (.Tuple elts kk tpos) (Itzs K a x) [z, TI, TO, i1, i2] z (fun i h => IsZip h z TI TO .none ∧ IsTupOf2 h TI (.ref i1) (.ref i2) ∧ (∃ x y, IsTupOf2 h TO x y) ∧ h.IsListIter i1 a i ∧ h.IsStrIter i2 (strIterType x) x t i) where
  mem := by simp
  obj := fun i h st c hc => by
    obtain ⟨hz, hTI, ⟨x, y, hTO⟩, ⟨o1, e1, _, d1⟩, ⟨o2, e2, _, d2⟩⟩ := st
    have e' : c = z ∨ c = TI ∨ c = TO ∨ c = i1 ∨ c = i2 := by simpa using hc
    rcases e' with q | q | q | q | q
    · rw [q]; exact ⟨_, hz, fun v q => nomatch q⟩
    · rw [q]; exact ⟨_, hTI, fun v q => nomatch q⟩
    · rw [q]; exact ⟨_, hTO, fun v q => nomatch q⟩
    · rw [q]; exact ⟨o1, e1, fun v q => by rw [d1] at q; cases q⟩
    · rw [q]; exact ⟨o2, e2, fun v q => by rw [d2] at q; cases q⟩
  keep := fun i h h' st k => by
    obtain ⟨hz, hTI, ⟨x, y, hTO⟩, h1, ⟨o2, e2, r2⟩⟩ := st
    exact ⟨k z (by simp) _ hz, k TI (by simp) _ hTI, ⟨x, y, k TO (by simp) _ hTO⟩, h1.at fun o q => k i1 (by simp) o q, ⟨o2, k i2 (by simp) _ e2, r2⟩⟩
  item := by
    intro X hP hw hK hc i pins s σ H E I hf st hg
    subst hP hw hK
    obtain ⟨hz, hTI, ⟨x0, y0, hTO⟩, h1, h2⟩ := st
    obtain ⟨xs, v, c, hqx, hx, hcx⟩ := hg
    obtain ⟨its, rv, p, _⟩ := I.list hqx
    have l1 := rv.length
    have hzl : z < s.heap.objs.size := Heap.lt_size hz
    have hi1 : i < its.toArray.size := by
      have := (List.getElem?_eq_some_iff.mp hx).1
      rw [List.size_toArray]
      omega
    have hi2 : i < x.cps.size := (Array.getElem?_eq_some_iff.mp hcx).1
    refine wpAny_pyNext_zipD2_item S (Draws.list (A := X.A.in1) (I.ok.hd hc) i1 a ha1 its.toArray) (Draws.text (A := X.A.in1) (I.ok.hd hc) i2 x t) hz hTI hTO ⟨h1, p.isList⟩ h2 hi1 hi2 fun u u2 h' tk y1 y2 z' TO' h1' h2' hT hsz hk => ?_
    obtain ⟨c2, tu, hc2, rfl⟩ := y2
    obtain ⟨w1, hw1, rw1⟩ := rv.get hx
    have hu : u = w1 := by
      have q : its[i]? = some u := by simpa using y1
      rw [hw1] at q
      exact (Option.some.inj q).symm
    subst hu
    refine ⟨_, rfl, wpAny_letOwnedTupleGo_zip (s := { s with heap := h', toks := tk }) z' fun h'' z'' sb => ?_⟩
    have hT2 : h''.get? s.heap.objs.size = some { cls := .type "tuple", data := .seq #[u, .str ⟨#[c2]⟩ tu] } := (sb.2 _ (Nat.ne_of_gt hzl)).trans hT
    have new : ObjOk X.prog X.w (upd H s.heap.objs.size (.tup [v, .str ⟨#[c2]⟩])) h'' s.heap.objs.size (.tup [v, .str ⟨#[c2]⟩]) :=
      ⟨by show 2 ≤ sizeLine; decide, [u, .str ⟨#[c2]⟩ tu], .cons rw1 (.cons ⟨_, rfl⟩ .nil), ⟨_, hT2, rfl, _, rfl⟩⟩
    have I1 : Inv X pins σ (upd H s.heap.objs.size (.tup [v, .str ⟨#[c2]⟩])) { s with heap := h'', toks := tk } :=
      I.turnedNew (t' := tk) (ch := [z, TI, TO, i1, i2]) (fun c o hb q => (sb.2 c (fun q' => hb (by simp [q']))).trans (hk c o (fun q' => hb (by simp [q'])) (fun q' => hb (by simp [q'])) (fun q' => hb (by simp [q'])) (fun q' => hb (by simp [q'])) q)) hf (Nat.le_refl _) new
    refine ⟨.ref s.heap.objs.size, _, I1, rfl, ⟨_, v, c2, rfl, I.hok.fresh (Nat.le_refl _), rfl, hc2, fun l hl => by rw [I.list_inj hl hqx]; exact hx⟩, ⟨z'', ?_, ⟨u, .str ⟨#[c2]⟩ tu, ?_⟩, ?_, ?_⟩, fun c hcm => ?_⟩
    · exact (sb.2 _ S.TIz).trans (hk _ _ S.TIz S.TITO S.TIi1 S.TIi2 hTI)
    · exact (sb.2 _ S.TOz).trans TO'
    · exact h1'.1.at fun o q => (sb.2 _ S.zi1.symm).trans q
    · obtain ⟨oi, hoi, ri⟩ := h2'
      exact ⟨oi, (sb.2 _ S.zi2.symm).trans hoi, ri⟩
    · have hlt : c < s.heap.objs.size := by
        have e' : c = z ∨ c = TI ∨ c = TO ∨ c = i1 ∨ c = i2 := by simpa using hcm
        rcases e' with q | q | q | q | q
        · rw [q]; exact hzl
        · rw [q]; exact Heap.lt_size hTI
        · rw [q]; exact Heap.lt_size hTO
        · rw [q]; obtain ⟨_, e1, _⟩ := h1; exact Heap.lt_size e1
        · rw [q]; obtain ⟨_, e2, _⟩ := h2; exact Heap.lt_size e2
      rw [upd_ne (Nat.ne_of_lt hlt)]
      exact (hf c hcm).1
  done := by
    intro X hP hw hK hc i pins s σ H E I hf st hg
    subst hP hw hK
    obtain ⟨hz, hTI, ⟨x0, y0, hTO⟩, h1, h2⟩ := st
    obtain ⟨xs, hqx, hle1, hle2, hend⟩ := hg
    obtain ⟨its, rv, p, _⟩ := I.list hqx
    have l1 := rv.length
    have e1 : its.toArray.size = xs.length := by rw [List.size_toArray]; exact l1.symm
    exact wpAny_pyNext_zipD2_end S (Draws.list (A := X.A.in1) (I.ok.hd hc) i1 a ha1 its.toArray) (Draws.text (A := X.A.in1) (I.ok.hd hc) i2 x t) hz hTI hTO ⟨h1, p.isList⟩ h2 (by rw [e1]; exact hle1) hle2 (by rw [e1]; exact hend)
      fun h' tk hk => ⟨rfl, I.turnedL (t' := tk) (ch := [z, TI, TO, i1, i2]) (fun c o hb q => hk c o (fun q' => hb (by simp [q'])) (fun q' => hb (by simp [q'])) (fun q' => hb (by simp [q'])) (fun q' => hb (by simp [q'])) q) hf⟩
  self := fun A i s Q E st h => wpAny_pyIter_zip st.1 h
theorem zipSep_new (n a : Nat) (h : a < n) : ZipSep2 (n + 4) (n + 2) (n + 3) n (n + 1) [n, a] [n + 1] where
  TIz := fun e => by have : n + 2 = n + 4 := e; omega
  TOz := fun e => by have : n + 3 = n + 4 := e; omega
  TITO := fun e => by have : n + 2 = n + 3 := e; omega
  TIi1 := fun e => by have : n + 2 = n := e; omega
  mem1 := List.mem_cons_self
  zf1 := fun m => by
    rcases List.mem_cons.mp m with e | m
    · have : n + 4 = n := e
      omega
    · have : n + 4 = a := List.mem_singleton.mp m
      omega
  Tf1 := fun m => by
    rcases List.mem_cons.mp m with e | m
    · have : n + 3 = n := e
      omega
    · have : n + 3 = a := List.mem_singleton.mp m
      omega
  TIi2 := fun e => by have : n + 2 = n + 1 := e; omega
  mem2 := List.mem_cons_self
  zf2 := fun m => by have : n + 4 = n + 1 := List.mem_singleton.mp m; omega
  Tf2 := fun m => by have : n + 3 = n + 1 := List.mem_singleton.mp m; omega
  sep1_2 := fun m => by have : n = n + 1 := List.mem_singleton.mp m; omega
  sep2_1 := fun m => by
    rcases List.mem_cons.mp m with e | m
    · have : n + 1 = n := e
      omega
    · have : n + 1 = a := List.mem_singleton.mp m
      omega
def iZipLS (K : PySem.W.Frag) (ta : TA) : TI := fun σ H R => ta σ H fun vs H1 => ∃ a x xs, vs = [.ref a, .str x] ∧ SqL K H1 a xs ∧ R (Itzs K a x) H1
theorem pi_zipLS {X : Cx} {e e2 : Expr} {ta : TA} {p pos tpos : Pos} {elts : List Expr} {kk : Nat} (hm : X.mg "zip" = none) (ha : PA X [e, e2] ta) (hg : Gl X "zip" := by rfl)
    (hs : starEach [e, e2] X.env = (false, eval e X.env) :: starEach [e2] X.env := by rfl) (hpl : (backTo pos (starEach [e2] X.env)).any (·.1) = false := by rfl) :
    PI X (.Tuple elts kk tpos) (.Call (.Name "zip" p) [e, e2] [] pos) (iZipLS X.K ta) := by
  refine ⟨fun pins s σ H R I h => ?_⟩
  refine PyProof.Rows.Call_ (ld_blt I hg hm PyProof.Rows.boot_zip (PyProof.Rows.callWith_type1 (thn (ha.run pos pins s σ H _ I h) fun us s1 ⟨vs, H1, I1, r1, q1⟩ => ?_) hs hpl))
  obtain ⟨a, x, xs, ex, hqx, q⟩ := q1
  subst ex
  cases r1 with
  | cons r rr =>
    cases rr with
    | cons r' rr =>
      cases rr
      cases r
      obtain ⟨t, rfl⟩ := r'
      obtain ⟨its, rv, p1, _⟩ := I1.list hqx
      have la : a < s1.heap.objs.size := p1.lt
      refine zip_begins2 (begins_list a its.toArray) (begins_text x t) p1.isList trivial fun h' hz hTI hTO h1 h2 hsz hk => wpAny_pyIter_zip hz ?_
      have I2 : Inv X pins σ H1 { s1 with heap := h' } := I1.kept (t' := s1.toks) hk
      have S := zipSep_new s1.heap.objs.size a la
      refine ⟨s1.heap.objs.size + 4, [s1.heap.objs.size + 4, s1.heap.objs.size + 2, s1.heap.objs.size + 3, s1.heap.objs.size, s1.heap.objs.size + 1], _, _, H1, rfl, I2, turn_zipLS x t S (Nat.ne_of_lt la), ⟨hz, hTI, ⟨_, _, hTO⟩, ⟨_, h1, rfl, rfl⟩, ⟨_, h2, rfl, rfl⟩⟩, fun c hcm => ?_, q⟩
      have e' : c = s1.heap.objs.size + 4 ∨ c = s1.heap.objs.size + 2 ∨ c = s1.heap.objs.size + 3 ∨ c = s1.heap.objs.size ∨ c = s1.heap.objs.size + 1 := by simpa using hcm
      have hle : s1.heap.objs.size ≤ c := by
        rcases e' with z | z | z | z | z
        · rw [z]; exact Nat.le_add_right _ _
        · rw [z]; exact Nat.le_add_right _ _
        · rw [z]; exact Nat.le_add_right _ _
        · rw [z]; exact Nat.le_refl _
        · rw [z]; exact Nat.le_add_right _ _
      exact I1.fpOk hle (I1.hok.fresh hle)
theorem pi_zipLSK {X : Cx} {e e2 : Expr} {ta : TA} {p pos tpos : Pos} {elts : List Expr} {kk : Nat} (K : PySem.W.Frag) (hm : X.mg "zip" = none) (ha : PA X [e, e2] ta) (hg : Gl X "zip" := by rfl)
    (hs : starEach [e, e2] X.env = (false, eval e X.env) :: starEach [e2] X.env := by rfl) (hpl : (backTo pos (starEach [e2] X.env)).any (·.1) = false := by rfl) (hK : X.K = K := by rfl) :
    PI X (.Tuple elts kk tpos) (.Call (.Name "zip" p) [e, e2] [] pos) (iZipLS K ta) := hK ▸ pi_zipLS hm ha hg hs hpl
theorem walk_zipLS {K : PySem.W.Frag} {a : Addr} {x : Str} {xs : List V} (hl : xs.length = x.cps.size) : Walk (Itzs K a x) xs.length (fun H => SqL K H a xs) (fun i H y H' => ∃ T v c, y = .ref T ∧ H T = none ∧ H' = upd H T (.tup [v, .str ⟨#[c]⟩]) ∧ x.cps[i]? = some c ∧ xs[i]? = some v) :=
  ⟨fun i _ hi q => ⟨xs, xs[i], x.cps[i]'(by omega), q, by simp [hi], by simp⟩, fun _ q => ⟨xs, q, Nat.le_refl _, by omega, .inl rfl⟩,
    fun _ _ _ _ _ q ⟨T, v, c, h1, h2, h3, h4, h5⟩ => ⟨T, v, c, h1, h2, h3, h4, h5 xs q⟩⟩
/-! ### sorted(d), d a dict with texts as keys -/
abbrev sortX (ss : List Str) : List Str := ss.mergeSort (PySem.W.dataLe false PyData.str)
def rSortedT : List V → Hp → VK → Prop := fun vs H Q => ∃ (d : Addr) (kvs : List (Key × V)) (ss : List Str), vs = [V.ref d] ∧ H d = some (.dK kvs) ∧ kvs.map (·.1) = ss.map Sum.inr ∧ ∀ p, H p = none → Q (.ref p) (upd H p (.lst ((sortX ss).map .str)))
theorem keys_txt {P : Program} {w : World} : ∀ {ss : List Str} {kvs : List (Key × V)} {vs : List (Key × Value)} {es : List DictEntry}, kvs.map (·.1) = ss.map Sum.inr → KV kvs vs → PySem.Pairs (mixKind P w) es vs → Paired (fun (x : Str) (e : DictEntry) => ∃ t, e.key = .str x t) ss es
  | [], [], _, _, _, .nil, .nil => .nil
  | x :: ss, (k, v) :: kvs, _, _, h, .cons r1 r2, .cons p1 p2 p3 => by
    rw [List.map_cons, List.map_cons] at h
    injection h with h1 h2
    refine .cons ?_ (keys_txt h2 r2 p3)
    have e : k = Sum.inr x := h1
    have p1' : keyIs _ _ = true := p1
    rw [← r1.1, show (k, v).1 = Sum.inr x from e] at p1'
    rcases keyIs_shape p1' with ⟨i, t', a1, a2⟩ | ⟨y, t', a1, a2⟩
    · cases a1
    · cases a1
      exact ⟨t', a2⟩
section
variable {X : Cx}
theorem call_sortedT {k : Nat} (hc : X.calm = true) (hr : Room k X.A) : CallR X (.builtin "sorted") rSortedT := by
  intro pins s σ H vs us Q I r h
  obtain ⟨d, kvs, ss, rfl, hd, hks, q⟩ := h
  obtain ⟨u, rfl, rx⟩ := r.one
  cases rx
  obtain ⟨z, hs, vs, rel, o, en, ep, ho, hx, hdt, _, hp, _⟩ := dk_of I.hok hd
  have hk := keys_txt hks rel hp
  have l0 : kvs.length = ss.length := by
    have := congrArg List.length hks
    rwa [List.length_map, List.length_map] at this
  have l1 : en.size = ss.length := by rw [← Array.length_toList]; exact (Paired.length hk).symm
  refine Calls.call_function_entry PyProof.Rows.kind_sorted PyProof.Rows.plain_sorted PyProof.Rows.entry_sorted (PyProof.Rows.args_sorted1 _) ?_
  unfold Builtin.«sorted»
  refine wpAny_bind (m := checkCount "sorted" 1 1 _) (wpAny_pure ?_)
  refine wpAny_bind (PySem.W.kdu_collect (A := X.A.in1) (kdl_raw hs hx hdt) (I.ok.hd hc) ho (by omega) fun h' tk acc hkp hacc => ?_)
  have en0 : PySem.W.EachIs (fun (v : Value) (x : Str) => ∃ t, v = .str x t) acc.toList ss := by
    have main : ∀ (ss : List Str) (es : List DictEntry) (l : List Value), Paired (fun (x : Str) (e : DictEntry) => ∃ t, e.key = .str x t) ss es → l.length = es.length → (∀ (j : Nat) (v : Value), l[j]? = some v → ∃ e : DictEntry, es[j]? = some e ∧ v = e.key) → PySem.W.EachIs (fun (v : Value) (x : Str) => ∃ t, v = .str x t) l ss := by
      intro ss es l h
      induction h generalizing l with
      | nil =>
        intro hl _
        cases l with
        | nil => exact .nil
        | cons => cases hl
      | @cons x e ss es h1 _ ih =>
        intro hl hv
        cases l with
        | nil => cases hl
        | cons v l =>
          refine .cons ?_ (ih l (by simpa using hl) fun j v hj => ?_)
          · obtain ⟨e', q1, q2⟩ := hv 0 v rfl
            cases q1
            obtain ⟨t, ht⟩ := h1
            exact ⟨t, q2.trans ht⟩
          · exact hv (j + 1) v hj
    refine main ss en.toList acc.toList hk ?_ fun j v hj => ?_
    · rw [Array.length_toList, Array.length_toList, hacc.1]
    · obtain ⟨e, q1, q2⟩ := hacc.2 j v (by rw [← Array.getElem?_toList]; exact hj)
      exact ⟨e, by rw [Array.getElem?_toList]; exact q1, q2⟩
  have hal' : acc.toList.length = ss.length := by rw [Array.length_toList, hacc.1, l1]
  have I1 : Inv X pins σ H { s with heap := h', toks := tk } := I.kept hkp
  refine wpAny_bind (wpAny_newList ?_ (by omega))
  have hoL : (h'.push (seqObj "list" acc.toList.toArray 0)).get? h'.objs.size = some (seqObj "list" acc.toList.toArray 0) := Heap.get?_push_size _ rfl
  show wpAny _ _ _ _ _ { s with heap := h'.push (seqObj "list" acc.toList.toArray 0), toks := tk }
  have er : PySem.W.EachIs (fun (v : Value) (x : Str) => ∃ as, Reads (h'.push (seqObj "list" acc.toList.toArray 0)) v (PyData.str x) as ∧ h'.objs.size ∉ as) acc.toList ss := by
    refine en0.mono fun v x ⟨t, ht⟩ => ?_
    obtain ⟨as, ra⟩ := Dp.reads I1 _ _ v (Dp.str x) ⟨t, ht⟩
    refine ⟨as, PyProof.Rows.Reads.keeps (fun b ob e => Heap.get?_push_of_some _ e) ra, fun hm => ?_⟩
    obtain ⟨ob, hob⟩ := PyProof.On.reads_mem_get ra _ hm
    exact absurd (Heap.lt_size hob) (Nat.lt_irrefl _)
  refine wpAny_bind (wpAny_holding (PySem.W.list_sort_data (R := fun (v : Value) (x : Str) => ∃ t, v = .str x t) (enc := PyData.str) (s := { s with heap := h'.push (seqObj "list" acc.toList.toArray 0), toks := tk }) hoL en0 er
    (PySem.W.AllAlike.of fun b b' => by simp [PySem.W.alike]) (PySem.W.Sortable.others fun b => ⟨(fun z => nomatch z), fun xs z => nomatch z⟩) (by omega) (fun b hb => ?_) fun out hlo ho2 => ?_))
  · have := hr.un
    have : (PyData.str b).depth = 0 := rfl
    rw [Around.in1_units]
    omega
  obtain ⟨e', he'⟩ := PyProof.Rows.sortedHeap_at (vs := acc.toList) (out := out.toArray) hoL
  refine wpAny_pure ⟨_, rfl, .ref h'.objs.size, upd H h'.objs.size (.lst ((sortX ss).map .str)), I1.laid (t' := tk) (fun b u e => ?_) (Nat.le_refl _)
    ⟨?_, out, e', ?_, he'⟩, rfl, q _ (I1.hok.fresh (Nat.le_refl _))⟩
  · have hb : b < h'.objs.size := Heap.lt_size e
    rw [PyProof.Rows.sortedHeap_old (Nat.ne_of_lt hb) (by rw [size_push']; exact Nat.lt_succ_of_lt hb)]
    exact Heap.get?_push_of_some _ e
  · rw [List.length_map, List.length_mergeSort]
    omega
  · have main : ∀ {us : List Value} {l : List Str}, PySem.W.EachIs (fun (v : Value) (x : Str) => ∃ t, v = .str x t) us l → Vals (l.map .str) us := by
      intro us l hh
      induction hh with
      | nil => exact .nil
      | cons a _ ih => exact .cons a ih
    exact main ho2
end
end Hy
set_option Elab.async false
set_option linter.all false
set_option maxRecDepth 100000
set_option maxHeartbeats 4000000
namespace Hy
open PySem L2
local macro_rules | `(tactic| walk_at "hp") => `(tactic| first
  | assumption | exact upd_same
  | (refine (upd_ne ?_).trans ?_ <;> first | assumption | (exact Ne.symm (by assumption)) | walk_at "ne" | walk_at "hp")
  | (refine (by assumption : Same _ _) _ _ ?_; assumption))
local macro_rules | `(tactic| walk_at "ne") => `(tactic| first
  | assumption | (exact Ne.symm (by assumption))
  | exact ne_of_none (by assumption) (by assumption) | exact Ne.symm (ne_of_none (by assumption) (by assumption)))
local macro_rules | `(tactic| walk_at "sz") => `(tactic| first | assumption | (show 0 ≤ sizeLine; decide) | (show 1 ≤ sizeLine; decide) | (show 2 ≤ sizeLine; decide) | (show 3 ≤ sizeLine; decide))
local macro_rules | `(tactic| walk_at "ar") => `(tactic| first
  | ((with_reducible show (0 : Int) < _); first | decide | omega)
  | ((with_reducible show CMul _ _); first | exact Or.inr (And.intro (by decide) (by decide)) | exact Or.inl (And.intro (by decide) (by decide)) | (refine Or.inl (And.intro ?_ ?_) <;> omega) | (refine Or.inr (And.intro ?_ ?_) <;> omega))
  | ((with_reducible show CPow _ _); exact And.intro (by decide) (And.intro (by decide) (by decide)))
  | ((with_reducible show CDiv _ _); first | exact And.intro (by decide) (by decide) | (refine And.intro ?_ ?_ <;> omega)))
/- one step of a reading -/
local macro_rules | `(tactic| walk_at "r1") => `(tactic| first
  | refine ⟨_, rfl, ?_⟩
  | refine iteB (by rfl) ?_ | refine iteC (by rfl) ?_
  | refine ⟨_, _, rfl, rfl, ?_⟩
  | refine ⟨rfl, ?_⟩
  | refine ⟨⟨_, rfl⟩, ?_⟩
  | refine ⟨_, _, _, _, true, rfl, .ty _, .base (.str _), kit_ty (by decide +kernel), ?_⟩
  | refine ⟨_, _, _, _, false, rfl, .ty _, .base (.str _), kit_ty (by decide +kernel), ?_⟩
  | refine ⟨_, _, _, _, true, rfl, .ty _, .base (.int _), kit_ty (by decide +kernel), ?_⟩
  | refine ⟨_, _, _, _, false, rfl, .ty _, .base (.int _), kit_ty (by decide +kernel), ?_⟩
  | refine ⟨_, _, _, _, true, rfl, .ty _, .base (.tup (by walk_at "hp")), kit_ty (by decide +kernel), ?_⟩
  | refine ⟨_, _, _, _, false, rfl, .ty _, .base (.tup (by walk_at "hp")), kit_ty (by decide +kernel), ?_⟩
  | refine ⟨_, _, _, _, true, rfl, .ty _, .base (.lst (by walk_at "hp")), kit_ty (by decide +kernel), ?_⟩
  | refine ⟨_, _, _, _, false, rfl, .ty _, .base (.lst (by walk_at "hp")), kit_ty (by decide +kernel), ?_⟩
  | refine ⟨_, _, rfl, ⟨by walk_at "sz", rfl⟩, ?_⟩
  | refine ⟨_, _, _, _, rfl, rfl, SqT.of (by walk_at "hp"), by rfl, ?_⟩
  | refine ⟨_, _, _, _, rfl, rfl, SqL.of (by walk_at "hp"), by rfl, ?_⟩
  | refine ⟨.inl ⟨rfl, _, SqL.of (by walk_at "hp")⟩, ?_⟩
  | refine ⟨_, _, _, rfl, rfl, (by walk_at "hp"), snoc_get, ?_⟩
  | refine ⟨_, _, _, _, rfl, rfl, (by walk_at "hp"), by rfl, ?_⟩
  | refine ⟨_, _, rfl, SqL.of (by walk_at "hp"), ?_⟩
  | refine ⟨_, _, rfl, SqT.of (by walk_at "hp"), by rfl, ?_⟩
  | refine ⟨_, (_ : List V), rfl, ?_⟩
  | refine ⟨_, _, rfl, .inl ⟨_, (by assumption), rfl⟩, ?_⟩
  | refine ⟨_, _, rfl, .inl ⟨_, SqL.of (by walk_at "hp"), rfl⟩, ?_⟩
  | refine ⟨_, _, rfl, .inr ⟨_, SqT.of (by walk_at "hp"), rfl⟩, ?_⟩
  | refine Or.inl ⟨(_ : Int), rfl, ?_⟩ | refine Or.inr ⟨(_ : Bool), rfl, ?_⟩
  | refine ⟨_, _, _, _, true, rfl, (by assumption : ND _ _ _ _), .ty _, kit_ty (by decide +kernel), ?_⟩
  | refine ⟨_, _, _, _, false, rfl, (by assumption : ND _ _ _ _), .ty _, kit_ty (by decide +kernel), ?_⟩
  | refine ⟨_, _, rfl, (by assumption : ND _ _ _ _), ?_⟩
  | refine And.intro (by walk_at "ar") ?_)
local macro_rules | `(tactic| walk_at "rd") => `(tactic| repeat walk_at "r1")

section
variable {P : Program} {w : World} {K : PySem.W.Frag} {mg : Str → Option Value} {base : Heap}
abbrev s__law_judge : Stmt := top 104
theorem sc__law_judge : FnScope ["store", "small", "sizes", "states", "few", "turn", "letters", "rows", "table", "letter", "kind", "row", "good", "state"] ["store", "small"] (defScope s__law_judge) := ⟨rfl, rfl, rfl, by decide +kernel, rfl, by decide +kernel, by decide +kernel⟩

def ABC : List Nat := [97, 98, 99, 100, 101, 102, 103, 104, 105, 106, 107, 108, 109, 110, 111, 112, 113, 114, 115, 116, 117, 118, 119, 120, 121, 122]
/-- letters as drawn -/
def LetR (l : List Nat) : Prop := l ≠ [] ∧ (∀ c ∈ l, isL c = true) ∧ riseB l = true ∧ l.length ≤ 26
end
end Hy
set_option Elab.async false
set_option linter.all false
set_option maxRecDepth 100000
set_option maxHeartbeats 1000000
namespace Hy
open PySem L2
local macro_rules | `(tactic| walk_at "hp") => `(tactic| first
  | assumption | exact upd_same
  | (refine (upd_ne ?_).trans ?_ <;> first | assumption | (exact Ne.symm (by assumption)) | walk_at "ne" | walk_at "hp")
  | (refine (by assumption : Same _ _) _ _ ?_; assumption))
local macro_rules | `(tactic| walk_at "ne") => `(tactic| first
  | assumption | (exact Ne.symm (by assumption))
  | exact ne_of_none (by assumption) (by assumption) | exact Ne.symm (ne_of_none (by assumption) (by assumption)))
local macro_rules | `(tactic| walk_at "sz") => `(tactic| first | assumption | (show 0 ≤ sizeLine; decide) | (show 1 ≤ sizeLine; decide) | (show 2 ≤ sizeLine; decide) | (show 3 ≤ sizeLine; decide))
local macro_rules | `(tactic| walk_at "ar") => `(tactic| first
  | ((with_reducible show (0 : Int) < _); first | decide | omega)
  | ((with_reducible show CMul _ _); first | exact Or.inr (And.intro (by decide) (by decide)) | exact Or.inl (And.intro (by decide) (by decide)) | (refine Or.inl (And.intro ?_ ?_) <;> omega) | (refine Or.inr (And.intro ?_ ?_) <;> omega))
  | ((with_reducible show CPow _ _); exact And.intro (by decide) (And.intro (by decide) (by decide)))
  | ((with_reducible show CDiv _ _); first | exact And.intro (by decide) (by decide) | (refine And.intro ?_ ?_ <;> omega)))
/- one step of a reading -/
local macro_rules | `(tactic| walk_at "r1") => `(tactic| first
  | refine ⟨_, rfl, ?_⟩
  | refine iteB (by rfl) ?_ | refine iteC (by rfl) ?_
  | refine ⟨_, _, rfl, rfl, ?_⟩
  | refine ⟨rfl, ?_⟩
  | refine ⟨⟨_, rfl⟩, ?_⟩
  | refine ⟨_, _, _, _, true, rfl, .ty _, .base (.str _), kit_ty (by decide +kernel), ?_⟩
  | refine ⟨_, _, _, _, false, rfl, .ty _, .base (.str _), kit_ty (by decide +kernel), ?_⟩
  | refine ⟨_, _, _, _, true, rfl, .ty _, .base (.int _), kit_ty (by decide +kernel), ?_⟩
  | refine ⟨_, _, _, _, false, rfl, .ty _, .base (.int _), kit_ty (by decide +kernel), ?_⟩
  | refine ⟨_, _, _, _, true, rfl, .ty _, .base (.tup (by walk_at "hp")), kit_ty (by decide +kernel), ?_⟩
  | refine ⟨_, _, _, _, false, rfl, .ty _, .base (.tup (by walk_at "hp")), kit_ty (by decide +kernel), ?_⟩
  | refine ⟨_, _, _, _, true, rfl, .ty _, .base (.lst (by walk_at "hp")), kit_ty (by decide +kernel), ?_⟩
  | refine ⟨_, _, _, _, false, rfl, .ty _, .base (.lst (by walk_at "hp")), kit_ty (by decide +kernel), ?_⟩
  | refine ⟨_, _, rfl, ⟨by walk_at "sz", rfl⟩, ?_⟩
  | refine ⟨_, _, _, _, rfl, rfl, SqT.of (by walk_at "hp"), by rfl, ?_⟩
  | refine ⟨_, _, _, _, rfl, rfl, SqL.of (by walk_at "hp"), by rfl, ?_⟩
  | refine ⟨.inl ⟨rfl, _, SqL.of (by walk_at "hp")⟩, ?_⟩
  | refine ⟨_, _, _, rfl, rfl, (by walk_at "hp"), snoc_get, ?_⟩
  | refine ⟨_, _, _, _, rfl, rfl, (by walk_at "hp"), by rfl, ?_⟩
  | refine ⟨_, _, rfl, SqL.of (by walk_at "hp"), ?_⟩
  | refine ⟨_, _, rfl, SqT.of (by walk_at "hp"), by rfl, ?_⟩
  | refine ⟨_, (_ : List V), rfl, ?_⟩
  | refine ⟨_, _, rfl, .inl ⟨_, (by assumption), rfl⟩, ?_⟩
  | refine ⟨_, _, rfl, .inl ⟨_, SqL.of (by walk_at "hp"), rfl⟩, ?_⟩
  | refine ⟨_, _, rfl, .inr ⟨_, SqT.of (by walk_at "hp"), rfl⟩, ?_⟩
  | refine Or.inl ⟨(_ : Int), rfl, ?_⟩ | refine Or.inr ⟨(_ : Bool), rfl, ?_⟩
  | refine ⟨_, _, _, _, true, rfl, (by assumption : ND _ _ _ _), .ty _, kit_ty (by decide +kernel), ?_⟩
  | refine ⟨_, _, _, _, false, rfl, (by assumption : ND _ _ _ _), .ty _, kit_ty (by decide +kernel), ?_⟩
  | refine ⟨_, _, rfl, (by assumption : ND _ _ _ _), ?_⟩
  | refine And.intro (by walk_at "ar") ?_)
local macro_rules | `(tactic| walk_at "rd") => `(tactic| repeat walk_at "r1")

/-- a judge on the heap, as made -/
structure JN (w : World) (H : Hp) (J : Jd) (a d g : Addr) (es : List NE) : Prop where
  tup : H a = some (.tup [.str (txS J.ls), .int (J.st : Nat), .int (J.few : Nat), .int (J.turn : Nat), .ref d, .ref g])
  dic : H d = some (ndO w d es)
  ks : NKeys H es
  lst : H g = some (.lst (J.gd.map fun n => V.int (n : Nat)))
  tab : TabE es J
  ok : J.Ok
theorem JN.same {w : World} {H H' : Hp} {J : Jd} {a d g : Addr} {es : List NE} (h : JN w H J a d g es) (s : Same H H') : JN w H' J a d g es :=
  { h with tup := s _ _ h.tup, dic := s _ _ h.dic, ks := h.ks.stay fun _ _ e => s _ _ e, lst := s _ _ h.lst }
theorem JN.keep {w : World} {A : List Addr} {H H' : Hp} {J : Jd} {a d g : Addr} {es : List NE} (h : JN w H J a d g es) (s : Keep A H H') (hd : d ∉ A) (hg : g ∉ A) : JN w H' J a d g es :=
  { h with tup := s.tup _ _ h.tup, dic := s.but _ _ hd h.dic, ks := h.ks.stay s.tup, lst := s.but _ _ hg h.lst }
theorem JN.at {w : World} {H : Hp} {J : Jd} {a d g : Addr} {es : List NE} (h : JN w H J a d g es) : JAt w H J a d g es := ⟨h.tup, ND.of h.dic h.ks, h.lst⟩
theorem Jd.Ok.letters {J : Jd} (ok : J.Ok) : lettersB J.ls = true := by
  have h1 : J.ls.isEmpty = false := by
    cases h : J.ls with
    | nil => exact absurd h ok.ls1
    | cons => rfl
  rw [lettersB, h1, ok.lsR, List.all_eq_true.mpr ok.lsL]
  rfl
theorem Jd.Ok.okB {J : Jd} (ok : J.Ok) : J.okB = true := by
  simp only [Jd.okB, ok.letters, decide_eq_true ok.st1, decide_eq_true ok.st6, decide_eq_true ok.few4, decide_eq_true ok.turn1, decide_eq_true ok.turn4, ok.gdR, Bool.and_true, Bool.true_and]
  rw [List.all_eq_true.mpr fun v hv => decide_eq_true (ok.tbv v hv), List.all_eq_true.mpr fun v hv => decide_eq_true (ok.gdv v hv)]
  rfl
theorem tabE_of {es : List NE} {J : Jd} (hl : J.keys.length = J.tb.length) (h1 : es.map (·.1) = J.keys.map kJ) (h2 : es.map (·.2.2) = J.tb.map (fun n => V.int (n : Nat))) : TabE es J := by
  have key : ∀ (es : List NE) (ks : List (Nat × List Nat)) (tb : List Nat), ks.length = tb.length → es.map (·.1) = ks.map kJ → es.map (·.2.2) = tb.map (fun n => V.int (n : Nat)) → (es.map fun e => (e.1, e.2.2)) = ((ks.zip tb).map fun p => (kJ p.1, V.int (p.2 : Nat))) := by
    intro es
    induction es with
    | nil =>
      intro ks tb hl h1 h2
      cases ks with
      | nil => rfl
      | cons => cases h1
    | cons e es ih =>
      intro ks tb hl h1 h2
      cases ks with
      | nil => cases h1
      | cons k ks =>
        cases tb with
        | nil => cases hl
        | cons t tb =>
          rw [List.map_cons, List.map_cons] at h1 h2
          injection h1 with a1 a2
          injection h2 with b1 b2
          rw [List.map_cons, List.zip_cons_cons, List.map_cons, ih ks tb (by simpa using hl) a2 b2, a1, b1]
  exact key es J.keys J.tb hl h1 h2
theorem TabE.ek {es : List NE} {J : Jd} (h : TabE es J) (ok : J.Ok) : es.map (·.1) = J.keys.map kJ := by
  have q := congrArg (List.map Prod.fst) h
  rw [List.map_map, List.map_map] at q
  exact q.trans (tab_keys ok)
theorem TabE.ev {es : List NE} {J : Jd} (h : TabE es J) (ok : J.Ok) : es.map (·.2.2) = J.tb.map (fun n => V.int (n : Nat)) := by
  have q := congrArg (List.map Prod.snd) h
  rw [List.map_map, List.map_map] at q
  have e := zip_snd J.keys J.tb ok.klen
  calc es.map (·.2.2) = (J.tab.map (·.2)).map (fun n => V.int (n : Nat)) := by rw [List.map_map]; exact q
    _ = _ := by rw [Jd.tab, e]
theorem JN.form {w : World} {H : Hp} {J : Jd} {a d g : Addr} {es : List NE} (h : JN w H J a d g es) : JForm w H J a d g es :=
  { tup := h.tup, dic := h.dic, ks := h.ks, lst := h.lst, ek := fun _ => h.tab.ek h.ok, ev := fun _ => h.tab.ev h.ok, l3 := by have := h.ok.ls26; omega, st9 := by have := h.ok.st6; omega, few9 := by have := h.ok.few4; omega,
    turn9 := by have := h.ok.turn4; omega, tb6 := h.ok.size, tb9 := fun v hv => by have := h.ok.tbv v hv; have := h.ok.st6; omega, gd3 := by have := h.ok.gd6; omega }
theorem JForm.ok {w : World} {H : Hp} {J : Jd} {a d g : Addr} {es : List NE} (h : JForm w H J a d g es) (hb : J.okB = true) : J.Ok := by
  simp only [Jd.okB, Bool.and_eq_true, decide_eq_true_eq, List.all_eq_true] at hb
  obtain ⟨⟨⟨⟨⟨h1, h2, h3⟩, h4⟩, h5, h6⟩, h7⟩, h8, h9⟩ := hb
  have hl := h1
  simp only [lettersB, Bool.and_eq_true, List.all_eq_true] at hl
  obtain ⟨⟨l1, l2⟩, l3⟩ := hl
  have e1 := congrArg List.length (h.ek h1)
  have e2 := congrArg List.length (h.ev h1)
  rw [List.length_map, List.length_map] at e1 e2
  exact { ls1 := fun z => by rw [z] at l1; simp at l1, lsL := l2, lsR := l3, st1 := h2, st6 := h3, few4 := h4, turn1 := h5, turn4 := h6, tbl := by rw [← e2, e1, Jd.keys, keysL_len], size := h.tb6, tbv := h7, gdv := h8, gdR := h9 }
theorem JForm.jn {w : World} {H : Hp} {J : Jd} {a d g : Addr} {es : List NE} (h : JForm w H J a d g es) (hb : J.okB = true) : JN w H J a d g es :=
  { tup := h.tup, dic := h.dic, ks := h.ks, lst := h.lst, ok := h.ok hb, tab := tabE_of (h.ok hb).klen (h.ek (h.ok hb).letters) (h.ev (h.ok hb).letters) }
/-! displays of triples -/
abbrev T3 := Int × Int × Int
abbrev SzV (H : Hp) (vs : List V) (l : List T3) : Prop := Paired (fun v (x : T3) => ∃ t, v = .ref t ∧ H t = some (.tup [.int x.1, .int x.2.1, .int x.2.2])) vs l
theorem SzV.stay {H H' : Hp} {vs : List V} {l : List T3} (h : SzV H vs l) (ht : ∀ b xs, H b = some (.tup xs) → H' b = some (.tup xs)) : SzV H' vs l := Paired.mapP h fun _ _ ⟨t, e, k⟩ => ⟨t, e, ht _ _ k⟩
theorem SzV.app {H : Hp} {vs ws : List V} {rs qs : List T3} (h : SzV H vs rs) (g : SzV H ws qs) : SzV H (vs ++ ws) (rs ++ qs) := by
  induction h with
  | nil => exact g
  | cons a _ ih => exact .cons a ih
theorem nodup_not_take {α : Type} {l : List α} (hn : l.Nodup) {i : Nat} {c : α} (h : l[i]? = some c) : c ∉ l.take i := by
  intro hm
  obtain ⟨hi, e⟩ := List.getElem?_eq_some_iff.mp h
  have e2 : l = l.take i ++ c :: l.drop (i + 1) := by
    conv => lhs; rw [← List.take_append_drop i l, List.drop_eq_getElem_cons hi, e]
  rw [e2, List.nodup_append] at hn
  exact hn.2.2 c hm c List.mem_cons_self rfl
theorem nat_sum (r : List Nat) : ((r.map fun n : Nat => (n : Int)).sum) = ((r.sum : Nat) : Int) := by
  induction r with
  | nil => rfl
  | cons x r ih => rw [List.map_cons, List.sum_cons, List.sum_cons, ih]; omega
def GoodT (x : T3) : Prop := 1 ≤ x.1 ∧ x.1 ≤ 6 ∧ 0 ≤ x.2.1 ∧ x.2.1 ≤ 4 ∧ 1 ≤ x.2.2 ∧ x.2.2 ≤ 4 ∧ (x.2.1.toNat + x.2.2.toNat) ^ x.1.toNat ≤ 600
instance (x : T3) : Decidable (GoodT x) := by unfold GoodT; exact inferInstance
theorem cut_last (l : List Nat) : cutS (txS l) none (some (-1)) = txS l.dropLast := by
  unfold cutS
  rw [HT.sIx_none, txS_len]
  have e : HT.sIx l.length l.length (some (-1)) = l.length - 1 := by
    show (if (-1 : Int) < 0 then ((-1 : Int) + (l.length : Int)).toNat else min (-1 : Int).toNat l.length) = _
    rw [if_pos (by decide)]
    omega
  have e0 : HT.sIx l.length 0 none = 0 := rfl
  have e1 : (txS l).cps.toList = l := by simp
  rw [e, e1, List.drop_zero, Nat.sub_zero, List.dropLast_eq_take]
section
variable {P : Program} {w : World} {K : PySem.W.Frag} {mg : Str → Option Value} {base : Heap}
def sizes1 : List T3 := [(2, 1, 1), (3, 1, 1), (2, 0, 2), (1, 0, 1), (2, 2, 1)]
def sizes2 : List T3 := [(3, 0, 2), (2, 1, 2), (1, 4, 4), (3, 0, 1), (2, 4, 1)]
def sizes3 : List T3 := [(3, 2, 1), (4, 1, 1), (5, 1, 1), (6, 1, 1), (4, 0, 2), (3, 1, 2), (2, 4, 4), (4, 2, 2), (3, 4, 4)]
def sizes4 : List T3 := [(2, 0, 3), (2, 3, 1), (1, 3, 3)]
abbrev J9put (w : World) (K : PySem.W.Frag) : TS := sNPut w (tVar 8) (tTup (tCons (tVar 9) (tCons (tVar 11) tNil)))
                      (tOp (rIxL K)
                        (tLst
                          (tCons (tCall sp__law_take [] E0 (tCons (tVar 0) (tCons (tVar 3) tNil)))
                            (tCons
                              (tOp (rI (fun x j => 0 < j) fun i j => V.int (i % j))
                                (tCB (rSumT K) (tCons (tVar 11) tNil)) (tVar 3))
                              (tCons
                                (tCB
                                  (fun xs H Q => ∃ i j, xs = [V.int i, V.int j] ∧ Q (V.int (if j < i then j else i)) H)
                                  (tCons (tOp (rI0 fun i j => V.int (i - j)) (tVar 3) (tC (V.int 1)))
                                    (tCons (tCB (rSumT K) (tCons (tVar 11) tNil)) tNil)))
                                tNil))))
                        (tVar 10))
abbrev J9row (w : World) (K : PySem.W.Frag) : TS := tSeq (tAsg (tCall sp__law_take [] E0 (tCons (tVar 0) (tCons (tC (V.int 3)) tNil))) (gName 10)) (tFor (iList K (tVar 7)) (gName 11) (J9put w K))
theorem StoreAt.new {H : Hp} {st p : Addr} {o : HO} (h : StoreAt H st) (n : H p = none) : StoreAt (upd H p o) st := by
  obtain ⟨a, b, c, e⟩ := h
  exact ⟨a, b, c, by rw [upd_ne (ne_of_none e n)]; exact e⟩
theorem StoreAt.ne {H : Hp} {st p : Addr} (h : StoreAt H st) (n : H p = none) : p ≠ st := fun z => by
  obtain ⟨a, b, c, e⟩ := h
  rw [z, e] at n
  cases n
theorem StoreAt.oth {H : Hp} {st p : Addr} {o : HO} (h : StoreAt H st) (n : p ≠ st) : StoreAt (upd H p o) st := by
  obtain ⟨a, b, c, e⟩ := h
  exact ⟨a, b, c, by rw [upd_ne (Ne.symm n)]; exact e⟩
theorem j9_put {J : Ends} {st md pr pd : Addr} {sm : Bool} {s fw u : Nat} {l r : List Nat} {c : Nat} {kd : Int} {y : V} {H : Hp} {es : List NE} (hs1 : 1 ≤ s) (hs6 : s ≤ 6) (hst : StoreAt H st) (hps : pd ≠ st) (hk0 : 0 ≤ kd) (hk1 : kd < 3)
    (hy : NKv H (kR r) y) (hd : H pd = some (ndO w pd es)) (hk : NKeys H es) (hes : es.length < sizeLine)
    (k : ∀ (H' : Hp) (b : Addr) (v : Nat), Keep [st] H H' → StoreAt H' st → H' pd = some (ndO w pd es) → NKeys H' es → NKv H' (kJ (c, r)) (.ref b) → v < s → J.nx [some (.ref st), some (.bl sm), some (.ref md), some (.int (s : Nat)), some (.int (fw : Nat)), some (.int (u : Nat)), some (tx l), some (.ref pr), some (.ref pd), some (tx [c]), some (.int kd), some y, none, none] (upd H' pd (ndO w pd (putN es (kJ (c, r)) b (.int (v : Nat)))))) :
    J9put w K J [some (.ref st), some (.bl sm), some (.ref md), some (.int (s : Nat)), some (.int (fw : Nat)), some (.int (u : Nat)), some (tx l), some (.ref pr), some (.ref pd), some (tx [c]), some (.int kd), some y, none, none] H := by
  obtain ⟨a, rfl, ha⟩ := row_of hy
  walk_at "rd"
  refine ⟨st, _, rfl, hst, by omega, by omega, fun H1 q K1 hst1 h0 h1 => ?_⟩
  have ha1 := K1.tup _ _ ha
  walk_at "rd"
  have eR : (r.map fun n : Nat => V.int (n : Int)) = (r.map fun n : Nat => (n : Int)).map V.int := by rw [List.map_map]; rfl
  refine ⟨a, _, rfl, SqT.of (by rw [← eR]; exact ha1), ?_⟩
  walk_at "rd"
  refine ⟨a, _, rfl, SqT.of (by rw [← eR]; exact ha1), ?_⟩
  walk_at "rd"
  refine ⟨_, _, rfl, ?_⟩
  walk_at "rd"
  refine ⟨(by walk_at "sz"), fun p np => ?_⟩
  generalize e2 : upd H1 p _ = H2
  obtain ⟨S2, hp2⟩ := newF np e2
  obtain ⟨v, hv, hvs⟩ : ∃ v : Nat, atI [V.int q, V.int ((r.map fun n : Nat => (n : Int)).sum % (s : Int)), V.int (if (r.map fun n : Nat => (n : Int)).sum < (s : Int) - 1 then (r.map fun n : Nat => (n : Int)).sum else (s : Int) - 1)] kd = some (.int (v : Nat)) ∧ v < s := by
    rw [nat_sum]
    obtain rfl | rfl | rfl : kd = 0 ∨ kd = 1 ∨ kd = 2 := by omega
    · exact ⟨q.toNat, by show some (V.int q) = _; congr 2; omega, by omega⟩
    · exact ⟨r.sum % s, by show some (V.int ((r.sum : Int) % (s : Int))) = _; congr 2, Nat.mod_lt _ (by omega)⟩
    · by_cases hlt : ((r.sum : Nat) : Int) < (s : Int) - 1
      · exact ⟨r.sum, by rw [if_pos hlt]; rfl, by omega⟩
      · exact ⟨s - 1, by rw [if_neg hlt]; show some (V.int ((s : Int) - 1)) = _; congr 2; omega, by omega⟩
  walk_at "rd"
  refine ⟨_, _, _, _, rfl, rfl, SqL.of hp2, hv, ?_⟩
  walk_at "rd"
  refine ⟨(by walk_at "sz"), fun b nb => ?_⟩
  generalize e3 : upd H2 b _ = H3
  obtain ⟨S3, hb3⟩ := newF nb e3
  have hd1 : H1 pd = some (ndO w pd es) := K1.but pd _ (by simpa using hps) hd
  have hd3 := S3 _ _ (S2 _ _ hd1)
  have T3 : ∀ b xs, H b = some (.tup xs) → H3 b = some (.tup xs) := fun b xs e => S3 _ _ (S2 _ _ (K1.tup _ _ e))
  have hk3 : NKeys H3 es := hk.stay T3
  have hst3 : StoreAt H3 st := by rw [← e3]; refine StoreAt.new ?_ nb; rw [← e2]; exact hst1.new np
  have hkey : NKv H3 (kJ (c, r)) (.ref b) := keyJ_mk hb3 (hy.stay T3)
  exact ⟨pd, es, _, b, rfl, rfl, hd3, hk3, hkey, by rw [kJ_depth]; decide, hes, k H3 b v ((K1.trans (Same.keep S2)).trans (Same.keep S3)) hst3 hd3 hk3 hkey hvs⟩
theorem key_new {l : List Nat} {m s i j c : Nat} {r : List Nat} (hN : l.Nodup) (hc : l[i]? = some c) (hr : (rowsL m s)[j]? = some r) : (c, r) ∉ keysL (l.take i) m s ++ ((rowsL m s).take j).map fun r => (c, r) := by
  intro h
  rcases List.mem_append.mp h with h | h
  · exact nodup_not_take hN hc (keysL_mem.mp h).1
  · obtain ⟨r', hr', e⟩ := List.mem_map.mp h
    exact nodup_not_take (rowsL_nodup m s) hr ((Prod.mk.inj e).2 ▸ hr')
theorem j9_row {J : Ends} {st md pr pd : Addr} {sm : Bool} {s fw u : Nat} {l : List Nat} {c : Nat} {x10 x11 : Option V} {H0 H : Hp} {es : List NE} {tb : List Nat} {i : Nat} {ws : List V} (hs1 : 1 ≤ s) (hs6 : s ≤ 6) (hst : StoreAt H st) (hps : pd ≠ st) (hprst : pr ≠ st)
    (K0 : Keep [st] H0 H) (npd : H0 pd = none) (hrows : RowsV H0 ws (rowsL (fw + u) s)) (hpr : H0 pr = some (.lst ws)) (hN : l.Nodup) (hc : l[i]? = some c) (hbig : l.length * (fw + u) ^ s ≤ 600)
    (hd : H pd = some (ndO w pd es)) (hk : NKeys H es) (he1 : es.map (·.1) = (keysL (l.take i) (fw + u) s).map kJ) (he2 : es.map (·.2.2) = tb.map (fun n => V.int (n : Nat))) (hv : ∀ v ∈ tb, v < s)
    (k : ∀ (H' : Hp) (x10 x11 : Option V) (es : List NE) (tb : List Nat), Keep [st] H0 H' → StoreAt H' st → H' pd = some (ndO w pd es) → NKeys H' es → es.map (·.1) = (keysL (l.take (i + 1)) (fw + u) s).map kJ → es.map (·.2.2) = tb.map (fun n => V.int (n : Nat)) → (∀ v ∈ tb, v < s) →
      J.nx [some (.ref st), some (.bl sm), some (.ref md), some (.int (s : Nat)), some (.int (fw : Nat)), some (.int (u : Nat)), some (tx l), some (.ref pr), some (.ref pd), some (tx [c]), x10, x11, none, none] H') :
    J9row w K J [some (.ref st), some (.bl sm), some (.ref md), some (.int (s : Nat)), some (.int (fw : Nat)), some (.int (u : Nat)), some (tx l), some (.ref pr), some (.ref pd), some (tx [c]), x10, x11, none, none] H := by
  walk_at "rd"
  refine ⟨st, 3, rfl, hst, by decide, by decide, fun H8 kd K8 hst8 hk0 hk1 => ?_⟩
  walk_at "rd"
  have K08 := K0.trans K8
  have hd8 : H8 pd = some (ndO w pd es) := K8.but pd _ (by simpa using hps) hd
  have hpr8 : H8 pr = some (.lst ws) := K08.but pr _ (by simpa using hprst) hpr
  refine ⟨⟨_, SqL.of hpr8⟩, ?_⟩
  refine for_it (walk_list (xs := ws)) (fun j σ H' => ∃ (x11 : Option V) (es : List NE) (tb : List Nat), σ = [some (.ref st), some (.bl sm), some (.ref md), some (.int (s : Nat)), some (.int (fw : Nat)), some (.int (u : Nat)), some (tx l), some (.ref pr), some (.ref pd), some (tx [c]), some (.int kd), x11, none, none] ∧
    Keep [st] H0 H' ∧ StoreAt H' st ∧ H' pd = some (ndO w pd es) ∧ NKeys H' es ∧ es.map (·.1) = (keysL (l.take i) (fw + u) s ++ ((rowsL (fw + u) s).take j).map fun r => (c, r)).map kJ ∧ es.map (·.2.2) = tb.map (fun n => V.int (n : Nat)) ∧ ∀ v ∈ tb, v < s)
    ⟨x11, es, tb, rfl, K08, hst8, hd8, hk.stay K8.tup, by simpa using he1, he2, hv⟩ (fun j σ H' _ ⟨_, _, _, _, K9, _⟩ => SqL.of (K9.but pr _ (by simpa using hprst) hpr)) ?_ ?_
  · rintro j y σ H9 H10 hj ⟨x11, es, tb, rfl, K9, hst9, hd9, hk9, he1, he2, hv9⟩ ⟨rfl, hy⟩
    obtain ⟨r, hr, hyr⟩ := paired_get hrows hy
    have hnew : atN es (kJ (c, r)) = none := atN_none (by
      rw [he1]
      intro hm
      obtain ⟨p, hp, e⟩ := List.mem_map.mp hm
      rw [kJ_inj e] at hp
      exact key_new (m := fw + u) (s := s) hN hc hr hp)
    have hrl : (rowsL (fw + u) s).length = (fw + u) ^ s := rowsL_len _ _
    have hil : i < l.length := (List.getElem?_eq_some_iff.mp hc).1
    have hjl : j < (rowsL (fw + u) s).length := (List.getElem?_eq_some_iff.mp hr).1
    have hlen : es.length < sizeLine := by
      have e := congrArg List.length he1
      rw [List.length_map, List.length_map, List.length_append, keysL_len, List.length_map, List.length_take, List.length_take, Nat.min_eq_left (by omega), Nat.min_eq_left (by omega)] at e
      have h2 := Nat.mul_le_mul_right ((fw + u) ^ s) (show i + 1 ≤ l.length by omega)
      rw [Nat.succ_mul] at h2
      rw [e]
      exact Nat.lt_of_lt_of_le (show _ < 601 by omega) (by decide)
    show J9put w K _ _ _
    refine j9_put hs1 hs6 hst9 hps hk0 hk1 (hyr.stay K9.tup) hd9 hk9 hlen fun H' b v Kp hst' hd' hk' hkey hvs => ?_
    have K' := (K9.trans Kp)
    refine ⟨_, _, tb ++ [v], rfl, K'.own npd, hst'.oth hps, upd_same, ?_, ?_, ?_, ?_⟩
    · refine (hk'.put hkey (by rw [kJ_depth]; decide)).stay fun b xs e => ?_
      rw [upd_ne (ne_of e hd' (fun z => nomatch z))]
      exact e
    · rw [putN_new _ _ hnew, List.map_append, he1, List.take_succ, hr]
      simp
    · rw [putN_new _ _ hnew, List.map_append, he2, List.map_append]
      rfl
    · intro x hx
      rcases List.mem_append.mp hx with hx | hx
      · exact hv9 x hx
      · rw [List.mem_singleton.mp hx]; exact hvs
  · rintro σ H9 ⟨x11, es, tb, rfl, K9, hst9, hd9, hk9, he1, he2, hv9⟩
    refine k H9 _ _ es tb K9 hst9 hd9 hk9 ?_ he2 hv9
    rw [he1, Paired.length hrows, List.take_length, List.take_succ, hc, keysL, keysL, List.flatMap_append]
    simp
theorem j9_tail {J : Ends} {st md pr : Addr} {sm : Bool} {s fw u : Nat} {l : List Nat} {H : Hp} {ws : List V} (hs1 : 1 ≤ s) (hs6 : s ≤ 6) (hfw : fw ≤ 4) (hu1 : 1 ≤ u) (hu4 : u ≤ 4) (hst : StoreAt H st) (hprst : pr ≠ st)
    (hrows : RowsV H ws (rowsL (fw + u) s)) (hpr : H pr = some (.lst ws)) (hl : LetR l) (hbig : l.length * (fw + u) ^ s ≤ 600)
    (k : ∀ (H' : Hp) (Jd : Jd) (a d g : Addr) (es : List NE), Keep [st] H H' → StoreAt H' st → H d = none → H g = none → d ≠ g → JN w H' Jd a d g es → J.rt (.ref a) H') :
    (tSeq (tAsg (tNNew w) (gName 8))
            (tSeq
              (tFor (iStr (tVar 6)) (gName 9)
                (tSeq (tAsg (tCall sp__law_take [] E0 (tCons (tVar 0) (tCons (tC (V.int 3)) tNil))) (gName 10))
                  (tFor (iList K (tVar 7)) (gName 11)
                    (J9put w K))))
              (tSeq
                (tAsg
                  (tLc (iRng1 (tCons (tVar 3) tNil)) (gName 13)
                    (tTest
                      (tOp rEq (tCall sp__law_take [] E0 (tCons (tVar 0) (tCons (tC (V.int 2)) tNil))) (tC (V.int 0))))
                    (tVar 13) (List.map (fun x => x.snd) [(Str.ofString "state", 13)]))
                  (gName 12))
                (tRet
                  (tTup
                    (tCons (tVar 6)
                      (tCons (tVar 3) (tCons (tVar 4) (tCons (tVar 5) (tCons (tVar 8) (tCons (tVar 12) tNil))))))))))) J [some (.ref st), some (.bl sm), some (.ref md), some (.int (s : Nat)), some (.int (fw : Nat)), some (.int (u : Nat)), some (tx l), some (.ref pr), none, none, none, none, none, none] H := by
  obtain ⟨hl1, hl2, hl3, hl4⟩ := hl
  have hlN : l.Nodup := riseB_nodup hl3
  walk_at "rd"
  refine fun pd npd => ?_
  generalize e6 : upd H pd _ = H6
  obtain ⟨S6, hd6⟩ := newF npd e6
  have hst6 : StoreAt H6 st := by rw [← e6]; exact hst.new npd
  have hdst : pd ≠ st := hst.ne npd
  have hdpr : pr ≠ pd := ne_of_none hpr npd
  walk_at "rd"
  have hat : ∀ i : Nat, (txS l).cps[i]? = l[i]? := fun i => by show l.toArray[i]? = _; simp
  refine for_it walk_str (fun i σ H' => ∃ (x9 x10 x11 : Option V) (es : List NE) (tb : List Nat), σ = [some (.ref st), some (.bl sm), some (.ref md), some (.int (s : Nat)), some (.int (fw : Nat)), some (.int (u : Nat)), some (tx l), some (.ref pr), some (.ref pd), x9, x10, x11, none, none] ∧
    Keep [st] H H' ∧ StoreAt H' st ∧ H' pd = some (ndO w pd es) ∧ NKeys H' es ∧ es.map (·.1) = (keysL (l.take i) (fw + u) s).map kJ ∧ es.map (·.2.2) = tb.map (fun n => V.int (n : Nat)) ∧ ∀ v ∈ tb, v < s)
    ⟨none, none, none, [], [], rfl, Same.keep S6, hst6, hd6, NKeys.nil, rfl, rfl, fun v hv => nomatch hv⟩ (fun _ _ _ _ _ => trivial) ?_ ?_
  · rintro i y σ H7 H8 hi ⟨x9, x10, x11, es, tb, rfl, K7, hst7, hd7, hk7, he1, he2, hv7⟩ ⟨rfl, c, hc, rfl⟩
    rw [hat] at hc
    show J9row w K _ _ _
    refine j9_row hs1 hs6 hst7 hdst hprst K7 npd hrows hpr hlN hc hbig hd7 hk7 he1 he2 hv7 fun H' y10 y11 es' tb' K' hst' hd' hk' he1' he2' hv' => ?_
    exact ⟨_, _, _, es', tb', rfl, K', hst', hd', hk', he1', he2', hv'⟩
  · rintro σ H7 ⟨x9, x10, x11, es, tb, rfl, K7, hst7, hd7, hk7, he1, he2, hv7⟩
    have hcs : (txS l).cps.size = l.length := by simp
    rw [hcs, List.take_length] at he1
    walk_at "rd"
    refine ⟨by omega, by omega, ?_⟩
    refine fun D nD => lc_range (lo := 0) (n := s) (fun i H' => Keep [st] H7 H' ∧ StoreAt H' st ∧ ∃ gd : List Nat, gd.Pairwise (· < ·) ∧ (∀ v ∈ gd, v < i) ∧ gd.length ≤ i ∧ H' D = some (.lst (gd.map fun n => V.int (n : Nat)))) ⟨(Keep.refl _ _).updNew nD, hst7.new nD, [], .nil, (fun v hv => nomatch hv), Nat.zero_le _, upd_same⟩ ?_ ?_
    · rintro i H8 hi ⟨K8, hst8, gd, hg1, hg2, hg3, hD8⟩
      have hDst : D ≠ st := hst7.ne nD
      walk_at "rd"
      refine ⟨st, 2, rfl, hst8, by decide, by decide, fun H9 r K9 hst9 h0 h1 => ?_⟩
      have hD9 : H9 D = _ := K9.but D _ (by simpa using hDst) hD8
      walk_at "rd"
      show if decide (V.int r = V.int 0) = true then _ else _
      split
      · walk_at "rd"
        refine ⟨_, hD9, ?_, ((K8.trans K9).own nD), hst9.oth hDst, gd ++ [i], ?_, ?_, ?_, ?_⟩
        · rw [List.length_map]
          exact Nat.lt_of_lt_of_le (show _ < 7 by omega) (by decide)
        · rw [List.pairwise_append]
          exact ⟨hg1, by simp, fun a ha b hb => by rw [List.mem_singleton.mp hb]; exact hg2 a ha⟩
        · intro v hv
          rcases List.mem_append.mp hv with hv | hv
          · exact Nat.lt_succ_of_lt (hg2 v hv)
          · rw [List.mem_singleton.mp hv]; exact Nat.lt_succ_self _
        · rw [List.length_append]; exact Nat.succ_le_succ hg3
        · rw [upd_same, List.map_append]
          show some (HO.lst (_ ++ [V.int (0 + (i : Int))])) = _
          rw [Int.zero_add]
          rfl
      · exact ⟨K8.trans K9, hst9, gd, hg1, fun v hv => Nat.lt_succ_of_lt (hg2 v hv), by omega, hD9⟩
    · rintro H8 ⟨K8, hst8, gd, hg1, hg2, hg3, hD8⟩
      have hd8 : H8 pd = _ := K8.but pd _ (by simpa using hdst) hd7
      walk_at "rd"
      refine ⟨(by show 6 ≤ sizeLine; decide), fun a na => ?_⟩
      generalize e9 : upd H8 a _ = H9
      obtain ⟨S9, ha9⟩ := newF na e9
      have el : es.length = l.length * (fw + u) ^ s := by
        have e := congrArg List.length he1
        rwa [List.length_map, List.length_map, keysL_len] at e
      have et : es.length = tb.length := by
        have e := congrArg List.length he2
        rwa [List.length_map, List.length_map] at e
      have hgn : H D = none := K7.some nD (by simpa using hst7.ne nD)
      refine k H9 ⟨l, s, fw, u, tb, gd⟩ a pd D es ((K7.trans K8).trans (Same.keep S9)) ?_ npd hgn (ne_of_none hd7 nD) ?_
      · rw [← e9]; exact hst8.new na
      · refine { tup := ha9, dic := S9 _ _ hd8, ks := (hk7.stay K8.tup).stay fun _ _ e => S9 _ _ e, lst := S9 _ _ hD8, tab := tabE_of ?_ he1 he2, ok := ?_ }
        · rw [Jd.keys, keysL_len]
          exact el.symm.trans et
        · exact { ls1 := hl1, lsL := hl2, lsR := hl3, st1 := hs1, st6 := hs6, few4 := hfw, turn1 := hu1, turn4 := hu4, tbl := et.symm.trans el, size := by show tb.length ≤ 600; rw [← et, el]; exact hbig, tbv := hv7, gdv := hg2, gdR := pair_riseB hg1 }
def sp__law_judge (w : World) : Sp := fun vs H Q _ => ∃ (s : Addr) (b : Bool), vs = [.ref s, .bl b] ∧ StoreAt H s ∧
  ∀ (H' : Hp) (J : Jd) (a d g : Addr) (es : List NE), Keep [s] H H' → StoreAt H' s → H d = none → H g = none → d ≠ g → JN w H' J a d g es → Q (.ref a) H'
end
end Hy
set_option Elab.async false
set_option linter.all false
set_option maxRecDepth 100000
set_option maxHeartbeats 4000000
namespace Hy
open PySem L2
local macro_rules | `(tactic| walk_at "hp") => `(tactic| first
  | assumption | exact upd_same
  | (refine (upd_ne ?_).trans ?_ <;> first | assumption | (exact Ne.symm (by assumption)) | walk_at "ne" | walk_at "hp")
  | (refine (by assumption : Same _ _) _ _ ?_; assumption))
local macro_rules | `(tactic| walk_at "ne") => `(tactic| first
  | assumption | (exact Ne.symm (by assumption))
  | exact ne_of_none (by assumption) (by assumption) | exact Ne.symm (ne_of_none (by assumption) (by assumption)))
local macro_rules | `(tactic| walk_at "sz") => `(tactic| first | assumption | (show 0 ≤ sizeLine; decide) | (show 1 ≤ sizeLine; decide) | (show 2 ≤ sizeLine; decide) | (show 3 ≤ sizeLine; decide))
local macro_rules | `(tactic| walk_at "ar") => `(tactic| first
  | ((with_reducible show (0 : Int) < _); first | decide | omega)
  | ((with_reducible show CMul _ _); first | exact Or.inr (And.intro (by decide) (by decide)) | exact Or.inl (And.intro (by decide) (by decide)) | (refine Or.inl (And.intro ?_ ?_) <;> omega) | (refine Or.inr (And.intro ?_ ?_) <;> omega))
  | ((with_reducible show CPow _ _); exact And.intro (by decide) (And.intro (by decide) (by decide)))
  | ((with_reducible show CDiv _ _); first | exact And.intro (by decide) (by decide) | (refine And.intro ?_ ?_ <;> omega)))
/- one step of a reading -/
local macro_rules | `(tactic| walk_at "r1") => `(tactic| first
  | refine ⟨_, rfl, ?_⟩
  | refine iteB (by rfl) ?_ | refine iteC (by rfl) ?_
  | refine ⟨_, _, rfl, rfl, ?_⟩
  | refine ⟨rfl, ?_⟩
  | refine ⟨⟨_, rfl⟩, ?_⟩
  | refine ⟨_, _, _, _, true, rfl, .ty _, .base (.str _), kit_ty (by decide +kernel), ?_⟩
  | refine ⟨_, _, _, _, false, rfl, .ty _, .base (.str _), kit_ty (by decide +kernel), ?_⟩
  | refine ⟨_, _, _, _, true, rfl, .ty _, .base (.int _), kit_ty (by decide +kernel), ?_⟩
  | refine ⟨_, _, _, _, false, rfl, .ty _, .base (.int _), kit_ty (by decide +kernel), ?_⟩
  | refine ⟨_, _, _, _, true, rfl, .ty _, .base (.tup (by walk_at "hp")), kit_ty (by decide +kernel), ?_⟩
  | refine ⟨_, _, _, _, false, rfl, .ty _, .base (.tup (by walk_at "hp")), kit_ty (by decide +kernel), ?_⟩
  | refine ⟨_, _, _, _, true, rfl, .ty _, .base (.lst (by walk_at "hp")), kit_ty (by decide +kernel), ?_⟩
  | refine ⟨_, _, _, _, false, rfl, .ty _, .base (.lst (by walk_at "hp")), kit_ty (by decide +kernel), ?_⟩
  | refine ⟨_, _, rfl, ⟨by walk_at "sz", rfl⟩, ?_⟩
  | refine ⟨_, _, _, _, rfl, rfl, SqT.of (by walk_at "hp"), by rfl, ?_⟩
  | refine ⟨_, _, _, _, rfl, rfl, SqL.of (by walk_at "hp"), by rfl, ?_⟩
  | refine ⟨.inl ⟨rfl, _, SqL.of (by walk_at "hp")⟩, ?_⟩
  | refine ⟨_, _, _, rfl, rfl, (by walk_at "hp"), snoc_get, ?_⟩
  | refine ⟨_, _, _, _, rfl, rfl, (by walk_at "hp"), by rfl, ?_⟩
  | refine ⟨_, _, rfl, SqL.of (by walk_at "hp"), ?_⟩
  | refine ⟨_, _, rfl, SqT.of (by walk_at "hp"), by rfl, ?_⟩
  | refine ⟨_, (_ : List V), rfl, ?_⟩
  | refine ⟨_, _, rfl, .inl ⟨_, (by assumption), rfl⟩, ?_⟩
  | refine ⟨_, _, rfl, .inl ⟨_, SqL.of (by walk_at "hp"), rfl⟩, ?_⟩
  | refine ⟨_, _, rfl, .inr ⟨_, SqT.of (by walk_at "hp"), rfl⟩, ?_⟩
  | refine Or.inl ⟨(_ : Int), rfl, ?_⟩ | refine Or.inr ⟨(_ : Bool), rfl, ?_⟩
  | refine ⟨_, _, _, _, true, rfl, (by assumption : ND _ _ _ _), .ty _, kit_ty (by decide +kernel), ?_⟩
  | refine ⟨_, _, _, _, false, rfl, (by assumption : ND _ _ _ _), .ty _, kit_ty (by decide +kernel), ?_⟩
  | refine ⟨_, _, rfl, (by assumption : ND _ _ _ _), ?_⟩
  | refine And.intro (by walk_at "ar") ?_)
local macro_rules | `(tactic| walk_at "rd") => `(tactic| repeat walk_at "r1")

/-! what is written reads back -/
theorem joinL_mem {c : Nat} {s : List Nat} : ∀ {ws : List (List Nat)}, c ∈ TL.joinL s ws → c ∈ s ∨ ∃ x ∈ ws, c ∈ x
  | [], h => by simp [TL.joinL] at h
  | [p], h => by
    rw [TL.joinL] at h
    exact .inr ⟨p, List.mem_cons_self, h⟩
  | p :: q :: r, h => by
    rw [TL.joinL] at h
    simp only [List.mem_append] at h
    rcases h with h | h | h
    · exact .inr ⟨p, List.mem_cons_self, h⟩
    · exact .inl h
    · rcases joinL_mem h with h | ⟨x, hx, h⟩
      · exact .inl h
      · exact .inr ⟨x, List.mem_cons_of_mem _ hx, h⟩
theorem goodL_mem {g : List Nat} {c : Nat} (h : c ∈ goodL g) : c = 45 ∨ c = 44 ∨ 48 ≤ c := by
  unfold goodL at h
  split at h
  · simp at h; exact .inl h
  · rcases joinL_mem h with h | ⟨x, hx, h⟩
    · simp at h; exact .inr (.inl h)
    · obtain ⟨n, _, rfl⟩ := List.mem_map.mp hx
      rw [List.mem_singleton.mp h]
      exact .inr (.inr (by unfold dig; omega))
theorem tl_txS (l : List Nat) : TL.tl (txS l) = l := by simp [TL.tl]
theorem goodL_reads {g : List Nat} (h9 : ∀ v ∈ g, v ≤ 9) (hl : g.length ≤ 3000) : ReadsG (goodL g) g := by
  by_cases hg : g = []
  · subst hg
    exact .inl ⟨rfl, rfl⟩
  · have e : goodL g = TL.joinL [44] (g.map fun n => [dig n]) := if_neg hg
    refine .inr ⟨fun z => ?_, g.map fun n => [dig n], ?_, ?_, ?_, ?_⟩
    · have h45 : 45 ∈ TL.joinL [44] (g.map fun n => [dig n]) := by rw [← e, z]; simp
      rcases joinL_mem h45 with h | ⟨x, hx, h⟩
      · simp at h
      · obtain ⟨n, _, rfl⟩ := List.mem_map.mp hx
        have := List.mem_singleton.mp h
        unfold dig at this
        omega
    · rw [e, ← join_txS]
      refine TL.split_join (s := 44) (S := []) (tl_txS _) (by decide +kernel) (fun z => hg (by simpa using z)) fun p hp hm => ?_
      obtain ⟨x, hx, rfl⟩ := List.mem_map.mp hp
      obtain ⟨n, _, rfl⟩ := List.mem_map.mp hx
      rw [tl_txS] at hm
      have := List.mem_singleton.mp hm
      unfold dig at this
      omega
    · intro p hp
      obtain ⟨n, _, rfl⟩ := List.mem_map.mp hp
      show 1 ≤ _
      decide
    · rw [List.length_map]; omega
    · rw [List.map_map]
      exact List.map_congr_left fun n hn => figL_dig (h9 n hn)
/-- the codes of the text -/
def Jd.txL (J : Jd) : List Nat := TL.joinL [32] [J.ls, [dig J.st], [dig J.few], [dig J.turn], goodL J.gd, J.tb.map dig]
theorem Jd.words_eq (J : Jd) : J.words = [J.ls, [dig J.st], [dig J.few], [dig J.turn], goodL J.gd, J.tb.map dig].map txS := by
  rw [Jd.words, goodW_eq]; rfl
theorem Jd.text_eq (J : Jd) : J.text = txS J.txL := by
  rw [Jd.text, Jd.words_eq, join_txS, Jd.txL]
theorem Jd.Ok.rj {J : Jd} (ok : J.Ok) : RJ J.txL J (goodL J.gd) := by
  have hst := ok.st6
  have hfw := ok.few4
  have htu := ok.turn4
  have hgl := ok.gd6
  have hm : 1 ≤ J.m := by have := ok.turn1; unfold Jd.m; omega
  have hl1 : 1 ≤ J.ls.length := by
    cases h : J.ls with
    | nil => exact absurd h ok.ls1
    | cons => simp
  have h9 : ∀ v ∈ J.tb, v ≤ 9 := fun v hv => by
    have := ok.tbv v hv
    omega
  have hg9 : ∀ v ∈ J.gd, v ≤ 9 := fun v hv => by
    have := ok.gdv v hv
    omega
  have h26 := ok.ls26
  have hg3 := goodL_len J.gd
  refine { sp := ?_, st9 := by omega, few9 := by omega, turn9 := by omega, tb9 := h9, g := goodL_reads hg9 (by omega), gl3 := by omega, gd3 := by omega, l3 := by omega, many := ?_, size := ok.size }
  · rw [← Jd.text_eq, Jd.text]
    refine (TL.split_join (s := 32) (S := []) (tl_txS _) (by decide +kernel) (fun z => by rw [Jd.words] at z; cases z) fun p hp hm => ?_).trans (by rw [Jd.words, goodW_eq])
    rw [Jd.words_eq] at hp
    obtain ⟨x, hx, rfl⟩ := List.mem_map.mp hp
    rw [tl_txS] at hm
    simp only [List.mem_cons, List.not_mem_nil, or_false] at hx
    rcases hx with rfl | rfl | rfl | rfl | rfl | rfl
    · exact absurd (ok.lsL _ hm) (by decide)
    · have := List.mem_singleton.mp hm; unfold dig at this; omega
    · have := List.mem_singleton.mp hm; unfold dig at this; omega
    · have := List.mem_singleton.mp hm; unfold dig at this; omega
    · have := goodL_mem hm; omega
    · obtain ⟨n, _, e⟩ := List.mem_map.mp hm; unfold dig at e; omega
  · rw [manyT_eq _ _ _ (by rw [← ok.tbl]; exact ok.size), ok.tbl]
theorem Jd.Ok.rjd {J : Jd} (ok : J.Ok) : RJd J.txL (some J) := by
  have h := RJd.judge J (goodL J.gd) ok.rj
  rw [if_pos ok.okB] at h
  exact h
theorem Jd.Ok.len {J : Jd} (ok : J.Ok) : J.txL.length ≤ 90000 := by
  have h1 := goodL_len J.gd
  have h2 := ok.gd6
  have h3 := ok.ls26
  have h4 := ok.size
  have h := joinL_len [32] [J.ls, [dig J.st], [dig J.few], [dig J.turn], goodL J.gd, J.tb.map dig]
  unfold Jd.txL
  simp only [List.map_cons, List.map_nil, List.sum_cons, List.sum_nil, List.length_cons, List.length_nil, List.length_map] at h
  omega
section
variable {P : Program} {w : World} {K : PySem.W.Frag} {mg : Str → Option Value} {base : Heap}
abbrev J10put (w : World) (K : PySem.W.Frag) : TS := sNPut w (tVar 4) (tVar 6) (tNGet w (tOp (rIxT K) (tVar 1) (tC (V.int 4))) (tVar 6))
theorem JN.nodup {H : Hp} {J : Jd} {a d g : Addr} {es : List NE} (h : JN w H J a d g es) : (es.map (·.1)).Nodup := by
  rw [h.tab.ek h.ok]
  exact nodup_map' (fun _ _ e => kJ_inj e) (keysL_nodup h.ok.nodup _ _)
theorem JN.len {H : Hp} {J : Jd} {a d g : Addr} {es : List NE} (h : JN w H J a d g es) : es.length ≤ 600 := by
  have e := congrArg List.length (h.tab.ev h.ok)
  rw [List.length_map, List.length_map] at e
  rw [e]
  exact h.ok.size
theorem JN.key {H : Hp} {J : Jd} {a d g : Addr} {es : List NE} (h : JN w H J a d g es) {e : NE} (he : e ∈ es) : NKv H e.1 (.ref e.2.1) ∧ e.1.depth ≤ 8 := h.ks e he
theorem j10_put {J : Ends} {st a p t d g : Addr} {H : Hp} {Jq : Jd} {es es1 : List NE} {e : NE} {way : Int} {x5 : Option V} (hJ : JN w H Jq a d g es) (he : e ∈ es) (hd : H t = some (ndO w t es1)) (hk : NKeys H es1) (hnew : e.1 ∉ es1.map (·.1)) (hl : es1.length ≤ 600)
    (k : J.nx [some (.ref st), some (.ref a), some (.ref p), some (.int way), some (.ref t), x5, some (.ref e.2.1)] (upd H t (ndO w t (es1 ++ [e])))) :
    J10put w K J [some (.ref st), some (.ref a), some (.ref p), some (.int way), some (.ref t), x5, some (.ref e.2.1)] H := by
  obtain ⟨hk1, hk2⟩ := hJ.key he
  have ha := hJ.tup
  walk_at "rd"
  refine ⟨d, es, e.1, e.2.1, e.2.2, rfl, rfl, hJ.at.dic, hk1, hk2, atN_of_mem hJ.nodup (List.mem_map.mpr ⟨e, he, rfl⟩), ?_⟩
  walk_at "rd"
  refine ⟨t, es1, e.1, e.2.1, rfl, rfl, hd, hk, hk1, hk2, Nat.lt_of_le_of_lt hl (by decide), ?_⟩
  rw [putN_new _ _ (atN_none hnew)]
  exact k
theorem nd_put {H : Hp} {t : Addr} {es1 es2 : List NE} {e : NE} (hd : H t = some (ndO w t es2)) (hk : NKeys H es1) (h1 : NKv H e.1 (.ref e.2.1)) (h2 : e.1.depth ≤ 8) : NKeys (upd H t (ndO w t (es1 ++ [e]))) (es1 ++ [e]) := by
  have h : NKeys H (es1 ++ [e]) := fun x hx => by
    rcases List.mem_append.mp hx with hx | hx
    · exact hk x hx
    · rw [List.mem_singleton.mp hx]; exact ⟨h1, h2⟩
  refine h.stay fun b xs q => ?_
  rw [upd_ne (ne_of q hd (fun z => nomatch z))]
  exact q
theorem perm_pop {es es1 rem : List NE} {m : Nat} (h : (es1 ++ rem).Perm es) (hm : m < rem.length) : (es1 ++ [rem[m]] ++ rem.eraseIdx m).Perm es := by
  refine List.Perm.trans ?_ h
  rw [List.append_assoc]
  refine List.Perm.append_left es1 ?_
  rw [List.eraseIdx_eq_take_drop_succ]
  conv => rhs; rw [← List.take_append_drop m rem, List.drop_eq_getElem_cons hm]
  exact (List.perm_middle (a := rem[m]) (l₁ := rem.take m) (l₂ := rem.drop (m + 1))).symm
theorem perm_new {es es1 rem : List NE} {e : NE} (h : (es1 ++ rem).Perm es) (hn : (es.map (·.1)).Nodup) (he : e ∈ rem) : e.1 ∉ es1.map (·.1) := by
  have h2 := (h.map (·.1)).nodup_iff.mpr hn
  rw [List.map_append, List.nodup_append] at h2
  exact fun hm => h2.2.2 _ hm _ (List.mem_map.mpr ⟨e, he, rfl⟩) rfl
theorem j10_tail {J : Ends} {st a p d g : Addr} {H0 H : Hp} {Jq : Jd} {es rem0 : List NE} {way : Int} (hst : StoreAt H st) (hJ : JN w H0 Jq a d g es) (hds : d ≠ st) (hgs : g ≠ st) (K0 : Keep [st] H0 H) (np : H0 p = none) (hps : p ≠ st) (hp : H p = some (.lst (rem0.map fun e => .ref e.2.1))) (hrem : rem0.Perm es)
    (k : ∀ (H' : Hp) (b d' g' : Addr) (es' : List NE), Keep [st] H0 H' → StoreAt H' st → H0 d' = none → H0 g' = none → JAt w H' Jq b d' g' es' → TabP es' Jq → J.rt (.ref b) H') :
    (tSeq (tAsg (tNNew w) (gName 4))
                            (tSeq
                              (tFor
                                (iRng1
                                  (tCons
                                    (tOp (rI CMul fun i j => V.int (i * j))
                                      (tCB (fun xs H Q => ∃ x n, xs = [x] ∧ LenV K x H n ∧ Q (V.int (n : Nat)) H)
                                        (tCons (tVar 2) tNil))
                                      (tCB
                                        (fun xs H Q =>
                                          (∃ i, xs = [V.int i] ∧ Q (V.int i) H) ∨
                                            ∃ k, xs = [V.bl k] ∧ Q (V.int (if k = true then 1 else 0)) H)
                                        (tCons (tOp rEq (tVar 3) (tC (V.int 2))) tNil)))
                                    tNil))
                                (gName 5)
                                (tSeq
                                  (tAsg
                                    (tBM K "list" rPopAt (tVar 2)
                                      (tCons
                                        (tCall sp__law_take [] E0
                                          (tCons (tVar 0)
                                            (tCons
                                              (tCB (fun xs H Q => ∃ x n, xs = [x] ∧ LenV K x H n ∧ Q (V.int (n : Nat)) H)
                                                (tCons (tVar 2) tNil))
                                              tNil)))
                                        tNil))
                                    (gName 6))
                                  (J10put w K)))
                              (tSeq
                                (tFor (iList K (tVar 2)) (gName 6)
                                  (J10put w K))
                                (tRet
                                  (tOp (rCatA K) (tSl (rSlA K) (tVar 1) tNoPart (tPart (tC (V.int 4))))
                                    (tTup
                                      (tCons (tVar 4)
                                        (tCons
                                          (tCB
                                            (fun xs H Q =>
                                              ∃ p ys,
                                                xs = [V.ref p] ∧
                                                  (SqL K H p ys ∨ SqT K H p ys) ∧
                                                    ∀ (l : Addr), H l = none → Q (V.ref l) (upd H l (HO.lst ys)))
                                            (tCons (tOp (rIxT K) (tVar 1) (tC (V.int 5))) tNil))
                                          tNil)))))))) J [some (.ref st), some (.ref a), some (.ref p), some (.int way), none, none, none] H := by
  have hlen := hJ.len
  have hrl := hrem.length_eq
  have hnd := hJ.nodup
  walk_at "rd"
  refine fun t nt => ?_
  generalize e1 : upd H t _ = H1
  obtain ⟨S1, ht⟩ := newF nt e1
  have hst1 : StoreAt H1 st := by rw [← e1]; exact hst.new nt
  have hts : t ≠ st := hst.ne nt
  have hpt : p ≠ t := ne_of_none hp nt
  have np0 := np
  have nt0 : H0 t = none := K0.some nt (by simpa using hts)
  have hp1 := S1 _ _ hp
  walk_at "rd"
  obtain ⟨N, hN, hN2⟩ : ∃ N : Nat, (((rem0.map fun e => V.ref e.2.1).length : Nat) : Int) * (if decide (V.int way = V.int 2) = true then 1 else 0) = (N : Int) ∧ N ≤ rem0.length := by
    rw [List.length_map]
    split
    · exact ⟨rem0.length, by omega, Nat.le_refl _⟩
    · exact ⟨0, by omega, Nat.zero_le _⟩
  rw [hN]
  refine ⟨by omega, by omega, ?_⟩
  have K1 : Keep [st] H0 H1 := K0.trans (Same.keep S1)
  refine for_range (lo := 0) (n := N) (fun i σ H' => ∃ (x5 x6 : Option V) (rem es1 : List NE), σ = [some (.ref st), some (.ref a), some (.ref p), some (.int way), some (.ref t), x5, x6] ∧ Keep [st] H0 H' ∧ StoreAt H' st ∧ H' p = some (.lst (rem.map fun e => .ref e.2.1)) ∧
    H' t = some (ndO w t es1) ∧ NKeys H' es1 ∧ (es1 ++ rem).Perm es ∧ rem.length + i = rem0.length)
    ⟨none, none, rem0, [], rfl, K1, hst1, hp1, ht, NKeys.nil, hrem, rfl⟩ ?_ ?_
  · rintro i σ H2 hi ⟨x5, x6, rem, es1, rfl, K2, hst2, hp2, ht2, hk2, hpm, hri⟩
    walk_at "rd"
    rw [List.length_map]
    refine ⟨st, _, rfl, hst2, by omega, by omega, fun H3 q K3 hst3 h0 h1 => ?_⟩
    obtain ⟨m, rfl⟩ : ∃ m : Nat, q = (m : Int) := ⟨q.toNat, by omega⟩
    have hml : m < rem.length := by omega
    have hp3 : H3 p = some (.lst (rem.map fun e => .ref e.2.1)) := K3.but p _ (by simpa using hps) hp2
    have ht3 : H3 t = some (ndO w t es1) := K3.but t _ (by simpa using hts) ht2
    walk_at "rd"
    refine ⟨p, _, (m : Int), m, .ref rem[m].2.1, rfl, rfl, hp3, by omega, by omega, ?_, by rw [List.getElem?_map, List.getElem?_eq_getElem hml]; rfl, ?_⟩
    · rw [List.length_map]
      exact (seqIndex_of (by omega) (by omega)).trans (by simp)
    generalize e4 : upd H3 p _ = H4
    have K4 : Keep [st] H0 H4 := by rw [← e4]; exact (K2.trans K3).own np
    have hst4 : StoreAt H4 st := by rw [← e4]; exact hst3.oth hps
    have ht4 : H4 t = some (ndO w t es1) := by rw [← e4, upd_ne (Ne.symm hpt)]; exact ht3
    have hp4 : H4 p = some (.lst ((rem.eraseIdx m).map fun e => .ref e.2.1)) := by rw [← e4, upd_same, ← map_eraseIdx]
    have hJ4 : JN w H4 Jq a d g es := hJ.keep K4 (by simpa using hds) (by simpa using hgs)
    have hk4 : NKeys H4 es1 := (hk2.stay K3.tup).stay fun b xs e => by
      rw [← e4, upd_ne (ne_of e hp3 (fun z => nomatch z))]
      exact e
    have hmem : rem[m] ∈ rem := List.getElem_mem hml
    have hme : rem[m] ∈ es := hpm.subset (List.mem_append_right _ hmem)
    have hl1 : es1.length ≤ 600 := by
      have := hpm.length_eq
      rw [List.length_append] at this
      omega
    show J10put w K _ _ _
    refine j10_put hJ4 hme ht4 hk4 (perm_new hpm hnd hmem) hl1 ?_
    refine ⟨_, _, rem.eraseIdx m, es1 ++ [rem[m]], rfl, K4.own nt0, hst4.oth hts, ?_, upd_same, nd_put ht4 hk4 (hJ4.key hme).1 (hJ4.key hme).2, perm_pop hpm hml, ?_⟩
    · rw [upd_ne hpt]; exact hp4
    · rw [List.length_eraseIdx, if_pos hml]; omega
  · rintro σ H2 ⟨x5, x6, rem, es1, rfl, K2, hst2, hp2, ht2, hk2, hpm, hri⟩
    walk_at "rd"
    have hlm := hpm.length_eq
    rw [List.length_append] at hlm
    refine ⟨⟨_, SqL.of hp2⟩, ?_⟩
    refine for_it (walk_list (xs := rem.map fun e => V.ref e.2.1)) (fun i σ H' => ∃ (x6 : Option V) (es2 : List NE), σ = [some (.ref st), some (.ref a), some (.ref p), some (.int way), some (.ref t), x5, x6] ∧ Keep [st] H0 H' ∧ StoreAt H' st ∧ H' p = some (.lst (rem.map fun e => .ref e.2.1)) ∧
      H' t = some (ndO w t es2) ∧ NKeys H' es2 ∧ es2 = es1 ++ rem.take i)
      ⟨x6, es1, rfl, K2, hst2, hp2, ht2, hk2, by simp⟩ (fun i σ H' _ ⟨_, _, _, _, _, q, _⟩ => SqL.of q) ?_ ?_
    · rintro i y σ H3 H4 hi ⟨x6, es2, rfl, K3, hst3, hp3, ht3, hk3, rfl⟩ ⟨rfl, hy⟩
      rw [List.getElem?_map] at hy
      obtain ⟨e, he, rfl⟩ := Option.map_eq_some_iff.mp hy
      have hmem : e ∈ rem := List.mem_of_getElem? he
      have hme : e ∈ es := hpm.subset (List.mem_append_right _ hmem)
      have hJ4 : JN w H4 Jq a d g es := hJ.keep K3 (by simpa using hds) (by simpa using hgs)
      have hnew : e.1 ∉ (es1 ++ rem.take i).map (·.1) := by
        have h2 := (hpm.map (·.1)).nodup_iff.mpr hnd
        have hil := (List.getElem?_eq_some_iff.mp he)
        obtain ⟨hil, hie⟩ := hil
        have e3 : es1 ++ rem = (es1 ++ rem.take i) ++ (e :: rem.drop (i + 1)) := by
          rw [List.append_assoc, ← hie, ← List.drop_eq_getElem_cons hil, List.take_append_drop]
        rw [e3, List.map_append, List.nodup_append] at h2
        exact fun hm => h2.2.2 _ hm _ (List.mem_map.mpr ⟨e, List.mem_cons_self, rfl⟩) rfl
      have hl2 : (es1 ++ rem.take i).length ≤ 600 := by
        rw [List.length_append, List.length_take]
        omega
      show J10put w K _ _ _
      refine j10_put hJ4 hme ht3 hk3 hnew hl2 ?_
      refine ⟨_, _, rfl, K3.own nt0, hst3.oth hts, ?_, upd_same, nd_put ht3 hk3 (hJ4.key hme).1 (hJ4.key hme).2, ?_⟩
      · rw [upd_ne hpt]; exact hp3
      · rw [List.take_succ, he, List.append_assoc]; rfl
    · rintro σ H3 ⟨x6, es2, rfl, K3, hst3, hp3, ht3, hk3, he2⟩
      rw [List.length_map, List.take_length] at he2
      subst he2
      have hJ3 : JN w H3 Jq a d g es := hJ.keep K3 (by simpa using hds) (by simpa using hgs)
      have ha3 := hJ3.tup
      have hg3 := hJ3.lst
      walk_at "rd"
      refine ⟨a, _, rfl, SqT.of ha3, fun z => absurd z.2 (show ¬ ((4 : Nat) = 6) by decide), fun _ q nq => ?_⟩
      generalize e4 : upd H3 q _ = H4
      obtain ⟨S4, hq4⟩ := newF nq e4
      have ha4 := S4 _ _ ha3
      have hg4 := S4 _ _ hg3
      have ht4 := S4 _ _ ht3
      walk_at "rd"
      refine ⟨g, _, rfl, .inl (SqL.of hg4), fun gg ng => ?_⟩
      generalize e5 : upd H4 gg _ = H5
      obtain ⟨S5, hgg5⟩ := newF ng e5
      have ht5 := S5 _ _ ht4
      have hq5 := S5 _ _ hq4
      walk_at "rd"
      refine ⟨(by walk_at "sz"), fun r nr => ?_⟩
      generalize e6 : upd H5 r _ = H6
      obtain ⟨S6, hr6⟩ := newF nr e6
      have hq6 := S6 _ _ hq5
      refine ⟨q, r, _, _, rfl, rfl, SqT.of hq6, SqT.of hr6, (by show 4 + 2 ≤ sizeLine; decide), fun z => absurd (congrArg List.length z) (show ¬ ((4 : Nat) = 0) by decide), fun _ z => (by cases z), fun _ _ b nb => ?_⟩
      generalize e7 : upd H6 b _ = H7
      obtain ⟨S7, hb7⟩ := newF nb e7
      have S37 : Same H3 H7 := S4.trans (S5.trans (S6.trans S7))
      have hst7 : StoreAt H7 st := by
        obtain ⟨x, y, z, e⟩ := hst3
        exact ⟨x, y, z, S37 _ _ e⟩
      have ng3 : H3 gg = none := by
        cases h : H3 gg with
        | none => rfl
        | some o => rw [S4 _ _ h] at ng; cases ng
      refine k H7 b t gg (es1 ++ rem) (K3.trans (Same.keep S37)) hst7 nt0 (K3.some ng3 (by simpa using hst3.ne ng3)) ⟨hb7, ?_, S7 _ _ (S6 _ _ hgg5)⟩ ?_
      · exact ND.of (S37 _ _ ht3) (hk3.stay fun _ _ e => S37 _ _ e)
      · exact (hpm.map _).trans (List.Perm.of_eq hJ.tab)
end
end Hy
set_option Elab.async false
set_option linter.all false
set_option maxRecDepth 100000
set_option maxHeartbeats 4000000
namespace Hy
open PySem L2
local macro_rules | `(tactic| walk_at "hp") => `(tactic| first
  | assumption | exact upd_same
  | (refine (upd_ne ?_).trans ?_ <;> first | assumption | (exact Ne.symm (by assumption)) | walk_at "ne" | walk_at "hp")
  | (refine (by assumption : Same _ _) _ _ ?_; assumption))
local macro_rules | `(tactic| walk_at "ne") => `(tactic| first
  | assumption | (exact Ne.symm (by assumption))
  | exact ne_of_none (by assumption) (by assumption) | exact Ne.symm (ne_of_none (by assumption) (by assumption)))
local macro_rules | `(tactic| walk_at "sz") => `(tactic| first | assumption | (show 0 ≤ sizeLine; decide) | (show 1 ≤ sizeLine; decide) | (show 2 ≤ sizeLine; decide) | (show 3 ≤ sizeLine; decide))
local macro_rules | `(tactic| walk_at "ar") => `(tactic| first
  | ((with_reducible show (0 : Int) < _); first | decide | omega)
  | ((with_reducible show CMul _ _); first | exact Or.inr (And.intro (by decide) (by decide)) | exact Or.inl (And.intro (by decide) (by decide)) | (refine Or.inl (And.intro ?_ ?_) <;> omega) | (refine Or.inr (And.intro ?_ ?_) <;> omega))
  | ((with_reducible show CPow _ _); exact And.intro (by decide) (And.intro (by decide) (by decide)))
  | ((with_reducible show CDiv _ _); first | exact And.intro (by decide) (by decide) | (refine And.intro ?_ ?_ <;> omega)))
/- one step of a reading -/
local macro_rules | `(tactic| walk_at "r1") => `(tactic| first
  | refine ⟨_, rfl, ?_⟩
  | refine iteB (by rfl) ?_ | refine iteC (by rfl) ?_
  | refine ⟨_, _, rfl, rfl, ?_⟩
  | refine ⟨rfl, ?_⟩
  | refine ⟨⟨_, rfl⟩, ?_⟩
  | refine ⟨_, _, _, _, true, rfl, .ty _, .base (.str _), kit_ty (by decide +kernel), ?_⟩
  | refine ⟨_, _, _, _, false, rfl, .ty _, .base (.str _), kit_ty (by decide +kernel), ?_⟩
  | refine ⟨_, _, _, _, true, rfl, .ty _, .base (.int _), kit_ty (by decide +kernel), ?_⟩
  | refine ⟨_, _, _, _, false, rfl, .ty _, .base (.int _), kit_ty (by decide +kernel), ?_⟩
  | refine ⟨_, _, _, _, true, rfl, .ty _, .base (.tup (by walk_at "hp")), kit_ty (by decide +kernel), ?_⟩
  | refine ⟨_, _, _, _, false, rfl, .ty _, .base (.tup (by walk_at "hp")), kit_ty (by decide +kernel), ?_⟩
  | refine ⟨_, _, _, _, true, rfl, .ty _, .base (.lst (by walk_at "hp")), kit_ty (by decide +kernel), ?_⟩
  | refine ⟨_, _, _, _, false, rfl, .ty _, .base (.lst (by walk_at "hp")), kit_ty (by decide +kernel), ?_⟩
  | refine ⟨_, _, rfl, ⟨by walk_at "sz", rfl⟩, ?_⟩
  | refine ⟨_, _, _, _, rfl, rfl, SqT.of (by walk_at "hp"), by rfl, ?_⟩
  | refine ⟨_, _, _, _, rfl, rfl, SqL.of (by walk_at "hp"), by rfl, ?_⟩
  | refine ⟨.inl ⟨rfl, _, SqL.of (by walk_at "hp")⟩, ?_⟩
  | refine ⟨_, _, _, rfl, rfl, (by walk_at "hp"), snoc_get, ?_⟩
  | refine ⟨_, _, _, _, rfl, rfl, (by walk_at "hp"), by rfl, ?_⟩
  | refine ⟨_, _, rfl, SqL.of (by walk_at "hp"), ?_⟩
  | refine ⟨_, _, rfl, SqT.of (by walk_at "hp"), by rfl, ?_⟩
  | refine ⟨_, (_ : List V), rfl, ?_⟩
  | refine ⟨_, _, rfl, .inl ⟨_, (by assumption), rfl⟩, ?_⟩
  | refine ⟨_, _, rfl, .inl ⟨_, SqL.of (by walk_at "hp"), rfl⟩, ?_⟩
  | refine ⟨_, _, rfl, .inr ⟨_, SqT.of (by walk_at "hp"), rfl⟩, ?_⟩
  | refine Or.inl ⟨(_ : Int), rfl, ?_⟩ | refine Or.inr ⟨(_ : Bool), rfl, ?_⟩
  | refine ⟨_, _, _, _, true, rfl, (by assumption : ND _ _ _ _), .ty _, kit_ty (by decide +kernel), ?_⟩
  | refine ⟨_, _, _, _, false, rfl, (by assumption : ND _ _ _ _), .ty _, kit_ty (by decide +kernel), ?_⟩
  | refine ⟨_, _, rfl, (by assumption : ND _ _ _ _), ?_⟩
  | refine And.intro (by walk_at "ar") ?_)
local macro_rules | `(tactic| walk_at "rd") => `(tactic| repeat walk_at "r1")

/-! ### rows -/
def isF (c : Nat) : Bool := decide (48 ≤ c ∧ c ≤ 57)
def nameB (l : List Nat) : Bool := decide (1 ≤ l.length ∧ l.length ≤ 8) && l.all isL
def numB (l : List Nat) : Bool := decide (1 ≤ l.length ∧ l.length ≤ 2) && l.all isF && !decide (l.head? = some 48)
def fitsB (l : List Nat) (kind : Nat) : Bool := if kind = 110 then nameB l else if kind = 99 then numB l else decide (kind = 116) || !decide (l = [])
section
variable {P : Program} {w : World} {K : PySem.W.Frag} {mg : Str → Option Value} {base : Heap}
abbrev s_is_name : Stmt := top 72
theorem sc_is_name : FnScope ["word", "sign"] ["word"] (defScope s_is_name) := ⟨rfl, rfl, rfl, by decide +kernel, rfl, by decide +kernel, by decide +kernel⟩
abbrev s_is_number : Stmt := top 73
theorem sc_is_number : FnScope ["word", "sign"] ["word"] (defScope s_is_number) := ⟨rfl, rfl, rfl, by decide +kernel, rfl, by decide +kernel, by decide +kernel⟩
abbrev s_fits : Stmt := top 74
theorem sc_fits : FnScope ["word", "kind"] ["word", "kind"] (defScope s_fits) := ⟨rfl, rfl, rfl, by decide +kernel, rfl, by decide +kernel, by decide +kernel⟩
abbrev s_words_asked : Stmt := top 75
theorem sc_words_asked : FnScope ["row", "shape", "words", "word", "kind"] ["row"] (defScope s_words_asked) := ⟨rfl, rfl, rfl, by decide +kernel, rfl, by decide +kernel, by decide +kernel⟩

def sp_is_name : Sp := fun vs H Q _ => ∃ l : List Nat, vs = [tx l] ∧ l.length ≤ 100000 ∧ ∀ H', Same H H' → Q (.bl (nameB l)) H'
theorem ok_is_name (D : Df K mg "is_name" s_is_name ["word"]) (T : Txt K mg) : G' P w K mg base "is_name" 1 ["word"] sp_is_name := by
  refine D.ok fun f fd F => F.okX sc_is_name (fun vs H Q E h => ?_) (fun cdv A outer s H vs Q E hr h => ?_)
  · obtain ⟨l, rfl, _⟩ := h
    rfl
  · obtain ⟨l, rfl, hl, k⟩ := h
    have hz : (txS l).length ≤ sizeLine := by rw [txS_len]; exact Nat.le_of_lt (big_of hl (by decide))
    refine ⟨_, (pss_one (ps_ret (pe_and (pe_chain op_le op_le pe_int (pe_callB (call_lenK K) (by rfl) T.n_len PySem.boot_len (pa_cons (pv 0) pa_nil)) pe_int) (pe_one (pe_cmp (pc_eqNilK K hr (pe_lc (own := [("sign", 1)]) rfl sc_is_name.nd (pi_str (pv 0)) (blkOk_by (own := [("sign", 1)]) (N := ["word", "sign"]) (sc := defScope s_is_name) (by decide +kernel)) (fun _ _ _ _ _ => (pg_name (i := 1) sc_is_name.nd rfl (by first | exact Or.inl rfl | exact Or.inr rfl))) (fun _ _ _ _ _ => (pts_one (pt_cmpR op_notIn_sign (pv 1) (pe_gv T.g_LETTERS_rows) (by rfl)))) (fun _ _ _ _ _ => (pv 1))))))))), ?_⟩
    walk_at "rd"
    rw [txS_len]
    by_cases h1 : 1 ≤ l.length
    · refine iteB (decide_eq_true (by omega)) ?_
      walk_at "rd"
      by_cases h8 : l.length ≤ 8
      · refine iteB (decide_eq_true (by omega)) ?_
        walk_at "rd"
        have hat : ∀ i : Nat, (txS l).cps[i]? = l[i]? := fun i => by show l.toArray[i]? = _; simp
        refine fun D nD => lc_it walk_str (PvE H D fun i => !isL ((l[i]?).getD 0)) (PvE.start nD) (fun i H' _ p => trivial) ?_ ?_
        · rintro i x H1 H2 hi p ⟨rfl, c, hc, rfl⟩
          rw [hat] at hc
          walk_at "rd"
          rw [letter_in]
          refine iteJ (c := !isL ((l[i]?).getD 0)) (by rw [hc]; rfl) (fun hc => ?_) fun hc => ?_
          · walk_at "rd"
            exact p.push (Same.refl _) nD hc (big_of (Nat.le_trans (Nat.le_of_lt (by simpa using hi)) hl) (by decide))
          · exact p.skip (Same.refl _) hc
        · rintro H1 ⟨S1, acc, hD, _, hacc⟩
          rw [show (txS l).cps.size = l.length by simp, all_range l isL _ (fun i x hx => by rw [hx]; simp)] at hacc
          walk_at "rd"
          rw [hacc]
          rw [nameB, decide_eq_true (⟨h1, h8⟩ : 1 ≤ l.length ∧ l.length ≤ 8), Bool.true_and] at k
          exact k _ S1
      · refine iteC (decide_eq_false (by omega)) ?_
        walk_at "rd"
        rw [nameB, decide_eq_false (fun z => h8 z.2 : ¬ (1 ≤ l.length ∧ l.length ≤ 8)), Bool.false_and] at k
        exact k _ (Same.refl _)
    · refine iteC (decide_eq_false (by omega)) ?_
      walk_at "rd"
      rw [nameB, decide_eq_false (fun z => h1 z.1 : ¬ (1 ≤ l.length ∧ l.length ≤ 8)), Bool.false_and] at k
      exact k _ (Same.refl _)
def sp_is_number : Sp := fun vs H Q _ => ∃ l : List Nat, vs = [tx l] ∧ l.length ≤ 100000 ∧ ∀ H', Same H H' → Q (.bl (numB l)) H'
theorem ok_is_number (D : Df K mg "is_number" s_is_number ["word"]) (T : Txt K mg) : G' P w K mg base "is_number" 1 ["word"] sp_is_number := by
  refine D.ok fun f fd F => F.okX sc_is_number (fun vs H Q E h => ?_) (fun cdv A outer s H vs Q E hr h => ?_)
  · obtain ⟨l, rfl, _⟩ := h
    rfl
  · obtain ⟨l, rfl, hl, k⟩ := h
    have hz : (txS l).length ≤ sizeLine := by rw [txS_len]; exact Nat.le_of_lt (big_of hl (by decide))
    refine ⟨_, (pss_one (ps_ret (pe_and (pe_chain op_le op_le pe_int (pe_callB (call_lenK K) (by rfl) T.n_len PySem.boot_len (pa_cons (pv 0) pa_nil)) pe_int) (pe_and (pe_cmp (pc_eqNilK K hr (pe_lc (own := [("sign", 1)]) rfl sc_is_number.nd (pi_str (pv 0)) (blkOk_by (own := [("sign", 1)]) (N := ["word", "sign"]) (sc := defScope s_is_number) (by decide +kernel)) (fun _ _ _ _ _ => (pg_name (i := 1) sc_is_number.nd rfl (by first | exact Or.inl rfl | exact Or.inr rfl))) (fun _ _ _ _ _ => (pts_one (pt_cmpR op_notIn_sign (pv 1) (pe_gv T.g_FIGURES_rows) (by rfl)))) (fun _ _ _ _ _ => (pv 1))))) (pe_one (pe_cmpR op_ne (pe_ix ix_str (pv 0) pe_int (fun _ _ => rfl)) pe_str (nomark _))))))), ?_⟩
    walk_at "rd"
    rw [txS_len]
    by_cases h1 : 1 ≤ l.length
    · refine iteB (decide_eq_true (by omega)) ?_
      walk_at "rd"
      by_cases h8 : l.length ≤ 2
      · refine iteB (decide_eq_true (by omega)) ?_
        walk_at "rd"
        have hat : ∀ i : Nat, (txS l).cps[i]? = l[i]? := fun i => by show l.toArray[i]? = _; simp
        rw [numB, decide_eq_true (⟨h1, h8⟩ : 1 ≤ l.length ∧ l.length ≤ 2), Bool.true_and] at k
        refine fun D nD => lc_it walk_str (PvE H D fun i => !isF ((l[i]?).getD 0)) (PvE.start nD) (fun i H' _ p => trivial) ?_ ?_
        · rintro i x H1 H2 hi p ⟨rfl, c, hc, rfl⟩
          rw [hat] at hc
          walk_at "rd"
          rw [fig_in]
          refine iteJ (c := !isF ((l[i]?).getD 0)) (by rw [hc]; rfl) (fun hc => ?_) fun hc => ?_
          · walk_at "rd"
            exact p.push (Same.refl _) nD hc (big_of (Nat.le_trans (Nat.le_of_lt (by simpa using hi)) hl) (by decide))
          · exact p.skip (Same.refl _) hc
        · rintro H1 ⟨S1, acc, hD, _, hacc⟩
          rw [show (txS l).cps.size = l.length by simp, all_range l isF _ (fun i x hx => by rw [hx]; simp)] at hacc
          walk_at "rd"
          rw [hacc]
          cases hf : l.all isF with
          | false =>
            rw [hf, Bool.false_and] at k
            walk_at "rd"
            exact k _ S1
          | true =>
            rw [hf, Bool.true_and] at k
            walk_at "rd"
            obtain ⟨c, r, rfl⟩ : ∃ c r, l = c :: r := by
              cases l with
              | nil => simp at h1
              | cons c r => exact ⟨c, r, rfl⟩
            have e9 : atI (txS (c :: r)).cps.toList 0 = some c := by
              have e : (txS (c :: r)).cps.toList = c :: r := by simp
              rw [e]
              exact atI_nat (j := 0) (xs := c :: r) rfl
            refine ⟨_, _, c, rfl, rfl, hz, e9, ?_⟩
            walk_at "rd"
            have e0 : PySem.Str.ofString "0" = txS [48] := by decide +kernel
            rw [e0]
            have e1 : (!decide (V.str ⟨#[c]⟩ = V.str (txS [48]))) = !decide ((c :: r).head? = some 48) := by
              by_cases hc : c = 48
              · subst hc
                rfl
              · rw [decide_eq_false (fun z => hc (by simpa using tx_inj (a := [c]) (b := [48]) z)), decide_eq_false (fun z => hc (by simpa using z))]
            rw [e1]
            exact k _ S1
      · refine iteC (decide_eq_false (by omega)) ?_
        walk_at "rd"
        rw [numB, decide_eq_false (fun z => h8 z.2 : ¬ (1 ≤ l.length ∧ l.length ≤ 2)), Bool.false_and, Bool.false_and] at k
        exact k _ (Same.refl _)
    · refine iteC (decide_eq_false (by omega)) ?_
      walk_at "rd"
      rw [numB, decide_eq_false (fun z => h1 z.1 : ¬ (1 ≤ l.length ∧ l.length ≤ 2)), Bool.false_and, Bool.false_and] at k
      exact k _ (Same.refl _)
def sp_fits : Sp := fun vs H Q _ => ∃ (l : List Nat) (c : Nat), vs = [tx l, tx [c]] ∧ l.length ≤ 100000 ∧ ∀ H', Same H H' → Q (.bl (fitsB l c)) H'
theorem ok_fits (D : Df K mg "fits" s_fits ["word", "kind"]) (T : Txt K mg) (G_is_name : G' P w K mg base "is_name" 1 ["word"] sp_is_name) (G_is_number : G' P w K mg base "is_number" 1 ["word"] sp_is_number) : G' P w K mg base "fits" 2 ["word", "kind"] sp_fits := by
  refine D.ok fun f fd F => F.okX sc_fits (fun vs H Q E h => ?_) (fun cdv A outer s H vs Q E hr h => ?_)
  · obtain ⟨l, c, rfl, _⟩ := h
    rfl
  · obtain ⟨l, c, rfl, hl, k⟩ := h
    refine ⟨_, (pss_cons (ps_if (pt_cmpR op_eq (pv 1) pe_str (nomark _)) (pss_one (ps_ret (pe_cl G_is_name (hr.mono (by omega)) passF (pa_cons (pv 0) pa_nil)))) pss_nil)
  (pss_cons (ps_if (pt_cmpR op_eq (pv 1) pe_str (nomark _)) (pss_one (ps_ret (pe_cl G_is_number (hr.mono (by omega)) passF (pa_cons (pv 0) pa_nil)))) pss_nil)
  (pss_one (ps_ret (pe_or (pe_cmpR op_eq (pv 1) pe_str (nomark _)) (pe_one (pe_cmpR op_ne (pv 0) pe_str (nomark _)))))))), ?_⟩
    walk_at "rd"
    have en : PySem.Str.ofString "n" = txS [110] := by decide +kernel
    have ec : PySem.Str.ofString "c" = txS [99] := by decide +kernel
    have et : PySem.Str.ofString "t" = txS [116] := by decide +kernel
    have e0 : PySem.Str.ofString "" = txS [] := by decide +kernel
    rw [en, ec, et, e0]
    have hd : ∀ a b : Nat, decide (tx [a] = tx [b]) = decide (a = b) := fun a b => by
      by_cases h : a = b
      · rw [h, decide_eq_true rfl, decide_eq_true rfl]
      · rw [decide_eq_false h, decide_eq_false (fun z => h (by simpa using tx_inj z))]
    unfold fitsB at k
    show if decide (tx [c] = tx [110]) = true then _ else _
    rw [hd]
    by_cases h1 : c = 110
    · rw [if_pos h1] at k
      rw [if_pos (decide_eq_true h1)]
      walk_at "rd"
      exact ⟨hl, k⟩
    rw [if_neg h1] at k
    rw [if_neg (by simpa using h1)]
    dsimp only [tNext]
    walk_at "rd"
    show if decide (tx [c] = tx [99]) = true then _ else _
    rw [hd]
    by_cases h2 : c = 99
    · rw [if_pos h2] at k
      rw [if_pos (decide_eq_true h2)]
      walk_at "rd"
      exact ⟨hl, k⟩
    rw [if_neg h2] at k
    rw [if_neg (by simpa using h2)]
    dsimp only [tNext]
    walk_at "rd"
    show if decide (tx [c] = tx [116]) = true then _ else _
    rw [hd]
    by_cases h3 : c = 116
    · rw [decide_eq_true h3, Bool.true_or] at k
      rw [if_pos (decide_eq_true h3)]
      exact k _ (Same.refl _)
    rw [decide_eq_false h3, Bool.false_or] at k
    rw [if_neg (by simpa using h3)]
    walk_at "rd"
    have e9 : (!decide (tx l = V.str (txS []))) = !decide (l = []) := by
      by_cases hl0 : l = []
      · subst hl0
        rfl
      · rw [decide_eq_false hl0, decide_eq_false (fun z => hl0 (tx_inj z))]
    show Q (V.bl (!decide (tx l = V.str (txS [])))) H
    rw [e9]
    exact k _ (Same.refl _)
def shapes : List (Str × Str) := [("judge", "nt"), ("turn", "nn"), ("both", "nnn"), ("either", "nnn"), ("least", "nn"), ("drop", "n"), ("state", "nw"), ("good", "nw"), ("come", "n"), ("within", "nn"), ("count", "nc"), ("show", "n")]
/-- the words of a row, if it is one -/
def wordsOf (x sh : Str) : List Str := if sh = txS [110, 116] then Txt.splitMax x (txS [32]) 2 else Txt.split x (txS [32])
def rowW (x : Str) : Option (List Str) :=
  match (Txt.split x (txS [32])).head? with
  | none => none
  | some h => match lookT shapes h with
    | none => none
    | some sh => if (wordsOf x sh).length = sh.cps.toList.length + 1 ∧ ((wordsOf x sh).tail.zip sh.cps.toList).all (fun p => fitsB p.1.cps.toList p.2) = true then some (wordsOf x sh) else none
/-- bounds that the walk asks -/
def RowZ (x : Str) : Prop := x.length ≤ 90000 ∧ (Txt.split x (txS [32])) ≠ [] ∧ (Txt.split x (txS [32])).length ≤ 100000 ∧ (Txt.splitMax x (txS [32]) 2).length ≤ 100000 ∧ (∀ p ∈ Txt.split x (txS [32]), p.cps.toList.length ≤ 100000) ∧ ∀ p ∈ Txt.splitMax x (txS [32]) 2, p.cps.toList.length ≤ 100000
theorem str_tx (x : Str) : txS x.cps.toList = x := by cases x; simp
def sp_words_asked (w : World) (K : PySem.W.Frag) (mg : Str → Option Value) : Sp := fun vs H Q E => (∃ x : Str, vs = [.str x] ∧ RowZ x ∧
  (∀ ws, rowW x = some ws → ∀ (H' : Hp) (p : Addr), Same H H' → H p = none → H' p = some (.lst (ws.map .str)) → Q (.ref p) H') ∧ (rowW x = none → ∀ y, mg "NoRow" = some y → ∀ H', Same H H' → E y none H')) ∨
  ∃ v u, vs = [v] ∧ TyX K H v u ∧ PySem.W.kitOne K u (.type "str") = some false ∧ ∀ y, mg "NoRow" = some y → E y none H
theorem lookT_mem {kvs : List (Str × Str)} {x v : Str} (h : lookT kvs x = some v) : ∃ k, (k, v) ∈ kvs := by
  unfold lookT at h
  obtain ⟨p, hp, rfl⟩ := Option.map_eq_some_iff.mp h
  exact ⟨p.1, List.mem_of_find?_eq_some hp⟩
theorem shapes_len {x v : Str} (h : lookT shapes x = some v) : v.cps.toList.length ≤ 3 := by
  obtain ⟨k, hk⟩ := lookT_mem h
  exact (show ∀ p ∈ shapes, p.2.cps.toList.length ≤ 3 by decide +kernel) _ hk
def fitRow (ws : List Str) (sh : Str) : Prop := ws.length = sh.cps.toList.length + 1 ∧ ((ws.tail.zip sh.cps.toList).all fun p => fitsB p.1.cps.toList p.2) = true
theorem d1_tail {J : Ends} {E : XK} {x sh : Str} {ws : List Str} {p : Addr} {H : Hp} (hp : H p = some (.lst (ws.map .str))) (hw : ws.length ≤ 100000) (hsh : sh.cps.toList.length ≤ 3) (hb : ∀ q ∈ ws, q.cps.toList.length ≤ 100000)
    (k1 : fitRow ws sh → ∀ H', Same H H' → J.rt (.ref p) H') (k2 : ¬ fitRow ws sh → ∀ y, mg "NoRow" = some y → ∀ H', Same H H' → E y none H') :
    (tSeq
                    (tIfS
                      (tTest
                        (tOp rNe (tCB (fun xs H Q => ∃ x n, xs = [x] ∧ LenV K x H n ∧ Q (V.int (n : Nat)) H) (tCons (tVar 2) tNil))
                          (tOp (rI0 fun i j => V.int (i + j))
                            (tCB (fun xs H Q => ∃ x n, xs = [x] ∧ LenV K x H n ∧ Q (V.int (n : Nat)) H) (tCons (tVar 1) tNil))
                            (tC (V.int 1)))))
                      (fun x σ H_1 =>
                        ∀ (c : Value),
                          mg "NoRow" =
                              some c →
                            E c none H_1)
                      tNext)
                    (tSeq
                      (tIfS
                        (tB
                          (tNil' (fun b => !b) K
                            (tLc
                              (iZipLS K
                                (tCons (tSl (rSlL K) (tVar 2) (tPart (tC (V.int 1))) tNoPart) (tCons (tVar 1) tNil)))
                              (gTup K 2 (gCons (gName 3) (gCons (gName 4) gNil)))
                              (tNot (tB (tCall sp_fits [] E0 (tCons (tVar 3) (tCons (tVar 4) tNil))))) (tVar 3)
                              (List.map (fun x => x.snd) [(Str.ofString "word", 3), (Str.ofString "kind", 4)]))))
                        (fun x σ H_1 =>
                          ∀ (c : Value),
                            mg "NoRow" =
                                some c →
                              E c none H_1)
                        tNext)
                      (tRet (tVar 2)))) J [some (.str x), some (.str sh), some (.ref p), none, none] H := by
  have h3 : sh.cps.size ≤ 3 := by simpa using hsh
  have hz : sh.length ≤ sizeLine := Nat.le_trans (show sh.length ≤ 3 from h3) (by decide)
  have hsl : sh.length = sh.cps.toList.length := by simp [Str.length]
  walk_at "rd"
  rw [List.length_map, hsl]
  by_cases hlen : ws.length = sh.cps.toList.length + 1
  rotate_left
  · have hi : ¬ V.int (ws.length : Nat) = V.int ((sh.cps.toList.length : Nat) + 1 : Int) := fun z => hlen (by
      have := V.int.inj z
      generalize sh.cps.toList.length = q at this
      omega)
    refine iteB (by rw [decide_eq_false hi]; rfl) ?_
    exact fun y hy => k2 (fun z => hlen z.1) y hy _ (Same.refl _)
  · have hi : V.int (ws.length : Nat) = V.int ((sh.cps.toList.length : Nat) + 1 : Int) := by rw [hlen]; rfl
    refine iteC (by rw [decide_eq_true hi]; rfl) ?_
    dsimp only [tNext]
    walk_at "rd"
    have hcut : cutV (ws.map V.str) (some 1) none = ws.tail.map V.str := by
      cases ws with
      | nil => cases hlen
      | cons q ws =>
        simp [cutV, HT.sIx]
        exact List.take_of_length_le (by simp)
    rw [hcut]
    refine fun p4 n4 => ?_
    generalize e4 : upd H p4 _ = H4
    obtain ⟨S4, hp4⟩ := newF n4 e4
    walk_at "rd"
    have hlt : (ws.tail.map V.str).length = sh.cps.size := by
      rw [List.length_map, List.length_tail, hlen]
      simp
    have hzl : (ws.tail.zip sh.cps.toList).length = (ws.tail.map V.str).length := by
      rw [List.length_zip, List.length_map, List.length_tail, hlen, Nat.add_sub_cancel, Nat.min_self]
    refine ⟨p4, sh, _, rfl, SqL.of hp4, fun D nD => lc_it (walk_zipLS hlt) (PvE H4 D fun i => !((ws.tail.zip sh.cps.toList)[i]?).elim true fun p => fitsB p.1.cps.toList p.2) (PvE.start nD) (fun i H' _ q => SqL.of (q.S _ _ hp4)) ?_ ?_⟩
    · rintro i y H5 H6 hi5 q ⟨t, v, c, rfl, nt, rfl, hc, hv⟩
      rw [List.getElem?_map] at hv
      obtain ⟨wd, hwd, rfl⟩ := Option.map_eq_some_iff.mp hv
      have hmem : wd ∈ ws := List.mem_of_mem_tail (List.mem_of_getElem? hwd)
      have hzi : (ws.tail.zip sh.cps.toList)[i]? = some (wd, c) := List.getElem?_zip_eq_some.mpr ⟨hwd, by rw [Array.getElem?_toList]; exact hc⟩
      have hwl := hb wd hmem
      obtain ⟨l, rfl⟩ : ∃ l, wd = txS l := ⟨wd.cps.toList, (str_tx wd).symm⟩
      have el : (txS l).cps.toList = l := by simp
      rw [el] at hwl
      generalize e5 : upd H5 t _ = H6
      obtain ⟨S6, ht6⟩ := newF nt e5
      walk_at "rd"
      refine ⟨l, c, rfl, hwl, fun H7 S7 => ?_⟩
      walk_at "rd"
      have hci : (!((ws.tail.zip sh.cps.toList)[i]?).elim true fun p => fitsB p.1.cps.toList p.2) = !fitsB l c := by
        rw [hzi]
        show (!fitsB (txS l).cps.toList c) = _
        rw [el]
      show if (!fitsB l c) = true then _ else _
      rw [← hci]
      refine iteJ rfl (fun hq => ?_) fun hq => ?_
      · walk_at "rd"
        exact q.push (S6.trans S7) nD hq (big_of (show i ≤ 3 by rw [hlt] at hi5; omega) (by decide))
      · exact q.skip (S6.trans S7) hq
    · rintro H5 ⟨S5, acc, hD, _, hacc⟩
      have hall : acc.isEmpty = (ws.tail.zip sh.cps.toList).all fun p => fitsB p.1.cps.toList p.2 := by
        rw [hacc, ← hzl, all_range (ws.tail.zip sh.cps.toList) (fun p => fitsB p.1.cps.toList p.2)]
        intro i x hx
        rw [hx, Bool.not_not]
        rfl
      have S05 : Same H H5 := S4.trans S5
      refine ⟨D, acc, rfl, SqL.of hD, _, rfl, ?_⟩
      show if (!acc.isEmpty) = true then _ else _
      rw [hall]
      cases hq : (ws.tail.zip sh.cps.toList).all fun p => fitsB p.1.cps.toList p.2 with
      | false =>
        rw [if_pos (by rfl)]
        exact fun y hy => k2 (fun z => by rw [z.2] at hq; cases hq) y hy _ S05
      | true =>
        rw [if_neg (by decide)]
        dsimp only [tNext]
        walk_at "rd"
        exact k1 ⟨hlen, hq⟩ _ S05
theorem ok_words_asked (D : Df K mg "words_asked" s_words_asked ["row"]) (T : Txt K mg) (TG_SHAPES : GD K mg w "SHAPES" shapes) (G_fits : G' P w K mg base "fits" 2 ["word", "kind"] sp_fits) : G' P w K mg base "words_asked" 3 ["row"] (sp_words_asked w K mg) := by
  refine D.ok fun f fd F => F.okX sc_words_asked (fun vs H Q E h => ?_) (fun cdv A outer s H vs Q E hr h => ?_)
  · rcases h with ⟨x, rfl, _⟩ | ⟨v, u, rfl, _⟩
    · rfl
    · rfl
  · refine ⟨_, (pss_cons (ps_if (pt_not (pt_val (pe_callB (call_isiK K) (by rfl) T.n_isinstance (by decide +kernel) (pa_cons (pv 0) (pa_cons (pe_ty (n := "str") T.n_str (by decide +kernel)) pa_nil))))) (pss_one (ps_rs T.x_NoRow rfl (takes_of rfl rfl rfl rfl))) pss_nil)
  (pss_cons (ps_set (i := 1) sc_words_asked.nd rfl (by first | exact Or.inl rfl | exact Or.inr rfl) (pe_gget w TG_SHAPES (pe_ix (ix_listK K) (pe_split (pv 0) pe_str) pe_int (fun _ _ => rfl)) ⟨by rfl, by rfl, by rfl, by rfl⟩))
  (pss_cons (ps_if (pt_cmpR op_isN (pv 1) pe_non (nomark _)) (pss_one (ps_rs T.x_NoRow rfl (takes_of rfl rfl rfl rfl))) pss_nil)
  (pss_cons (ps_set (i := 2) sc_words_asked.nd rfl (by first | exact Or.inl rfl | exact Or.inr rfl) (pe_split (pv 0) pe_str))
  (pss_cons (ps_if (pt_cmpR op_eq (pv 1) pe_str (nomark _)) (pss_one (ps_set (i := 2) sc_words_asked.nd rfl (by first | exact Or.inl rfl | exact Or.inr rfl) (cbm K (pe_bm PySem.F.plainAttrs_str PySem.F.slot_str_split PySem.F.type_str_split mt_splitMax (pv 0) (pa_cons pe_str (pa_cons pe_int pa_nil)))))) pss_nil)
  (pss_cons (ps_if (pt_cmpR op_ne (pe_callB (call_lenK K) (by rfl) T.n_len PySem.boot_len (pa_cons (pv 2) pa_nil)) (pe_op op_add (pe_callB (call_lenK K) (by rfl) T.n_len PySem.boot_len (pa_cons (pv 1) pa_nil)) pe_int) (nomark _)) (pss_one (ps_rs T.x_NoRow rfl (takes_of rfl rfl rfl rfl))) pss_nil)
  (pss_cons (ps_if (pt_cmp (pc_neNilK K hr (pe_lc (own := [("word", 3), ("kind", 4)]) (g := (gTup K 2 (gCons (gName 3) (gCons (gName 4) gNil)))) rfl sc_words_asked.nd (pi_zipLSK K T.n_zip (pa_cons (pe_slice (sl_listK K) (pv 2) (po_some pe_int) po_none) (pa_cons (pv 1) pa_nil))) (blkOk_by (own := [("word", 3), ("kind", 4)]) (N := ["row", "shape", "words", "word", "kind"]) (sc := defScope s_words_asked) (by decide +kernel)) (fun _ _ _ _ _ => (pg_tup (by rfl) (pgs_cons (pg_name (i := 3) sc_words_asked.nd rfl (by first | exact Or.inl rfl | exact Or.inr rfl)) (pgs_cons (pg_name (i := 4) sc_words_asked.nd rfl (by first | exact Or.inl rfl | exact Or.inr rfl)) pgs_nil)))) (fun _ _ _ _ _ => (pts_one (pt_not (pt_val (pe_cl G_fits (hr.mono (by omega)) passF (pa_cons (pv 3) (pa_cons (pv 4) pa_nil))))))) (fun _ _ _ _ _ => (pv 3))))) (pss_one (ps_rs T.x_NoRow rfl (takes_of rfl rfl rfl rfl))) pss_nil)
  (pss_one (ps_ret (pv 2)))))))))), ?_⟩
    rcases h with ⟨x, rfl, ⟨hz1, hz2, hz3, hz4, hz5, hz6⟩, k1, k2⟩ | ⟨v, u, rfl, ty, ku, k2⟩
    rotate_left
    · walk_at "rd"
      refine ⟨_, _, _, _, false, rfl, .ty _, ty, ku, ?_⟩
      walk_at "rd"
      exact fun x hx => k2 x hx
    have e32 : PySem.Str.ofString " " = txS [32] := by decide +kernel
    walk_at "rd"
    rw [e32]
    have hlx : x.length + 2 ≤ sizeLine := Nat.le_trans (show _ ≤ 90002 by omega) (by decide)
    refine ⟨hlx, fun p1 n1 => ?_⟩
    generalize e1 : upd H p1 _ = H1
    obtain ⟨S1, hp1⟩ := newF n1 e1
    obtain ⟨h0, r0, hsp⟩ : ∃ h r, Txt.split x (txS [32]) = h :: r := by
      cases hq : Txt.split x (txS [32]) with
      | nil => exact absurd hq hz2
      | cons h r => exact ⟨h, r, rfl⟩
    walk_at "rd"
    rw [hsp] at hp1
    refine ⟨_, _, _, _, rfl, rfl, SqL.of hp1, atI_nat (j := 0) (xs := (h0 :: r0).map V.str) rfl, ?_⟩
    refine ⟨h0, rfl, ?_⟩
    have hrow : rowW x = match lookT shapes h0 with | none => none | some sh => if (wordsOf x sh).length = sh.cps.toList.length + 1 ∧ ((wordsOf x sh).tail.zip sh.cps.toList).all (fun p => fitsB p.1.cps.toList p.2) = true then some (wordsOf x sh) else none := by
      unfold rowW
      rw [hsp]
      rfl
    cases hlk : lookT shapes h0 with
    | none =>
      walk_at "rd"
      exact fun y hy => k2 (by rw [hrow, hlk]) y hy _ S1
    | some sh =>
      rw [hlk] at hrow
      dsimp only at hrow
      walk_at "rd"
      refine ⟨hlx, fun p2 n2 => ?_⟩
      generalize e2 : upd H1 p2 _ = H2
      obtain ⟨S2, hp2⟩ := newF n2 e2
      walk_at "rd"
      have hsh := shapes_len hlk
      have ent : PySem.Str.ofString "nt" = txS [110, 116] := by decide +kernel
      rw [ent]
      by_cases hnt : sh = txS [110, 116]
      · have hws : wordsOf x sh = Txt.splitMax x (txS [32]) 2 := if_pos hnt
        show if decide (V.str sh = V.str (txS [110, 116])) = true then _ else _
        rw [if_pos (by rw [hnt]; exact decide_eq_true rfl)]
        walk_at "rd"
        refine ⟨x, _, 2, rfl, rfl, (by decide +kernel), (by decide), (by decide), hlx, fun p3 n3 => ?_⟩
        generalize e3 : upd H2 p3 _ = H3
        obtain ⟨S3, hp3⟩ := newF n3 e3
        have S03 : Same H H3 := S1.trans (S2.trans S3)
        refine d1_tail hp3 hz4 hsh hz6 ?_ ?_
        · exact fun hf H' S' => k1 _ (by rw [hrow, hws]; exact if_pos hf) H' p3 (S03.trans S') ((S1.trans S2).free n3) (S' _ _ hp3)
        · exact fun hf y hy H' S' => k2 (by rw [hrow, hws]; exact if_neg hf) y hy _ (S03.trans S')
      · have hws : wordsOf x sh = Txt.split x (txS [32]) := if_neg hnt
        show if decide (V.str sh = V.str (txS [110, 116])) = true then _ else _
        rw [if_neg (by simpa using fun z => hnt z)]
        dsimp only [tNext]
        have S02 : Same H H2 := S1.trans S2
        refine d1_tail hp2 hz3 hsh hz5 ?_ ?_
        · exact fun hf H' S' => k1 _ (by rw [hrow, hws]; exact if_pos hf) H' p2 (S02.trans S') (S1.free n2) (S' _ _ hp2)
        · exact fun hf y hy H' S' => k2 (by rw [hrow, hws]; exact if_neg hf) y hy _ (S02.trans S')
end
end Hy
set_option Elab.async false
set_option linter.all false
set_option maxRecDepth 100000
set_option maxHeartbeats 4000000
namespace Hy
open PySem L2
local macro_rules | `(tactic| walk_at "hp") => `(tactic| first
  | assumption | exact upd_same
  | (refine (upd_ne ?_).trans ?_ <;> first | assumption | (exact Ne.symm (by assumption)) | walk_at "ne" | walk_at "hp")
  | (refine (by assumption : Same _ _) _ _ ?_; assumption))
local macro_rules | `(tactic| walk_at "ne") => `(tactic| first
  | assumption | (exact Ne.symm (by assumption))
  | exact ne_of_none (by assumption) (by assumption) | exact Ne.symm (ne_of_none (by assumption) (by assumption)))
local macro_rules | `(tactic| walk_at "sz") => `(tactic| first | assumption | (show 0 ≤ sizeLine; decide) | (show 1 ≤ sizeLine; decide) | (show 2 ≤ sizeLine; decide) | (show 3 ≤ sizeLine; decide))
local macro_rules | `(tactic| walk_at "ar") => `(tactic| first
  | ((with_reducible show (0 : Int) < _); first | decide | omega)
  | ((with_reducible show CMul _ _); first | exact Or.inr (And.intro (by decide) (by decide)) | exact Or.inl (And.intro (by decide) (by decide)) | (refine Or.inl (And.intro ?_ ?_) <;> omega) | (refine Or.inr (And.intro ?_ ?_) <;> omega))
  | ((with_reducible show CPow _ _); exact And.intro (by decide) (And.intro (by decide) (by decide)))
  | ((with_reducible show CDiv _ _); first | exact And.intro (by decide) (by decide) | (refine And.intro ?_ ?_ <;> omega)))
/- one step of a reading -/
local macro_rules | `(tactic| walk_at "r1") => `(tactic| first
  | refine ⟨_, rfl, ?_⟩
  | refine iteB (by rfl) ?_ | refine iteC (by rfl) ?_
  | refine ⟨_, _, rfl, rfl, ?_⟩
  | refine ⟨rfl, ?_⟩
  | refine ⟨⟨_, rfl⟩, ?_⟩
  | refine ⟨_, _, _, _, true, rfl, .ty _, .base (.str _), kit_ty (by decide +kernel), ?_⟩
  | refine ⟨_, _, _, _, false, rfl, .ty _, .base (.str _), kit_ty (by decide +kernel), ?_⟩
  | refine ⟨_, _, _, _, true, rfl, .ty _, .base (.int _), kit_ty (by decide +kernel), ?_⟩
  | refine ⟨_, _, _, _, false, rfl, .ty _, .base (.int _), kit_ty (by decide +kernel), ?_⟩
  | refine ⟨_, _, _, _, true, rfl, .ty _, .base (.tup (by walk_at "hp")), kit_ty (by decide +kernel), ?_⟩
  | refine ⟨_, _, _, _, false, rfl, .ty _, .base (.tup (by walk_at "hp")), kit_ty (by decide +kernel), ?_⟩
  | refine ⟨_, _, _, _, true, rfl, .ty _, .base (.lst (by walk_at "hp")), kit_ty (by decide +kernel), ?_⟩
  | refine ⟨_, _, _, _, false, rfl, .ty _, .base (.lst (by walk_at "hp")), kit_ty (by decide +kernel), ?_⟩
  | refine ⟨_, _, rfl, ⟨by walk_at "sz", rfl⟩, ?_⟩
  | refine ⟨_, _, _, _, rfl, rfl, SqT.of (by walk_at "hp"), by rfl, ?_⟩
  | refine ⟨_, _, _, _, rfl, rfl, SqL.of (by walk_at "hp"), by rfl, ?_⟩
  | refine ⟨.inl ⟨rfl, _, SqL.of (by walk_at "hp")⟩, ?_⟩
  | refine ⟨_, _, _, rfl, rfl, (by walk_at "hp"), snoc_get, ?_⟩
  | refine ⟨_, _, _, _, rfl, rfl, (by walk_at "hp"), by rfl, ?_⟩
  | refine ⟨_, _, rfl, SqL.of (by walk_at "hp"), ?_⟩
  | refine ⟨_, _, rfl, SqT.of (by walk_at "hp"), by rfl, ?_⟩
  | refine ⟨_, (_ : List V), rfl, ?_⟩
  | refine ⟨_, _, rfl, .inl ⟨_, (by assumption), rfl⟩, ?_⟩
  | refine ⟨_, _, rfl, .inl ⟨_, SqL.of (by walk_at "hp"), rfl⟩, ?_⟩
  | refine ⟨_, _, rfl, .inr ⟨_, SqT.of (by walk_at "hp"), rfl⟩, ?_⟩
  | refine Or.inl ⟨(_ : Int), rfl, ?_⟩ | refine Or.inr ⟨(_ : Bool), rfl, ?_⟩
  | refine ⟨_, _, _, _, true, rfl, (by assumption : ND _ _ _ _), .ty _, kit_ty (by decide +kernel), ?_⟩
  | refine ⟨_, _, _, _, false, rfl, (by assumption : ND _ _ _ _), .ty _, kit_ty (by decide +kernel), ?_⟩
  | refine ⟨_, _, rfl, (by assumption : ND _ _ _ _), ?_⟩
  | refine And.intro (by walk_at "ar") ?_)
local macro_rules | `(tactic| walk_at "rd") => `(tactic| repeat walk_at "r1")

/-! ### the desk -/
/-- a judge on the heap, its table in any order -/
structure JP (w : World) (H : Hp) (J : Jd) (a d g : Addr) (es : List NE) : Prop where
  ja : JAt w H J a d g es
  tab : TabP es J
  ok : J.Ok
theorem JP.same {w : World} {H H' : Hp} {J : Jd} {a d g : Addr} {es : List NE} (h : JP w H J a d g es) (s : Same H H') : JP w H' J a d g es := ⟨h.ja.same s, h.tab, h.ok⟩
theorem JP.keep {w : World} {A : List Addr} {H H' : Hp} {J : Jd} {a d g : Addr} {es : List NE} (h : JP w H J a d g es) (s : Keep A H H') (hd : d ∉ A) (hg : g ∉ A) : JP w H' J a d g es := ⟨h.ja.keep s hd hg, h.tab, h.ok⟩
theorem JN.jp {w : World} {H : Hp} {J : Jd} {a d g : Addr} {es : List NE} (h : JN w H J a d g es) : JP w H J a d g es := ⟨h.at, h.tab.p, h.ok⟩
structure DJ where
  nm : Str
  J : Jd
  a : Addr
  d : Addr
  g : Addr
  es : List NE
abbrev djK (js : List DJ) : List (Key × V) := js.map fun j => (Sum.inr j.nm, V.ref j.a)
structure DeskAt (w : World) (C : Addr) (H : Hp) (p dd : Addr) (js : List DJ) : Prop where
  ins : ∃ dx, H p = some (.ins C dx [("judges_here", .ref dd)])
  dic : H dd = some (.dK (djK js))
  jn : ∀ j ∈ js, JP w H j.J j.a j.d j.g j.es
  nd : (js.map (·.nm)).Nodup
theorem DeskAt.same {w : World} {C : Addr} {H H' : Hp} {p dd : Addr} {js : List DJ} (h : DeskAt w C H p dd js) (S : Same H H') : DeskAt w C H' p dd js :=
  { ins := h.ins.imp fun _ q => S _ _ q, dic := S _ _ h.dic, jn := fun j hj => (h.jn j hj).same S, nd := h.nd }
theorem dj_some : ∀ {js : List DJ}, (js.map (·.nm)).Nodup → ∀ {j : DJ}, j ∈ js → valV (djK js) (.inr j.nm) = some (.ref j.a)
  | [], _, _, h => nomatch h
  | i :: js, hn, j, h => by
    rw [List.map_cons, List.nodup_cons] at hn
    unfold valV
    rw [djK, List.map_cons, List.find?_cons]
    rcases List.mem_cons.mp h with rfl | h
    · rw [decide_eq_true rfl]
      rfl
    · have hne : ¬ ((Sum.inr i.nm : Key) = Sum.inr j.nm) := fun z => hn.1 (List.mem_map.mpr ⟨j, h, (Sum.inr.inj z).symm⟩)
      rw [decide_eq_false hne]
      exact dj_some hn.2 h
theorem dj_none : ∀ {js : List DJ} {x : Str}, x ∉ js.map (·.nm) → valV (djK js) (.inr x) = none
  | [], _, _ => rfl
  | i :: js, x, h => by
    rw [List.map_cons, List.mem_cons, not_or] at h
    unfold valV
    rw [djK, List.map_cons, List.find?_cons]
    have hne : ¬ ((Sum.inr i.nm : Key) = Sum.inr x) := fun z => h.1 (Sum.inr.inj z).symm
    rw [decide_eq_false hne]
    exact dj_none h.2
section
variable {P : Program} {w : World} {K : PySem.W.Frag} {mg : Str → Option Value} {base : Heap} {C : Addr}
abbrev s_Desk___init__ : Stmt := inClass (top 98) 0
theorem sc_Desk___init__ : FnScope ["self"] ["self"] (defScope s_Desk___init__) := ⟨rfl, rfl, rfl, by decide +kernel, rfl, by decide +kernel, by decide +kernel⟩
abbrev s_Desk_names : Stmt := inClass (top 98) 1
theorem sc_Desk_names : FnScope ["self"] ["self"] (defScope s_Desk_names) := ⟨rfl, rfl, rfl, by decide +kernel, rfl, by decide +kernel, by decide +kernel⟩
abbrev s_Desk_judge_by : Stmt := inClass (top 98) 2
theorem sc_Desk_judge_by : FnScope ["self", "name"] ["self", "name"] (defScope s_Desk_judge_by) := ⟨rfl, rfl, rfl, by decide +kernel, rfl, by decide +kernel, by decide +kernel⟩

def sp_Desk___init__ (C : Addr) : Sp := fun vs H Q _ => ∃ (x dx : Addr), vs = [.ref x] ∧ H x = some (.ins C dx []) ∧ ∀ dd, H dd = none → Q .non (upd (upd H dd (.dK [])) x (.ins C dx [("judges_here", .ref dd)]))
theorem ok_Desk___init__ (cD : Cls K C) (nJ : NoAttr K C "judges_here") (D : Dm K C "__init__" "Desk.__init__" s_Desk___init__ ["self"]) (T : Txt K mg) : Gm P w K mg base C "__init__" 1 ["self"] (sp_Desk___init__ C) := by
  refine D.ok fun f fd F => F.okX sc_Desk___init__ (fun vs H Q E h => ?_) (fun cdv A outer s H vs Q E hr h => ?_)
  · obtain ⟨x, dx, rfl, _⟩ := h
    rfl
  · obtain ⟨x, dx, rfl, hx, k⟩ := h
    refine ⟨_, (pss_one (ps_fld (pv 0) pe_dnewK rfl)), ?_⟩
    walk_at "rd"
    refine fun dd nd => ?_
    have hxd : x ≠ dd := ne_of_none hx nd
    walk_at "rd"
    exact ⟨x, C, dx, [], rfl, by rw [upd_ne hxd]; exact hx, cD, nJ, (by show 0 < 1000; decide), k dd nd⟩
def sp_Desk_names (w : World) (C : Addr) : Sp := fun vs H Q _ => ∃ (p dd : Addr) (js : List DJ), vs = [.ref p] ∧ DeskAt w C H p dd js ∧ ∀ q, H q = none → Q (.ref q) (upd H q (.lst ((sortX (js.map (·.nm))).map .str)))
theorem ok_Desk_names (cD : Cls K C) (nJ : NoAttr K C "judges_here") (D : Dm K C "names" "Desk.names" s_Desk_names ["self"]) (T : Txt K mg) : Gm P w K mg base C "names" 1 ["self"] (sp_Desk_names w C) := by
  refine D.ok fun f fd F => F.okX sc_Desk_names (fun vs H Q E h => ?_) (fun cdv A outer s H vs Q E hr h => ?_)
  · obtain ⟨p, dd, js, rfl, _⟩ := h
    rfl
  · obtain ⟨p, dd, js, rfl, hD, k⟩ := h
    obtain ⟨dx, hp⟩ := hD.ins
    have hd := hD.dic
    refine ⟨_, (pss_one (ps_ret (pe_callB (call_sortedT rfl hr) (by rfl) T.n_sorted (by decide +kernel) (pa_cons (pe_fldK K (pv 0) rfl) pa_nil)))), ?_⟩
    walk_at "rd"
    refine ⟨p, C, dx, _, _, rfl, hp, cD, nJ, List.lookup_cons_self, ?_⟩
    walk_at "rd"
    exact ⟨dd, _, js.map (·.nm), rfl, hd, by rw [djK, List.map_map, List.map_map]; rfl, k⟩
def sp_Desk_judge_by (w : World) (C : Addr) (mg : Str → Option Value) : Sp := fun vs H Q E => ∃ (p dd : Addr) (js : List DJ) (x : Str), vs = [.ref p, .str x] ∧ DeskAt w C H p dd js ∧ (∀ j ∈ js, j.nm = x → Q (.ref j.a) H) ∧ (x ∉ js.map (·.nm) → ∀ y, mg "NoName" = some y → E y none H)
theorem ok_Desk_judge_by (cD : Cls K C) (nJ : NoAttr K C "judges_here") (D : Dm K C "judge_by" "Desk.judge_by" s_Desk_judge_by ["self", "name"]) (T : Txt K mg) : Gm P w K mg base C "judge_by" 1 ["self", "name"] (sp_Desk_judge_by w C mg) := by
  refine D.ok fun f fd F => F.okX sc_Desk_judge_by (fun vs H Q E h => ?_) (fun cdv A outer s H vs Q E hr h => ?_)
  · obtain ⟨p, dd, js, x, rfl, _⟩ := h
    rfl
  · obtain ⟨p, dd, js, x, rfl, hD, k1, k2⟩ := h
    obtain ⟨dx, hp⟩ := hD.ins
    have hd := hD.dic
    refine ⟨_, (pss_cons (ps_if (pt_cmp (pc_dnotin (hu_of hr) (pv 1) (pe_fldK K (pv 0) rfl))) (pss_one (ps_rs T.x_NoName rfl (takes_of rfl rfl rfl rfl))) pss_nil)
  (pss_one (ps_ret (pe_dget (hu_of hr) (pe_fldK K (pv 0) rfl) (pv 1) (fun _ _ => rfl))))), ?_⟩
    walk_at "rd"
    refine ⟨p, C, dx, _, _, rfl, hp, cD, nJ, List.lookup_cons_self, ?_⟩
    walk_at "rd"
    refine ⟨dd, _, rfl, DGet.k (k := .inr x) hd, _, rfl, ?_⟩
    by_cases hx : x ∈ js.map (·.nm)
    · obtain ⟨j, hj, rfl⟩ := List.mem_map.mp hx
      rw [dj_some hD.nd hj]
      show if false = true then _ else _
      rw [if_neg (by decide)]
      dsimp only [tNext]
      walk_at "rd"
      refine ⟨p, C, dx, _, _, rfl, hp, cD, nJ, List.lookup_cons_self, ?_⟩
      walk_at "rd"
      have g := DGet.k (k := .inr j.nm) hd
      rw [dj_some hD.nd hj] at g
      exact ⟨dd, _, rfl, g, k1 j hj rfl⟩
    · rw [dj_none hx]
      show if true = true then _ else _
      rw [if_pos rfl]
      exact fun y hy => k2 hx y hy
end
end Hy
set_option Elab.async false
set_option linter.all false
set_option maxRecDepth 100000
set_option maxHeartbeats 4000000
namespace Hy
open PySem L2
local macro_rules | `(tactic| walk_at "hp") => `(tactic| first
  | assumption | exact upd_same
  | (refine (upd_ne ?_).trans ?_ <;> first | assumption | (exact Ne.symm (by assumption)) | walk_at "ne" | walk_at "hp")
  | (refine (by assumption : Same _ _) _ _ ?_; assumption))
local macro_rules | `(tactic| walk_at "ne") => `(tactic| first
  | assumption | (exact Ne.symm (by assumption))
  | exact ne_of_none (by assumption) (by assumption) | exact Ne.symm (ne_of_none (by assumption) (by assumption)))
local macro_rules | `(tactic| walk_at "sz") => `(tactic| first | assumption | (show 0 ≤ sizeLine; decide) | (show 1 ≤ sizeLine; decide) | (show 2 ≤ sizeLine; decide) | (show 3 ≤ sizeLine; decide))
local macro_rules | `(tactic| walk_at "ar") => `(tactic| first
  | ((with_reducible show (0 : Int) < _); first | decide | omega)
  | ((with_reducible show CMul _ _); first | exact Or.inr (And.intro (by decide) (by decide)) | exact Or.inl (And.intro (by decide) (by decide)) | (refine Or.inl (And.intro ?_ ?_) <;> omega) | (refine Or.inr (And.intro ?_ ?_) <;> omega))
  | ((with_reducible show CPow _ _); exact And.intro (by decide) (And.intro (by decide) (by decide)))
  | ((with_reducible show CDiv _ _); first | exact And.intro (by decide) (by decide) | (refine And.intro ?_ ?_ <;> omega)))
/- one step of a reading -/
local macro_rules | `(tactic| walk_at "r1") => `(tactic| first
  | refine ⟨_, rfl, ?_⟩
  | refine iteB (by rfl) ?_ | refine iteC (by rfl) ?_
  | refine ⟨_, _, rfl, rfl, ?_⟩
  | refine ⟨rfl, ?_⟩
  | refine ⟨⟨_, rfl⟩, ?_⟩
  | refine ⟨_, _, _, _, true, rfl, .ty _, .base (.str _), kit_ty (by decide +kernel), ?_⟩
  | refine ⟨_, _, _, _, false, rfl, .ty _, .base (.str _), kit_ty (by decide +kernel), ?_⟩
  | refine ⟨_, _, _, _, true, rfl, .ty _, .base (.int _), kit_ty (by decide +kernel), ?_⟩
  | refine ⟨_, _, _, _, false, rfl, .ty _, .base (.int _), kit_ty (by decide +kernel), ?_⟩
  | refine ⟨_, _, _, _, true, rfl, .ty _, .base (.tup (by walk_at "hp")), kit_ty (by decide +kernel), ?_⟩
  | refine ⟨_, _, _, _, false, rfl, .ty _, .base (.tup (by walk_at "hp")), kit_ty (by decide +kernel), ?_⟩
  | refine ⟨_, _, _, _, true, rfl, .ty _, .base (.lst (by walk_at "hp")), kit_ty (by decide +kernel), ?_⟩
  | refine ⟨_, _, _, _, false, rfl, .ty _, .base (.lst (by walk_at "hp")), kit_ty (by decide +kernel), ?_⟩
  | refine ⟨_, _, rfl, ⟨by walk_at "sz", rfl⟩, ?_⟩
  | refine ⟨_, _, _, _, rfl, rfl, SqT.of (by walk_at "hp"), by rfl, ?_⟩
  | refine ⟨_, _, _, _, rfl, rfl, SqL.of (by walk_at "hp"), by rfl, ?_⟩
  | refine ⟨.inl ⟨rfl, _, SqL.of (by walk_at "hp")⟩, ?_⟩
  | refine ⟨_, _, _, rfl, rfl, (by walk_at "hp"), snoc_get, ?_⟩
  | refine ⟨_, _, _, _, rfl, rfl, (by walk_at "hp"), by rfl, ?_⟩
  | refine ⟨_, _, rfl, SqL.of (by walk_at "hp"), ?_⟩
  | refine ⟨_, _, rfl, SqT.of (by walk_at "hp"), by rfl, ?_⟩
  | refine ⟨_, (_ : List V), rfl, ?_⟩
  | refine ⟨_, _, rfl, .inl ⟨_, (by assumption), rfl⟩, ?_⟩
  | refine ⟨_, _, rfl, .inl ⟨_, SqL.of (by walk_at "hp"), rfl⟩, ?_⟩
  | refine ⟨_, _, rfl, .inr ⟨_, SqT.of (by walk_at "hp"), rfl⟩, ?_⟩
  | refine Or.inl ⟨(_ : Int), rfl, ?_⟩ | refine Or.inr ⟨(_ : Bool), rfl, ?_⟩
  | refine ⟨_, _, _, _, true, rfl, (by assumption : ND _ _ _ _), .ty _, kit_ty (by decide +kernel), ?_⟩
  | refine ⟨_, _, _, _, false, rfl, (by assumption : ND _ _ _ _), .ty _, kit_ty (by decide +kernel), ?_⟩
  | refine ⟨_, _, rfl, (by assumption : ND _ _ _ _), ?_⟩
  | refine And.intro (by walk_at "ar") ?_)
local macro_rules | `(tactic| walk_at "rd") => `(tactic| repeat walk_at "r1")

section
variable {P : Program} {w : World} {K : PySem.W.Frag} {mg : Str → Option Value} {base : Heap} {C : Addr}
abbrev s_need_size : Stmt := top 49
theorem sc_need_size : FnScope ["thing", "most"] ["thing", "most"] (defScope s_need_size) := ⟨rfl, rfl, rfl, by decide +kernel, rfl, by decide +kernel, by decide +kernel⟩
abbrev s_count_let_by : Stmt := top 50
theorem sc_count_let_by : FnScope ["judge", "size", "counts", "state"] ["judge", "size"] (defScope s_count_let_by) := ⟨rfl, rfl, rfl, by decide +kernel, rfl, by decide +kernel, by decide +kernel⟩
abbrev s_need_letters_within : Stmt := top 88
theorem sc_need_letters_within : FnScope ["one", "other"] ["one", "other"] (defScope s_need_letters_within) := ⟨rfl, rfl, rfl, by decide +kernel, rfl, by decide +kernel, by decide +kernel⟩
abbrev s_within_told : Stmt := top 95
theorem sc_within_told : FnScope ["one", "other", "search", "pair"] ["one", "other"] (defScope s_within_told) := ⟨rfl, rfl, rfl, by decide +kernel, rfl, by decide +kernel, by decide +kernel⟩
abbrev s_within_answer : Stmt := top 97
theorem sc_within_answer : FnScope ["one", "other", "told"] ["one", "other"] (defScope s_within_answer) := ⟨rfl, rfl, rfl, by decide +kernel, rfl, by decide +kernel, by decide +kernel⟩
abbrev s_need_letters_judges : Stmt := top 38
theorem sc_need_letters_judges : FnScope ["judge", "tree", "part"] ["judge", "tree"] (defScope s_need_letters_judges) := ⟨rfl, rfl, rfl, by decide +kernel, rfl, by decide +kernel, by decide +kernel⟩
abbrev s_part_states : Stmt := top 41
theorem sc_part_states : FnScope ["judge", "tree"] ["judge", "tree"] (defScope s_part_states) := ⟨rfl, rfl, rfl, by decide +kernel, rfl, by decide +kernel, by decide +kernel⟩
abbrev s_state_of : Stmt := top 42
theorem sc_state_of : FnScope ["judge", "tree"] ["judge", "tree"] (defScope s_state_of) := ⟨rfl, rfl, rfl, by decide +kernel, rfl, by decide +kernel, by decide +kernel⟩
abbrev s_lets_by : Stmt := top 43
theorem sc_lets_by : FnScope ["judge", "tree"] ["judge", "tree"] (defScope s_lets_by) := ⟨rfl, rfl, rfl, by decide +kernel, rfl, by decide +kernel, by decide +kernel⟩

def sp_need_size (mg : Str → Option Value) : Sp := fun vs H Q E => ∃ i m : Int, vs = [.int i, .int m] ∧ (1 ≤ i ∧ i ≤ m → Q .non H) ∧ (¬ (1 ≤ i ∧ i ≤ m) → ∀ y, mg "NoNumber" = some y → E y none H)
theorem ok_need_size (D : Df K mg "need_size" s_need_size ["thing", "most"]) (T : Txt K mg) (G_is_whole_within : G' P w K mg base "is_whole_within" 1 ["thing", "low", "high"] sp_is_whole_within) : G' P w K mg base "need_size" 2 ["thing", "most"] (sp_need_size mg) := by
  refine D.ok fun f fd F => F.okX sc_need_size (fun vs H Q E h => ?_) (fun cdv A outer s H vs Q E hr h => ?_)
  · obtain ⟨i, m, rfl, _⟩ := h
    rfl
  · obtain ⟨i, m, rfl, k1, k2⟩ := h
    refine ⟨_, (pss_one (ps_if (pt_not (pt_val (pe_cl G_is_whole_within (hr.mono (by omega)) passF (pa_cons (pv 0) (pa_cons pe_int (pa_cons (pv 1) pa_nil)))))) (pss_one (ps_rs T.x_NoNumber rfl (takes_of rfl rfl rfl rfl))) pss_nil)), ?_⟩
    walk_at "rd"
    refine ⟨i, 1, m, rfl, ?_⟩
    refine ⟨_, rfl, ?_⟩
    by_cases h : 1 ≤ i ∧ i ≤ m
    · rw [decide_eq_true h.1, decide_eq_true h.2]
      exact k1 h
    · have e : (decide (1 ≤ i) && decide (i ≤ m)) = false := by
        rw [Bool.and_eq_false_iff]
        by_cases h1 : 1 ≤ i
        · exact .inr (decide_eq_false fun z => h ⟨h1, z⟩)
        · exact .inl (decide_eq_false h1)
      rw [e]
      exact fun y hy => k2 h y hy
/-- here only sizes that are none are asked -/
def sp_count_let_by (mg : Str → Option Value) : Sp := fun vs H Q E => ∃ (v : V) (i : Int), vs = [v, .int i] ∧ 24 < i ∧ ∀ y, mg "NoNumber" = some y → E y none H
theorem ok_count_let_by (D : Df K mg "count_let_by" s_count_let_by ["judge", "size"]) (T : Txt K mg) (G_need_size : G' P w K mg base "need_size" 2 ["thing", "most"] (sp_need_size mg)) : G' P w K mg base "count_let_by" 3 ["judge", "size"] (sp_count_let_by mg) := by
  refine D.ok fun f fd F => F.okX sc_count_let_by (fun vs H Q E h => ?_) (fun cdv A outer s H vs Q E hr h => ?_)
  · obtain ⟨v, i, rfl, _⟩ := h
    rfl
  · obtain ⟨v, i, rfl, hi, k⟩ := h
    refine ⟨_, (pss_cons (ps_expr (pe_cl G_need_size (hr.mono (by omega)) (passW (takes_of rfl rfl rfl rfl) (fun _ _ _ _ z => z)) (pa_cons (pv 1) (pa_cons (pe_gv T.g_MOST_COUNTED) pa_nil))))
  (pss_cons ps_never
  (pss_one ps_never))), ?_⟩
    walk_at "rd"
    exact ⟨i, 24, rfl, fun z => absurd z.2 (by omega), fun _ y hy => k y hy⟩
/-- only unlike letters are asked -/
def sp_need_letters_within (mg : Str → Option Value) : Sp := fun vs H Q E => ∃ (a b : Addr) (x y : Str) (xs ys : List V), vs = [.ref a, .ref b] ∧ H a = some (.tup (.str x :: xs)) ∧ H b = some (.tup (.str y :: ys)) ∧ x ≠ y ∧ ∀ z, mg "NoFit" = some z → E z none H
theorem ok_need_letters_within (D : Da K mg "need_letters_within" "need_letters" s_need_letters_within ["one", "other"]) (T : Txt K mg) : G' P w K mg base "need_letters_within" 1 ["one", "other"] (sp_need_letters_within mg) := by
  refine D.ok fun f fd F => F.okX sc_need_letters_within (fun vs H Q E h => ?_) (fun cdv A outer s H vs Q E hr h => ?_)
  · obtain ⟨a, b, x, y, xs, ys, rfl, _⟩ := h
    rfl
  · obtain ⟨a, b, x, y, xs, ys, rfl, ha, hb, hne, k⟩ := h
    refine ⟨_, (pss_one (ps_if (pt_cmpR op_ne (pe_ix (ix_tupK K) (pv 0) pe_int (fun _ _ => rfl)) (pe_ix (ix_tupK K) (pv 1) pe_int (fun _ _ => rfl)) (nomark _)) (pss_one (ps_rs T.x_NoFit rfl (takes_of rfl rfl rfl rfl))) pss_nil)), ?_⟩
    walk_at "rd"
    refine ⟨a, _, _, _, rfl, rfl, SqT.of ha, atI_nat (j := 0) (xs := V.str x :: xs) rfl, ?_⟩
    walk_at "rd"
    refine ⟨b, _, _, _, rfl, rfl, SqT.of hb, atI_nat (j := 0) (xs := V.str y :: ys) rfl, ?_⟩
    walk_at "rd"
    show if (!decide (V.str x = V.str y)) = true then _ else _
    refine iteB (by rw [decide_eq_false (fun z => hne (V.str.inj z))]; rfl) ?_
    exact fun z hz => k z hz
def sp_within_told (mg : Str → Option Value) : Sp := sp_need_letters_within mg
theorem ok_within_told (D : Df K mg "within_told" s_within_told ["one", "other"]) (T : Txt K mg) (G_need_letters_within : G' P w K mg base "need_letters_within" 1 ["one", "other"] (sp_need_letters_within mg)) : G' P w K mg base "within_told" 2 ["one", "other"] (sp_within_told mg) := by
  refine D.ok fun f fd F => F.okX sc_within_told (fun vs H Q E h => ?_) (fun cdv A outer s H vs Q E hr h => ?_)
  · obtain ⟨a, b, x, y, xs, ys, rfl, _⟩ := h
    rfl
  · obtain ⟨a, b, x, y, xs, ys, rfl, ha, hb, hne, k⟩ := h
    refine ⟨_, (pss_cons (ps_expr (pe_cl G_need_letters_within (hr.mono (by omega)) (passW (takes_of rfl rfl rfl rfl) (fun _ _ _ _ z => z)) (pa_cons (pv 0) (pa_cons (pv 1) pa_nil))))
  (pss_cons ps_never
  (pss_cons ps_never
  (pss_one ps_never)))), ?_⟩
    walk_at "rd"
    exact ⟨a, b, x, y, xs, ys, rfl, ha, hb, hne, k⟩
def sp_within_answer (mg : Str → Option Value) : Sp := sp_need_letters_within mg
theorem ok_within_answer (D : Df K mg "within_answer" s_within_answer ["one", "other"]) (T : Txt K mg) (G_within_told : G' P w K mg base "within_told" 2 ["one", "other"] (sp_within_told mg)) : G' P w K mg base "within_answer" 3 ["one", "other"] (sp_within_answer mg) := by
  refine D.ok fun f fd F => F.okX sc_within_answer (fun vs H Q E h => ?_) (fun cdv A outer s H vs Q E hr h => ?_)
  · obtain ⟨a, b, x, y, xs, ys, rfl, _⟩ := h
    rfl
  · obtain ⟨a, b, x, y, xs, ys, rfl, ha, hb, hne, k⟩ := h
    refine ⟨_, (pss_cons (ps_set (i := 2) sc_within_answer.nd rfl (by first | exact Or.inl rfl | exact Or.inr rfl) (pe_cl G_within_told (hr.mono (by omega)) (passW (takes_of rfl rfl rfl rfl) (fun _ _ _ _ z => z)) (pa_cons (pv 0) (pa_cons (pv 1) pa_nil))))
  (pss_cons ps_never
  (pss_one ps_never))), ?_⟩
    walk_at "rd"
    exact ⟨a, b, x, y, xs, ys, rfl, ha, hb, hne, k⟩
/-- only trees with another letter are asked -/
def sp_need_letters_judges (mg : Str → Option Value) : Sp := fun vs H Q E => ∃ (a : Addr) (ls : List Nat) (xs : List V) (v : V) (t : Tr) (as : List Addr), vs = [.ref a, v] ∧ H a = some (.tup (tx ls :: xs)) ∧ TF H t v as ∧ t.size ≤ 100000 ∧ (∃ q ∈ t.parts, q.c ∉ ls) ∧ ∀ z, mg "NoLetter" = some z → ∀ H', Same H H' → E z none H'
theorem ok_need_letters_judges (D : Da K mg "need_letters_judges" "need_letters" s_need_letters_judges ["judge", "tree"]) (T : Txt K mg) (G_parts_in_order : G' P w K mg base "parts_in_order" 1 ["tree"] sp_parts_in_order) : G' P w K mg base "need_letters_judges" 2 ["judge", "tree"] (sp_need_letters_judges mg) := by
  refine D.ok fun f fd F => F.okX sc_need_letters_judges (fun vs H Q E h => ?_) (fun cdv A outer s H vs Q E hr h => ?_)
  · obtain ⟨a, ls, xs, v, t, as, rfl, _⟩ := h
    rfl
  · obtain ⟨a, ls, xs, v, t, as, rfl, ha, ht, hz, hbad, k⟩ := h
    refine ⟨_, (pss_one (ps_for (passes_of rfl) rfl (pi_listK K (pe_cl G_parts_in_order (hr.mono (by omega)) passF (pa_cons (pv 1) pa_nil))) (pg_name (i := 2) sc_need_letters_judges.nd rfl (by first | exact Or.inl rfl | exact Or.inr rfl)) (pss_one (ps_if (pt_cmpR op_notIn_sign (pe_ix (ix_tupK K) (pv 2) pe_int (fun _ _ => rfl)) (pe_ix (ix_tupK K) (pv 0) pe_int (fun _ _ => rfl)) (by rfl)) (pss_one (ps_rs T.x_NoLetter rfl (takes_of rfl rfl rfl rfl))) pss_nil)))), ?_⟩
    walk_at "rd"
    refine ⟨v, t, as, rfl, ht, hz, fun H1 p ws S1 np hp hws => ?_⟩
    obtain ⟨ps, e1, rfl, hps⟩ := hws
    refine ⟨p, rfl, ⟨_, SqL.of hp⟩, ?_⟩
    refine for_it (walk_list (K := K) (xs := ps.map (·.1))) (fun i σ H' => ∃ x2 : Option V, σ = [some (.ref a), some v, x2] ∧ H' = H1 ∧ ∀ j, j < i → ∀ q, (ps.map (·.2.1))[j]? = some q → q.c ∈ ls)
      ⟨none, rfl, rfl, fun j hj => absurd hj (Nat.not_lt_zero _)⟩ (fun i σ H' _ ⟨_, _, e, _⟩ => by rw [e]; exact SqL.of (K := K) hp) ?_ ?_
    · rintro i y σ H2 H3 hi ⟨x2, rfl, rfl, hgood⟩ ⟨rfl, hy⟩
      rw [List.getElem?_map] at hy
      obtain ⟨q, hq, rfl⟩ := Option.map_eq_some_iff.mp hy
      obtain ⟨b, l, qs, hb, hl, _, _, hv, _⟩ := (hps q (List.mem_of_getElem? hq)).out
      have ha1 := S1 _ _ ha
      rw [hv]
      walk_at "rd"
      refine ⟨a, _, _, _, rfl, rfl, SqT.of ha1, atI_nat (j := 0) (xs := tx ls :: xs) rfl, ?_⟩
      refine ⟨_, _, rfl, rfl, ?_⟩
      refine ⟨_, rfl, ?_⟩
      have el : (txS ls).cps.toList = ls := by simp
      have hqi : (ps.map (·.2.1))[i]? = some q.2.1 := by rw [List.getElem?_map, hq]; rfl
      show if (!decide (q.2.1.c ∈ (txS ls).cps.toList)) = true then _ else _
      rw [el]
      by_cases hc : q.2.1.c ∈ ls
      · rw [if_neg (by simpa using hc)]
        refine ⟨_, rfl, rfl, fun j hj r hr => ?_⟩
        by_cases hji : j = i
        · subst hji
          rw [hqi] at hr
          cases hr
          exact hc
        · exact hgood j (by omega) r hr
      · rw [if_pos (by simpa using hc)]
        exact fun z hz => k z hz _ S1
    · rintro σ H2 ⟨x2, rfl, rfl, hgood⟩
      obtain ⟨q, hq, hn⟩ := hbad
      rw [e1] at hq
      obtain ⟨j, hj, hje⟩ := List.getElem_of_mem hq
      exact absurd (hgood j (by rw [List.length_map] at hj ⊢; exact hj) q (by rw [← hje]; exact List.getElem?_eq_getElem hj)) hn
def sp_part_states (mg : Str → Option Value) : Sp := fun vs H Q E => ∃ (a : Addr) (ls : List Nat) (xs : List V) (v : V) (t : Tr) (as : List Addr), vs = [.ref a, v] ∧ H a = some (.tup (tx ls :: xs)) ∧ TF H t v as ∧ t.ok = true ∧ t.size ≤ 100000 ∧ (∃ q ∈ t.parts, q.c ∉ ls) ∧ ∀ z, mg "NoLetter" = some z → ∀ H', Same H H' → E z none H'
theorem ok_part_states (D : Df K mg "part_states" s_part_states ["judge", "tree"]) (T : Txt K mg) (G_need_tree : G' P w K mg base "need_tree" 4 ["thing"] sp_need_tree) (G_need_letters_judges : G' P w K mg base "need_letters_judges" 2 ["judge", "tree"] (sp_need_letters_judges mg)) : G' P w K mg base "part_states" 5 ["judge", "tree"] (sp_part_states mg) := by
  refine D.ok fun f fd F => F.okX sc_part_states (fun vs H Q E h => ?_) (fun cdv A outer s H vs Q E hr h => ?_)
  · obtain ⟨a, ls, xs, v, t, as, rfl, _⟩ := h
    rfl
  · obtain ⟨a, ls, xs, v, t, as, rfl, ha, ht, hok, hz, hbad, k⟩ := h
    refine ⟨_, (pss_cons (ps_expr (pe_cl G_need_tree (hr.mono (by omega)) (passW (takes_of rfl rfl rfl rfl) (fun _ _ _ _ z => z)) (pa_cons (pv 1) pa_nil)))
  (pss_cons (ps_expr (pe_cl G_need_letters_judges (hr.mono (by omega)) (passW (takes_of rfl rfl rfl rfl) (fun _ _ _ _ z => z)) (pa_cons (pv 0) (pa_cons (pv 1) pa_nil))))
  (pss_one ps_never))), ?_⟩
    walk_at "rd"
    refine ⟨v, t, as, rfl, ht, hok, hz, fun H1 S1 => ?_⟩
    walk_at "rd"
    exact ⟨a, ls, xs, v, t, as, rfl, S1 _ _ ha, ht.same S1, hz, hbad, fun z hz' H' S' => k z hz' H' (S1.trans S')⟩
def sp_state_of (mg : Str → Option Value) : Sp := sp_part_states mg
theorem ok_state_of (D : Df K mg "state_of" s_state_of ["judge", "tree"]) (T : Txt K mg) (G_part_states : G' P w K mg base "part_states" 5 ["judge", "tree"] (sp_part_states mg)) : G' P w K mg base "state_of" 6 ["judge", "tree"] (sp_state_of mg) := by
  refine D.ok fun f fd F => F.okX sc_state_of (fun vs H Q E h => ?_) (fun cdv A outer s H vs Q E hr h => ?_)
  · obtain ⟨a, ls, xs, v, t, as, rfl, _⟩ := h
    rfl
  · obtain ⟨a, ls, xs, v, t, as, rfl, ha, ht, hok, hz, hbad, k⟩ := h
    refine ⟨_, (pss_one (ps_ret (pe_ix (ix_listK K) (pe_cl G_part_states (hr.mono (by omega)) (passW (takes_of rfl rfl rfl rfl) (fun _ _ _ _ z => z)) (pa_cons (pv 0) (pa_cons (pv 1) pa_nil))) (pe_un un_neg pe_int) (fun _ _ => rfl)))), ?_⟩
    walk_at "rd"
    exact ⟨a, ls, xs, v, t, as, rfl, ha, ht, hok, hz, hbad, k⟩
def sp_lets_by (mg : Str → Option Value) : Sp := sp_part_states mg
theorem ok_lets_by (D : Df K mg "lets_by" s_lets_by ["judge", "tree"]) (T : Txt K mg) (G_state_of : G' P w K mg base "state_of" 6 ["judge", "tree"] (sp_state_of mg)) : G' P w K mg base "lets_by" 7 ["judge", "tree"] (sp_lets_by mg) := by
  refine D.ok fun f fd F => F.okX sc_lets_by (fun vs H Q E h => ?_) (fun cdv A outer s H vs Q E hr h => ?_)
  · obtain ⟨a, ls, xs, v, t, as, rfl, _⟩ := h
    rfl
  · obtain ⟨a, ls, xs, v, t, as, rfl, ha, ht, hok, hz, hbad, k⟩ := h
    refine ⟨_, (pss_one (ps_ret (pe_cmpR (op_in_seqK K) (pe_cl G_state_of (hr.mono (by omega)) (passW (takes_of rfl rfl rfl rfl) (fun _ _ _ _ z => z)) (pa_cons (pv 0) (pa_cons (pv 1) pa_nil))) (pe_ix (ix_tupK K) (pv 0) pe_int (fun _ _ => rfl)) (by rfl)))), ?_⟩
    walk_at "rd"
    exact ⟨a, ls, xs, v, t, as, rfl, ha, ht, hok, hz, hbad, k⟩
end
end Hy
set_option Elab.async false
set_option linter.all false
set_option maxRecDepth 100000
set_option maxHeartbeats 4000000
namespace Hy
open PySem L2
local macro_rules | `(tactic| walk_at "hp") => `(tactic| first
  | assumption | exact upd_same
  | (refine (upd_ne ?_).trans ?_ <;> first | assumption | (exact Ne.symm (by assumption)) | walk_at "ne" | walk_at "hp")
  | (refine (by assumption : Same _ _) _ _ ?_; assumption))
local macro_rules | `(tactic| walk_at "ne") => `(tactic| first
  | assumption | (exact Ne.symm (by assumption))
  | exact ne_of_none (by assumption) (by assumption) | exact Ne.symm (ne_of_none (by assumption) (by assumption)))
local macro_rules | `(tactic| walk_at "sz") => `(tactic| first | assumption | (show 0 ≤ sizeLine; decide) | (show 1 ≤ sizeLine; decide) | (show 2 ≤ sizeLine; decide) | (show 3 ≤ sizeLine; decide))
local macro_rules | `(tactic| walk_at "ar") => `(tactic| first
  | ((with_reducible show (0 : Int) < _); first | decide | omega)
  | ((with_reducible show CMul _ _); first | exact Or.inr (And.intro (by decide) (by decide)) | exact Or.inl (And.intro (by decide) (by decide)) | (refine Or.inl (And.intro ?_ ?_) <;> omega) | (refine Or.inr (And.intro ?_ ?_) <;> omega))
  | ((with_reducible show CPow _ _); exact And.intro (by decide) (And.intro (by decide) (by decide)))
  | ((with_reducible show CDiv _ _); first | exact And.intro (by decide) (by decide) | (refine And.intro ?_ ?_ <;> omega)))
/- one step of a reading -/
local macro_rules | `(tactic| walk_at "r1") => `(tactic| first
  | refine ⟨_, rfl, ?_⟩
  | refine iteB (by rfl) ?_ | refine iteC (by rfl) ?_
  | refine ⟨_, _, rfl, rfl, ?_⟩
  | refine ⟨rfl, ?_⟩
  | refine ⟨⟨_, rfl⟩, ?_⟩
  | refine ⟨_, _, _, _, true, rfl, .ty _, .base (.str _), kit_ty (by decide +kernel), ?_⟩
  | refine ⟨_, _, _, _, false, rfl, .ty _, .base (.str _), kit_ty (by decide +kernel), ?_⟩
  | refine ⟨_, _, _, _, true, rfl, .ty _, .base (.int _), kit_ty (by decide +kernel), ?_⟩
  | refine ⟨_, _, _, _, false, rfl, .ty _, .base (.int _), kit_ty (by decide +kernel), ?_⟩
  | refine ⟨_, _, _, _, true, rfl, .ty _, .base (.tup (by walk_at "hp")), kit_ty (by decide +kernel), ?_⟩
  | refine ⟨_, _, _, _, false, rfl, .ty _, .base (.tup (by walk_at "hp")), kit_ty (by decide +kernel), ?_⟩
  | refine ⟨_, _, _, _, true, rfl, .ty _, .base (.lst (by walk_at "hp")), kit_ty (by decide +kernel), ?_⟩
  | refine ⟨_, _, _, _, false, rfl, .ty _, .base (.lst (by walk_at "hp")), kit_ty (by decide +kernel), ?_⟩
  | refine ⟨_, _, rfl, ⟨by walk_at "sz", rfl⟩, ?_⟩
  | refine ⟨_, _, _, _, rfl, rfl, SqT.of (by walk_at "hp"), by rfl, ?_⟩
  | refine ⟨_, _, _, _, rfl, rfl, SqL.of (by walk_at "hp"), by rfl, ?_⟩
  | refine ⟨.inl ⟨rfl, _, SqL.of (by walk_at "hp")⟩, ?_⟩
  | refine ⟨_, _, _, rfl, rfl, (by walk_at "hp"), snoc_get, ?_⟩
  | refine ⟨_, _, _, _, rfl, rfl, (by walk_at "hp"), by rfl, ?_⟩
  | refine ⟨_, _, rfl, SqL.of (by walk_at "hp"), ?_⟩
  | refine ⟨_, _, rfl, SqT.of (by walk_at "hp"), by rfl, ?_⟩
  | refine ⟨_, (_ : List V), rfl, ?_⟩
  | refine ⟨_, _, rfl, .inl ⟨_, (by assumption), rfl⟩, ?_⟩
  | refine ⟨_, _, rfl, .inl ⟨_, SqL.of (by walk_at "hp"), rfl⟩, ?_⟩
  | refine ⟨_, _, rfl, .inr ⟨_, SqT.of (by walk_at "hp"), rfl⟩, ?_⟩
  | refine Or.inl ⟨(_ : Int), rfl, ?_⟩ | refine Or.inr ⟨(_ : Bool), rfl, ?_⟩
  | refine ⟨_, _, _, _, true, rfl, (by assumption : ND _ _ _ _), .ty _, kit_ty (by decide +kernel), ?_⟩
  | refine ⟨_, _, _, _, false, rfl, (by assumption : ND _ _ _ _), .ty _, kit_ty (by decide +kernel), ?_⟩
  | refine ⟨_, _, rfl, (by assumption : ND _ _ _ _), ?_⟩
  | refine And.intro (by walk_at "ar") ?_)
local macro_rules | `(tactic| walk_at "rd") => `(tactic| repeat walk_at "r1")

section
variable {P : Program} {w : World} {K : PySem.W.Frag} {mg : Str → Option Value} {base : Heap} {C : Addr}
abbrev s_need_room : Stmt := top 57
theorem sc_need_room : FnScope ["letters", "states", "few", "turn", "tuples", "state"] ["letters", "states", "few", "turn"] (defScope s_need_room) := ⟨rfl, rfl, rfl, by decide +kernel, rfl, by decide +kernel, by decide +kernel⟩
abbrev s_parts_both : Stmt := top 55
theorem sc_parts_both : FnScope ["one", "other"] ["one", "other"] (defScope s_parts_both) := ⟨rfl, rfl, rfl, by decide +kernel, rfl, by decide +kernel, by decide +kernel⟩
abbrev s_judges_joined : Stmt := top 61
theorem sc_judges_joined : FnScope ["word", "one", "other", "states", "few", "turn", "table", "letter", "classes", "good", "state", "lets"] ["word", "one", "other"] (defScope s_judges_joined) := ⟨rfl, rfl, rfl, by decide +kernel, rfl, by decide +kernel, by decide +kernel⟩

/-- only more than six states are asked -/
def sp_need_room (mg : Str → Option Value) : Sp := fun vs H Q E => ∃ (ls : List Nat) (s f t : Nat), vs = [tx ls, .int (s : Nat), .int (f : Nat), .int (t : Nat)] ∧ ls.length ≤ 600 ∧ 6 < s ∧ s ≤ 1000 ∧ f ≤ 4 ∧ t ≤ 4 ∧ ∀ z, mg "TooMany" = some z → E z none H
theorem ok_need_room (D : Df K mg "need_room" s_need_room ["letters", "states", "few", "turn"]) (T : Txt K mg) : G' P w K mg base "need_room" 1 ["letters", "states", "few", "turn"] (sp_need_room mg) := by
  refine D.ok fun f fd F => F.okX sc_need_room (fun vs H Q E h => ?_) (fun cdv A outer s H vs Q E hr h => ?_)
  · obtain ⟨ls, s, f, t, rfl, _⟩ := h
    rfl
  · obtain ⟨ls, s, f, t, rfl, hl, hs, hs2, hf, ht, k⟩ := h
    have hz : (txS ls).length ≤ sizeLine := by rw [txS_len]; exact Nat.le_of_lt (big_of (show _ ≤ 600 by omega) (by decide))
    refine ⟨_, (pss_cons (ps_set (i := 4) sc_need_room.nd rfl (by first | exact Or.inl rfl | exact Or.inr rfl) (pe_callB (call_lenK K) (by rfl) T.n_len PySem.boot_len (pa_cons (pv 0) pa_nil)))
  (pss_cons (ps_for (passes_of rfl) rfl (pi_range1 (by rfl) T.n_range (pa_cons (pe_callB (call_min2 rfl) (by rfl) T.n_min (by decide +kernel) (pa_cons (pv 1) (pa_cons (pe_gv T.g_MOST_STATES_joining) pa_nil))) pa_nil)) (pg_name (i := 5) sc_need_room.nd rfl (by first | exact Or.inl rfl | exact Or.inr rfl)) (pss_one (ps_set (i := 4) sc_need_room.nd rfl (by first | exact Or.inl rfl | exact Or.inr rfl) (pe_op op_mul (pv 4) (pe_op op_add (pv 2) (pv 3))))))
  (pss_one (ps_if (PW.pt (pw_or (pt_cmpR op_gt (pv 1) (pe_gv T.g_MOST_STATES_joining) (nomark _)) (pw_or (pt_cmpR op_gt (pv 3) (pe_gv T.g_MOST_TURN_joining) (nomark _)) (pw_or1 (pt_cmpR op_gt (pv 4) (pe_gv T.g_MOST_TUPLES_joining) (nomark _)))))) (pss_one (ps_rs T.x_TooMany rfl (takes_of rfl rfl rfl rfl))) pss_nil)))), ?_⟩
    walk_at "rd"
    rw [txS_len]
    refine ⟨_, _, rfl, ?_⟩
    have e6 : (if (6 : Int) < (s : Int) then (6 : Int) else (s : Int)) = 6 := if_pos (by omega)
    rw [e6]
    walk_at "rd"
    refine ⟨by omega, by omega, ?_⟩
    have hft : f + t ≤ 8 := by omega
    refine for_range (lo := 0) (n := 6) (fun i σ H' => ∃ (x5 : Option V) (q : Nat), σ = [some (tx ls), some (.int (s : Nat)), some (.int (f : Nat)), some (.int (t : Nat)), some (.int (q : Nat)), x5] ∧ H' = H ∧ q ≤ 600 * 8 ^ i) ⟨none, ls.length, rfl, rfl, by omega⟩ ?_ ?_
    · rintro i σ H' hi ⟨x5, q, rfl, rfl, hq⟩
      walk_at "rd"
      rw [Nat.pow_succ, ← Nat.mul_assoc]
      exact Nat.mul_le_mul hq hft
    · rintro σ H' ⟨x5, q, rfl, rfl, hq⟩
      walk_at "rd"
      refine iteB (decide_eq_true (by omega)) ?_
      exact fun z hz => k z hz
def sp_parts_both : Sp := fun vs H Q _ => vs = [.int 1, .int 1] ∧ Q (.int 1) H
theorem ok_parts_both (D : Df K mg "parts_both" s_parts_both ["one", "other"]) (T : Txt K mg) : G' P w K mg base "parts_both" 1 ["one", "other"] sp_parts_both := by
  refine D.ok fun f fd F => F.okX sc_parts_both (fun vs H Q E h => ?_) (fun cdv A outer s H vs Q E hr h => ?_)
  · obtain ⟨rfl, _⟩ := h
    rfl
  · obtain ⟨rfl, k⟩ := h
    refine ⟨_, (pss_cons (ps_while (passes_of rfl) (pt_cmpR op_ne (pv 1) pe_int (nomark _)) (pss_one (ps_par (i := 0) (j := 1) (by rfl) sc_parts_both.nd rfl rfl (by decide) rfl rfl (pa_cons (pv 1) (pa_cons (pe_op op_mod (pv 0) (pv 1)) pa_nil)) (by rfl))))
  (pss_one (ps_ret (pv 0)))), ?_⟩
    refine ⟨fun m σ H' => H' = H ∧ ((m = 1 ∧ σ = [some (.int 1), some (.int 1)]) ∨ (m = 0 ∧ σ = [some (.int 1), some (.int 0)])), ⟨1, rfl, .inl ⟨rfl, rfl⟩⟩, ?_⟩
    rintro m σ H' ⟨rfl, ⟨rfl, rfl⟩ | ⟨rfl, rfl⟩⟩
    · walk_at "rd"
      refine ⟨fun σ' H'' => H'' = H' ∧ σ' = [some (.int 1), some (.int 0)], fun σ' H'' ⟨e1, e2⟩ => ⟨0, by decide, e1, .inr ⟨rfl, e2⟩⟩, ?_⟩
      walk_at "rd"
      trivial
    · walk_at "rd"
      exact k
/-- only refused joinings are asked -/
def sp_judges_joined (mg : Str → Option Value) : Sp := fun vs H Q E => ∃ (x : Str) (a b : Addr) (J1 J2 : Jd) (v1 v2 u1 u2 : V), vs = [.str x, .ref a, .ref b] ∧
  H a = some (.tup [.str (txS J1.ls), .int (J1.st : Nat), .int (J1.few : Nat), .int (J1.turn : Nat), v1, v2]) ∧ H b = some (.tup [.str (txS J2.ls), .int (J2.st : Nat), .int (J2.few : Nat), .int (J2.turn : Nat), u1, u2]) ∧
  ((J1.ls ≠ J2.ls ∧ ∀ z, mg "NoFit" = some z → E z none H) ∨ (J1.ls = J2.ls ∧ J1.turn = 1 ∧ J2.turn = 1 ∧ J1.few ≤ 4 ∧ J2.few ≤ 4 ∧ J1.ls.length ≤ 600 ∧ J1.st ≤ 6 ∧ J2.st ≤ 6 ∧ 6 < J1.st * J2.st ∧ J1.st * J2.st ≤ 1000 ∧ ∀ z, mg "TooMany" = some z → E z none H))
theorem ok_judges_joined (D : Df K mg "judges_joined" s_judges_joined ["word", "one", "other"]) (T : Txt K mg) (G_parts_both : G' P w K mg base "parts_both" 1 ["one", "other"] sp_parts_both) (G_need_room : G' P w K mg base "need_room" 1 ["letters", "states", "few", "turn"] (sp_need_room mg)) : G' P w K mg base "judges_joined" 2 ["word", "one", "other"] (sp_judges_joined mg) := by
  refine D.ok fun f fd F => F.okX sc_judges_joined (fun vs H Q E h => ?_) (fun cdv A outer s H vs Q E hr h => ?_)
  · obtain ⟨x, a, b, J1, J2, v1, v2, u1, u2, rfl, _⟩ := h
    rfl
  · obtain ⟨x, a, b, J1, J2, v1, v2, u1, u2, rfl, ha, hb, h⟩ := h
    refine ⟨_, (pss_cons (ps_if (pt_cmpR op_ne (pe_ix (ix_tupK K) (pv 1) pe_int (fun _ _ => rfl)) (pe_ix (ix_tupK K) (pv 2) pe_int (fun _ _ => rfl)) (nomark _)) (pss_one (ps_rs T.x_NoFit rfl (takes_of rfl rfl rfl rfl))) pss_nil)
  (pss_cons (ps_set (i := 3) sc_judges_joined.nd rfl (by first | exact Or.inl rfl | exact Or.inr rfl) (pe_op op_mul (pe_ix (ix_tupK K) (pv 1) pe_int (fun _ _ => rfl)) (pe_ix (ix_tupK K) (pv 2) pe_int (fun _ _ => rfl))))
  (pss_cons (ps_set (i := 4) sc_judges_joined.nd rfl (by first | exact Or.inl rfl | exact Or.inr rfl) (pe_callB (call_max2 rfl) (by rfl) T.n_max (by decide +kernel) (pa_cons (pe_ix (ix_tupK K) (pv 1) pe_int (fun _ _ => rfl)) (pa_cons (pe_ix (ix_tupK K) (pv 2) pe_int (fun _ _ => rfl)) pa_nil))))
  (pss_cons (ps_set (i := 5) sc_judges_joined.nd rfl (by first | exact Or.inl rfl | exact Or.inr rfl) (pe_op op_fdiv (pe_op op_mul (pe_ix (ix_tupK K) (pv 1) pe_int (fun _ _ => rfl)) (pe_ix (ix_tupK K) (pv 2) pe_int (fun _ _ => rfl))) (pe_cl G_parts_both (hr.mono (by omega)) passF (pa_cons (pe_ix (ix_tupK K) (pv 1) pe_int (fun _ _ => rfl)) (pa_cons (pe_ix (ix_tupK K) (pv 2) pe_int (fun _ _ => rfl)) pa_nil)))))
  (pss_cons (ps_expr (pe_cl G_need_room (hr.mono (by omega)) (passW (takes_of rfl rfl rfl rfl) (fun _ _ _ _ z => z)) (pa_cons (pe_ix (ix_tupK K) (pv 1) pe_int (fun _ _ => rfl)) (pa_cons (pv 3) (pa_cons (pv 4) (pa_cons (pv 5) pa_nil))))))
  (pss_cons ps_never
  (pss_cons ps_never
  (pss_cons ps_never
  (pss_cons ps_never
  (pss_one ps_never)))))))))), ?_⟩
    walk_at "rd"
    show if (!decide (tx J1.ls = tx J2.ls)) = true then _ else _
    rcases h with ⟨hne, k⟩ | ⟨he, t1, t2, f1, f2, hl, s1, s2, h6, h1000, k⟩
    · rw [if_pos (by rw [decide_eq_false (fun z => hne (tx_inj z))]; rfl)]
      exact fun z hz => k z hz
    · rw [if_neg (by rw [he, decide_eq_true rfl]; decide)]
      dsimp only [tNext]
      rw [t1] at ha
      rw [t2] at hb
      walk_at "rd"
      refine ⟨_, _, rfl, ?_⟩
      walk_at "rd"
      have e1 : ((J1.st : Nat) : Int) * ((J2.st : Nat) : Int) = ((J1.st * J2.st : Nat) : Int) := by simp
      have e2 : (if ((J2.few : Nat) : Int) > ((J1.few : Nat) : Int) then ((J2.few : Nat) : Int) else ((J1.few : Nat) : Int)) = ((max J1.few J2.few : Nat) : Int) := by
        split <;> omega
      refine ⟨J1.ls, J1.st * J2.st, max J1.few J2.few, 1, ?_, hl, h6, h1000, by omega, by omega, k⟩
      show [V.str (txS J1.ls), V.int (((J1.st : Nat) : Int) * ((J2.st : Nat) : Int)), V.int (if ((J2.few : Nat) : Int) > ((J1.few : Nat) : Int) then ((J2.few : Nat) : Int) else ((J1.few : Nat) : Int)), V.int 1] = _
      rw [e1, e2]
      rfl
end
end Hy
set_option Elab.async false
set_option linter.all false
set_option maxRecDepth 100000
set_option maxHeartbeats 4000000
namespace Hy
open PySem L2
local macro_rules | `(tactic| walk_at "hp") => `(tactic| first
  | assumption | exact upd_same
  | (refine (upd_ne ?_).trans ?_ <;> first | assumption | (exact Ne.symm (by assumption)) | walk_at "ne" | walk_at "hp")
  | (refine (by assumption : Same _ _) _ _ ?_; assumption))
local macro_rules | `(tactic| walk_at "ne") => `(tactic| first
  | assumption | (exact Ne.symm (by assumption))
  | exact ne_of_none (by assumption) (by assumption) | exact Ne.symm (ne_of_none (by assumption) (by assumption)))
local macro_rules | `(tactic| walk_at "sz") => `(tactic| first | assumption | (show 0 ≤ sizeLine; decide) | (show 1 ≤ sizeLine; decide) | (show 2 ≤ sizeLine; decide) | (show 3 ≤ sizeLine; decide))
local macro_rules | `(tactic| walk_at "ar") => `(tactic| first
  | ((with_reducible show (0 : Int) < _); first | decide | omega)
  | ((with_reducible show CMul _ _); first | exact Or.inr (And.intro (by decide) (by decide)) | exact Or.inl (And.intro (by decide) (by decide)) | (refine Or.inl (And.intro ?_ ?_) <;> omega) | (refine Or.inr (And.intro ?_ ?_) <;> omega))
  | ((with_reducible show CPow _ _); exact And.intro (by decide) (And.intro (by decide) (by decide)))
  | ((with_reducible show CDiv _ _); first | exact And.intro (by decide) (by decide) | (refine And.intro ?_ ?_ <;> omega)))
/- one step of a reading -/
local macro_rules | `(tactic| walk_at "r1") => `(tactic| first
  | refine ⟨_, rfl, ?_⟩
  | refine iteB (by rfl) ?_ | refine iteC (by rfl) ?_
  | refine ⟨_, _, rfl, rfl, ?_⟩
  | refine ⟨rfl, ?_⟩
  | refine ⟨⟨_, rfl⟩, ?_⟩
  | refine ⟨_, _, _, _, true, rfl, .ty _, .base (.str _), kit_ty (by decide +kernel), ?_⟩
  | refine ⟨_, _, _, _, false, rfl, .ty _, .base (.str _), kit_ty (by decide +kernel), ?_⟩
  | refine ⟨_, _, _, _, true, rfl, .ty _, .base (.int _), kit_ty (by decide +kernel), ?_⟩
  | refine ⟨_, _, _, _, false, rfl, .ty _, .base (.int _), kit_ty (by decide +kernel), ?_⟩
  | refine ⟨_, _, _, _, true, rfl, .ty _, .base (.tup (by walk_at "hp")), kit_ty (by decide +kernel), ?_⟩
  | refine ⟨_, _, _, _, false, rfl, .ty _, .base (.tup (by walk_at "hp")), kit_ty (by decide +kernel), ?_⟩
  | refine ⟨_, _, _, _, true, rfl, .ty _, .base (.lst (by walk_at "hp")), kit_ty (by decide +kernel), ?_⟩
  | refine ⟨_, _, _, _, false, rfl, .ty _, .base (.lst (by walk_at "hp")), kit_ty (by decide +kernel), ?_⟩
  | refine ⟨_, _, rfl, ⟨by walk_at "sz", rfl⟩, ?_⟩
  | refine ⟨_, _, _, _, rfl, rfl, SqT.of (by walk_at "hp"), by rfl, ?_⟩
  | refine ⟨_, _, _, _, rfl, rfl, SqL.of (by walk_at "hp"), by rfl, ?_⟩
  | refine ⟨.inl ⟨rfl, _, SqL.of (by walk_at "hp")⟩, ?_⟩
  | refine ⟨_, _, _, rfl, rfl, (by walk_at "hp"), snoc_get, ?_⟩
  | refine ⟨_, _, _, _, rfl, rfl, (by walk_at "hp"), by rfl, ?_⟩
  | refine ⟨_, _, rfl, SqL.of (by walk_at "hp"), ?_⟩
  | refine ⟨_, _, rfl, SqT.of (by walk_at "hp"), by rfl, ?_⟩
  | refine ⟨_, (_ : List V), rfl, ?_⟩
  | refine ⟨_, _, rfl, .inl ⟨_, (by assumption), rfl⟩, ?_⟩
  | refine ⟨_, _, rfl, .inl ⟨_, SqL.of (by walk_at "hp"), rfl⟩, ?_⟩
  | refine ⟨_, _, rfl, .inr ⟨_, SqT.of (by walk_at "hp"), rfl⟩, ?_⟩
  | refine Or.inl ⟨(_ : Int), rfl, ?_⟩ | refine Or.inr ⟨(_ : Bool), rfl, ?_⟩
  | refine ⟨_, _, _, _, true, rfl, (by assumption : ND _ _ _ _), .ty _, kit_ty (by decide +kernel), ?_⟩
  | refine ⟨_, _, _, _, false, rfl, (by assumption : ND _ _ _ _), .ty _, kit_ty (by decide +kernel), ?_⟩
  | refine ⟨_, _, rfl, (by assumption : ND _ _ _ _), ?_⟩
  | refine And.intro (by walk_at "ar") ?_)
local macro_rules | `(tactic| walk_at "rd") => `(tactic| repeat walk_at "r1")

/-! ### what a row is refused for, by the judges' letters and sizes alone -/
structure Pf where
  nm : Str
  ls : List Nat
  st : Nat
  few : Nat
  turn : Nat
def DJ.pf (j : DJ) : Pf := ⟨j.nm, j.J.ls, j.J.st, j.J.few, j.J.turn⟩
def pfind (ps : List Pf) (n : Str) : Option Pf := ps.find? fun p => decide (p.nm = n)
def lettB (l : List Nat) (p : Pf) : Option Str := match parse l with
  | none => some "NoText"
  | some t => if t.ok = true ∧ t.size ≤ 100000 ∧ (t.parts.any fun q => decide (q.c ∉ p.ls)) = true then some "NoLetter" else none
def fitB (p q : Pf) : Option Str := if p.ls ≠ q.ls then some "NoFit" else none
def joinB (p q : Pf) : Option Str := if p.ls ≠ q.ls then some "NoFit" else if p.turn = 1 ∧ q.turn = 1 ∧ 6 < p.st * q.st then some "TooMany" else none
def manyB (m : Str) : Option Str := match PySem.intText? m with
  | some i => if 24 < i ∧ m.length ≤ 640 then some "NoNumber" else none
  | none => none
def madeB (ps : List Pf) : List Str → Option Str
  | [k, _, m] => if k = "turn" ∨ k = "least" then (match pfind ps m with | none => some "NoName" | some _ => none) else none
  | [k, _, x, y] => if k = "both" ∨ k = "either" then (match pfind ps x with | none => some "NoName" | some p => match pfind ps y with | none => some "NoName" | some q => joinB p q) else none
  | _ => none
def toldB (ps : List Pf) : List Str → Option Str
  | k :: n :: r => match pfind ps n with
    | none => some "NoName"
    | some p => match r with
      | [m] => if k = "state" ∨ k = "good" then (if m.cps.toList.length ≤ 90000 then lettB m.cps.toList p else none) else if k = "within" then (match pfind ps m with | none => some "NoName" | some q => fitB p q) else if k = "count" then manyB m else none
      | _ => none
  | _ => none
def refB (ps : List Pf) : List Str → Option Str
  | k :: r => if k = "judge" ∨ k = "turn" ∨ k = "both" ∨ k = "either" ∨ k = "least" then madeB ps (k :: r)
    else if k = "drop" then (match r with | [n] => (match pfind ps n with | none => some "NoName" | some _ => none) | _ => none) else toldB ps (k :: r)
  | _ => none
theorem pf_some : ∀ {js : List DJ}, (js.map (·.nm)).Nodup → ∀ {j : DJ} {n : Str}, j ∈ js → j.nm = n → pfind (js.map DJ.pf) n = some j.pf
  | [], _, _, _, h, _ => nomatch h
  | i :: js, hn, j, n, h, e => by
    rw [List.map_cons, List.nodup_cons] at hn
    unfold pfind
    rw [List.map_cons, List.find?_cons]
    rcases List.mem_cons.mp h with rfl | h
    · have : decide (j.pf.nm = n) = true := decide_eq_true e
      rw [this]
    · have hne : ¬ (i.pf.nm = n) := fun z => hn.1 (List.mem_map.mpr ⟨j, h, e.trans z.symm⟩)
      rw [decide_eq_false hne]
      exact pf_some hn.2 h e
theorem pf_none : ∀ {js : List DJ} {n : Str}, n ∉ js.map (·.nm) → pfind (js.map DJ.pf) n = none
  | [], _, _ => rfl
  | i :: js, n, h => by
    rw [List.map_cons, List.mem_cons, not_or] at h
    unfold pfind
    rw [List.map_cons, List.find?_cons]
    have hne : ¬ (i.pf.nm = n) := fun z => h.1 z.symm
    rw [decide_eq_false hne]
    exact pf_none h.2
theorem dj_inj : ∀ {js : List DJ}, (js.map (·.nm)).Nodup → ∀ {i j : DJ}, i ∈ js → j ∈ js → i.nm = j.nm → i = j
  | [], _, _, _, h, _, _ => nomatch h
  | x :: js, hn, i, j, hi, hj, e => by
    rw [List.map_cons, List.nodup_cons] at hn
    rcases List.mem_cons.mp hi with rfl | hi'
    · rcases List.mem_cons.mp hj with rfl | hj
      · rfl
      · exact absurd (List.mem_map.mpr ⟨j, hj, e.symm⟩ : i.nm ∈ js.map (·.nm)) hn.1
    · rcases List.mem_cons.mp hj with rfl | hj
      · exact absurd (List.mem_map.mpr ⟨i, hi', e⟩) hn.1
      · exact dj_inj hn.2 hi' hj e
theorem RJd.okB {x : List Nat} {J : Jd} (h : RJd x (some J)) : J.okB = true := by
  generalize e : some J = r at h
  cases h with
  | six => cases e
  | judge J' gl R =>
    split at e
    · rename_i ho
      cases e
      exact ho
    · cases e
theorem lk_no {m : Str} {v : V} (h : (m == ("judges_here" : Str)) = false) : List.lookup m [(("judges_here" : Str), v)] = none := by rw [List.lookup_cons, h]; rfl
theorem atS {ws : List Str} {i : Nat} {x : Str} (h : ws[i]? = some x) : atI (ws.map V.str) (i : Int) = some (.str x) := atI_nat (j := i) (xs := ws.map V.str) (by rw [List.getElem?_map, h]; rfl)
section
variable {P : Program} {w : World} {K : PySem.W.Frag} {mg : Str → Option Value} {base : Heap} {C : Addr}
abbrev s_Desk_made : Stmt := inClass (top 98) 3
theorem sc_Desk_made : FnScope ["self", "words", "one"] ["self", "words"] (defScope s_Desk_made) := ⟨rfl, rfl, rfl, by decide +kernel, rfl, by decide +kernel, by decide +kernel⟩
abbrev s_Desk_told : Stmt := inClass (top 98) 4
theorem sc_Desk_told : FnScope ["self", "words", "judge", "state"] ["self", "words"] (defScope s_Desk_told) := ⟨rfl, rfl, rfl, by decide +kernel, rfl, by decide +kernel, by decide +kernel⟩
abbrev s_Desk_say : Stmt := inClass (top 98) 5
theorem sc_Desk_say : FnScope ["self", "row", "words"] ["self", "row"] (defScope s_Desk_say) := ⟨rfl, rfl, rfl, by decide +kernel, rfl, by decide +kernel, by decide +kernel⟩

def WordsAt (H : Hp) (q : Addr) (ws : List Str) : Prop := H q = some (.lst (ws.map .str))
/-- a judge that is written: read; other rows that make: refused -/
def sp_Desk_made (w : World) (K : PySem.W.Frag) (C : Addr) (mg : Str → Option Value) : Sp := fun vs H Q E => ∃ (p dd : Addr) (js : List DJ) (q : Addr) (ws : List Str), vs = [.ref p, .ref q] ∧ DeskAt w C H p dd js ∧ WordsAt H q ws ∧
  ((∃ c, madeB (js.map DJ.pf) ws = some c ∧ ∀ y, mg c = some y → ∀ H', Same H H' → E y none H') ∨
   ∃ (n : Str) (m : List Nat) (r : Option Jd), ws = [("judge" : Str), n, txS m] ∧ m.length ≤ 90000 ∧ RJd m r ∧
    (∀ J, r = some J → ∀ (H' : Hp) (a d g : Addr) (es : List NE), Same H H' → H a = none → H d = none → H g = none → JN w H' J a d g es → Q (.ref a) H') ∧ (r = none → ∀ y, mg "NoText" = some y → ∀ H' : Hp, Same H H' → E y none H'))
theorem ok_Desk_made (cD : Cls K C) (nJ : NoAttr K C "judges_here") (D : Dm K C "made" "Desk.made" s_Desk_made ["self", "words"]) (T : Txt K mg)
    (G_Desk_judge_by : Gm P w K mg base C "judge_by" 1 ["self", "name"] (sp_Desk_judge_by w C mg)) (G_read_judge : G' P w K mg base "read_judge" 5 ["text"] (sp_read_judge w K mg)) (G_judges_joined : G' P w K mg base "judges_joined" 2 ["word", "one", "other"] (sp_judges_joined mg)) :
    Gm P w K mg base C "made" 6 ["self", "words"] (sp_Desk_made w K C mg) := by
  refine D.ok fun f fd F => F.okX sc_Desk_made (fun vs H Q E h => ?_) (fun cdv A outer s H vs Q E hr h => ?_)
  · obtain ⟨p, dd, js, q, ws, rfl, _⟩ := h
    rfl
  · obtain ⟨p, dd, js, q, ws, rfl, hD, hq, h⟩ := h
    have hq' : H q = some (.lst (ws.map .str)) := hq
    obtain ⟨dx, hp⟩ := hD.ins
    have lk : List.lookup ("judge_by" : Str) [(("judges_here" : Str), V.ref dd)] = none := lk_no (by decide +kernel)
    have nk : ∀ {x y : Str}, x ≠ y → decide (V.str x = V.str y) = false := fun hne => decide_eq_false fun z => hne (V.str.inj z)
    refine ⟨_, (pss_cons (ps_if (pt_cmpR op_eq (pe_ix (ix_listK K) (pv 1) pe_int (fun _ _ => rfl)) pe_str (nomark _)) (pss_one (ps_ret (pe_cl G_read_judge (hr.mono (by omega)) (passW (takes_of rfl rfl rfl rfl) (fun _ _ _ _ z => z)) (pa_cons (pe_ix (ix_listK K) (pv 1) pe_int (fun _ _ => rfl)) pa_nil)))) pss_nil)
  (pss_cons (ps_set (i := 2) sc_Desk_made.nd rfl (by first | exact Or.inl rfl | exact Or.inr rfl) (pe_mt cD G_Desk_judge_by (hr.mono (by omega)) (passW (takes_of rfl rfl rfl rfl) (fun _ _ _ _ z => z)) (pv 0) (pa_cons (pe_ix (ix_listK K) (pv 1) pe_int (fun _ _ => rfl)) pa_nil)))
  (pss_cons (ps_if (pt_cmpR op_eq (pe_ix (ix_listK K) (pv 1) pe_int (fun _ _ => rfl)) pe_str (nomark _)) (pss_one ps_never) pss_nil)
  (pss_cons (ps_if (pt_cmpR op_eq (pe_ix (ix_listK K) (pv 1) pe_int (fun _ _ => rfl)) pe_str (nomark _)) (pss_one ps_never) pss_nil)
  (pss_one (ps_ret (pe_cl G_judges_joined (hr.mono (by omega)) (passW (takes_of rfl rfl rfl rfl) (fun _ _ _ _ z => z)) (pa_cons (pe_ix (ix_listK K) (pv 1) pe_int (fun _ _ => rfl)) (pa_cons (pv 2) (pa_cons (pe_mt cD G_Desk_judge_by (hr.mono (by omega)) (passW (takes_of rfl rfl rfl rfl) (fun _ _ _ _ z => z)) (pv 0) (pa_cons (pe_ix (ix_listK K) (pv 1) pe_int (fun _ _ => rfl)) pa_nil)) pa_nil)))))))))), ?_⟩
    rcases h with ⟨c, hc, k⟩ | ⟨n, m, r, rfl, hm, hR, k1, k2⟩
    · match ws, hc with
      | [x0, x1, x2], hc =>
        simp only [madeB] at hc
        by_cases hx : x0 = "turn" ∨ x0 = "least"
        · rw [if_pos hx] at hc
          have hj : x0 ≠ "judge" := by rcases hx with rfl | rfl <;> decide +kernel
          walk_at "rd"
          refine iteC (nk hj) ?_
          walk_at "rd"
          refine ⟨p, dx, _, rfl, hp, lk, ?_⟩
          walk_at "rd"
          refine ⟨p, dd, js, x2, rfl, hD, fun j hj e => ?_, fun hn y hy => ?_⟩
          · rw [pf_some hD.nd hj e] at hc
            cases hc
          · rw [pf_none hn] at hc
            cases hc
            exact k y hy _ (Same.refl _)
        · rw [if_neg hx] at hc
          cases hc
      | [], hc | [_], hc | [_, _], hc | _ :: _ :: _ :: _ :: _ :: _, hc => cases hc
      | [x0, x1, x2, x3], hc =>
        simp only [madeB] at hc
        by_cases hx : x0 = "both" ∨ x0 = "either"
        · rw [if_pos hx] at hc
          have hj : x0 ≠ "judge" := by rcases hx with rfl | rfl <;> decide +kernel
          have ht : x0 ≠ "turn" := by rcases hx with rfl | rfl <;> decide +kernel
          have hl : x0 ≠ "least" := by rcases hx with rfl | rfl <;> decide +kernel
          walk_at "rd"
          refine iteC (nk hj) ?_
          walk_at "rd"
          refine ⟨p, dx, _, rfl, hp, lk, ?_⟩
          walk_at "rd"
          refine ⟨p, dd, js, x2, rfl, hD, fun j1 hj1 e1 => ?_, fun hn y hy => ?_⟩
          rotate_left
          · rw [pf_none hn] at hc
            cases hc
            exact k y hy _ (Same.refl _)
          rw [pf_some hD.nd hj1 e1] at hc
          walk_at "rd"
          refine iteC (nk ht) ?_
          walk_at "rd"
          refine iteC (nk hl) ?_
          walk_at "rd"
          refine ⟨p, dx, _, rfl, hp, lk, ?_⟩
          walk_at "rd"
          refine ⟨p, dd, js, x3, rfl, hD, fun j2 hj2 e2 => ?_, fun hn y hy => ?_⟩
          rotate_left
          · rw [pf_none hn] at hc
            cases hc
            exact k y hy _ (Same.refl _)
          rw [pf_some hD.nd hj2 e2] at hc
          have A1 := (hD.jn j1 hj1).ja.tup
          have A2 := (hD.jn j2 hj2).ja.tup
          have O1 := (hD.jn j1 hj1).ok
          have O2 := (hD.jn j2 hj2).ok
          refine ⟨x0, j1.a, j2.a, j1.J, j2.J, _, _, _, _, rfl, A1, A2, ?_⟩
          simp only [joinB] at hc
          split at hc
          · rename_i hne
            cases hc
            exact .inl ⟨hne, fun z hz => k z hz _ (Same.refl _)⟩
          · rename_i hne
            split at hc
            · rename_i hm
              cases hc
              have h6 : j1.J.st * j2.J.st ≤ 6 * 6 := Nat.mul_le_mul O1.st6 O2.st6
              exact .inr ⟨Classical.byContradiction fun z => hne z, hm.1, hm.2.1, O1.few4, O2.few4, O1.ls26, O1.st6, O2.st6, hm.2.2, by omega, fun z hz => k z hz _ (Same.refl _)⟩
            · cases hc
        · rw [if_neg hx] at hc
          cases hc
    · walk_at "rd"
      exact .inl ⟨m, r, rfl, hm, hR, fun J e H' a d g es S na nd ng _ hf => k1 J e H' a d g es S na nd ng (hf.jn (by subst e; exact hR.okB)), k2⟩
/-- what is asked of a judge: shown; or refused -/
def sp_Desk_told (w : World) (C : Addr) (mg : Str → Option Value) : Sp := fun vs H Q E => ∃ (p dd : Addr) (js : List DJ) (q : Addr) (ws : List Str), vs = [.ref p, .ref q] ∧ DeskAt w C H p dd js ∧ WordsAt H q ws ∧
  ((∃ c, toldB (js.map DJ.pf) ws = some c ∧ ∀ y, mg c = some y → ∀ H', Same H H' → E y none H') ∨
   ∃ j ∈ js, ws = [("show" : Str), j.nm] ∧ ∀ H', Same H H' → Q (.str j.J.text) H')
theorem ok_Desk_told (cD : Cls K C) (nJ : NoAttr K C "judges_here") (D : Dm K C "told" "Desk.told" s_Desk_told ["self", "words"]) (T : Txt K mg)
    (G_Desk_judge_by : Gm P w K mg base C "judge_by" 1 ["self", "name"] (sp_Desk_judge_by w C mg)) (G_read_tree : G' P w K mg base "read_tree" 2 ["text"] (sp_read_tree (K := K) (mg := mg))) (G_state_of : G' P w K mg base "state_of" 6 ["judge", "tree"] (sp_state_of mg)) (G_lets_by : G' P w K mg base "lets_by" 7 ["judge", "tree"] (sp_lets_by mg))
    (G_within_answer : G' P w K mg base "within_answer" 3 ["one", "other"] (sp_within_answer mg)) (G_count_let_by : G' P w K mg base "count_let_by" 3 ["judge", "size"] (sp_count_let_by mg)) (G_show_judge : G' P w K mg base "show_judge" 2 ["judge"] (sp_show_judge w)) :
    Gm P w K mg base C "told" 8 ["self", "words"] (sp_Desk_told w C mg) := by
  refine D.ok fun f fd F => F.okX sc_Desk_told (fun vs H Q E h => ?_) (fun cdv A outer s H vs Q E hr h => ?_)
  · obtain ⟨p, dd, js, q, ws, rfl, _⟩ := h
    rfl
  · obtain ⟨p, dd, js, q, ws, rfl, hD, hq, h⟩ := h
    have hq' : H q = some (.lst (ws.map .str)) := hq
    obtain ⟨dx, hp⟩ := hD.ins
    have lk : List.lookup ("judge_by" : Str) [(("judges_here" : Str), V.ref dd)] = none := lk_no (by decide +kernel)
    have nk : ∀ {x y : Str}, x ≠ y → decide (V.str x = V.str y) = false := fun hne => decide_eq_false fun z => hne (V.str.inj z)
    refine ⟨_, (pss_cons (ps_set (i := 2) sc_Desk_told.nd rfl (by first | exact Or.inl rfl | exact Or.inr rfl) (pe_mt cD G_Desk_judge_by (hr.mono (by omega)) (passW (takes_of rfl rfl rfl rfl) (fun _ _ _ _ z => z)) (pv 0) (pa_cons (pe_ix (ix_listK K) (pv 1) pe_int (fun _ _ => rfl)) pa_nil)))
  (pss_cons (ps_if (pt_cmpR op_eq (pe_ix (ix_listK K) (pv 1) pe_int (fun _ _ => rfl)) pe_str (nomark _)) (pss_one (ps_ret (pe_callTy call_str_int (by rfl) T.n_str (by decide +kernel) (pa_cons (pe_cl G_state_of (hr.mono (by omega)) (passW (takes_of rfl rfl rfl rfl) (fun _ _ _ _ z => z)) (pa_cons (pv 2) (pa_cons (pe_cl G_read_tree (hr.mono (by omega)) (passW (takes_of rfl rfl rfl rfl) (fun _ _ _ _ z => z)) (pa_cons (pe_ix (ix_listK K) (pv 1) pe_int (fun _ _ => rfl)) pa_nil)) pa_nil))) pa_nil)))) pss_nil)
  (pss_cons (ps_if (pt_cmpR op_eq (pe_ix (ix_listK K) (pv 1) pe_int (fun _ _ => rfl)) pe_str (nomark _)) (pss_one (ps_ret (pe_ix (ix_listK K) (pe_lst (pa_cons pe_str (pa_cons pe_str pa_nil))) (pe_callTy call_int1 (by rfl) T.n_int (by decide +kernel) (pa_cons (pe_cl G_lets_by (hr.mono (by omega)) (passW (takes_of rfl rfl rfl rfl) (fun _ _ _ _ z => z)) (pa_cons (pv 2) (pa_cons (pe_cl G_read_tree (hr.mono (by omega)) (passW (takes_of rfl rfl rfl rfl) (fun _ _ _ _ z => z)) (pa_cons (pe_ix (ix_listK K) (pv 1) pe_int (fun _ _ => rfl)) pa_nil)) pa_nil))) pa_nil)) (fun _ _ => rfl)))) pss_nil)
  (pss_cons (ps_if (pt_cmpR op_eq (pe_ix (ix_listK K) (pv 1) pe_int (fun _ _ => rfl)) pe_str (nomark _)) (pss_one ps_never) pss_nil)
  (pss_cons (ps_if (pt_cmpR op_eq (pe_ix (ix_listK K) (pv 1) pe_int (fun _ _ => rfl)) pe_str (nomark _)) (pss_one (ps_ret (pe_cl G_within_answer (hr.mono (by omega)) (passW (takes_of rfl rfl rfl rfl) (fun _ _ _ _ z => z)) (pa_cons (pv 2) (pa_cons (pe_mt cD G_Desk_judge_by (hr.mono (by omega)) (passW (takes_of rfl rfl rfl rfl) (fun _ _ _ _ z => z)) (pv 0) (pa_cons (pe_ix (ix_listK K) (pv 1) pe_int (fun _ _ => rfl)) pa_nil)) pa_nil))))) pss_nil)
  (pss_cons (ps_if (pt_cmpR op_eq (pe_ix (ix_listK K) (pv 1) pe_int (fun _ _ => rfl)) pe_str (nomark _)) (pss_one (ps_ret (pe_callTy call_str_int (by rfl) T.n_str (by decide +kernel) (pa_cons (pe_cl G_count_let_by (hr.mono (by omega)) (passW (takes_of rfl rfl rfl rfl) (fun _ _ _ _ z => z)) (pa_cons (pv 2) (pa_cons (pe_callTy call_int_str (by rfl) T.n_int (by decide +kernel) (pa_cons (pe_ix (ix_listK K) (pv 1) pe_int (fun _ _ => rfl)) pa_nil)) pa_nil))) pa_nil)))) pss_nil)
  (pss_one (ps_ret (pe_cl G_show_judge (hr.mono (by omega)) passF (pa_cons (pv 2) pa_nil)))))))))), ?_⟩
    obtain ⟨x0, x1, xs, rfl⟩ : ∃ x0 x1 xs, ws = x0 :: x1 :: xs := by
      rcases h with ⟨c, hc, _⟩ | ⟨j, _, rfl, _⟩
      · match ws, hc with
        | x0 :: x1 :: xs, _ => exact ⟨_, _, _, rfl⟩
      · exact ⟨_, _, _, rfl⟩
    walk_at "rd"
    refine ⟨p, dx, _, rfl, hp, lk, ?_⟩
    walk_at "rd"
    refine ⟨q, _, _, _, rfl, rfl, SqL.of hq', atS (i := 1) rfl, ?_⟩
    refine ⟨p, dd, js, x1, rfl, hD, fun j1 hj1 e1 => ?_, fun hn y hy => ?_⟩
    rotate_left
    · rcases h with ⟨c, hc, k⟩ | ⟨j, hj, e, k⟩
      · simp only [toldB] at hc
        rw [pf_none hn] at hc
        cases hc
        exact k y hy _ (Same.refl _)
      · cases e
        exact absurd (List.mem_map.mpr ⟨j, hj, rfl⟩) hn
    have A1 := (hD.jn j1 hj1).ja.tup
    have O1 := (hD.jn j1 hj1).ok
    walk_at "rd"
    refine ⟨q, _, _, _, rfl, rfl, SqL.of hq', atS (i := 0) rfl, ?_⟩
    walk_at "rd"
    rcases h with ⟨c, hc, k⟩ | ⟨j, hj, e, k⟩
    rotate_left
    · cases e
      refine iteC (nk (y := "state") (by decide +kernel)) ?_
      walk_at "rd"
      have hjj : j1 = j := dj_inj hD.nd hj1 hj e1
      subst hjj
      exact ⟨j1.J, j1.a, j1.d, j1.g, j1.es, rfl, (hD.jn _ hj1).ja, (hD.jn _ hj1).tab, O1, k⟩
    simp only [toldB] at hc
    rw [pf_some hD.nd hj1 e1] at hc
    dsimp only at hc
    match xs, hc with
    | [], hc | _ :: _ :: _, hc => cases hc
    | [x2], hc =>
      dsimp only at hc
      have tree : ∀ (l : List Nat), txS l = x2 → l.length ≤ 90000 → lettB l j1.pf = some c → ∀ (H2 : Hp) (Q' : VK), Same H H2 → sp_read_tree (K := K) (mg := mg) [.str x2] H2 (fun v H' => sp_part_states mg [.ref j1.a, v] H' Q' E) E := by
        intro l el hll hl H2 Q' S0
        subst el
        refine .inl ⟨l, rfl, hll, fun t ht H' v as S hT _ _ => ?_, fun hn y hy H' S => ?_⟩
        · unfold lettB at hl
          rw [ht] at hl
          dsimp only at hl
          split at hl
          · rename_i hh
            cases hl
            obtain ⟨h1, h2, h3⟩ := hh
            obtain ⟨z, hz, hz2⟩ := List.any_eq_true.mp h3
            exact ⟨j1.a, j1.J.ls, _, v, t, as, rfl, S _ _ (S0 _ _ A1), hT, h1, h2, ⟨z, hz, of_decide_eq_true hz2⟩, fun z hz H2 S2 => k z hz _ (S0.trans (S.trans S2))⟩
          · cases hl
        · unfold lettB at hl
          rw [hn] at hl
          cases hl
          exact k y hy _ (S0.trans S)
      by_cases hx : x0 = "state" ∨ x0 = "good"
      · rw [if_pos hx] at hc
        by_cases hlen : x2.cps.toList.length ≤ 90000
        rotate_left
        · rw [if_neg hlen] at hc
          cases hc
        rw [if_pos hlen] at hc
        have et := tree _ (str_tx x2) hlen hc
        by_cases hs : x0 = "state"
        · subst hs
          refine iteB (decide_eq_true rfl) ?_
          walk_at "rd"
          exact et _ (fun _ _ => True) (Same.refl _)
        · obtain rfl : x0 = "good" := hx.resolve_left hs
          refine iteC (nk (by decide +kernel)) ?_
          walk_at "rd"
          refine ⟨(by walk_at "sz"), fun p2 n2 => ?_⟩
          generalize e2 : upd H p2 _ = H2
          obtain ⟨S2, hp2⟩ := newF n2 e2
          have hq2 := S2 _ _ hq'
          walk_at "rd"
          exact et _ (fun _ _ => True) S2
      · rw [if_neg hx] at hc
        have hns : x0 ≠ "state" := fun z => hx (.inl z)
        have hng : x0 ≠ "good" := fun z => hx (.inr z)
        refine iteC (nk hns) ?_
        walk_at "rd"
        refine iteC (nk hng) ?_
        walk_at "rd"
        by_cases hw : x0 = "within"
        · subst hw
          rw [if_pos rfl] at hc
          refine iteC (nk (by decide +kernel)) ?_
          walk_at "rd"
          refine ⟨p, dx, _, rfl, hp, lk, ?_⟩
          walk_at "rd"
          refine ⟨p, dd, js, x2, rfl, hD, fun j2 hj2 e2 => ?_, fun hn y hy => ?_⟩
          rotate_left
          · rw [pf_none hn] at hc
            cases hc
            exact k y hy _ (Same.refl _)
          rw [pf_some hD.nd hj2 e2] at hc
          have A2 := (hD.jn j2 hj2).ja.tup
          simp only [fitB] at hc
          split at hc
          · rename_i hne
            cases hc
            exact ⟨j1.a, j2.a, _, _, _, _, rfl, A1, A2, fun z => hne (tx_inj (congrArg V.str z)), fun z hz => k z hz _ (Same.refl _)⟩
          · cases hc
        · rw [if_neg hw] at hc
          by_cases hk : x0 = "count"
          · subst hk
            rw [if_pos rfl] at hc
            refine iteC (nk (by decide +kernel)) ?_
            walk_at "rd"
            unfold manyB at hc
            cases hi : PySem.intText? x2 with
            | none =>
              rw [hi] at hc
              cases hc
            | some i =>
              rw [hi] at hc
              dsimp only at hc
              split at hc
              · rename_i hh
                cases hc
                refine ⟨x2, i, rfl, hi, hh.2, ?_⟩
                exact ⟨_, i, rfl, hh.1, fun y hy => k y hy _ (Same.refl _)⟩
              · cases hc
          · rw [if_neg hk] at hc
            cases hc
end
end Hy
set_option Elab.async false
set_option linter.all false
set_option maxRecDepth 100000
set_option maxHeartbeats 4000000
namespace Hy
open PySem L2
local macro_rules | `(tactic| walk_at "hp") => `(tactic| first
  | assumption | exact upd_same
  | (refine (upd_ne ?_).trans ?_ <;> first | assumption | (exact Ne.symm (by assumption)) | walk_at "ne" | walk_at "hp")
  | (refine (by assumption : Same _ _) _ _ ?_; assumption))
local macro_rules | `(tactic| walk_at "ne") => `(tactic| first
  | assumption | (exact Ne.symm (by assumption))
  | exact ne_of_none (by assumption) (by assumption) | exact Ne.symm (ne_of_none (by assumption) (by assumption)))
local macro_rules | `(tactic| walk_at "sz") => `(tactic| first | assumption | (show 0 ≤ sizeLine; decide) | (show 1 ≤ sizeLine; decide) | (show 2 ≤ sizeLine; decide) | (show 3 ≤ sizeLine; decide))
local macro_rules | `(tactic| walk_at "ar") => `(tactic| first
  | ((with_reducible show (0 : Int) < _); first | decide | omega)
  | ((with_reducible show CMul _ _); first | exact Or.inr (And.intro (by decide) (by decide)) | exact Or.inl (And.intro (by decide) (by decide)) | (refine Or.inl (And.intro ?_ ?_) <;> omega) | (refine Or.inr (And.intro ?_ ?_) <;> omega))
  | ((with_reducible show CPow _ _); exact And.intro (by decide) (And.intro (by decide) (by decide)))
  | ((with_reducible show CDiv _ _); first | exact And.intro (by decide) (by decide) | (refine And.intro ?_ ?_ <;> omega)))
/- one step of a reading -/
local macro_rules | `(tactic| walk_at "r1") => `(tactic| first
  | refine ⟨_, rfl, ?_⟩
  | refine iteB (by rfl) ?_ | refine iteC (by rfl) ?_
  | refine ⟨_, _, rfl, rfl, ?_⟩
  | refine ⟨rfl, ?_⟩
  | refine ⟨⟨_, rfl⟩, ?_⟩
  | refine ⟨_, _, _, _, true, rfl, .ty _, .base (.str _), kit_ty (by decide +kernel), ?_⟩
  | refine ⟨_, _, _, _, false, rfl, .ty _, .base (.str _), kit_ty (by decide +kernel), ?_⟩
  | refine ⟨_, _, _, _, true, rfl, .ty _, .base (.int _), kit_ty (by decide +kernel), ?_⟩
  | refine ⟨_, _, _, _, false, rfl, .ty _, .base (.int _), kit_ty (by decide +kernel), ?_⟩
  | refine ⟨_, _, _, _, true, rfl, .ty _, .base (.tup (by walk_at "hp")), kit_ty (by decide +kernel), ?_⟩
  | refine ⟨_, _, _, _, false, rfl, .ty _, .base (.tup (by walk_at "hp")), kit_ty (by decide +kernel), ?_⟩
  | refine ⟨_, _, _, _, true, rfl, .ty _, .base (.lst (by walk_at "hp")), kit_ty (by decide +kernel), ?_⟩
  | refine ⟨_, _, _, _, false, rfl, .ty _, .base (.lst (by walk_at "hp")), kit_ty (by decide +kernel), ?_⟩
  | refine ⟨_, _, rfl, ⟨by walk_at "sz", rfl⟩, ?_⟩
  | refine ⟨_, _, _, _, rfl, rfl, SqT.of (by walk_at "hp"), by rfl, ?_⟩
  | refine ⟨_, _, _, _, rfl, rfl, SqL.of (by walk_at "hp"), by rfl, ?_⟩
  | refine ⟨.inl ⟨rfl, _, SqL.of (by walk_at "hp")⟩, ?_⟩
  | refine ⟨_, _, _, rfl, rfl, (by walk_at "hp"), snoc_get, ?_⟩
  | refine ⟨_, _, _, _, rfl, rfl, (by walk_at "hp"), by rfl, ?_⟩
  | refine ⟨_, _, rfl, SqL.of (by walk_at "hp"), ?_⟩
  | refine ⟨_, _, rfl, SqT.of (by walk_at "hp"), by rfl, ?_⟩
  | refine ⟨_, (_ : List V), rfl, ?_⟩
  | refine ⟨_, _, rfl, .inl ⟨_, (by assumption), rfl⟩, ?_⟩
  | refine ⟨_, _, rfl, .inl ⟨_, SqL.of (by walk_at "hp"), rfl⟩, ?_⟩
  | refine ⟨_, _, rfl, .inr ⟨_, SqT.of (by walk_at "hp"), rfl⟩, ?_⟩
  | refine Or.inl ⟨(_ : Int), rfl, ?_⟩ | refine Or.inr ⟨(_ : Bool), rfl, ?_⟩
  | refine ⟨_, _, _, _, true, rfl, (by assumption : ND _ _ _ _), .ty _, kit_ty (by decide +kernel), ?_⟩
  | refine ⟨_, _, _, _, false, rfl, (by assumption : ND _ _ _ _), .ty _, kit_ty (by decide +kernel), ?_⟩
  | refine ⟨_, _, rfl, (by assumption : ND _ _ _ _), ?_⟩
  | refine And.intro (by walk_at "ar") ?_)
local macro_rules | `(tactic| walk_at "rd") => `(tactic| repeat walk_at "r1")

/-! ### a judge is put under a name -/
def setJ (js : List DJ) (x : DJ) : List DJ := if (js.any fun j => decide (j.nm = x.nm)) = true then js.map (fun j => if j.nm = x.nm then x else j) else js ++ [x]
theorem djK_set (js : List DJ) (x : DJ) : djK (setJ js x) = putK (djK js) (.inr x.nm) (.ref x.a) := by
  have e : ((djK js).any fun kv => decide (kv.1 = (Sum.inr x.nm : Key))) = js.any fun j => decide (j.nm = x.nm) := by
    rw [djK, List.any_map]
    congr 1
    funext j
    show decide ((Sum.inr j.nm : Key) = Sum.inr x.nm) = _
    by_cases h : j.nm = x.nm
    · rw [h, decide_eq_true rfl, decide_eq_true rfl]
    · rw [decide_eq_false h, decide_eq_false (fun z => h (Sum.inr.inj z))]
  unfold putK setJ
  rw [e]
  split
  · rw [djK, djK, List.map_map, List.map_map]
    refine List.map_congr_left fun j _ => ?_
    show ((Sum.inr (if j.nm = x.nm then x else j).nm : Key), V.ref (if j.nm = x.nm then x else j).a) = if (Sum.inr j.nm : Key) = Sum.inr x.nm then _ else _
    by_cases h : j.nm = x.nm
    · rw [if_pos h, if_pos (by rw [h])]
      show _ = ((Sum.inr j.nm : Key), _)
      rw [h]
    · rw [if_neg h, if_neg (fun z => h (Sum.inr.inj z))]
  · rw [djK, List.map_append]
    rfl
theorem setJ_new {js : List DJ} {x : DJ} (h : x.nm ∉ js.map (·.nm)) : setJ js x = js ++ [x] := by
  unfold setJ
  rw [if_neg]
  intro z
  obtain ⟨j, hj, e⟩ := List.any_eq_true.mp z
  exact h (List.mem_map.mpr ⟨j, hj, of_decide_eq_true e⟩)
theorem setJ_mem {js : List DJ} {x j : DJ} (h : j ∈ setJ js x) : j = x ∨ j ∈ js := by
  unfold setJ at h
  split at h
  · obtain ⟨i, hi, e⟩ := List.mem_map.mp h
    split at e
    · exact .inl e.symm
    · exact .inr (e ▸ hi)
  · rcases List.mem_append.mp h with h | h
    · exact .inr h
    · exact .inl (List.mem_singleton.mp h)
theorem setJ_nd {js : List DJ} {x : DJ} (h : (js.map (·.nm)).Nodup) : ((setJ js x).map (·.nm)).Nodup := by
  unfold setJ
  split
  · rw [List.map_map]
    have e : js.map ((·.nm) ∘ fun j => if j.nm = x.nm then x else j) = js.map (·.nm) := by
      refine List.map_congr_left fun j _ => ?_
      show (if j.nm = x.nm then x else j).nm = j.nm
      split
      · rename_i q
        exact q.symm
      · rfl
    rw [e]
    exact h
  · rename_i q
    rw [List.map_append, List.nodup_append]
    refine ⟨h, by simp, fun a ha b hb e => q ?_⟩
    obtain ⟨j, hj, rfl⟩ := List.mem_map.mp ha
    rw [List.mem_singleton.mp hb] at e
    exact List.any_eq_true.mpr ⟨j, hj, decide_eq_true e⟩
theorem Keep.updK {A : List Addr} {H H' : Hp} {a : Addr} {kvs : List (Key × V)} {o : HO} (k : Keep A H H') (ha : a ∈ A) (e : H' a = Option.some (.dK kvs)) : Keep A H (L2.upd H' a o) := by
  refine ⟨fun b u n h => ?_, fun b u h => ?_⟩
  · rw [upd_ne (fun z => n (by rw [z]; exact ha))]
    exact k.but b u n h
  · have q := k.tup b u h
    rw [upd_ne (ne_of q e (fun z => nomatch z))]
    exact q
theorem ND.ne {w : World} {H : Hp} {d dd : Addr} {es : List NE} {kvs : List (Key × V)} (h : ND w H d es) (e : H dd = some (.dK kvs)) : d ∉ [dd] := by
  intro z
  rw [List.mem_singleton.mp z] at h
  rcases h.rd with q | ⟨o, q⟩
  · rw [e] at q; cases q
  · rw [e] at q; cases q
theorem DeskAt.set {w : World} {C : Addr} {H : Hp} {p dd : Addr} {js : List DJ} {x : DJ} (h : DeskAt w C H p dd js) (hx : JP w H x.J x.a x.d x.g x.es) :
    DeskAt w C (upd H dd (.dK (putK (djK js) (.inr x.nm) (.ref x.a)))) p dd (setJ js x) ∧ Keep [dd] H (upd H dd (.dK (putK (djK js) (.inr x.nm) (.ref x.a)))) := by
  have K1 : Keep [dd] H (upd H dd (.dK (putK (djK js) (.inr x.nm) (.ref x.a)))) := (Keep.refl _ _).updK (by simp) h.dic
  have one : ∀ y : DJ, JP w H y.J y.a y.d y.g y.es → JP w (upd H dd (.dK (putK (djK js) (.inr x.nm) (.ref x.a)))) y.J y.a y.d y.g y.es := fun y hy => hy.keep K1 (hy.ja.dic.ne h.dic) fun z => by
    have q := hy.ja.lst
    rw [List.mem_singleton.mp z, h.dic] at q
    cases q
  refine ⟨{ ins := ?_, dic := ?_, jn := fun j hj => ?_, nd := setJ_nd h.nd }, K1⟩
  · obtain ⟨dx, hp⟩ := h.ins
    exact ⟨dx, by rw [upd_ne (ne_of hp h.dic (fun z => nomatch z))]; exact hp⟩
  · rw [upd_same, djK_set]
  · rcases setJ_mem hj with rfl | hj
    · exact one _ hx
    · exact one _ (h.jn j hj)
theorem makes_in (x : Str) : inV (.str x) [.str (PySem.Str.ofString "judge"), .str (PySem.Str.ofString "turn"), .str (PySem.Str.ofString "both"), .str (PySem.Str.ofString "either"), .str (PySem.Str.ofString "least")] = decide (x = "judge" ∨ x = "turn" ∨ x = "both" ∨ x = "either" ∨ x = "least") := by
  have e : ∀ a b : Str, eqV (.str a) (.str b) = decide (a = b) := fun a b => rfl
  simp only [inV, List.any_cons, List.any_nil, e, Bool.or_false]
  by_cases h1 : PySem.Str.ofString "judge" = x
  · simp [h1]
  by_cases h2 : PySem.Str.ofString "turn" = x
  · simp [h2]
  by_cases h3 : PySem.Str.ofString "both" = x
  · simp [h3]
  by_cases h4 : PySem.Str.ofString "either" = x
  · simp [h4]
  by_cases h5 : PySem.Str.ofString "least" = x
  · simp [h5]
  simp [h1, h2, h3, h4, h5, Ne.symm h1, Ne.symm h2, Ne.symm h3, Ne.symm h4, Ne.symm h5]
def DueP (ps : List Pf) (x : Str) (c : Str) : Prop := (rowW x = none ∧ c = "NoRow") ∨ ∃ ws, rowW x = some ws ∧ (refB ps ws = some c ∨ ∃ (n : Str) (m : List Nat), ws = [("judge" : Str), n, txS m] ∧ m.length ≤ 90000 ∧ RJd m none ∧ c = "NoText")
section
variable {P : Program} {w : World} {K : PySem.W.Frag} {mg : Str → Option Value} {base : Heap} {C : Addr}
def sp_Desk_say (w : World) (K : PySem.W.Frag) (C : Addr) (mg : Str → Option Value) : Sp := fun vs H Q E => ∃ (p dd : Addr) (js : List DJ) (v : V), vs = [.ref p, v] ∧ DeskAt w C H p dd js ∧ js.length ≤ 1000 ∧
  ((∃ x c, v = .str x ∧ RowZ x ∧ DueP (js.map DJ.pf) x c ∧ ∀ y, mg c = some y → ∀ H', Same H H' → E y none H') ∨
   (∃ u, TyX K H v u ∧ PySem.W.kitOne K u (.type "str") = some false ∧ ∀ y, mg "NoRow" = some y → E y none H) ∨
   (∃ x, ∃ j ∈ js, v = .str x ∧ RowZ x ∧ rowW x = some [("show" : Str), j.nm] ∧ ∀ H', Same H H' → Q (.str j.J.text) H') ∨
   (∃ (x n : Str) (m : List Nat) (J : Jd), v = .str x ∧ RowZ x ∧ rowW x = some [("judge" : Str), n, txS m] ∧ m.length ≤ 90000 ∧ RJd m (some J) ∧
      ∀ (H' : Hp) (a d g : Addr) (es : List NE), Keep [dd] H H' → DeskAt w C H' p dd (setJ js ⟨n, J, a, d, g, es⟩) → Q (.str "ok") H'))
theorem ok_Desk_say (cD : Cls K C) (nJ : NoAttr K C "judges_here") (D : Dm K C "say" "Desk.say" s_Desk_say ["self", "row"]) (T : Txt K mg)
    (G_words_asked : G' P w K mg base "words_asked" 3 ["row"] (sp_words_asked w K mg)) (G_Desk_made : Gm P w K mg base C "made" 6 ["self", "words"] (sp_Desk_made w K C mg))
    (G_Desk_judge_by : Gm P w K mg base C "judge_by" 1 ["self", "name"] (sp_Desk_judge_by w C mg)) (G_Desk_told : Gm P w K mg base C "told" 8 ["self", "words"] (sp_Desk_told w C mg)) :
    Gm P w K mg base C "say" 9 ["self", "row"] (sp_Desk_say w K C mg) := by
  refine D.ok fun f fd F => F.okX sc_Desk_say (fun vs H Q E h => ?_) (fun cdv A outer s H vs Q E hr h => ?_)
  · obtain ⟨p, dd, js, v, rfl, _⟩ := h
    rfl
  · obtain ⟨p, dd, js, v, rfl, hD, hjl, h⟩ := h
    obtain ⟨dx, hp⟩ := hD.ins
    have lk : ∀ {m : Str}, (m == ("judges_here" : Str)) = false → List.lookup m [(("judges_here" : Str), V.ref dd)] = none := fun h => lk_no h
    have nk : ∀ {x y : Str}, x ≠ y → decide (V.str x = V.str y) = false := fun hne => decide_eq_false fun z => hne (V.str.inj z)
    refine ⟨_, (pss_cons (ps_set (i := 2) sc_Desk_say.nd rfl (by first | exact Or.inl rfl | exact Or.inr rfl) (pe_cl G_words_asked (hr.mono (by omega)) (passW (takes_of rfl rfl rfl rfl) (fun _ _ _ _ z => z)) (pa_cons (pv 1) pa_nil)))
  (pss_cons (ps_if (pt_cmpR (op_in_seqK K) (pe_ix (ix_listK K) (pv 2) pe_int (fun _ _ => rfl)) (pe_tup (pa_cons pe_str (pa_cons pe_str (pa_cons pe_str (pa_cons pe_str (pa_cons pe_str pa_nil)))))) (by rfl)) (pss_cons (ps_dput (hu_of hr) (pe_fldK K (pv 0) rfl) (pe_ix (ix_listK K) (pv 2) pe_int (fun _ _ => rfl)) (pe_mt cD G_Desk_made (hr.mono (by omega)) (passW (takes_of rfl rfl rfl rfl) (fun _ _ _ _ z => z)) (pv 0) (pa_cons (pv 2) pa_nil)) rfl)
  (pss_one (ps_ret pe_str))) pss_nil)
  (pss_cons (ps_if (pt_cmpR op_eq (pe_ix (ix_listK K) (pv 2) pe_int (fun _ _ => rfl)) pe_str (nomark _)) (pss_cons (ps_expr (pe_mt cD G_Desk_judge_by (hr.mono (by omega)) (passW (takes_of rfl rfl rfl rfl) (fun _ _ _ _ z => z)) (pv 0) (pa_cons (pe_ix (ix_listK K) (pv 2) pe_int (fun _ _ => rfl)) pa_nil)))
  (pss_cons ps_never
  (pss_one (ps_ret pe_str)))) pss_nil)
  (pss_one (ps_ret (pe_mt cD G_Desk_told (hr.mono (by omega)) (passW (takes_of rfl rfl rfl rfl) (fun _ _ _ _ z => z)) (pv 0) (pa_cons (pv 2) pa_nil))))))), ?_⟩
    walk_at "rd"
    rcases h with ⟨x, c, rfl, hz, hc, k⟩ | ⟨u, ty, ku, k⟩ | ⟨x, j, hj, rfl, hz, hw, k⟩ | ⟨x, n, m, J, rfl, hz, hw, hm, hR, k⟩
    · refine .inl ⟨x, rfl, hz, fun ws hws H1 q S1 nq hq => ?_, fun hn y hy H' S => ?_⟩
      rotate_left
      · rcases hc with ⟨_, rfl⟩ | ⟨ws, h2, _⟩
        · exact k y hy _ S
        · rw [hn] at h2
          cases h2
      have hc : refB (js.map DJ.pf) ws = some c ∨ ∃ (n : Str) (m : List Nat), ws = [("judge" : Str), n, txS m] ∧ m.length ≤ 90000 ∧ RJd m none ∧ c = "NoText" := by
        rcases hc with ⟨h2, _⟩ | ⟨ws', h2, h3⟩
        · rw [hws] at h2
          cases h2
        · rw [hws] at h2
          cases h2
          exact h3
      have hD1 := hD.same S1
      have hp1 := S1 _ _ hp
      obtain ⟨x0, xs, rfl⟩ : ∃ x0 xs, ws = x0 :: xs := by
        cases ws with
        | nil =>
          rcases hc with hc | ⟨_, _, e, _⟩
          · cases hc
          · cases e
        | cons x0 xs => exact ⟨_, _, rfl⟩
      walk_at "rd"
      refine ⟨q, _, _, _, rfl, rfl, SqL.of hq, atS (i := 0) rfl, ?_⟩
      walk_at "rd"
      refine ⟨by show 5 ≤ sizeLine; decide, fun t nt => ?_⟩
      generalize e2 : upd H1 t _ = H2
      obtain ⟨S2, ht⟩ := newF nt e2
      have hq2 := S2 _ _ hq
      have hD2 := hD1.same S2
      have hp2 := S2 _ _ hp1
      refine ⟨t, _, rfl, .inr (SqT.of ht), rfl, rfl, ?_⟩
      walk_at "rd"
      show if inV _ _ = true then _ else _
      rw [makes_in]
      by_cases hmk : x0 = "judge" ∨ x0 = "turn" ∨ x0 = "both" ∨ x0 = "either" ∨ x0 = "least"
      · refine iteB (decide_eq_true hmk) ?_
        walk_at "rd"
        refine ⟨p, dx, _, rfl, hp2, lk (by decide +kernel), ?_⟩
        walk_at "rd"
        rcases hc with hc | ⟨n, m, e, hm, hR, rfl⟩
        · have hc' : madeB (js.map DJ.pf) (x0 :: xs) = some c := by
            simp only [refB] at hc
            rw [if_pos hmk] at hc
            exact hc
          exact ⟨p, dd, js, q, _, rfl, hD2, hq2, .inl ⟨c, hc', fun y hy H' S => k y hy _ (S1.trans (S2.trans S))⟩⟩
        · exact ⟨p, dd, js, q, _, rfl, hD2, hq2, .inr ⟨n, m, none, e, hm, hR, fun J z => (nomatch z), fun _ y hy H' S => k y hy _ (S1.trans (S2.trans S))⟩⟩
      · have hnj : x0 ≠ "judge" := fun z => hmk (.inl z)
        replace hc : refB (js.map DJ.pf) (x0 :: xs) = some c := by
          rcases hc with hc | ⟨n, m, e, _⟩
          · exact hc
          · cases e
            exact absurd rfl hnj
        simp only [refB] at hc
        rw [if_neg hmk] at hc
        refine iteC (decide_eq_false hmk) ?_
        walk_at "rd"
        refine ⟨q, _, _, _, rfl, rfl, SqL.of hq2, atS (i := 0) rfl, ?_⟩
        walk_at "rd"
        by_cases hd : x0 = "drop"
        · subst hd
          rw [if_pos rfl] at hc
          match xs, hc with
          | [], hc | _ :: _ :: _, hc => cases hc
          | [x1], hc =>
            dsimp only at hc
            refine iteB (decide_eq_true rfl) ?_
            walk_at "rd"
            refine ⟨p, dx, _, rfl, hp2, lk (by decide +kernel), ?_⟩
            walk_at "rd"
            refine ⟨p, dd, js, x1, rfl, hD2, fun j hj e => ?_, fun hn y hy => ?_⟩
            · rw [pf_some hD.nd hj e] at hc
              cases hc
            · rw [pf_none hn] at hc
              cases hc
              exact k y hy _ (S1.trans S2)
        · rw [if_neg hd] at hc
          refine iteC (nk hd) ?_
          walk_at "rd"
          refine ⟨p, dx, _, rfl, hp2, lk (by decide +kernel), ?_⟩
          walk_at "rd"
          exact ⟨p, dd, js, q, _, rfl, hD2, hq2, .inl ⟨c, hc, fun y hy H' S => k y hy _ (S1.trans (S2.trans S))⟩⟩
    · exact .inr ⟨v, u, rfl, ty, ku, fun y hy => k y hy⟩
    · refine .inl ⟨x, rfl, hz, fun ws hws H1 q S1 nq hq => ?_, fun hn y hy H' S => (by rw [hn] at hw; cases hw)⟩
      rw [hw] at hws
      cases hws
      have hD1 := hD.same S1
      have hp1 := S1 _ _ hp
      walk_at "rd"
      refine ⟨by show 5 ≤ sizeLine; decide, fun t nt => ?_⟩
      generalize e2 : upd H1 t _ = H2
      obtain ⟨S2, ht⟩ := newF nt e2
      have hq2 := S2 _ _ hq
      have hD2 := hD1.same S2
      have hp2 := S2 _ _ hp1
      refine ⟨t, _, rfl, .inr (SqT.of ht), rfl, rfl, ?_⟩
      walk_at "rd"
      refine ⟨p, dx, _, rfl, hp2, lk (by decide +kernel), ?_⟩
      walk_at "rd"
      exact ⟨p, dd, js, q, _, rfl, hD2, hq2, .inr ⟨j, hj, rfl, fun H' S => k _ (S1.trans (S2.trans S))⟩⟩
    · refine .inl ⟨x, rfl, hz, fun ws hws H1 q S1 nq hq => ?_, fun hn y hy H' S => (by rw [hn] at hw; cases hw)⟩
      rw [hw] at hws
      cases hws
      have hD1 := hD.same S1
      have hp1 := S1 _ _ hp
      walk_at "rd"
      refine ⟨by show 5 ≤ sizeLine; decide, fun t nt => ?_⟩
      generalize e2 : upd H1 t _ = H2
      obtain ⟨S2, ht⟩ := newF nt e2
      have hq2 := S2 _ _ hq
      have hD2 := hD1.same S2
      have hp2 := S2 _ _ hp1
      refine ⟨t, _, rfl, .inr (SqT.of ht), rfl, rfl, ?_⟩
      walk_at "rd"
      refine ⟨p, dx, _, rfl, hp2, lk (by decide +kernel), ?_⟩
      walk_at "rd"
      refine ⟨p, dd, js, q, _, rfl, hD2, hq2, .inr ⟨n, m, some J, rfl, hm, hR, fun J' e H' a d g es S na nd ng hJ => ?_, fun z => nomatch z⟩⟩
      cases e
      have hD3 := hD2.same S
      have hq3 := S _ _ hq2
      obtain ⟨dx3, hp3⟩ := hD3.ins
      walk_at "rd"
      refine ⟨p, C, dx3, _, _, rfl, hp3, cD, nJ, List.lookup_cons_self, ?_⟩
      walk_at "rd"
      refine ⟨dd, _, rfl, DPut.k (k := .inr n) hD3.dic (by rw [djK, List.length_map]; exact Nat.lt_of_le_of_lt hjl (by decide)), ?_⟩
      obtain ⟨h4, K4⟩ := hD3.set (x := ⟨n, J, a, d, g, es⟩) hJ.jp
      exact k _ a d g es ((Same.keep (S1.trans (S2.trans S))).trans K4) h4
end
end Hy
set_option Elab.async false
set_option linter.all false
set_option maxRecDepth 100000
set_option maxHeartbeats 4000000
namespace Hy
open PySem L2
local macro_rules | `(tactic| walk_at "hp") => `(tactic| first
  | assumption | exact upd_same
  | (refine (upd_ne ?_).trans ?_ <;> first | assumption | (exact Ne.symm (by assumption)) | walk_at "ne" | walk_at "hp")
  | (refine (by assumption : Same _ _) _ _ ?_; assumption))
local macro_rules | `(tactic| walk_at "ne") => `(tactic| first
  | assumption | (exact Ne.symm (by assumption))
  | exact ne_of_none (by assumption) (by assumption) | exact Ne.symm (ne_of_none (by assumption) (by assumption)))
local macro_rules | `(tactic| walk_at "sz") => `(tactic| first | assumption | (show 0 ≤ sizeLine; decide) | (show 1 ≤ sizeLine; decide) | (show 2 ≤ sizeLine; decide) | (show 3 ≤ sizeLine; decide))
local macro_rules | `(tactic| walk_at "ar") => `(tactic| first
  | ((with_reducible show (0 : Int) < _); first | decide | omega)
  | ((with_reducible show CMul _ _); first | exact Or.inr (And.intro (by decide) (by decide)) | exact Or.inl (And.intro (by decide) (by decide)) | (refine Or.inl (And.intro ?_ ?_) <;> omega) | (refine Or.inr (And.intro ?_ ?_) <;> omega))
  | ((with_reducible show CPow _ _); exact And.intro (by decide) (And.intro (by decide) (by decide)))
  | ((with_reducible show CDiv _ _); first | exact And.intro (by decide) (by decide) | (refine And.intro ?_ ?_ <;> omega)))
/- one step of a reading -/
local macro_rules | `(tactic| walk_at "r1") => `(tactic| first
  | refine ⟨_, rfl, ?_⟩
  | refine iteB (by rfl) ?_ | refine iteC (by rfl) ?_
  | refine ⟨_, _, rfl, rfl, ?_⟩
  | refine ⟨rfl, ?_⟩
  | refine ⟨⟨_, rfl⟩, ?_⟩
  | refine ⟨_, _, _, _, true, rfl, .ty _, .base (.str _), kit_ty (by decide +kernel), ?_⟩
  | refine ⟨_, _, _, _, false, rfl, .ty _, .base (.str _), kit_ty (by decide +kernel), ?_⟩
  | refine ⟨_, _, _, _, true, rfl, .ty _, .base (.int _), kit_ty (by decide +kernel), ?_⟩
  | refine ⟨_, _, _, _, false, rfl, .ty _, .base (.int _), kit_ty (by decide +kernel), ?_⟩
  | refine ⟨_, _, _, _, true, rfl, .ty _, .base (.tup (by walk_at "hp")), kit_ty (by decide +kernel), ?_⟩
  | refine ⟨_, _, _, _, false, rfl, .ty _, .base (.tup (by walk_at "hp")), kit_ty (by decide +kernel), ?_⟩
  | refine ⟨_, _, _, _, true, rfl, .ty _, .base (.lst (by walk_at "hp")), kit_ty (by decide +kernel), ?_⟩
  | refine ⟨_, _, _, _, false, rfl, .ty _, .base (.lst (by walk_at "hp")), kit_ty (by decide +kernel), ?_⟩
  | refine ⟨_, _, rfl, ⟨by walk_at "sz", rfl⟩, ?_⟩
  | refine ⟨_, _, _, _, rfl, rfl, SqT.of (by walk_at "hp"), by rfl, ?_⟩
  | refine ⟨_, _, _, _, rfl, rfl, SqL.of (by walk_at "hp"), by rfl, ?_⟩
  | refine ⟨.inl ⟨rfl, _, SqL.of (by walk_at "hp")⟩, ?_⟩
  | refine ⟨_, _, _, rfl, rfl, (by walk_at "hp"), snoc_get, ?_⟩
  | refine ⟨_, _, _, _, rfl, rfl, (by walk_at "hp"), by rfl, ?_⟩
  | refine ⟨_, _, rfl, SqL.of (by walk_at "hp"), ?_⟩
  | refine ⟨_, _, rfl, SqT.of (by walk_at "hp"), by rfl, ?_⟩
  | refine ⟨_, (_ : List V), rfl, ?_⟩
  | refine ⟨_, _, rfl, .inl ⟨_, (by assumption), rfl⟩, ?_⟩
  | refine ⟨_, _, rfl, .inl ⟨_, SqL.of (by walk_at "hp"), rfl⟩, ?_⟩
  | refine ⟨_, _, rfl, .inr ⟨_, SqT.of (by walk_at "hp"), rfl⟩, ?_⟩
  | refine Or.inl ⟨(_ : Int), rfl, ?_⟩ | refine Or.inr ⟨(_ : Bool), rfl, ?_⟩
  | refine ⟨_, _, _, _, true, rfl, (by assumption : ND _ _ _ _), .ty _, kit_ty (by decide +kernel), ?_⟩
  | refine ⟨_, _, _, _, false, rfl, (by assumption : ND _ _ _ _), .ty _, kit_ty (by decide +kernel), ?_⟩
  | refine ⟨_, _, rfl, (by assumption : ND _ _ _ _), ?_⟩
  | refine And.intro (by walk_at "ar") ?_)
local macro_rules | `(tactic| walk_at "rd") => `(tactic| repeat walk_at "r1")

theorem mt_indexK {X : Cx} (K : PySem.W.Frag) (h : X.K = K := by rfl) : MtR X "list.index" (rIndex K) := h ▸ mt_index
/-! ### what a row is answered, or the one refusal's name -/
def exN (i : Nat) : Str := ([("NoRow" : Str), "NoName", "NoText", "NoLetter", "NoFit", "TooMany", "NoNumber"] : List Str).getD i ""
structure TxE7 (K : PySem.W.Frag) (mg : Str → Option Value) (eH eT : Addr) (A : Nat → Addr) : Prop where
  m_HeapError : mg "HeapError" = some (.ref eH)
  c_NoTree : GV mg "NoTree" (.ref eT)
  c_NoRow : GV mg "NoRow" (.ref (A 0))
  c_NoName : GV mg "NoName" (.ref (A 1))
  c_NoText : GV mg "NoText" (.ref (A 2))
  c_NoLetter : GV mg "NoLetter" (.ref (A 3))
  c_NoFit : GV mg "NoFit" (.ref (A 4))
  c_TooMany : GV mg "TooMany" (.ref (A 5))
  c_NoNumber : GV mg "NoNumber" (.ref (A 6))
  n_ValueError : mg "ValueError" = none
  m : ∀ i, i < 7 → mg (exN i) = some (.ref (A i))
  exC : ∀ i, i < 7 → ExcC K (A i)
  exm : ∀ i, i < 7 → PySem.W.exmOne K (.ref (A i)) (.ref eH) = some true
  one : ∀ i j, i < 7 → j < 7 → PySem.W.kitOne K (.ref (A i)) (.ref (A j)) = some (decide (i = j))
  tree : ∀ i, i < 7 → PySem.W.kitOne K (.ref (A i)) (.ref eT) = some false
  val : ∀ i, i < 7 → PySem.W.kitOne K (.ref (A i)) (.type "ValueError") = some true
/-- no answer begins with the name of a refusal -/
def AnsW (x : Str) : Prop := x.length ≤ sizeLine ∧ inV (.str (cutS x none (some 2))) [.str "No", .str "To"] = false
def kindsV (i : Nat) : List V := [.bl (decide (i = 0)), .bl (decide (i = 1)), .bl (decide (i = 2)), .bl (decide (i = 3)), .bl (decide (i = 4)), .bl (decide (i = 5)), .bl (decide (i = 6))]
def SpMono (sp : Sp) : Prop := ∀ (vs : List V) (H : Hp) (Q Q' : VK) (E E' : XK), sp vs H Q E → (∀ r H', Q r H' → Q' r H') → (∀ y d H', E y d H' → E' y d H') → sp vs H Q' E'
section
variable {P : Program} {w : World} {K : PySem.W.Frag} {mg : Str → Option Value} {base : Heap} {C eH eT : Addr} {A : Nat → Addr}
theorem say_mono : SpMono (sp_Desk_say w K C mg) := by
  intro vs H Q Q' E E' h hq he
  obtain ⟨p, dd, js, v, e, hD, hl, h⟩ := h
  refine ⟨p, dd, js, v, e, hD, hl, ?_⟩
  rcases h with ⟨x, c, h1, h2, h3, k⟩ | ⟨u, h1, h2, k⟩ | ⟨x, j, hj, h1, h2, h3, k⟩ | ⟨x, n, m, J, h1, h2, h3, h4, h5, k⟩
  · exact .inl ⟨x, c, h1, h2, h3, fun y hy H' S => he _ _ _ (k y hy H' S)⟩
  · exact .inr (.inl ⟨u, h1, h2, fun y hy => he _ _ _ (k y hy)⟩)
  · exact .inr (.inr (.inl ⟨x, j, hj, h1, h2, h3, fun H' S => hq _ _ (k H' S)⟩))
  · exact .inr (.inr (.inr ⟨x, n, m, J, h1, h2, h3, h4, h5, fun H' a d g es S hD => hq _ _ (k H' a d g es S hD)⟩))
abbrev s__law_said : Stmt := top 106
theorem sc__law_said : FnScope ["desk", "row", "caught", "found", "e", "kinds"] ["desk", "row"] (defScope s__law_said) := ⟨rfl, rfl, rfl, by decide +kernel, rfl, by decide +kernel, by decide +kernel⟩

def lsaid_sp (C : Addr) (mg : Str → Option Value) (spS : Sp) : Sp := fun vs H Q _ => ∃ (p dd dx : Addr) (v : V), vs = [.ref p, v] ∧ H p = some (.ins C dx [("judges_here", .ref dd)]) ∧
  spS [.ref p, v] H (fun r H' => ∃ x, r = .str x ∧ AnsW x ∧ ∀ H'', Same H' H'' → Q (.str x) H'') fun y d H' => d = none ∧ ∃ i, i < 7 ∧ mg (exN i) = some y ∧ ∀ H'', Same H' H'' → Q (.str (exN i)) H''
theorem lsaid_ok {spS : Sp} (mono : SpMono spS) (D : Df K mg "_law_said" s__law_said ["desk", "row"]) (T : Txt K mg) (TE : TxE7 K mg eH eT A) (cD : Cls K C) (G_Desk_say : Gm P w K mg base C "say" 9 ["self", "row"] spS) :
    G' P w K mg base "_law_said" 10 ["desk", "row"] (lsaid_sp C mg spS) := by
  refine D.ok fun f fd F => F.okX sc__law_said (fun vs H Q E h => ?_) (fun cdv B outer s H vs Q E hr h => ?_)
  · obtain ⟨p, dd, dx, v, rfl, _⟩ := h
    rfl
  · obtain ⟨p, dd, dx, v, rfl, hp, h⟩ := h
    refine ⟨_, (pss_cons (ps_set (i := 2) sc__law_said.nd rfl (by first | exact Or.inl rfl | exact Or.inr rfl) pe_non)
  (pss_cons (ps_set (i := 3) sc__law_said.nd rfl (by first | exact Or.inl rfl | exact Or.inr rfl) pe_str)
  (pss_cons (ps_try_ad (i := 4) rfl rfl sc__law_said.nd rfl rfl ⟨by rfl, by decide, .inl TE.m_HeapError⟩ rfl (fun W pn xe tk _ => (pss_one (ps_set (i := 3) sc__law_said.nd rfl (by first | exact Or.inl rfl | exact Or.inr rfl) (pe_mtS cD G_Desk_say (hr.mono (by omega)) tk (pv 0) (pa_cons (pv 1) pa_nil))))) (fun a oe cls pn => (pss_one (ps_set (i := 2) sc__law_said.nd rfl (by first | exact Or.inl rfl | exact Or.inr rfl) (pv 4)))))
  (pss_cons (ps_if (pt_cmpR op_isN (pv 2) pe_non (nomark _)) (pss_one (ps_ret (pe_ix (ix_listK K) (pe_lst (pa_cons (pv 3) (pa_cons pe_str pa_nil))) (pe_callTy call_int1 (by rfl) T.n_int (by decide +kernel) (pa_cons (pe_or (pe_not (pe_callB (call_isiK K) (by rfl) T.n_isinstance (by decide +kernel) (pa_cons (pv 3) (pa_cons (pe_ty (n := "str") T.n_str (by decide +kernel)) pa_nil)))) (pe_one (pe_cmpR (op_in_seqK K) (pe_slice sl_str (pv 3) po_none (po_some pe_int)) (pe_lst (pa_cons pe_str (pa_cons pe_str pa_nil))) (by rfl)))) pa_nil)) (fun _ _ => rfl)))) pss_nil)
  (pss_cons (ps_set (i := 5) sc__law_said.nd rfl (by first | exact Or.inl rfl | exact Or.inr rfl) (pe_lst (pa_cons (pe_callB (call_isXK K) (by rfl) T.n_isinstance (by decide +kernel) (pa_cons (pv 2) (pa_cons (pe_gv TE.c_NoRow) pa_nil))) (pa_cons (pe_callB (call_isXK K) (by rfl) T.n_isinstance (by decide +kernel) (pa_cons (pv 2) (pa_cons (pe_gv TE.c_NoName) pa_nil))) (pa_cons (pe_callB (call_isXK K) (by rfl) T.n_isinstance (by decide +kernel) (pa_cons (pv 2) (pa_cons (pe_gv TE.c_NoText) pa_nil))) pa_nil)))))
  (pss_cons (ps_set (i := 5) sc__law_said.nd rfl (by first | exact Or.inl rfl | exact Or.inr rfl) (pe_op op_cat (pv 5) (pe_lst (pa_cons (pe_callB (call_isXK K) (by rfl) T.n_isinstance (by decide +kernel) (pa_cons (pv 2) (pa_cons (pe_gv TE.c_NoLetter) pa_nil))) (pa_cons (pe_callB (call_isXK K) (by rfl) T.n_isinstance (by decide +kernel) (pa_cons (pv 2) (pa_cons (pe_gv TE.c_NoFit) pa_nil))) (pa_cons (pe_callB (call_isXK K) (by rfl) T.n_isinstance (by decide +kernel) (pa_cons (pv 2) (pa_cons (pe_gv TE.c_TooMany) pa_nil))) pa_nil))))))
  (pss_cons (ps_set (i := 5) sc__law_said.nd rfl (by first | exact Or.inl rfl | exact Or.inr rfl) (pe_op op_cat (pv 5) (pe_lst (pa_cons (pe_callB (call_isXK K) (by rfl) T.n_isinstance (by decide +kernel) (pa_cons (pv 2) (pa_cons (pe_gv TE.c_NoNumber) pa_nil))) pa_nil))))
  (pss_cons (ps_if (PW.pt (pw_or (pt_val (pe_callB (call_isXK K) (by rfl) T.n_isinstance (by decide +kernel) (pa_cons (pv 2) (pa_cons (pe_gv TE.c_NoTree) pa_nil)))) (pw_or (pt_not (pt_val (pe_callB (call_isXK K) (by rfl) T.n_isinstance (by decide +kernel) (pa_cons (pv 2) (pa_cons (pe_ty (n := "ValueError") TE.n_ValueError (by decide +kernel)) pa_nil))))) (pw_or1 (pt_cmpR op_ne (cbm K (pe_bm PySem.F.plainAttrs_list PySem.F.slot_list_count PySem.F.type_list_count (mt_countDK K hr) (pv 5) (pa_cons pe_bl pa_nil))) pe_int (nomark _)))))) (pss_one (ps_ret pe_str)) pss_nil)
  (pss_one (ps_ret (pe_ix (ix_listK K) (pe_lst (pa_cons pe_str (pa_cons pe_str (pa_cons pe_str (pa_cons pe_str (pa_cons pe_str (pa_cons pe_str (pa_cons pe_str pa_nil)))))))) (cbm K (pe_bm PySem.F.plainAttrs_list PySem.F.slot_list_index PySem.F.type_list_index (mt_indexK K) (pv 5) (pa_cons pe_bl pa_nil))) (fun _ _ => rfl)))))))))))), ?_⟩
    walk_at "rd"
    refine ⟨p, dx, _, rfl, hp, lk_no (by decide +kernel), ?_⟩
    walk_at "rd"
    refine mono _ _ _ _ _ _ h (fun r H1 hr => ?_) fun y d H1 hy => ?_
    · obtain ⟨x, rfl, ⟨hx, hin⟩, k⟩ := hr
      walk_at "rd"
      refine ⟨(by walk_at "sz"), fun p1 n1 => ?_⟩
      generalize e1 : upd H1 p1 _ = H2
      obtain ⟨S1, hp1⟩ := newF n1 e1
      walk_at "rd"
      refine ⟨hx, (by show 2 ≤ sizeLine; decide), fun p2 n2 => ?_⟩
      generalize e2 : upd H2 p2 _ = H3
      obtain ⟨S2, hp2⟩ := newF n2 e2
      have hp13 := S2 _ _ hp1
      refine ⟨p2, _, rfl, .inl (SqL.of hp2), rfl, rfl, ?_⟩
      walk_at "rd"
      refine ⟨_, _, _, _, rfl, rfl, SqL.of hp13, (by
        have e : (if (if false = true then !inV (.str (cutS x none (some 2))) [.str "No", .str "To"] else inV (.str (cutS x none (some 2))) [.str "No", .str "To"]) = true then (1 : Int) else 0) = 0 := by rw [hin]; rfl
        rw [e]
        exact atI_nat (j := 0) rfl), ?_⟩
      exact k _ (S1.trans S2)
    · obtain ⟨rfl, i, hi, hm, k⟩ := hy
      cases hm.symm.trans (TE.m i hi)
      refine ⟨TE.exm i hi, rfl, fun a na => ?_⟩
      walk_at "rd"
      generalize e1 : upd H1 a _ = H2
      obtain ⟨S1, hA⟩ := newF na e1
      walk_at "rd"
      refine ⟨a, A i, _, _, _, rfl, .own _, hA, TE.exC i hi, TE.one i 0 hi (by decide), ?_⟩
      walk_at "rd"
      refine ⟨a, A i, _, _, _, rfl, .own _, hA, TE.exC i hi, TE.one i 1 hi (by decide), ?_⟩
      walk_at "rd"
      refine ⟨a, A i, _, _, _, rfl, .own _, hA, TE.exC i hi, TE.one i 2 hi (by decide), ?_⟩
      walk_at "rd"
      refine ⟨(by walk_at "sz"), fun p1 n1 => ?_⟩
      generalize e2 : upd H2 p1 _ = H3
      obtain ⟨S2, hp1⟩ := newF n1 e2
      replace hA := S2 _ _ hA
      walk_at "rd"
      refine ⟨a, A i, _, _, _, rfl, .own _, hA, TE.exC i hi, TE.one i 3 hi (by decide), ?_⟩
      walk_at "rd"
      refine ⟨a, A i, _, _, _, rfl, .own _, hA, TE.exC i hi, TE.one i 4 hi (by decide), ?_⟩
      walk_at "rd"
      refine ⟨a, A i, _, _, _, rfl, .own _, hA, TE.exC i hi, TE.one i 5 hi (by decide), ?_⟩
      walk_at "rd"
      refine ⟨(by walk_at "sz"), fun p2 n2 => ?_⟩
      generalize e3 : upd H3 p2 _ = H4
      obtain ⟨S3, hp2⟩ := newF n2 e3
      replace hA := S3 _ _ hA
      replace hp1 := S3 _ _ hp1
      walk_at "rd"
      refine ⟨p1, p2, _, _, rfl, rfl, hp1, hp2, (by show 6 ≤ sizeLine; decide), fun p3 n3 => ?_⟩
      generalize e4 : upd H4 p3 _ = H5
      obtain ⟨S4, hp3⟩ := newF n3 e4
      replace hA := S4 _ _ hA
      walk_at "rd"
      refine ⟨a, A i, _, _, _, rfl, .own _, hA, TE.exC i hi, TE.one i 6 hi (by decide), ?_⟩
      walk_at "rd"
      refine ⟨(by walk_at "sz"), fun p4 n4 => ?_⟩
      generalize e5 : upd H5 p4 _ = H6
      obtain ⟨S5, hp4⟩ := newF n4 e5
      replace hA := S5 _ _ hA
      replace hp3 := S5 _ _ hp3
      walk_at "rd"
      refine ⟨p3, p4, _, _, rfl, rfl, hp3, hp4, (by show 7 ≤ sizeLine; decide), fun p5 n5 => ?_⟩
      generalize e6 : upd H6 p5 _ = H7
      obtain ⟨S6, hp5⟩ := newF n5 e6
      replace hA := S6 _ _ hA
      walk_at "rd"
      refine ⟨a, A i, _, _, _, rfl, .own _, hA, TE.exC i hi, TE.tree i hi, ?_⟩
      walk_at "rd"
      refine ⟨a, A i, _, _, _, rfl, .ty _, hA, TE.exC i hi, TE.val i hi, ?_⟩
      walk_at "rd"
      refine ⟨p5, _, [.bool (decide (i = 0)), .bool (decide (i = 1)), .bool (decide (i = 2)), .bool (decide (i = 3)), .bool (decide (i = 4)), .bool (decide (i = 5)), .bool (decide (i = 6))], _, rfl, rfl,
        .lst (SqL.of hp5) (.cons (.bl _) (.cons (.bl _) (.cons (.bl _) (.cons (.bl _) (.cons (.bl _) (.cons (.bl _) (.cons (.bl _) .nil))))))), .bl _, rfl, rfl, Nat.le_trans (Nat.min_le_right _ _) (by decide), ?_⟩
      rw [(show ∀ i, i < 7 → ([PyData.bool (decide (i = 0)), .bool (decide (i = 1)), .bool (decide (i = 2)), .bool (decide (i = 3)), .bool (decide (i = 4)), .bool (decide (i = 5)), .bool (decide (i = 6))].countP fun z => PyData.eqv z (.bool true)) = 1 by decide +kernel) i hi]
      walk_at "rd"
      refine ⟨(by show 7 ≤ sizeLine; decide), fun p6 n6 => ?_⟩
      generalize e7 : upd H7 p6 _ = H8
      obtain ⟨S7, hp6⟩ := newF n6 e7
      replace hp5 := S7 _ _ hp5
      walk_at "rd"
      refine ⟨p5, kindsV i, .bl true, i, .bl true, rfl, rfl, SqL.of hp5, rfl, rfl, (show ∀ i, i < 7 → (kindsV i)[i]? = some (.bl true) by decide +kernel) i hi, rfl, fun m z' hm hz => ?_, ?_⟩
      · rw [(show ∀ i, i < 7 → ∀ m, m < i → (kindsV i)[m]? = some (.bl false) by decide +kernel) i hi m hm] at hz
        cases hz
        rfl
      refine ⟨_, _, _, _, rfl, rfl, SqL.of hp6, atI_nat (j := i) ((show ∀ i, i < 7 → [V.str (PySem.Str.ofString "NoRow"), .str (PySem.Str.ofString "NoName"), .str (PySem.Str.ofString "NoText"), .str (PySem.Str.ofString "NoLetter"), .str (PySem.Str.ofString "NoFit"), .str (PySem.Str.ofString "TooMany"), .str (PySem.Str.ofString "NoNumber")][i]? = some (.str (exN i)) by decide +kernel) i hi), ?_⟩
      exact k _ (S1.trans (S2.trans (S3.trans (S4.trans (S5.trans (S6.trans S7))))))
end
end Hy
set_option Elab.async false
set_option linter.all false
set_option maxRecDepth 100000
set_option maxHeartbeats 4000000
namespace Hy
open PySem L2
local macro_rules | `(tactic| walk_at "hp") => `(tactic| first
  | assumption | exact upd_same
  | (refine (upd_ne ?_).trans ?_ <;> first | assumption | (exact Ne.symm (by assumption)) | walk_at "ne" | walk_at "hp")
  | (refine (by assumption : Same _ _) _ _ ?_; assumption))
local macro_rules | `(tactic| walk_at "ne") => `(tactic| first
  | assumption | (exact Ne.symm (by assumption))
  | exact ne_of_none (by assumption) (by assumption) | exact Ne.symm (ne_of_none (by assumption) (by assumption)))
local macro_rules | `(tactic| walk_at "sz") => `(tactic| first | assumption | (show 0 ≤ sizeLine; decide) | (show 1 ≤ sizeLine; decide) | (show 2 ≤ sizeLine; decide) | (show 3 ≤ sizeLine; decide))
local macro_rules | `(tactic| walk_at "ar") => `(tactic| first
  | ((with_reducible show (0 : Int) < _); first | decide | omega)
  | ((with_reducible show CMul _ _); first | exact Or.inr (And.intro (by decide) (by decide)) | exact Or.inl (And.intro (by decide) (by decide)) | (refine Or.inl (And.intro ?_ ?_) <;> omega) | (refine Or.inr (And.intro ?_ ?_) <;> omega))
  | ((with_reducible show CPow _ _); exact And.intro (by decide) (And.intro (by decide) (by decide)))
  | ((with_reducible show CDiv _ _); first | exact And.intro (by decide) (by decide) | (refine And.intro ?_ ?_ <;> omega)))
/- one step of a reading -/
local macro_rules | `(tactic| walk_at "r1") => `(tactic| first
  | refine ⟨_, rfl, ?_⟩
  | refine iteB (by rfl) ?_ | refine iteC (by rfl) ?_
  | refine ⟨_, _, rfl, rfl, ?_⟩
  | refine ⟨rfl, ?_⟩
  | refine ⟨⟨_, rfl⟩, ?_⟩
  | refine ⟨_, _, _, _, true, rfl, .ty _, .base (.str _), kit_ty (by decide +kernel), ?_⟩
  | refine ⟨_, _, _, _, false, rfl, .ty _, .base (.str _), kit_ty (by decide +kernel), ?_⟩
  | refine ⟨_, _, _, _, true, rfl, .ty _, .base (.int _), kit_ty (by decide +kernel), ?_⟩
  | refine ⟨_, _, _, _, false, rfl, .ty _, .base (.int _), kit_ty (by decide +kernel), ?_⟩
  | refine ⟨_, _, _, _, true, rfl, .ty _, .base (.tup (by walk_at "hp")), kit_ty (by decide +kernel), ?_⟩
  | refine ⟨_, _, _, _, false, rfl, .ty _, .base (.tup (by walk_at "hp")), kit_ty (by decide +kernel), ?_⟩
  | refine ⟨_, _, _, _, true, rfl, .ty _, .base (.lst (by walk_at "hp")), kit_ty (by decide +kernel), ?_⟩
  | refine ⟨_, _, _, _, false, rfl, .ty _, .base (.lst (by walk_at "hp")), kit_ty (by decide +kernel), ?_⟩
  | refine ⟨_, _, rfl, ⟨by walk_at "sz", rfl⟩, ?_⟩
  | refine ⟨_, _, _, _, rfl, rfl, SqT.of (by walk_at "hp"), by rfl, ?_⟩
  | refine ⟨_, _, _, _, rfl, rfl, SqL.of (by walk_at "hp"), by rfl, ?_⟩
  | refine ⟨.inl ⟨rfl, _, SqL.of (by walk_at "hp")⟩, ?_⟩
  | refine ⟨_, _, _, rfl, rfl, (by walk_at "hp"), snoc_get, ?_⟩
  | refine ⟨_, _, _, _, rfl, rfl, (by walk_at "hp"), by rfl, ?_⟩
  | refine ⟨_, _, rfl, SqL.of (by walk_at "hp"), ?_⟩
  | refine ⟨_, _, rfl, SqT.of (by walk_at "hp"), by rfl, ?_⟩
  | refine ⟨_, (_ : List V), rfl, ?_⟩
  | refine ⟨_, _, rfl, .inl ⟨_, (by assumption), rfl⟩, ?_⟩
  | refine ⟨_, _, rfl, .inl ⟨_, SqL.of (by walk_at "hp"), rfl⟩, ?_⟩
  | refine ⟨_, _, rfl, .inr ⟨_, SqT.of (by walk_at "hp"), rfl⟩, ?_⟩
  | refine Or.inl ⟨(_ : Int), rfl, ?_⟩ | refine Or.inr ⟨(_ : Bool), rfl, ?_⟩
  | refine ⟨_, _, _, _, true, rfl, (by assumption : ND _ _ _ _), .ty _, kit_ty (by decide +kernel), ?_⟩
  | refine ⟨_, _, _, _, false, rfl, (by assumption : ND _ _ _ _), .ty _, kit_ty (by decide +kernel), ?_⟩
  | refine ⟨_, _, rfl, (by assumption : ND _ _ _ _), ?_⟩
  | refine And.intro (by walk_at "ar") ?_)
local macro_rules | `(tactic| walk_at "rd") => `(tactic| repeat walk_at "r1")

/-! ### the menus of rows -/
theorem lst_at {xs : List V} {r : Int} (h0 : 0 ≤ r) (h1 : r < xs.length) : ∃ v, atI xs r = some v ∧ v ∈ xs := by
  have hlt : r.toNat < xs.length := by omega
  have e : ((r.toNat : Nat) : Int) = r := by omega
  have q := atI_nat (xs := xs) (j := r.toNat) (v := xs[r.toNat]) (List.getElem?_eq_getElem hlt)
  rw [e] at q
  exact ⟨_, q, List.getElem_mem hlt⟩
theorem lst_mod {xs : List V} (n : Int) (h : 0 < xs.length) : ∃ v, atI xs (n % (xs.length : Int)) = some v ∧ v ∈ xs := lst_at (Int.emod_nonneg _ (by omega)) (Int.emod_lt_of_pos _ (by omega))
/-- a thing that is no text -/
def NoTx (K : PySem.W.Frag) (H : Hp) (v : V) : Prop := ∃ u, TyX K H v u ∧ PySem.W.kitOne K u (.type "str") = some false
/-- .. and stays so -/
def NoTxN (K : PySem.W.Frag) (H H' : Hp) (v : V) : Prop := ∀ (A : List Addr) (H'' : Hp), Keep A H' H'' → (∀ a ∈ A, H a ≠ none) → NoTx K H'' v
abbrev PrV (H : Hp) (vs : List V) (ps : List (Str × Str)) : Prop := Paired (fun v p => ∃ t, v = .ref t ∧ H t = some (.tup [.str p.1, .str p.2])) vs ps
theorem PrV.stay {H H' : Hp} {vs : List V} {ps : List (Str × Str)} (h : PrV H vs ps) (s : Same H H') : PrV H' vs ps := Paired.mapP h fun _ _ ⟨t, e, k⟩ => ⟨t, e, s _ _ k⟩
theorem PrV.app {H : Hp} {vs ws : List V} {ps qs : List (Str × Str)} (h : PrV H vs ps) (g : PrV H ws qs) : PrV H (vs ++ ws) (ps ++ qs) := by
  induction h with
  | nil => exact g
  | cons a _ ih => exact .cons a ih
theorem PrV.mem {H : Hp} {vs : List V} {ps : List (Str × Str)} (h : PrV H vs ps) {v : V} (hv : v ∈ vs) : ∃ p ∈ ps, ∃ t, v = .ref t ∧ H t = some (.tup [.str p.1, .str p.2]) := by
  induction h with
  | nil => cases hv
  | cons a _ ih =>
    rcases List.mem_cons.mp hv with rfl | hv
    · exact ⟨_, List.mem_cons_self, a⟩
    · obtain ⟨p, hp, r⟩ := ih hv
      exact ⟨p, List.mem_cons_of_mem _ hp, r⟩
def mn_law_no_row0 : List Str := ["", "judge", "judge yy", "judge A x", "turn yy"]
def mn_law_no_row1 : List Str := ["turn yy A", "both yy yy", "either a a a a", "least yy yy yy", "drop"]
def mn_law_no_row2 : List Str := ["state yy", "state yy ", "good  a", "come", "come a a"]
def mn_law_no_row3 : List Str := ["within yy", "count yy 0", "count yy 01", "count a 100"]
def mn_law_no_row4 : List Str := ["count yy x", "show", "show a1", "names", "Show a", "state a b c"]
def mn_law_no_row : List Str := mn_law_no_row0 ++ mn_law_no_row1 ++ mn_law_no_row2 ++ mn_law_no_row3 ++ mn_law_no_row4
def mn_law_no_name0 : List Str := ["turn a yy", "turn yy yy", "both q yy a", "both q a yy", "either q yy z"]
def mn_law_no_name1 : List Str := ["least q yy", "drop yy", "state yy ((", "state yy a"]
def mn_law_no_name2 : List Str := ["good yy x1", "come yy", "within yy a", "within a yy"]
def mn_law_no_name3 : List Str := ["within z yy", "count yy 99", "show yy", "both q z yy"]
def mn_law_no_name : List Str := mn_law_no_name0 ++ mn_law_no_name1 ++ mn_law_no_name2 ++ mn_law_no_name3
def mn_law_no_text0 : List Str := ["judge q ", "judge q x", "judge a a 1 0 1 0"]
def mn_law_no_text1 : List Str := ["judge yy a 1 0 1 0 1", "judge q a 1 0 1 0 0 ", "judge q  a 1 0 1 0 0"]
def mn_law_no_text2 : List Str := ["state a (", "state a a(b", "state a a(b,a)", "good a A"]
def mn_law_no_text3 : List Str := ["good z q(", "state a a(ba)", "judge z a 7 0 1 - 0"]
def mn_law_no_text : List Str := mn_law_no_text0 ++ mn_law_no_text1 ++ mn_law_no_text2 ++ mn_law_no_text3
def mn_law_others0 : List (Str × Str) := [("state a q", "NoLetter"), ("good a a(q)", "NoLetter")]
def mn_law_others1 : List (Str × Str) := [("state z b(a)", "NoLetter"), ("both q a z", "NoFit")]
def mn_law_others2 : List (Str × Str) := [("either a z a", "NoFit"), ("within a z", "NoFit")]
def mn_law_others3 : List (Str × Str) := [("within z g", "NoFit"), ("both q a g", "TooMany")]
def mn_law_others4 : List (Str × Str) := [("either z g a", "TooMany"), ("count a 25", "NoNumber")]
def mn_law_others5 : List (Str × Str) := [("count z 99", "NoNumber"), ("both g g g", "TooMany")]
def mn_law_others : List (Str × Str) := mn_law_others0 ++ mn_law_others1 ++ mn_law_others2 ++ mn_law_others3 ++ mn_law_others4 ++ mn_law_others5
section
variable {P : Program} {w : World} {K : PySem.W.Frag} {mg : Str → Option Value} {base : Heap}
abbrev s__law_no_row : Stmt := top 107
theorem sc__law_no_row : FnScope ["number", "rows"] ["number"] (defScope s__law_no_row) := ⟨rfl, rfl, rfl, by decide +kernel, rfl, by decide +kernel, by decide +kernel⟩
abbrev s__law_no_name : Stmt := top 108
theorem sc__law_no_name : FnScope ["number", "rows"] ["number"] (defScope s__law_no_name) := ⟨rfl, rfl, rfl, by decide +kernel, rfl, by decide +kernel, by decide +kernel⟩
abbrev s__law_no_text : Stmt := top 109
theorem sc__law_no_text : FnScope ["number", "rows"] ["number"] (defScope s__law_no_text) := ⟨rfl, rfl, rfl, by decide +kernel, rfl, by decide +kernel, by decide +kernel⟩
abbrev s__law_others : Stmt := top 110
theorem sc__law_others : FnScope ["number", "rows"] ["number"] (defScope s__law_others) := ⟨rfl, rfl, rfl, by decide +kernel, rfl, by decide +kernel, by decide +kernel⟩

def sp__law_no_name : Sp := fun vs H Q _ => ∃ n : Int, vs = [.int n] ∧ ∀ H' x, Same H H' → x ∈ mn_law_no_name → Q (.str x) H'
theorem ok__law_no_name (D : Df K mg "_law_no_name" s__law_no_name ["number"]) (T : Txt K mg) : G' P w K mg base "_law_no_name" 1 ["number"] sp__law_no_name := by
  refine D.ok fun f fd F => F.okX sc__law_no_name (fun vs H Q E h => ?_) (fun cdv A outer s H vs Q E hr h => ?_)
  · obtain ⟨n, rfl, _⟩ := h
    rfl
  · obtain ⟨n, rfl, k⟩ := h
    refine ⟨_, (pss_cons (ps_set (i := 1) sc__law_no_name.nd rfl (by first | exact Or.inl rfl | exact Or.inr rfl) (pe_lst (pa_cons pe_str (pa_cons pe_str (pa_cons pe_str (pa_cons pe_str (pa_cons pe_str pa_nil)))))))
  (pss_cons (ps_set (i := 1) sc__law_no_name.nd rfl (by first | exact Or.inl rfl | exact Or.inr rfl) (pe_op op_cat (pv 1) (pe_lst (pa_cons pe_str (pa_cons pe_str (pa_cons pe_str (pa_cons pe_str pa_nil)))))))
  (pss_cons (ps_set (i := 1) sc__law_no_name.nd rfl (by first | exact Or.inl rfl | exact Or.inr rfl) (pe_op op_cat (pv 1) (pe_lst (pa_cons pe_str (pa_cons pe_str (pa_cons pe_str (pa_cons pe_str pa_nil)))))))
  (pss_cons (ps_set (i := 1) sc__law_no_name.nd rfl (by first | exact Or.inl rfl | exact Or.inr rfl) (pe_op op_cat (pv 1) (pe_lst (pa_cons pe_str (pa_cons pe_str (pa_cons pe_str (pa_cons pe_str pa_nil)))))))
  (pss_one (ps_ret (pe_ix (ix_listK K) (pv 1) (pe_op op_mod (pv 0) (pe_callB (call_lenK K) (by rfl) T.n_len PySem.boot_len (pa_cons (pv 1) pa_nil))) (fun _ _ => rfl)))))))), ?_⟩
    walk_at "rd"
    refine ⟨(by show 5 ≤ sizeLine; decide), fun p0 n0 => ?_⟩
    generalize e0 : upd H p0 _ = H0
    obtain ⟨S0, h0⟩ := newF n0 e0
    change H0 p0 = some (.lst (mn_law_no_name0.map V.str)) at h0
    have T0 := S0
    walk_at "rd"
    refine ⟨(by show 4 ≤ sizeLine; decide), fun p1 n1 => ?_⟩
    generalize e1 : upd H0 p1 _ = H1
    obtain ⟨S1, h1⟩ := newF n1 e1
    change H1 p1 = some (.lst (mn_law_no_name1.map V.str)) at h1
    have T1 := S1
    walk_at "rd"
    refine ⟨p0, p1, _, _, rfl, rfl, T1 _ _ h0, h1, (by show 9 ≤ sizeLine; decide), fun q1 m1 => ?_⟩
    generalize f1 : upd H1 q1 _ = G1
    obtain ⟨U1, g1⟩ := newF m1 f1
    have V1 := T0.trans (T1.trans U1)
    walk_at "rd"
    refine ⟨(by show 4 ≤ sizeLine; decide), fun p2 n2 => ?_⟩
    generalize e2 : upd G1 p2 _ = H2
    obtain ⟨S2, h2⟩ := newF n2 e2
    change H2 p2 = some (.lst (mn_law_no_name2.map V.str)) at h2
    have T2 := S2
    walk_at "rd"
    refine ⟨q1, p2, _, _, rfl, rfl, T2 _ _ g1, h2, (by show 13 ≤ sizeLine; decide), fun q2 m2 => ?_⟩
    generalize f2 : upd H2 q2 _ = G2
    obtain ⟨U2, g2⟩ := newF m2 f2
    have V2 := V1.trans (T2.trans U2)
    walk_at "rd"
    refine ⟨(by show 4 ≤ sizeLine; decide), fun p3 n3 => ?_⟩
    generalize e3 : upd G2 p3 _ = H3
    obtain ⟨S3, h3⟩ := newF n3 e3
    change H3 p3 = some (.lst (mn_law_no_name3.map V.str)) at h3
    have T3 := S3
    walk_at "rd"
    refine ⟨q2, p3, _, _, rfl, rfl, T3 _ _ g2, h3, (by show 17 ≤ sizeLine; decide), fun q3 m3 => ?_⟩
    generalize f3 : upd H3 q3 _ = G3
    obtain ⟨U3, g3⟩ := newF m3 f3
    have V3 := V2.trans (T3.trans U3)
    walk_at "rd"
    obtain ⟨v, hv, hm⟩ := lst_mod (xs := mn_law_no_name0.map V.str ++ mn_law_no_name1.map V.str ++ mn_law_no_name2.map V.str ++ mn_law_no_name3.map V.str) n (by decide)
    refine ⟨_, _, _, v, rfl, rfl, SqL.of g3, hv, ?_⟩
    simp only [← List.map_append] at hm
    obtain ⟨x, hx, rfl⟩ := List.mem_map.mp hm
    exact k _ x V3 hx
def sp__law_no_text : Sp := fun vs H Q _ => ∃ n : Int, vs = [.int n] ∧ ∀ H' x, Same H H' → x ∈ mn_law_no_text → Q (.str x) H'
theorem ok__law_no_text (D : Df K mg "_law_no_text" s__law_no_text ["number"]) (T : Txt K mg) : G' P w K mg base "_law_no_text" 1 ["number"] sp__law_no_text := by
  refine D.ok fun f fd F => F.okX sc__law_no_text (fun vs H Q E h => ?_) (fun cdv A outer s H vs Q E hr h => ?_)
  · obtain ⟨n, rfl, _⟩ := h
    rfl
  · obtain ⟨n, rfl, k⟩ := h
    refine ⟨_, (pss_cons (ps_set (i := 1) sc__law_no_text.nd rfl (by first | exact Or.inl rfl | exact Or.inr rfl) (pe_lst (pa_cons pe_str (pa_cons pe_str (pa_cons pe_str pa_nil)))))
  (pss_cons (ps_set (i := 1) sc__law_no_text.nd rfl (by first | exact Or.inl rfl | exact Or.inr rfl) (pe_op op_cat (pv 1) (pe_lst (pa_cons pe_str (pa_cons pe_str (pa_cons pe_str pa_nil))))))
  (pss_cons (ps_set (i := 1) sc__law_no_text.nd rfl (by first | exact Or.inl rfl | exact Or.inr rfl) (pe_op op_cat (pv 1) (pe_lst (pa_cons pe_str (pa_cons pe_str (pa_cons pe_str (pa_cons pe_str pa_nil)))))))
  (pss_cons (ps_set (i := 1) sc__law_no_text.nd rfl (by first | exact Or.inl rfl | exact Or.inr rfl) (pe_op op_cat (pv 1) (pe_lst (pa_cons pe_str (pa_cons pe_str (pa_cons pe_str pa_nil))))))
  (pss_one (ps_ret (pe_ix (ix_listK K) (pv 1) (pe_op op_mod (pv 0) (pe_callB (call_lenK K) (by rfl) T.n_len PySem.boot_len (pa_cons (pv 1) pa_nil))) (fun _ _ => rfl)))))))), ?_⟩
    walk_at "rd"
    refine ⟨(by show 3 ≤ sizeLine; decide), fun p0 n0 => ?_⟩
    generalize e0 : upd H p0 _ = H0
    obtain ⟨S0, h0⟩ := newF n0 e0
    change H0 p0 = some (.lst (mn_law_no_text0.map V.str)) at h0
    have T0 := S0
    walk_at "rd"
    refine ⟨(by show 3 ≤ sizeLine; decide), fun p1 n1 => ?_⟩
    generalize e1 : upd H0 p1 _ = H1
    obtain ⟨S1, h1⟩ := newF n1 e1
    change H1 p1 = some (.lst (mn_law_no_text1.map V.str)) at h1
    have T1 := S1
    walk_at "rd"
    refine ⟨p0, p1, _, _, rfl, rfl, T1 _ _ h0, h1, (by show 6 ≤ sizeLine; decide), fun q1 m1 => ?_⟩
    generalize f1 : upd H1 q1 _ = G1
    obtain ⟨U1, g1⟩ := newF m1 f1
    have V1 := T0.trans (T1.trans U1)
    walk_at "rd"
    refine ⟨(by show 4 ≤ sizeLine; decide), fun p2 n2 => ?_⟩
    generalize e2 : upd G1 p2 _ = H2
    obtain ⟨S2, h2⟩ := newF n2 e2
    change H2 p2 = some (.lst (mn_law_no_text2.map V.str)) at h2
    have T2 := S2
    walk_at "rd"
    refine ⟨q1, p2, _, _, rfl, rfl, T2 _ _ g1, h2, (by show 10 ≤ sizeLine; decide), fun q2 m2 => ?_⟩
    generalize f2 : upd H2 q2 _ = G2
    obtain ⟨U2, g2⟩ := newF m2 f2
    have V2 := V1.trans (T2.trans U2)
    walk_at "rd"
    refine ⟨(by show 3 ≤ sizeLine; decide), fun p3 n3 => ?_⟩
    generalize e3 : upd G2 p3 _ = H3
    obtain ⟨S3, h3⟩ := newF n3 e3
    change H3 p3 = some (.lst (mn_law_no_text3.map V.str)) at h3
    have T3 := S3
    walk_at "rd"
    refine ⟨q2, p3, _, _, rfl, rfl, T3 _ _ g2, h3, (by show 13 ≤ sizeLine; decide), fun q3 m3 => ?_⟩
    generalize f3 : upd H3 q3 _ = G3
    obtain ⟨U3, g3⟩ := newF m3 f3
    have V3 := V2.trans (T3.trans U3)
    walk_at "rd"
    obtain ⟨v, hv, hm⟩ := lst_mod (xs := mn_law_no_text0.map V.str ++ mn_law_no_text1.map V.str ++ mn_law_no_text2.map V.str ++ mn_law_no_text3.map V.str) n (by decide)
    refine ⟨_, _, _, v, rfl, rfl, SqL.of g3, hv, ?_⟩
    simp only [← List.map_append] at hm
    obtain ⟨x, hx, rfl⟩ := List.mem_map.mp hm
    exact k _ x V3 hx
def sp__law_no_row (K : PySem.W.Frag) : Sp := fun vs H Q _ => ∃ n : Int, vs = [.int n] ∧ ∀ H' v, Same H H' → (∃ x ∈ mn_law_no_row, v = .str x) ∨ NoTxN K H H' v → Q v H'
theorem ok__law_no_row (D : Df K mg "_law_no_row" s__law_no_row ["number"]) (T : Txt K mg) : G' P w K mg base "_law_no_row" 1 ["number"] (sp__law_no_row K) := by
  refine D.ok fun f fd F => F.okX sc__law_no_row (fun vs H Q E h => ?_) (fun cdv A outer s H vs Q E hr h => ?_)
  · obtain ⟨n, rfl, _⟩ := h
    rfl
  · obtain ⟨n, rfl, k⟩ := h
    refine ⟨_, (pss_cons (ps_set (i := 1) sc__law_no_row.nd rfl (by first | exact Or.inl rfl | exact Or.inr rfl) (pe_lst (pa_cons pe_str (pa_cons pe_str (pa_cons pe_str (pa_cons pe_str (pa_cons pe_str pa_nil)))))))
  (pss_cons (ps_set (i := 1) sc__law_no_row.nd rfl (by first | exact Or.inl rfl | exact Or.inr rfl) (pe_op op_cat (pv 1) (pe_lst (pa_cons pe_str (pa_cons pe_str (pa_cons pe_str (pa_cons pe_str (pa_cons pe_str pa_nil))))))))
  (pss_cons (ps_set (i := 1) sc__law_no_row.nd rfl (by first | exact Or.inl rfl | exact Or.inr rfl) (pe_op op_cat (pv 1) (pe_lst (pa_cons pe_str (pa_cons pe_str (pa_cons pe_str (pa_cons pe_str (pa_cons pe_str pa_nil))))))))
  (pss_cons (ps_set (i := 1) sc__law_no_row.nd rfl (by first | exact Or.inl rfl | exact Or.inr rfl) (pe_op op_cat (pv 1) (pe_lst (pa_cons pe_str (pa_cons pe_str (pa_cons pe_str (pa_cons pe_str pa_nil)))))))
  (pss_cons (ps_set (i := 1) sc__law_no_row.nd rfl (by first | exact Or.inl rfl | exact Or.inr rfl) (pe_op op_cat (pv 1) (pe_lst (pa_cons pe_str (pa_cons pe_str (pa_cons pe_str (pa_cons pe_str (pa_cons pe_str (pa_cons pe_str pa_nil)))))))))
  (pss_cons (ps_set (i := 1) sc__law_no_row.nd rfl (by first | exact Or.inl rfl | exact Or.inr rfl) (pe_op op_cat (pv 1) (pe_lst (pa_cons pe_non (pa_cons pe_int (pa_cons (pe_lst (pa_cons pe_str pa_nil)) (pa_cons (pe_tup (pa_cons pe_str pa_nil)) (pa_cons pe_dnewK pa_nil))))))))
  (pss_one (ps_ret (pe_ix (ix_listK K) (pv 1) (pe_op op_mod (pv 0) (pe_callB (call_lenK K) (by rfl) T.n_len PySem.boot_len (pa_cons (pv 1) pa_nil))) (fun _ _ => rfl)))))))))), ?_⟩
    walk_at "rd"
    refine ⟨(by show 5 ≤ sizeLine; decide), fun p0 n0 => ?_⟩
    generalize e0 : upd H p0 _ = H0
    obtain ⟨S0, h0⟩ := newF n0 e0
    change H0 p0 = some (.lst (mn_law_no_row0.map V.str)) at h0
    have T0 := S0
    walk_at "rd"
    refine ⟨(by show 5 ≤ sizeLine; decide), fun p1 n1 => ?_⟩
    generalize e1 : upd H0 p1 _ = H1
    obtain ⟨S1, h1⟩ := newF n1 e1
    change H1 p1 = some (.lst (mn_law_no_row1.map V.str)) at h1
    have T1 := S1
    walk_at "rd"
    refine ⟨p0, p1, _, _, rfl, rfl, T1 _ _ h0, h1, (by show 10 ≤ sizeLine; decide), fun q1 m1 => ?_⟩
    generalize f1 : upd H1 q1 _ = G1
    obtain ⟨U1, g1⟩ := newF m1 f1
    have V1 := T0.trans (T1.trans U1)
    walk_at "rd"
    refine ⟨(by show 5 ≤ sizeLine; decide), fun p2 n2 => ?_⟩
    generalize e2 : upd G1 p2 _ = H2
    obtain ⟨S2, h2⟩ := newF n2 e2
    change H2 p2 = some (.lst (mn_law_no_row2.map V.str)) at h2
    have T2 := S2
    walk_at "rd"
    refine ⟨q1, p2, _, _, rfl, rfl, T2 _ _ g1, h2, (by show 15 ≤ sizeLine; decide), fun q2 m2 => ?_⟩
    generalize f2 : upd H2 q2 _ = G2
    obtain ⟨U2, g2⟩ := newF m2 f2
    have V2 := V1.trans (T2.trans U2)
    walk_at "rd"
    refine ⟨(by show 4 ≤ sizeLine; decide), fun p3 n3 => ?_⟩
    generalize e3 : upd G2 p3 _ = H3
    obtain ⟨S3, h3⟩ := newF n3 e3
    change H3 p3 = some (.lst (mn_law_no_row3.map V.str)) at h3
    have T3 := S3
    walk_at "rd"
    refine ⟨q2, p3, _, _, rfl, rfl, T3 _ _ g2, h3, (by show 19 ≤ sizeLine; decide), fun q3 m3 => ?_⟩
    generalize f3 : upd H3 q3 _ = G3
    obtain ⟨U3, g3⟩ := newF m3 f3
    have V3 := V2.trans (T3.trans U3)
    walk_at "rd"
    refine ⟨(by show 6 ≤ sizeLine; decide), fun p4 n4 => ?_⟩
    generalize e4 : upd G3 p4 _ = H4
    obtain ⟨S4, h4⟩ := newF n4 e4
    change H4 p4 = some (.lst (mn_law_no_row4.map V.str)) at h4
    have T4 := S4
    walk_at "rd"
    refine ⟨q3, p4, _, _, rfl, rfl, T4 _ _ g3, h4, (by show 25 ≤ sizeLine; decide), fun q4 m4 => ?_⟩
    generalize f4 : upd H4 q4 _ = G4
    obtain ⟨U4, g4⟩ := newF m4 f4
    have V4 := V3.trans (T4.trans U4)
    walk_at "rd"
    refine ⟨(by walk_at "sz"), fun poa noa => ?_⟩
    generalize eoa : upd G4 poa _ = Hoa
    obtain ⟨Soa, hoa⟩ := newF noa eoa
    walk_at "rd"
    refine ⟨(by walk_at "sz"), fun pob nob => ?_⟩
    generalize eob : upd Hoa pob _ = Hob
    obtain ⟨Sob, hob⟩ := newF nob eob
    walk_at "rd"
    refine fun poc noc => ?_
    generalize eoc : upd Hob poc _ = Hoc
    obtain ⟨Soc, hoc⟩ := newF noc eoc
    walk_at "rd"
    refine ⟨(by show 5 ≤ sizeLine; decide), fun p5 n5 => ?_⟩
    generalize e5 : upd Hoc p5 _ = H5
    obtain ⟨S5, h5⟩ := newF n5 e5
    have hoa2 := (Sob.trans (Soc.trans S5)) _ _ hoa
    have hob2 := (Soc.trans S5) _ _ hob
    have hoc2 := S5 _ _ hoc
    have T5 := (Soa.trans (Sob.trans (Soc.trans S5)))
    walk_at "rd"
    refine ⟨q4, p5, _, _, rfl, rfl, T5 _ _ g4, h5, (by show 30 ≤ sizeLine; decide), fun q5 m5 => ?_⟩
    generalize f5 : upd H5 q5 _ = G5
    obtain ⟨U5, g5⟩ := newF m5 f5
    have V5 := V4.trans (T5.trans U5)
    have hoa3 := U5 _ _ hoa2
    have hob3 := U5 _ _ hob2
    have hoc3 := U5 _ _ hoc2
    walk_at "rd"
    obtain ⟨v, hv, hm⟩ := lst_mod (xs := mn_law_no_row0.map V.str ++ mn_law_no_row1.map V.str ++ mn_law_no_row2.map V.str ++ mn_law_no_row3.map V.str ++ mn_law_no_row4.map V.str ++ [V.non, V.int 7, V.ref poa, V.ref pob, V.ref poc]) n (by show 0 < 30; decide)
    refine ⟨(by show (0 : Int) < 30; decide), ?_⟩
    refine ⟨_, _, _, v, rfl, rfl, SqL.of g5, hv, ?_⟩
    simp only [← List.map_append] at hm
    refine k _ v V5 ?_
    rcases List.mem_append.mp hm with hm | hm
    · obtain ⟨x, hx, rfl⟩ := List.mem_map.mp hm
      exact .inl ⟨x, hx, rfl⟩
    · simp only [List.mem_cons, List.not_mem_nil, or_false] at hm
      rcases hm with rfl | rfl | rfl | rfl | rfl
      · exact .inr fun A H'' KK hA => ⟨_, .base .non, kit_ty (by decide +kernel)⟩
      · exact .inr fun A H'' KK hA => ⟨_, .base (.int _), kit_ty (by decide +kernel)⟩
      · exact .inr fun A H'' KK hA => ⟨_, .base (.lst (KK.but _ _ (fun z => hA _ z (V4.free noa)) hoa3)), kit_ty (by decide +kernel)⟩
      · exact .inr fun A H'' KK hA => ⟨_, .base (.tup (KK.but _ _ (fun z => hA _ z ((V4.trans Soa).free nob)) hob3)), kit_ty (by decide +kernel)⟩
      · exact .inr fun A H'' KK hA => ⟨_, .base (.dK (KK.but _ _ (fun z => hA _ z ((V4.trans (Soa.trans Sob)).free noc)) hoc3)), kit_ty (by decide +kernel)⟩
def sp__law_others : Sp := fun vs H Q _ => ∃ n : Int, vs = [.int n] ∧ ∀ H' t x c, Same H H' → (x, c) ∈ mn_law_others → H' t = some (.tup [.str x, .str c]) → Q (.ref t) H'
theorem ok__law_others (D : Df K mg "_law_others" s__law_others ["number"]) (T : Txt K mg) : G' P w K mg base "_law_others" 1 ["number"] sp__law_others := by
  refine D.ok fun f fd F => F.okX sc__law_others (fun vs H Q E h => ?_) (fun cdv A outer s H vs Q E hr h => ?_)
  · obtain ⟨n, rfl, _⟩ := h
    rfl
  · obtain ⟨n, rfl, k⟩ := h
    refine ⟨_, (pss_cons (ps_set (i := 1) sc__law_others.nd rfl (by first | exact Or.inl rfl | exact Or.inr rfl) (pe_lst (pa_cons (pe_tup (pa_cons pe_str (pa_cons pe_str pa_nil))) (pa_cons (pe_tup (pa_cons pe_str (pa_cons pe_str pa_nil))) pa_nil))))
  (pss_cons (ps_set (i := 1) sc__law_others.nd rfl (by first | exact Or.inl rfl | exact Or.inr rfl) (pe_op op_cat (pv 1) (pe_lst (pa_cons (pe_tup (pa_cons pe_str (pa_cons pe_str pa_nil))) (pa_cons (pe_tup (pa_cons pe_str (pa_cons pe_str pa_nil))) pa_nil)))))
  (pss_cons (ps_set (i := 1) sc__law_others.nd rfl (by first | exact Or.inl rfl | exact Or.inr rfl) (pe_op op_cat (pv 1) (pe_lst (pa_cons (pe_tup (pa_cons pe_str (pa_cons pe_str pa_nil))) (pa_cons (pe_tup (pa_cons pe_str (pa_cons pe_str pa_nil))) pa_nil)))))
  (pss_cons (ps_set (i := 1) sc__law_others.nd rfl (by first | exact Or.inl rfl | exact Or.inr rfl) (pe_op op_cat (pv 1) (pe_lst (pa_cons (pe_tup (pa_cons pe_str (pa_cons pe_str pa_nil))) (pa_cons (pe_tup (pa_cons pe_str (pa_cons pe_str pa_nil))) pa_nil)))))
  (pss_cons (ps_set (i := 1) sc__law_others.nd rfl (by first | exact Or.inl rfl | exact Or.inr rfl) (pe_op op_cat (pv 1) (pe_lst (pa_cons (pe_tup (pa_cons pe_str (pa_cons pe_str pa_nil))) (pa_cons (pe_tup (pa_cons pe_str (pa_cons pe_str pa_nil))) pa_nil)))))
  (pss_cons (ps_set (i := 1) sc__law_others.nd rfl (by first | exact Or.inl rfl | exact Or.inr rfl) (pe_op op_cat (pv 1) (pe_lst (pa_cons (pe_tup (pa_cons pe_str (pa_cons pe_str pa_nil))) (pa_cons (pe_tup (pa_cons pe_str (pa_cons pe_str pa_nil))) pa_nil)))))
  (pss_one (ps_ret (pe_ix (ix_listK K) (pv 1) (pe_op op_mod (pv 0) (pe_callB (call_lenK K) (by rfl) T.n_len PySem.boot_len (pa_cons (pv 1) pa_nil))) (fun _ _ => rfl)))))))))), ?_⟩
    walk_at "rd"
    refine ⟨(by walk_at "sz"), fun px0_0 nx0_0 => ?_⟩
    generalize ex0_0 : upd H px0_0 _ = Hx0_0
    obtain ⟨Sx0_0, hx0_0⟩ := newF nx0_0 ex0_0
    walk_at "rd"
    refine ⟨(by walk_at "sz"), fun px0_1 nx0_1 => ?_⟩
    generalize ex0_1 : upd Hx0_0 px0_1 _ = Hx0_1
    obtain ⟨Sx0_1, hx0_1⟩ := newF nx0_1 ex0_1
    walk_at "rd"
    refine ⟨(by show 2 ≤ sizeLine; decide), fun p0 n0 => ?_⟩
    generalize e0 : upd Hx0_1 p0 _ = H0
    obtain ⟨S0, h0⟩ := newF n0 e0
    have z0 : PrV H0 _ mn_law_others0 := (.cons ⟨px0_0, rfl, (Sx0_1.trans S0) _ _ hx0_0⟩ (.cons ⟨px0_1, rfl, S0 _ _ hx0_1⟩ .nil))
    have T0 := (Sx0_0.trans (Sx0_1.trans S0))
    walk_at "rd"
    refine ⟨(by walk_at "sz"), fun px1_0 nx1_0 => ?_⟩
    generalize ex1_0 : upd H0 px1_0 _ = Hx1_0
    obtain ⟨Sx1_0, hx1_0⟩ := newF nx1_0 ex1_0
    walk_at "rd"
    refine ⟨(by walk_at "sz"), fun px1_1 nx1_1 => ?_⟩
    generalize ex1_1 : upd Hx1_0 px1_1 _ = Hx1_1
    obtain ⟨Sx1_1, hx1_1⟩ := newF nx1_1 ex1_1
    walk_at "rd"
    refine ⟨(by show 2 ≤ sizeLine; decide), fun p1 n1 => ?_⟩
    generalize e1 : upd Hx1_1 p1 _ = H1
    obtain ⟨S1, h1⟩ := newF n1 e1
    have z1 : PrV H1 _ mn_law_others1 := (.cons ⟨px1_0, rfl, (Sx1_1.trans S1) _ _ hx1_0⟩ (.cons ⟨px1_1, rfl, S1 _ _ hx1_1⟩ .nil))
    have T1 := (Sx1_0.trans (Sx1_1.trans S1))
    walk_at "rd"
    refine ⟨p0, p1, _, _, rfl, rfl, T1 _ _ h0, h1, (by show 4 ≤ sizeLine; decide), fun q1 m1 => ?_⟩
    generalize f1 : upd H1 q1 _ = G1
    obtain ⟨U1, g1⟩ := newF m1 f1
    have V1 := T0.trans (T1.trans U1)
    have y1 := (z0.stay (T1.trans U1)).app (z1.stay U1)
    walk_at "rd"
    refine ⟨(by walk_at "sz"), fun px2_0 nx2_0 => ?_⟩
    generalize ex2_0 : upd G1 px2_0 _ = Hx2_0
    obtain ⟨Sx2_0, hx2_0⟩ := newF nx2_0 ex2_0
    walk_at "rd"
    refine ⟨(by walk_at "sz"), fun px2_1 nx2_1 => ?_⟩
    generalize ex2_1 : upd Hx2_0 px2_1 _ = Hx2_1
    obtain ⟨Sx2_1, hx2_1⟩ := newF nx2_1 ex2_1
    walk_at "rd"
    refine ⟨(by show 2 ≤ sizeLine; decide), fun p2 n2 => ?_⟩
    generalize e2 : upd Hx2_1 p2 _ = H2
    obtain ⟨S2, h2⟩ := newF n2 e2
    have z2 : PrV H2 _ mn_law_others2 := (.cons ⟨px2_0, rfl, (Sx2_1.trans S2) _ _ hx2_0⟩ (.cons ⟨px2_1, rfl, S2 _ _ hx2_1⟩ .nil))
    have T2 := (Sx2_0.trans (Sx2_1.trans S2))
    walk_at "rd"
    refine ⟨q1, p2, _, _, rfl, rfl, T2 _ _ g1, h2, (by show 6 ≤ sizeLine; decide), fun q2 m2 => ?_⟩
    generalize f2 : upd H2 q2 _ = G2
    obtain ⟨U2, g2⟩ := newF m2 f2
    have V2 := V1.trans (T2.trans U2)
    have y2 := (y1.stay (T2.trans U2)).app (z2.stay U2)
    walk_at "rd"
    refine ⟨(by walk_at "sz"), fun px3_0 nx3_0 => ?_⟩
    generalize ex3_0 : upd G2 px3_0 _ = Hx3_0
    obtain ⟨Sx3_0, hx3_0⟩ := newF nx3_0 ex3_0
    walk_at "rd"
    refine ⟨(by walk_at "sz"), fun px3_1 nx3_1 => ?_⟩
    generalize ex3_1 : upd Hx3_0 px3_1 _ = Hx3_1
    obtain ⟨Sx3_1, hx3_1⟩ := newF nx3_1 ex3_1
    walk_at "rd"
    refine ⟨(by show 2 ≤ sizeLine; decide), fun p3 n3 => ?_⟩
    generalize e3 : upd Hx3_1 p3 _ = H3
    obtain ⟨S3, h3⟩ := newF n3 e3
    have z3 : PrV H3 _ mn_law_others3 := (.cons ⟨px3_0, rfl, (Sx3_1.trans S3) _ _ hx3_0⟩ (.cons ⟨px3_1, rfl, S3 _ _ hx3_1⟩ .nil))
    have T3 := (Sx3_0.trans (Sx3_1.trans S3))
    walk_at "rd"
    refine ⟨q2, p3, _, _, rfl, rfl, T3 _ _ g2, h3, (by show 8 ≤ sizeLine; decide), fun q3 m3 => ?_⟩
    generalize f3 : upd H3 q3 _ = G3
    obtain ⟨U3, g3⟩ := newF m3 f3
    have V3 := V2.trans (T3.trans U3)
    have y3 := (y2.stay (T3.trans U3)).app (z3.stay U3)
    walk_at "rd"
    refine ⟨(by walk_at "sz"), fun px4_0 nx4_0 => ?_⟩
    generalize ex4_0 : upd G3 px4_0 _ = Hx4_0
    obtain ⟨Sx4_0, hx4_0⟩ := newF nx4_0 ex4_0
    walk_at "rd"
    refine ⟨(by walk_at "sz"), fun px4_1 nx4_1 => ?_⟩
    generalize ex4_1 : upd Hx4_0 px4_1 _ = Hx4_1
    obtain ⟨Sx4_1, hx4_1⟩ := newF nx4_1 ex4_1
    walk_at "rd"
    refine ⟨(by show 2 ≤ sizeLine; decide), fun p4 n4 => ?_⟩
    generalize e4 : upd Hx4_1 p4 _ = H4
    obtain ⟨S4, h4⟩ := newF n4 e4
    have z4 : PrV H4 _ mn_law_others4 := (.cons ⟨px4_0, rfl, (Sx4_1.trans S4) _ _ hx4_0⟩ (.cons ⟨px4_1, rfl, S4 _ _ hx4_1⟩ .nil))
    have T4 := (Sx4_0.trans (Sx4_1.trans S4))
    walk_at "rd"
    refine ⟨q3, p4, _, _, rfl, rfl, T4 _ _ g3, h4, (by show 10 ≤ sizeLine; decide), fun q4 m4 => ?_⟩
    generalize f4 : upd H4 q4 _ = G4
    obtain ⟨U4, g4⟩ := newF m4 f4
    have V4 := V3.trans (T4.trans U4)
    have y4 := (y3.stay (T4.trans U4)).app (z4.stay U4)
    walk_at "rd"
    refine ⟨(by walk_at "sz"), fun px5_0 nx5_0 => ?_⟩
    generalize ex5_0 : upd G4 px5_0 _ = Hx5_0
    obtain ⟨Sx5_0, hx5_0⟩ := newF nx5_0 ex5_0
    walk_at "rd"
    refine ⟨(by walk_at "sz"), fun px5_1 nx5_1 => ?_⟩
    generalize ex5_1 : upd Hx5_0 px5_1 _ = Hx5_1
    obtain ⟨Sx5_1, hx5_1⟩ := newF nx5_1 ex5_1
    walk_at "rd"
    refine ⟨(by show 2 ≤ sizeLine; decide), fun p5 n5 => ?_⟩
    generalize e5 : upd Hx5_1 p5 _ = H5
    obtain ⟨S5, h5⟩ := newF n5 e5
    have z5 : PrV H5 _ mn_law_others5 := (.cons ⟨px5_0, rfl, (Sx5_1.trans S5) _ _ hx5_0⟩ (.cons ⟨px5_1, rfl, S5 _ _ hx5_1⟩ .nil))
    have T5 := (Sx5_0.trans (Sx5_1.trans S5))
    walk_at "rd"
    refine ⟨q4, p5, _, _, rfl, rfl, T5 _ _ g4, h5, (by show 12 ≤ sizeLine; decide), fun q5 m5 => ?_⟩
    generalize f5 : upd H5 q5 _ = G5
    obtain ⟨U5, g5⟩ := newF m5 f5
    have V5 := V4.trans (T5.trans U5)
    have y5 := (y4.stay (T5.trans U5)).app (z5.stay U5)
    walk_at "rd"
    obtain ⟨v, hv, hm⟩ := lst_mod n (show 0 < List.length _ from Nat.lt_of_lt_of_eq (by decide) (Paired.length y5).symm)
    refine ⟨(by show (0 : Int) < 12; decide), ?_⟩
    refine ⟨_, _, _, v, rfl, rfl, SqL.of g5, hv, ?_⟩
    obtain ⟨⟨x, c⟩, hp, t, rfl, ht⟩ := y5.mem hm
    exact k _ t x c V5 hp ht
end
end Hy
set_option Elab.async false
set_option linter.all false
set_option maxRecDepth 100000
set_option maxHeartbeats 4000000
namespace Hy
open PySem L2 StrLaws
/-! ### x.split(' ', 2) -/
def occStep (s sub : Str) (hi limit : Nat) (st : Array Nat × Nat) (i : Nat) : Array Nat × Nat :=
  if ((st.fst.size < limit ∧ st.snd ≤ i) ∧ i + sub.length ≤ hi) ∧ PySem.Builtin.Str.subAt s sub i = true then (st.fst.push i, i + sub.length) else st
theorem occ_fold (s sub : Str) (hi limit : Nat) : ∀ (l : List Nat) (st : Array Nat × Nat), (forIn l st (occBody s sub hi limit)).run = l.foldl (occStep s sub hi limit) st
  | [], _ => rfl
  | a :: l, st => by
    rw [List.forIn_cons, List.foldl_cons]
    unfold occBody occStep
    split
    · exact occ_fold s sub hi limit l _
    · exact occ_fold s sub hi limit l _
theorem step_no {s sub : Str} {hi limit : Nat} : ∀ (l : List Nat) (st : Array Nat × Nat), (∀ i ∈ l, PySem.Builtin.Str.subAt s sub i = false) → l.foldl (occStep s sub hi limit) st = st
  | [], _, _ => rfl
  | a :: l, st, h => by
    rw [List.foldl_cons]
    have e : occStep s sub hi limit st a = st := by
      unfold occStep
      rw [if_neg]
      rintro ⟨_, z⟩
      rw [h a List.mem_cons_self] at z
      cases z
    rw [e]
    exact step_no l st fun i hi => h i (List.mem_cons_of_mem _ hi)
theorem step_full {s sub : Str} {hi limit : Nat} : ∀ (l : List Nat) (st : Array Nat × Nat), limit ≤ st.fst.size → l.foldl (occStep s sub hi limit) st = st
  | [], _, _ => rfl
  | a :: l, st, h => by
    rw [List.foldl_cons]
    have e : occStep s sub hi limit st a = st := by
      unfold occStep
      rw [if_neg]
      rintro ⟨⟨⟨z, _⟩, _⟩, _⟩
      omega
    rw [e]
    exact step_full l st h
theorem sub_at1 (x : List Nat) (c i : Nat) : PySem.Builtin.Str.subAt (txS x) (txS [c]) i = decide (x[i]? = some c) := by
  unfold PySem.Builtin.Str.subAt
  have e : (txS x).cps.extract i (i + (txS [c]).length) = ((x.drop i).take 1).toArray := by
    have h1 : (txS [c]).length = 1 := rfl
    rw [h1]
    show x.toArray.extract i (i + 1) = _
    apply Array.toList_inj.mp
    simp [List.extract, Nat.add_sub_cancel_left]
  rw [e]
  show (((x.drop i).take 1).toArray == [c].toArray) = _
  cases h : x[i]? with
  | none =>
    have hl : x.length ≤ i := List.getElem?_eq_none_iff.mp h
    rw [List.drop_of_length_le hl, decide_eq_false (by simp)]
    rfl
  | some d =>
    obtain ⟨hl, hd⟩ := List.getElem?_eq_some_iff.mp h
    rw [List.drop_eq_getElem_cons hl, hd]
    by_cases hc : d = c
    · subst hc
      simp
    · rw [decide_eq_false (by simpa using hc)]
      simpa using hc
theorem splitMax2 {p q m : List Nat} (hp : 32 ∉ p) (hq : 32 ∉ q) : Txt.splitMax (txS (p ++ 32 :: (q ++ 32 :: m))) (txS [32]) 2 = [txS p, txS q, txS m] := by
  have hlen : (txS (p ++ 32 :: (q ++ 32 :: m))).length = p.length + (q.length + m.length + 2) := by
    rw [txS_len]
    simp only [List.length_append, List.length_cons]
    omega
  have h1 : (txS [32]).length = 1 := rfl
  have hocc : PySem.Builtin.Str.occurrences (txS (p ++ 32 :: (q ++ 32 :: m))) (txS [32]) 0 (txS (p ++ 32 :: (q ++ 32 :: m))).length (limitOf (txS (p ++ 32 :: (q ++ 32 :: m))) 2) = [p.length, p.length + 1 + q.length] := by
    have el : limitOf (txS (p ++ 32 :: (q ++ 32 :: m))) 2 = 2 := by unfold limitOf; rw [if_neg (by decide)]; rfl
    rw [el, occ_eq, occ_fold, hlen]
    have er : List.range' 0 (p.length + (q.length + m.length + 2) + 1 - 0) = List.range' 0 p.length ++ (p.length :: (List.range' (p.length + 1) q.length ++ ((p.length + 1 + q.length) :: List.range' (p.length + 1 + q.length + 1) (m.length + 1)))) := by
      have e1 : p.length :: (List.range' (p.length + 1) q.length ++ ((p.length + 1 + q.length) :: List.range' (p.length + 1 + q.length + 1) (m.length + 1))) = List.range' p.length (1 + (q.length + (1 + (m.length + 1)))) := by
        rw [Nat.add_comm 1, List.range'_succ]
        congr 1
        rw [← List.range'_append_1]
        congr 1
        rw [Nat.add_comm 1, List.range'_succ]
        rfl
      rw [e1]
      have := List.range'_append_1 (s := 0) (m := p.length) (n := 1 + (q.length + (1 + (m.length + 1))))
      rw [Nat.zero_add] at this
      rw [this]
      congr 1
      omega
    rw [er, List.foldl_append, List.foldl_cons, List.foldl_append, List.foldl_cons]
    have a1 : ∀ i ∈ List.range' 0 p.length, PySem.Builtin.Str.subAt (txS (p ++ 32 :: (q ++ 32 :: m))) (txS [32]) i = false := fun i hi => by
      rw [List.mem_range'_1] at hi
      rw [sub_at1, List.getElem?_append_left (by omega)]
      exact decide_eq_false fun z => hp (List.mem_of_getElem? z)
    have a2 : PySem.Builtin.Str.subAt (txS (p ++ 32 :: (q ++ 32 :: m))) (txS [32]) p.length = true := by
      rw [sub_at1, List.getElem?_append_right (Nat.le_refl _), Nat.sub_self]
      exact decide_eq_true rfl
    have a3 : ∀ i ∈ List.range' (p.length + 1) q.length, PySem.Builtin.Str.subAt (txS (p ++ 32 :: (q ++ 32 :: m))) (txS [32]) i = false := fun i hi => by
      rw [List.mem_range'_1] at hi
      rw [sub_at1, List.getElem?_append_right (by omega)]
      have e : i - p.length = (i - p.length - 1) + 1 := by omega
      rw [e, List.getElem?_cons_succ, List.getElem?_append_left (by omega)]
      exact decide_eq_false fun z => hq (List.mem_of_getElem? z)
    have a4 : PySem.Builtin.Str.subAt (txS (p ++ 32 :: (q ++ 32 :: m))) (txS [32]) (p.length + 1 + q.length) = true := by
      rw [sub_at1, List.getElem?_append_right (by omega)]
      have e : p.length + 1 + q.length - p.length = q.length + 1 := by omega
      rw [e, List.getElem?_cons_succ, List.getElem?_append_right (Nat.le_refl _), Nat.sub_self]
      exact decide_eq_true rfl
    rw [step_no _ _ a1]
    have s2 : occStep (txS (p ++ 32 :: (q ++ 32 :: m))) (txS [32]) (p.length + (q.length + m.length + 2)) 2 (#[], 0) p.length = (#[p.length], p.length + 1) := by
      unfold occStep
      rw [if_pos ⟨⟨⟨by simp, Nat.zero_le _⟩, by rw [h1]; omega⟩, a2⟩, h1]
      rfl
    rw [s2, step_no _ _ a3]
    have s4 : occStep (txS (p ++ 32 :: (q ++ 32 :: m))) (txS [32]) (p.length + (q.length + m.length + 2)) 2 (#[p.length], p.length + 1) (p.length + 1 + q.length) = (#[p.length, p.length + 1 + q.length], p.length + 1 + q.length + 1) := by
      unfold occStep
      rw [if_pos ⟨⟨⟨by simp, by simp⟩, by rw [h1]; omega⟩, a4⟩, h1]
      rfl
    rw [s4, step_full _ _ (by simp)]
  unfold Txt.splitMax
  rw [hocc]
  have hk : (decide ((txS (p ++ 32 :: (q ++ 32 :: m))).length < (txS [32]).length) || decide (PySem.Builtin.Str.strKind (txS (p ++ 32 :: (q ++ 32 :: m))) < PySem.Builtin.Str.strKind (txS [32]))) = false := by
    rw [Bool.or_eq_false_iff]
    exact ⟨decide_eq_false (by rw [hlen, h1]; omega), decide_eq_false (TL.kind_ok (by decide +kernel))⟩
  rw [if_neg (by rw [hk]; decide), if_neg (by simp), partsBetween_eq]
  show [PySem.Builtin.Str.strSub _ 0 p.length, PySem.Builtin.Str.strSub _ (p.length + (txS [32]).length) (p.length + 1 + q.length), PySem.Builtin.Str.strSub _ (p.length + 1 + q.length + (txS [32]).length) _] = _
  have sub : ∀ (x : List Nat) (i j : Nat), PySem.Builtin.Str.strSub (txS x) i j = txS ((x.drop i).take (j - i)) := fun x i j => by
    refine TL.ext_tl ?_
    rw [TL.tl_strSub]
  rw [h1, sub, sub, sub, hlen]
  have e1 : ((p ++ 32 :: (q ++ 32 :: m)).drop 0).take (p.length - 0) = p := by simp
  have e2 : (p ++ 32 :: (q ++ 32 :: m)).drop (p.length + 1) = q ++ 32 :: m := by
    rw [List.drop_append, List.drop_of_length_le (by omega), Nat.add_sub_cancel_left]
    rfl
  have e3 : (p ++ 32 :: (q ++ 32 :: m)).drop (p.length + 1 + q.length + 1) = m := by
    rw [show p.length + 1 + q.length + 1 = (p.length + 1) + (q.length + 1) by omega, ← List.drop_drop, e2, List.drop_append, List.drop_of_length_le (by omega), Nat.add_sub_cancel_left]
    rfl
  rw [e1, e2, e3, show p.length + 1 + q.length - (p.length + 1) = q.length by omega, List.take_left, List.take_of_length_le (by omega)]
end Hy
set_option Elab.async false
set_option linter.all false
set_option maxRecDepth 100000
set_option maxHeartbeats 4000000
namespace Hy
open PySem L2
local macro_rules | `(tactic| walk_at "hp") => `(tactic| first
  | assumption | exact upd_same
  | (refine (upd_ne ?_).trans ?_ <;> first | assumption | (exact Ne.symm (by assumption)) | walk_at "ne" | walk_at "hp")
  | (refine (by assumption : Same _ _) _ _ ?_; assumption))
local macro_rules | `(tactic| walk_at "ne") => `(tactic| first
  | assumption | (exact Ne.symm (by assumption))
  | exact ne_of_none (by assumption) (by assumption) | exact Ne.symm (ne_of_none (by assumption) (by assumption)))
local macro_rules | `(tactic| walk_at "sz") => `(tactic| first | assumption | (show 0 ≤ sizeLine; decide) | (show 1 ≤ sizeLine; decide) | (show 2 ≤ sizeLine; decide) | (show 3 ≤ sizeLine; decide))
local macro_rules | `(tactic| walk_at "ar") => `(tactic| first
  | ((with_reducible show (0 : Int) < _); first | decide | omega)
  | ((with_reducible show CMul _ _); first | exact Or.inr (And.intro (by decide) (by decide)) | exact Or.inl (And.intro (by decide) (by decide)) | (refine Or.inl (And.intro ?_ ?_) <;> omega) | (refine Or.inr (And.intro ?_ ?_) <;> omega))
  | ((with_reducible show CPow _ _); exact And.intro (by decide) (And.intro (by decide) (by decide)))
  | ((with_reducible show CDiv _ _); first | exact And.intro (by decide) (by decide) | (refine And.intro ?_ ?_ <;> omega)))
/- one step of a reading -/
local macro_rules | `(tactic| walk_at "r1") => `(tactic| first
  | refine ⟨_, rfl, ?_⟩
  | refine iteB (by rfl) ?_ | refine iteC (by rfl) ?_
  | refine ⟨_, _, rfl, rfl, ?_⟩
  | refine ⟨rfl, ?_⟩
  | refine ⟨⟨_, rfl⟩, ?_⟩
  | refine ⟨_, _, _, _, true, rfl, .ty _, .base (.str _), kit_ty (by decide +kernel), ?_⟩
  | refine ⟨_, _, _, _, false, rfl, .ty _, .base (.str _), kit_ty (by decide +kernel), ?_⟩
  | refine ⟨_, _, _, _, true, rfl, .ty _, .base (.int _), kit_ty (by decide +kernel), ?_⟩
  | refine ⟨_, _, _, _, false, rfl, .ty _, .base (.int _), kit_ty (by decide +kernel), ?_⟩
  | refine ⟨_, _, _, _, true, rfl, .ty _, .base (.tup (by walk_at "hp")), kit_ty (by decide +kernel), ?_⟩
  | refine ⟨_, _, _, _, false, rfl, .ty _, .base (.tup (by walk_at "hp")), kit_ty (by decide +kernel), ?_⟩
  | refine ⟨_, _, _, _, true, rfl, .ty _, .base (.lst (by walk_at "hp")), kit_ty (by decide +kernel), ?_⟩
  | refine ⟨_, _, _, _, false, rfl, .ty _, .base (.lst (by walk_at "hp")), kit_ty (by decide +kernel), ?_⟩
  | refine ⟨_, _, rfl, ⟨by walk_at "sz", rfl⟩, ?_⟩
  | refine ⟨_, _, _, _, rfl, rfl, SqT.of (by walk_at "hp"), by rfl, ?_⟩
  | refine ⟨_, _, _, _, rfl, rfl, SqL.of (by walk_at "hp"), by rfl, ?_⟩
  | refine ⟨.inl ⟨rfl, _, SqL.of (by walk_at "hp")⟩, ?_⟩
  | refine ⟨_, _, _, rfl, rfl, (by walk_at "hp"), snoc_get, ?_⟩
  | refine ⟨_, _, _, _, rfl, rfl, (by walk_at "hp"), by rfl, ?_⟩
  | refine ⟨_, _, rfl, SqL.of (by walk_at "hp"), ?_⟩
  | refine ⟨_, _, rfl, SqT.of (by walk_at "hp"), by rfl, ?_⟩
  | refine ⟨_, (_ : List V), rfl, ?_⟩
  | refine ⟨_, _, rfl, .inl ⟨_, (by assumption), rfl⟩, ?_⟩
  | refine ⟨_, _, rfl, .inl ⟨_, SqL.of (by walk_at "hp"), rfl⟩, ?_⟩
  | refine ⟨_, _, rfl, .inr ⟨_, SqT.of (by walk_at "hp"), rfl⟩, ?_⟩
  | refine Or.inl ⟨(_ : Int), rfl, ?_⟩ | refine Or.inr ⟨(_ : Bool), rfl, ?_⟩
  | refine ⟨_, _, _, _, true, rfl, (by assumption : ND _ _ _ _), .ty _, kit_ty (by decide +kernel), ?_⟩
  | refine ⟨_, _, _, _, false, rfl, (by assumption : ND _ _ _ _), .ty _, kit_ty (by decide +kernel), ?_⟩
  | refine ⟨_, _, rfl, (by assumption : ND _ _ _ _), ?_⟩
  | refine And.intro (by walk_at "ar") ?_)
local macro_rules | `(tactic| walk_at "rd") => `(tactic| repeat walk_at "r1")

/-! ### what is due of the menus' rows -/
def rowZb (x : Str) : Bool := decide (x.length ≤ 90000) && !(Txt.split x (txS [32])).isEmpty && decide ((Txt.split x (txS [32])).length ≤ 100000) && decide ((Txt.splitMax x (txS [32]) 2).length ≤ 100000) && (Txt.split x (txS [32])).all (fun p => decide (p.cps.toList.length ≤ 100000)) && (Txt.splitMax x (txS [32]) 2).all fun p => decide (p.cps.toList.length ≤ 100000)
theorem rowZ_of {x : Str} (h : rowZb x = true) : RowZ x := by
  simp only [rowZb, Bool.and_eq_true, decide_eq_true_eq, List.all_eq_true, Bool.not_eq_true', List.isEmpty_eq_false_iff] at h
  obtain ⟨⟨⟨⟨⟨h1, h2⟩, h3⟩, h4⟩, h5⟩, h6⟩ := h
  exact ⟨h1, h2, h3, h4, h5, h6⟩
def PF : List Pf := [⟨"a", [97, 98], 2, 1, 1⟩, ⟨"g", [97, 98], 6, 1, 1⟩, ⟨"z", [122], 1, 0, 1⟩, ⟨"n", [97, 98], 1, 0, 1⟩]
theorem no_row_ok : ∀ x ∈ mn_law_no_row, rowZb x = true ∧ rowW x = none := by
  have h : mn_law_no_row.all (fun x => rowZb x && decide (rowW x = none)) = true := by decide +kernel
  intro x hx
  have := List.all_eq_true.mp h x hx
  rw [Bool.and_eq_true, decide_eq_true_eq] at this
  exact this
def refX (x : Str) : Option Str := match rowW x with
  | some ws => refB PF ws
  | none => none
theorem no_name_ok : ∀ x ∈ mn_law_no_name, rowZb x = true ∧ refX x = some "NoName" := by
  have h : mn_law_no_name.all (fun x => rowZb x && decide (refX x = some "NoName")) = true := by decide +kernel
  intro x hx
  have := List.all_eq_true.mp h x hx
  rw [Bool.and_eq_true, decide_eq_true_eq] at this
  exact this
theorem others_ok : ∀ p ∈ mn_law_others, rowZb p.1 = true ∧ refX p.1 = some p.2 := by
  have h : mn_law_others.all (fun p => rowZb p.1 && decide (refX p.1 = some p.2)) = true := by decide +kernel
  intro x hx
  have := List.all_eq_true.mp h x hx
  rw [Bool.and_eq_true, decide_eq_true_eq] at this
  exact this
theorem due_of {x c : Str} (h : refX x = some c) : DueP PF x c := by
  unfold refX at h
  cases hw : rowW x with
  | none => rw [hw] at h; cases h
  | some ws =>
    rw [hw] at h
    exact .inr ⟨ws, hw, .inl h⟩
theorem due_six {x n s : Str} (h1 : rowW x = some [("judge" : Str), n, s]) (hl : s.cps.toList.length ≤ 90000) (h2 : (Txt.split s (txS [32])).length ≠ 6) : DueP PF x "NoText" :=
  .inr ⟨_, h1, .inr ⟨n, s.cps.toList, by rw [str_tx], hl, .six (by rw [str_tx]; exact h2), rfl⟩⟩
def J1 : Jd := ⟨[97], 1, 0, 1, [1], [0]⟩
def J2 : Jd := ⟨[97], 7, 0, 1, [0], []⟩
theorem rj1 : RJd ("a 1 0 1 0 1" : Str).cps.toList none := by
  have h := RJd.judge (x := ("a 1 0 1 0 1" : Str).cps.toList) J1 [48] { sp := by decide +kernel, st9 := by decide, few9 := by decide, turn9 := by decide, tb9 := by decide, g := goodL_reads (g := [0]) (by decide) (by decide), gl3 := by decide, gd3 := by decide, l3 := by decide, many := by decide, size := by decide }
  rw [if_neg (by decide +kernel)] at h
  exact h
theorem rj2 : RJd ("a 7 0 1 - 0" : Str).cps.toList none := by
  have h := RJd.judge (x := ("a 7 0 1 - 0" : Str).cps.toList) J2 [45] { sp := by decide +kernel, st9 := by decide, few9 := by decide, turn9 := by decide, tb9 := by decide, g := goodL_reads (g := []) (by decide) (by decide), gl3 := by decide, gd3 := by decide, l3 := by decide, many := by decide, size := by decide }
  rw [if_neg (by decide +kernel)] at h
  exact h
theorem due_rj {x n s : Str} (h1 : rowW x = some [("judge" : Str), n, s]) (hl : s.cps.toList.length ≤ 90000) (h2 : RJd s.cps.toList none) : DueP PF x "NoText" :=
  .inr ⟨_, h1, .inr ⟨n, s.cps.toList, by rw [str_tx], hl, h2, rfl⟩⟩
theorem no_text_ok : ∀ x ∈ mn_law_no_text, rowZb x = true ∧ DueP PF x "NoText" := by
  intro x hx
  refine ⟨List.all_eq_true.mp (show mn_law_no_text.all rowZb = true by decide +kernel) x hx, ?_⟩
  simp only [mn_law_no_text, mn_law_no_text0, mn_law_no_text1, mn_law_no_text2, mn_law_no_text3, List.cons_append, List.nil_append, List.mem_cons, List.not_mem_nil, or_false] at hx
  rcases hx with rfl | rfl | rfl | rfl | rfl | rfl | rfl | rfl | rfl | rfl | rfl | rfl | rfl
  · exact due_six (n := "q") (s := "") (by decide +kernel) (by decide +kernel) (by decide +kernel)
  · exact due_six (n := "q") (s := "x") (by decide +kernel) (by decide +kernel) (by decide +kernel)
  · exact due_six (n := "a") (s := "a 1 0 1 0") (by decide +kernel) (by decide +kernel) (by decide +kernel)
  · exact due_rj (n := "yy") (s := "a 1 0 1 0 1") (by decide +kernel) (by decide +kernel) rj1
  · exact due_six (n := "q") (s := "a 1 0 1 0 0 ") (by decide +kernel) (by decide +kernel) (by decide +kernel)
  · exact due_six (n := "q") (s := " a 1 0 1 0 0") (by decide +kernel) (by decide +kernel) (by decide +kernel)
  · exact due_of (by decide +kernel)
  · exact due_of (by decide +kernel)
  · exact due_of (by decide +kernel)
  · exact due_of (by decide +kernel)
  · exact due_of (by decide +kernel)
  · exact due_of (by decide +kernel)
  · exact due_rj (n := "z") (s := "a 7 0 1 - 0") (by decide +kernel) (by decide +kernel) rj2
/-! ### rows that tell a judge -/
def cJ : List Nat := [106, 117, 100, 103, 101]
theorem row_judge {n m : List Nat} (hn : nameB n = true) (hm : m.length ≤ 80000) : RowZ (txS (cJ ++ 32 :: (n ++ 32 :: m))) ∧ rowW (txS (cJ ++ 32 :: (n ++ 32 :: m))) = some [("judge" : Str), txS n, txS m] := by
  have eJ : (txS cJ) = ("judge" : Str) := by decide +kernel
  have n32 : 32 ∉ n := fun z => by
    unfold nameB at hn
    rw [Bool.and_eq_true] at hn
    exact absurd (List.all_eq_true.mp hn.2 32 z) (by decide)
  have n8 : n.length ≤ 8 := by
    unfold nameB at hn
    rw [Bool.and_eq_true, decide_eq_true_eq] at hn
    exact hn.1.2
  have hs : Txt.splitMax (txS (cJ ++ 32 :: (n ++ 32 :: m))) (txS [32]) 2 = [txS cJ, txS n, txS m] := splitMax2 (by decide) n32
  have hl : (txS (cJ ++ 32 :: (n ++ 32 :: m))).length ≤ 80015 := by
    rw [txS_len]
    simp only [List.length_append, List.length_cons]
    have : cJ.length = 5 := rfl
    omega
  have hh : (Txt.split (txS (cJ ++ 32 :: (n ++ 32 :: m))) (txS [32])).head? = some (txS cJ) := by
    have e := TL.split_spl (txS (cJ ++ 32 :: (n ++ 32 :: m))) (txS [32]) (by rw [tl_txS]; simp) (TL.kind_ok (by decide +kernel))
    rw [tl_txS, tl_txS, show cJ ++ 32 :: (n ++ 32 :: m) = cJ ++ ([32] ++ (n ++ 32 :: m)) from rfl, TL.spl_part1 (by decide)] at e
    cases hq : Txt.split (txS (cJ ++ 32 :: (n ++ 32 :: m))) (txS [32]) with
    | nil =>
      rw [show cJ ++ 32 :: (n ++ 32 :: m) = cJ ++ ([32] ++ (n ++ 32 :: m)) from rfl] at hq
      rw [hq] at e
      cases e
    | cons h r =>
      rw [show cJ ++ 32 :: (n ++ 32 :: m) = cJ ++ ([32] ++ (n ++ 32 :: m)) from rfl] at hq
      rw [hq, List.map_cons] at e
      have := (List.cons.inj e).1
      rw [List.nil_append] at this
      show some h = some (txS cJ)
      rw [show h = txS cJ from TL.ext_tl (by rw [this, tl_txS])]
  refine ⟨⟨by omega, fun z => ?_, ?_, ?_, fun p hp => ?_, fun p hp => ?_⟩, ?_⟩
  · rw [z] at hh
    cases hh
  · have := PyProof.Rows.split_le (txS (cJ ++ 32 :: (n ++ 32 :: m))) (txS [32])
    omega
  · rw [hs]
    show 3 ≤ _
    decide
  · have := PyProof.Rows.part_short hp
    have e : p.length = p.cps.toList.length := by simp [Str.length]
    omega
  · have := PyProof.Rows.partMax_short hp
    have e : p.length = p.cps.toList.length := by simp [Str.length]
    omega
  · unfold rowW
    rw [hh]
    dsimp only
    rw [eJ, show lookT shapes ("judge" : Str) = some ("nt" : Str) by decide +kernel]
    dsimp only
    have ew : wordsOf (txS (cJ ++ 32 :: (n ++ 32 :: m))) "nt" = [txS cJ, txS n, txS m] := by
      unfold wordsOf
      rw [if_pos (by decide +kernel), hs]
    rw [ew, if_pos, eJ]
    have e2 : ("nt" : Str).cps.toList = [110, 116] := by decide +kernel
    rw [e2]
    refine ⟨rfl, ?_⟩
    have f1 : fitsB (txS n).cps.toList 110 = true := by
      have : (txS n).cps.toList = n := by simp
      rw [this]
      exact hn
    have f2 : fitsB (txS m).cps.toList 116 = true := rfl
    simp only [List.tail_cons, List.zip_cons_cons, List.zip_nil_right, List.all_cons, List.all_nil, Bool.and_true, f1, f2]
end Hy
set_option Elab.async false
set_option linter.all false
set_option maxRecDepth 100000
set_option maxHeartbeats 4000000
namespace Hy
open PySem L2
local macro_rules | `(tactic| walk_at "hp") => `(tactic| first
  | assumption | exact upd_same
  | (refine (upd_ne ?_).trans ?_ <;> first | assumption | (exact Ne.symm (by assumption)) | walk_at "ne" | walk_at "hp")
  | (refine (by assumption : Same _ _) _ _ ?_; assumption))
local macro_rules | `(tactic| walk_at "ne") => `(tactic| first
  | assumption | (exact Ne.symm (by assumption))
  | exact ne_of_none (by assumption) (by assumption) | exact Ne.symm (ne_of_none (by assumption) (by assumption)))
local macro_rules | `(tactic| walk_at "sz") => `(tactic| first | assumption | (show 0 ≤ sizeLine; decide) | (show 1 ≤ sizeLine; decide) | (show 2 ≤ sizeLine; decide) | (show 3 ≤ sizeLine; decide))
local macro_rules | `(tactic| walk_at "ar") => `(tactic| first
  | ((with_reducible show (0 : Int) < _); first | decide | omega)
  | ((with_reducible show CMul _ _); first | exact Or.inr (And.intro (by decide) (by decide)) | exact Or.inl (And.intro (by decide) (by decide)) | (refine Or.inl (And.intro ?_ ?_) <;> omega) | (refine Or.inr (And.intro ?_ ?_) <;> omega))
  | ((with_reducible show CPow _ _); exact And.intro (by decide) (And.intro (by decide) (by decide)))
  | ((with_reducible show CDiv _ _); first | exact And.intro (by decide) (by decide) | (refine And.intro ?_ ?_ <;> omega)))
/- one step of a reading -/
local macro_rules | `(tactic| walk_at "r1") => `(tactic| first
  | refine ⟨_, rfl, ?_⟩
  | refine iteB (by rfl) ?_ | refine iteC (by rfl) ?_
  | refine ⟨_, _, rfl, rfl, ?_⟩
  | refine ⟨rfl, ?_⟩
  | refine ⟨⟨_, rfl⟩, ?_⟩
  | refine ⟨_, _, _, _, true, rfl, .ty _, .base (.str _), kit_ty (by decide +kernel), ?_⟩
  | refine ⟨_, _, _, _, false, rfl, .ty _, .base (.str _), kit_ty (by decide +kernel), ?_⟩
  | refine ⟨_, _, _, _, true, rfl, .ty _, .base (.int _), kit_ty (by decide +kernel), ?_⟩
  | refine ⟨_, _, _, _, false, rfl, .ty _, .base (.int _), kit_ty (by decide +kernel), ?_⟩
  | refine ⟨_, _, _, _, true, rfl, .ty _, .base (.tup (by walk_at "hp")), kit_ty (by decide +kernel), ?_⟩
  | refine ⟨_, _, _, _, false, rfl, .ty _, .base (.tup (by walk_at "hp")), kit_ty (by decide +kernel), ?_⟩
  | refine ⟨_, _, _, _, true, rfl, .ty _, .base (.lst (by walk_at "hp")), kit_ty (by decide +kernel), ?_⟩
  | refine ⟨_, _, _, _, false, rfl, .ty _, .base (.lst (by walk_at "hp")), kit_ty (by decide +kernel), ?_⟩
  | refine ⟨_, _, rfl, ⟨by walk_at "sz", rfl⟩, ?_⟩
  | refine ⟨_, _, _, _, rfl, rfl, SqT.of (by walk_at "hp"), by rfl, ?_⟩
  | refine ⟨_, _, _, _, rfl, rfl, SqL.of (by walk_at "hp"), by rfl, ?_⟩
  | refine ⟨.inl ⟨rfl, _, SqL.of (by walk_at "hp")⟩, ?_⟩
  | refine ⟨_, _, _, rfl, rfl, (by walk_at "hp"), snoc_get, ?_⟩
  | refine ⟨_, _, _, _, rfl, rfl, (by walk_at "hp"), by rfl, ?_⟩
  | refine ⟨_, _, rfl, SqL.of (by walk_at "hp"), ?_⟩
  | refine ⟨_, _, rfl, SqT.of (by walk_at "hp"), by rfl, ?_⟩
  | refine ⟨_, (_ : List V), rfl, ?_⟩
  | refine ⟨_, _, rfl, .inl ⟨_, (by assumption), rfl⟩, ?_⟩
  | refine ⟨_, _, rfl, .inl ⟨_, SqL.of (by walk_at "hp"), rfl⟩, ?_⟩
  | refine ⟨_, _, rfl, .inr ⟨_, SqT.of (by walk_at "hp"), rfl⟩, ?_⟩
  | refine Or.inl ⟨(_ : Int), rfl, ?_⟩ | refine Or.inr ⟨(_ : Bool), rfl, ?_⟩
  | refine ⟨_, _, _, _, true, rfl, (by assumption : ND _ _ _ _), .ty _, kit_ty (by decide +kernel), ?_⟩
  | refine ⟨_, _, _, _, false, rfl, (by assumption : ND _ _ _ _), .ty _, kit_ty (by decide +kernel), ?_⟩
  | refine ⟨_, _, rfl, (by assumption : ND _ _ _ _), ?_⟩
  | refine And.intro (by walk_at "ar") ?_)
local macro_rules | `(tactic| walk_at "rd") => `(tactic| repeat walk_at "r1")

structure MkO (K : PySem.W.Frag) (mg : Str → Option Value) (x : Str) (C : Addr) : Prop where
  makes : PySem.W.makesIn K C = true
  kp : PySem.W.keepIn K (.ref C) = true
  gl : mg x = some (.ref C)
theorem pe_mkO {X : Cx} {x : Str} {C : Addr} {k : Nat} {sp : Sp} {p pos : Pos} (m : MkO X.K X.mg x C) (G : Gm X.prog X.w X.K X.mg X.base C "__init__" k ["self"] sp) (hr : Room (k + 1) X.A) (hg : Gl X x := by rfl) (hdb : (x == ("__debug__" : Str)) = false := by decide) :
    PE X (.Call (.Name x p) [] [] pos) (tMake C sp [] E0 tNil) := by
  obtain ⟨f, fd, F, mm, b⟩ := G.ex
  exact pe_make0 ⟨m.makes, mm.at_, mm.fn, m.kp⟩ F hr hg m.gl b .nil passF hdb
/-! ### the four judges -/
def JA (tb gd : List Nat) : Jd := ⟨[97, 98], 2, 1, 1, tb, gd⟩
def JG (tb : List Nat) : Jd := ⟨[97, 98], 6, 1, 1, tb, [0, 5]⟩
def JZ : Jd := ⟨[122], 1, 0, 1, [0], [0]⟩
def JNo : Jd := ⟨[97, 98], 1, 0, 1, [0, 0], []⟩
def JQ : Jd := ⟨[97], 1, 0, 1, [0], [0]⟩
theorem ja_ok {tb gd : List Nat} (h1 : tb.length = 8) (h2 : ∀ v ∈ tb, v < 2) (h3 : gd ∈ [[], [0], [1], [0, 1]]) : (JA tb gd).Ok where
  ls1 := by simp [JA]
  lsL := by simp [JA]; decide
  lsR := by show riseB [97, 98] = true; decide
  st1 := by show 1 ≤ 2; decide
  st6 := by show 2 ≤ 6; decide
  few4 := by show 1 ≤ 4; decide
  turn1 := by show 1 ≤ 1; decide
  turn4 := by show 1 ≤ 4; decide
  tbl := by show tb.length = 2 * (1 + 1) ^ 2; rw [h1]
  size := by show tb.length ≤ 600; rw [h1]; decide
  tbv := h2
  gdv := (show ∀ gd ∈ [[], [0], [1], [0, 1]], ∀ g ∈ gd, g < 2 by decide) gd h3
  gdR := (show ∀ gd ∈ [[], [0], [1], [0, 1]], riseB gd = true by decide) gd h3
theorem jg_ok {tb : List Nat} (h1 : tb.length = 128) (h2 : ∀ v ∈ tb, v < 6) : (JG tb).Ok where
  ls1 := by simp [JG]
  lsL := by simp [JG]; decide
  lsR := by show riseB [97, 98] = true; decide
  st1 := by show 1 ≤ 6; decide
  st6 := by show 6 ≤ 6; decide
  few4 := by show 1 ≤ 4; decide
  turn1 := by show 1 ≤ 1; decide
  turn4 := by show 1 ≤ 4; decide
  tbl := by show tb.length = 2 * (1 + 1) ^ 6; rw [h1]
  size := by show tb.length ≤ 600; rw [h1]; decide
  tbv := h2
  gdv := by show ∀ g ∈ [0, 5], g < 6; decide
  gdR := by show riseB [0, 5] = true; decide
theorem jz_ok : JZ.Ok := ⟨by decide, by decide, by decide, by decide, by decide, by decide, by decide, by decide, by decide, by decide, by decide, by decide, by decide⟩
theorem jn_ok : JNo.Ok := ⟨by decide, by decide, by decide, by decide, by decide, by decide, by decide, by decide, by decide, by decide, by decide, by decide, by decide⟩
theorem jq_ok : JQ.Ok := ⟨by decide, by decide, by decide, by decide, by decide, by decide, by decide, by decide, by decide, by decide, by decide, by decide, by decide⟩
/-- digits as drawn -/
structure PvD (st : Addr) (H1 : Hp) (D : Addr) (m i : Nat) (H' : Hp) : Prop where
  K : Keep [st] H1 H'
  s : StoreAt H' st
  ds : ∃ ds : List Nat, ds.length = i ∧ (∀ d ∈ ds, d < m) ∧ H' D = some (.lst (ds.map fun d => .str (txS [dig d])))
theorem PvD.start {st D : Addr} {H1 : Hp} {m : Nat} (hs : StoreAt H1 st) (nD : H1 D = none) : PvD st H1 D m 0 (upd H1 D (.lst [])) := ⟨(Keep.refl _ _).updNew nD, hs.new nD, [], rfl, (fun d hd => nomatch hd), upd_same⟩
theorem PvD.push {st D : Addr} {H1 H2 H3 : Hp} {m i d : Nat} (q : PvD st H1 D m i H2) (hs : StoreAt H1 st) (nD : H1 D = none) (K3 : Keep [st] H2 H3) (s3 : StoreAt H3 st) (hd : d < m) (hi : i < 1000) :
    ∃ acc, H3 D = some (.lst acc) ∧ acc.length < sizeLine ∧ PvD st H1 D m (i + 1) (upd H3 D (.lst (acc ++ [.str (txS [dig d])]))) := by
  obtain ⟨K, s, ds, h1, h2, h3⟩ := q
  have hne : D ≠ st := hs.ne nD
  refine ⟨_, K3.but _ _ (by simpa using hne) h3, by rw [List.length_map, h1]; exact Nat.lt_trans hi (by decide), (K.trans K3).own nD, s3.oth hne, ds ++ [d], by rw [List.length_append, h1]; rfl, fun x hx => ?_, by rw [upd_same, List.map_append]; rfl⟩
  rcases List.mem_append.mp hx with hx | hx
  · exact h2 x hx
  · rw [List.mem_singleton.mp hx]
    exact hd
theorem sum_dig : ∀ ds : List Nat, ((ds.map fun d => txS [dig d]).map (·.length)).sum = ds.length
  | [] => rfl
  | d :: ds => by
    rw [List.map_cons, List.map_cons, List.sum_cons, sum_dig ds, List.length_cons, txS_len]
    show 1 + _ = _
    omega
theorem join_dig (ds : List Nat) : Txt.join (txS []) (ds.map fun d => txS [dig d]) = txS (ds.map dig) := by
  have e : (ds.map fun d => txS [dig d]) = (ds.map fun d => [dig d]).map txS := by rw [List.map_map]; rfl
  rw [e, join_nil, flat_ones dig]
/-- names with judges, and their texts -/
abbrev TT := List (List Nat × Jd)
def kvT (T : TT) : List (Key × V) := T.map fun p => (Sum.inr (txS p.1), V.str p.2.text)
def rowJ (p : List Nat × Jd) : Str := txS (cJ ++ 32 :: (p.1 ++ 32 :: p.2.txL))
def isT (js : List DJ) (T : TT) : Prop := js.map (fun j => (j.nm, j.J)) = T.map fun p => (txS p.1, p.2)
theorem isT.nm {js : List DJ} {T : TT} (h : isT js T) : js.map (·.nm) = T.map fun p => txS p.1 := by
  have q := congrArg (List.map Prod.fst) h
  rw [List.map_map, List.map_map] at q
  exact q
theorem Same.keepNew {H H1 H2 : Hp} {A : List Addr} (s : Same H H1) (n : ∀ a ∈ A, H a = none) (k : Keep A H1 H2) : Same H H2 := fun b o e => k.but b o (fun z => by rw [n b z] at e; cases e) (s b o e)
theorem DeskAt.oth {w : World} {C : Addr} {H : Hp} {p dd t : Addr} {js : List DJ} {u : HO} {kvs : List (Key × V)} (h : DeskAt w C H p dd js) (hne : dd ≠ t) (ht : H t = some (.dK kvs) ∨ ∃ o, H t = some (.frz o (.dK kvs))) : DeskAt w C (L2.upd H t u) p dd js := by
  have off : ∀ {b : Addr} {o : HO}, H b = some o → (∀ k2, o ≠ .dK k2) → (∀ o2 k2, o ≠ .frz o2 (.dK k2)) → L2.upd H t u b = some o := fun {b o} e h1 h2 => by
    have hb : b ≠ t := fun z => by
      subst z
      rcases ht with q | ⟨o2, q⟩
      · rw [e] at q
        exact h1 _ (Option.some.inj q)
      · rw [e] at q
        exact h2 _ _ (Option.some.inj q)
    rw [upd_ne hb]
    exact e
  have tup : ∀ b xs, H b = some (.tup xs) → L2.upd H t u b = some (.tup xs) := fun b xs e => off e (fun _ z => nomatch z) (fun _ _ z => nomatch z)
  refine { ins := ?_, dic := by rw [upd_ne hne]; exact h.dic, jn := fun j hj => ?_, nd := h.nd }
  · obtain ⟨dx, e⟩ := h.ins
    exact ⟨dx, off e (fun _ z => nomatch z) (fun _ _ z => nomatch z)⟩
  · have J := h.jn j hj
    refine ⟨⟨tup _ _ J.ja.tup, ⟨?_, J.ja.dic.ks.stay tup⟩, off J.ja.lst (fun _ z => nomatch z) (fun _ _ z => nomatch z)⟩, J.tab, J.ok⟩
    rcases J.ja.dic.rd with q | ⟨o, q⟩
    · exact .inl (off q (fun _ z => nomatch z) (fun _ _ z => nomatch z))
    · exact .inr ⟨o, off q (fun _ z => nomatch z) (fun _ _ z => nomatch z)⟩
theorem Jd.Ok.len8 {J : Jd} (ok : J.Ok) : J.txL.length ≤ 80000 := by
  have h1 := goodL_len J.gd
  have h2 := ok.gd6
  have h3 := ok.ls26
  have h4 := ok.size
  have h := joinL_len [32] [J.ls, [dig J.st], [dig J.few], [dig J.turn], goodL J.gd, J.tb.map dig]
  unfold Jd.txL
  simp only [List.map_cons, List.map_nil, List.sum_cons, List.sum_nil, List.length_cons, List.length_nil, List.length_map] at h
  omega
theorem kvT_none : ∀ {T : TT} {x : Str}, x ∉ T.map (fun p => txS p.1) → valV (kvT T) (.inr x) = none
  | [], _, _ => rfl
  | p :: T, x, h => by
    rw [List.map_cons, List.mem_cons, not_or] at h
    rw [kvT, List.map_cons, valV_neg (fun z => h.1 (Sum.inr.inj z).symm)]
    exact kvT_none h.2
theorem kvT_at : ∀ {T : TT}, (T.map fun p => txS p.1).Nodup → ∀ {p : List Nat × Jd}, p ∈ T → valV (kvT T) (.inr (txS p.1)) = some (.str p.2.text)
  | [], _, _, h => nomatch h
  | q :: T, hn, p, h => by
    rw [List.map_cons, List.nodup_cons] at hn
    rw [kvT, List.map_cons]
    rcases List.mem_cons.mp h with rfl | h
    · exact valV_pos rfl
    · rw [valV_neg (fun z => hn.1 (List.mem_map.mpr ⟨p, h, (Sum.inr.inj z).symm⟩))]
      exact kvT_at hn.2 h
theorem kvT_put {T : TT} {n : List Nat} {J : Jd} (h : txS n ∉ T.map fun p => txS p.1) : putK (kvT T) (.inr (txS n)) (.str J.text) = kvT (T ++ [(n, J)]) := by
  rw [putK_new _ (kvT_none h), kvT, kvT, List.map_append]
  rfl
theorem str_bound {a b n : Nat} {x y : Str} (h1 : x.length = a) (h2 : y.length = b) (h : a + b ≤ 10000) : x.length + y.length ≤ sizeLine := by
  rw [h1, h2]
  exact Nat.le_trans h (by decide)
section
variable {P : Program} {w : World} {K : PySem.W.Frag} {mg : Str → Option Value} {base : Heap} {C : Addr}
theorem sorted_one {α : Type} {le : α → α → Bool} : ∀ (l m : List α), (∀ a ∈ l, ∀ b ∈ l, le a b = true → le b a = true → a = b) → l.Perm m → l.Pairwise (fun a b => le a b = true) → m.Pairwise (fun a b => le a b = true) → l = m
  | [], m, _, h, _, _ => (List.Perm.nil_eq h)
  | a :: l, [], _, h, _, _ => absurd h.symm.nil_eq (by simp)
  | a :: l, b :: m, anti, h, h1, h2 => by
    rw [List.pairwise_cons] at h1 h2
    have e : a = b := by
      have ha : a ∈ b :: m := h.subset List.mem_cons_self
      have hb : b ∈ a :: l := h.symm.subset List.mem_cons_self
      rcases List.mem_cons.mp ha with e | ha
      · exact e
      · rcases List.mem_cons.mp hb with e | hb'
        · exact e.symm
        · exact anti a List.mem_cons_self b hb (h1.1 b hb') (h2.1 a ha)
    subst e
    rw [sorted_one l m (fun x hx y hy => anti x (List.mem_cons_of_mem _ hx) y (List.mem_cons_of_mem _ hy)) (List.Perm.cons_inv h) h1.2 h2.2]
theorem sortX_one {l m : List Str} (h : l.Perm m) (anti : ∀ a ∈ m, ∀ b ∈ m, PySem.W.dataLe false PyData.str a b = true → PySem.W.dataLe false PyData.str b a = true → a = b) (hm : m.Pairwise (fun a b => PySem.W.dataLe false PyData.str a b = true)) : sortX l = m := by
  have e : PySem.W.dataLe false PyData.str = fun a b : Str => decide (a.cps.toList ≤ b.cps.toList) := PySem.W.dataLe_str (fun b : Str => b)
  have tr : ∀ a b c : Str, PySem.W.dataLe false PyData.str a b = true → PySem.W.dataLe false PyData.str b c = true → PySem.W.dataLe false PyData.str a c = true := by
    rw [e]
    exact fun a b c h1 h2 => decide_eq_true (List.le_trans (of_decide_eq_true h1) (of_decide_eq_true h2))
  have to : ∀ a b : Str, (PySem.W.dataLe false PyData.str a b || PySem.W.dataLe false PyData.str b a) = true := by
    rw [e]
    intro a b
    rcases List.le_total a.cps.toList b.cps.toList with h | h <;> simp [h]
  exact (sorted_one m _ anti (h.symm.trans (List.mergeSort_perm l _).symm) hm (List.pairwise_mergeSort tr to l)).symm
theorem names4 : sortX [("a" : Str), "g", "z", "n"] = [("a" : Str), "g", "n", "z"] := sortX_one (by decide +kernel) (by decide +kernel) (by decide +kernel)
theorem names5 : sortX [("a" : Str), "g", "z", "n", "q"] = [("a" : Str), "g", "n", "q", "z"] := sortX_one (by decide +kernel) (by decide +kernel) (by decide +kernel)
theorem strs_all {H : Hp} : ∀ l : List Str, DpAll K H (l.map V.str) (l.map PyData.str)
  | [] => .nil
  | x :: l => .cons (.str x) (strs_all l)
theorem strs_dp {H : Hp} {p : Addr} {l : List Str} (h : H p = some (.lst (l.map V.str))) : Dp K H (.ref p) (.list (l.map PyData.str)) := .lst (SqL.of h) (strs_all l)
theorem shows_ok : ∀ n ∈ [("a" : Str), "g", "z", "n"], rowZb (PySem.Str.ofString "show " ++ n) = true ∧ rowW (PySem.Str.ofString "show " ++ n) = some [("show" : Str), n] ∧ (PySem.Str.ofString "show ").length + n.length ≤ sizeLine := by decide +kernel
end
end Hy
set_option Elab.async false
set_option linter.all false
set_option maxRecDepth 100000
set_option maxHeartbeats 4000000
namespace Hy
open PySem L2
local macro_rules | `(tactic| walk_at "hp") => `(tactic| first
  | assumption | exact upd_same
  | (refine (upd_ne ?_).trans ?_ <;> first | assumption | (exact Ne.symm (by assumption)) | walk_at "ne" | walk_at "hp")
  | (refine (by assumption : Same _ _) _ _ ?_; assumption))
local macro_rules | `(tactic| walk_at "ne") => `(tactic| first
  | assumption | (exact Ne.symm (by assumption))
  | exact ne_of_none (by assumption) (by assumption) | exact Ne.symm (ne_of_none (by assumption) (by assumption)))
local macro_rules | `(tactic| walk_at "sz") => `(tactic| first | assumption | (show 0 ≤ sizeLine; decide) | (show 1 ≤ sizeLine; decide) | (show 2 ≤ sizeLine; decide) | (show 3 ≤ sizeLine; decide))
local macro_rules | `(tactic| walk_at "ar") => `(tactic| first
  | ((with_reducible show (0 : Int) < _); first | decide | omega)
  | ((with_reducible show CMul _ _); first | exact Or.inr (And.intro (by decide) (by decide)) | exact Or.inl (And.intro (by decide) (by decide)) | (refine Or.inl (And.intro ?_ ?_) <;> omega) | (refine Or.inr (And.intro ?_ ?_) <;> omega))
  | ((with_reducible show CPow _ _); exact And.intro (by decide) (And.intro (by decide) (by decide)))
  | ((with_reducible show CDiv _ _); first | exact And.intro (by decide) (by decide) | (refine And.intro ?_ ?_ <;> omega)))
/- one step of a reading -/
local macro_rules | `(tactic| walk_at "r1") => `(tactic| first
  | refine ⟨_, rfl, ?_⟩
  | refine iteB (by rfl) ?_ | refine iteC (by rfl) ?_
  | refine ⟨_, _, rfl, rfl, ?_⟩
  | refine ⟨rfl, ?_⟩
  | refine ⟨⟨_, rfl⟩, ?_⟩
  | refine ⟨_, _, _, _, true, rfl, .ty _, .base (.str _), kit_ty (by decide +kernel), ?_⟩
  | refine ⟨_, _, _, _, false, rfl, .ty _, .base (.str _), kit_ty (by decide +kernel), ?_⟩
  | refine ⟨_, _, _, _, true, rfl, .ty _, .base (.int _), kit_ty (by decide +kernel), ?_⟩
  | refine ⟨_, _, _, _, false, rfl, .ty _, .base (.int _), kit_ty (by decide +kernel), ?_⟩
  | refine ⟨_, _, _, _, true, rfl, .ty _, .base (.tup (by walk_at "hp")), kit_ty (by decide +kernel), ?_⟩
  | refine ⟨_, _, _, _, false, rfl, .ty _, .base (.tup (by walk_at "hp")), kit_ty (by decide +kernel), ?_⟩
  | refine ⟨_, _, _, _, true, rfl, .ty _, .base (.lst (by walk_at "hp")), kit_ty (by decide +kernel), ?_⟩
  | refine ⟨_, _, _, _, false, rfl, .ty _, .base (.lst (by walk_at "hp")), kit_ty (by decide +kernel), ?_⟩
  | refine ⟨_, _, rfl, ⟨by walk_at "sz", rfl⟩, ?_⟩
  | refine ⟨_, _, _, _, rfl, rfl, SqT.of (by walk_at "hp"), by rfl, ?_⟩
  | refine ⟨_, _, _, _, rfl, rfl, SqL.of (by walk_at "hp"), by rfl, ?_⟩
  | refine ⟨.inl ⟨rfl, _, SqL.of (by walk_at "hp")⟩, ?_⟩
  | refine ⟨_, _, _, rfl, rfl, (by walk_at "hp"), snoc_get, ?_⟩
  | refine ⟨_, _, _, _, rfl, rfl, (by walk_at "hp"), by rfl, ?_⟩
  | refine ⟨_, _, rfl, SqL.of (by walk_at "hp"), ?_⟩
  | refine ⟨_, _, rfl, SqT.of (by walk_at "hp"), by rfl, ?_⟩
  | refine ⟨_, (_ : List V), rfl, ?_⟩
  | refine ⟨_, _, rfl, .inl ⟨_, (by assumption), rfl⟩, ?_⟩
  | refine ⟨_, _, rfl, .inl ⟨_, SqL.of (by walk_at "hp"), rfl⟩, ?_⟩
  | refine ⟨_, _, rfl, .inr ⟨_, SqT.of (by walk_at "hp"), rfl⟩, ?_⟩
  | refine Or.inl ⟨(_ : Int), rfl, ?_⟩ | refine Or.inr ⟨(_ : Bool), rfl, ?_⟩
  | refine ⟨_, _, _, _, true, rfl, (by assumption : ND _ _ _ _), .ty _, kit_ty (by decide +kernel), ?_⟩
  | refine ⟨_, _, _, _, false, rfl, (by assumption : ND _ _ _ _), .ty _, kit_ty (by decide +kernel), ?_⟩
  | refine ⟨_, _, rfl, (by assumption : ND _ _ _ _), ?_⟩
  | refine And.intro (by walk_at "ar") ?_)
local macro_rules | `(tactic| walk_at "rd") => `(tactic| repeat walk_at "r1")

section
variable {P : Program} {w : World} {K : PySem.W.Frag} {mg : Str → Option Value} {base : Heap} {C : Addr}
theorem law_end {J : Ends} {E : XK} {H13 : Hp} {x dd td : Addr} {js : List DJ} {s0 s1 s2 s3 s4 s6 s7 s8 s9 s10 : Option V} (hD13 : DeskAt w C H13 x dd js)
    (hjl : js.length ≤ 1000) (hnm : js.map (fun x => x.nm) = [("a" : Str), "g", "z", "n"]) (hpf : js.map DJ.pf = PF) (k : ∀ H', J.rt (.bl true) H') :
    ((tSeq
              (tIfS
                (tOr
                  (tTest
                    (tOp rNe
                      (tCall (lsaid_sp C mg (sp_Desk_say w K C mg)) [] E0
                        (tCons (tVar 5) (tCons (tC (V.str (PySem.Str.ofString "judge q a 1 0 1 0 1"))) tNil)))
                      (tC (V.str (PySem.Str.ofString "NoText")))))
                  (tTest
                    (tOp rNe
                      (tCall (lsaid_sp C mg (sp_Desk_say w K C mg)) [] E0
                        (tCons (tVar 5) (tCons (tC (V.str (PySem.Str.ofString "judge q a 1 0 1 0 0"))) tNil)))
                      (tC (V.str (PySem.Str.ofString "ok"))))))
                (tRet (tC (V.bl false))) tNext)
              (tRet
                (tAndV
                  (tOp rEq
                    (tMeth C (PySem.Str.ofString "say") (sp_Desk_say w K C mg) [] E (tVar 5)
                      (tCons (tC (V.str (PySem.Str.ofString "show q"))) tNil))
                    (tC (V.str (PySem.Str.ofString "a 1 0 1 0 0"))))
                  (tOp (rEqP K) (tMeth C (PySem.Str.ofString "names") (sp_Desk_names w C) [] E0 (tVar 5) tNil)
                    (tLst
                      (tCons (tC (V.str (PySem.Str.ofString "a")))
                        (tCons (tC (V.str (txS [103])))
                          (tCons (tC (V.str (txS [110])))
                            (tCons (tC (V.str (PySem.Str.ofString "q"))) (tCons (tC (V.str (txS [122]))) tNil))))))))))) J [s0, s1, s2, s3, s4, some (V.ref x), s6, s7, s8, s9, s10] H13 := by
  obtain ⟨dx13, hx13⟩ := hD13.ins
  have rz1 : rowZb (PySem.Str.ofString "judge q a 1 0 1 0 1") = true := by decide +kernel
  have du1 : DueP PF (PySem.Str.ofString "judge q a 1 0 1 0 1") (exN 2) := due_rj (n := "q") (s := "a 1 0 1 0 1") (by decide +kernel) (by decide +kernel) rj1
  have rz2 : rowZb (PySem.Str.ofString "judge q a 1 0 1 0 0") = true := by decide +kernel
  have rw2 : rowW (PySem.Str.ofString "judge q a 1 0 1 0 0") = some [("judge" : Str), "q", txS JQ.txL] := by decide +kernel
  have rz3 : rowZb (PySem.Str.ofString "show q") = true := by decide +kernel
  have rw3 : rowW (PySem.Str.ofString "show q") = some [("show" : Str), "q"] := by decide +kernel
  have eq3 : JQ.text = PySem.Str.ofString "a 1 0 1 0 0" := by decide +kernel
  have ansOk : AnsW "ok" := ⟨by decide +kernel, by decide +kernel⟩
  walk_at "rd"
  dsimp only [tNil, tCons, tC, List.append_nil]
  refine ⟨x, dd, dx13, _, rfl, hx13, x, dd, js, _, rfl, hD13, hjl, .inl ⟨_, exN 2, rfl, rowZ_of rz1, by rw [hpf]; exact du1, fun y2 hm H' S => ⟨rfl, 2, by decide, hm, fun H14 S14 => ?_⟩⟩⟩
  have hD14 := hD13.same (S.trans S14)
  obtain ⟨dx14, hx14⟩ := hD14.ins
  walk_at "rd"
  dsimp only [tNil, tCons, tC, List.append_nil]
  refine ⟨x, dd, dx14, _, rfl, hx14, x, dd, js, _, rfl, hD14, hjl, .inr (.inr (.inr ⟨_, "q", JQ.txL, JQ, rfl, rowZ_of rz2, rw2, by decide +kernel, jq_ok.rjd, fun H15 a2 d2 g2 es2 K15 hD15 => ⟨"ok", rfl, ansOk, fun H16 S16 => ?_⟩⟩))⟩
  have hnew : ("q" : Str) ∉ js.map (·.nm) := by rw [hnm]; decide +kernel
  rw [setJ_new hnew] at hD15
  have hD16 := hD15.same S16
  obtain ⟨dx16, hx16⟩ := hD16.ins
  walk_at "rd"
  refine ⟨x, dx16, _, rfl, hx16, lk_no (by decide +kernel), ?_⟩
  dsimp only [tNil, tCons, tC, List.append_nil]
  have hjl5 : (js ++ [(⟨"q", JQ, a2, d2, g2, es2⟩ : DJ)]).length ≤ 1000 := by
    have := congrArg List.length hnm
    rw [List.length_map] at this
    rw [List.length_append, this]
    show 4 + 1 ≤ 1000
    decide
  refine ⟨x, dd, _, _, rfl, hD16, hjl5, .inr (.inr (.inl ⟨_, _, List.mem_append_right _ List.mem_cons_self, rfl, rowZ_of rz3, rw3, fun H17 S17 => ?_⟩))⟩
  have hD17 := hD16.same S17
  obtain ⟨dx17, hx17⟩ := hD17.ins
  show rEq (V.str JQ.text) _ _ _
  rw [eq3]
  walk_at "rd"
  refine ⟨x, dx17, _, rfl, hx17, lk_no (by decide +kernel), ?_⟩
  walk_at "rd"
  refine ⟨x, dd, _, rfl, hD17, fun pn np => ?_⟩
  rw [List.map_append, hnm]
  rw [show [("a" : Str), "g", "z", "n"] ++ [(⟨"q", JQ, a2, d2, g2, es2⟩ : DJ)].map (fun x => x.nm) = [("a" : Str), "g", "z", "n", "q"] from rfl, names5]
  generalize e15 : upd H17 pn _ = H18
  obtain ⟨S18, hpn⟩ := newF np e15
  walk_at "rd"
  refine ⟨by show 5 ≤ sizeLine; decide, fun pl nl => ?_⟩
  generalize e16 : upd H18 pl _ = H19
  obtain ⟨S19, hpl⟩ := newF nl e16
  refine ⟨_, _, strs_dp (S19 _ _ hpn), strs_dp (l := [("a" : Str), txS [103], txS [110], "q", txS [122]]) hpl, by decide +kernel, by decide +kernel, by decide +kernel, ?_⟩
  exact (show (PyData.eqv (.list ([("a" : Str), "g", "n", "q", "z"].map PyData.str)) (.list ([("a" : Str), txS [103], txS [110], "q", txS [122]].map PyData.str))) = true by decide +kernel) ▸ k H19
end
end Hy
set_option Elab.async false
set_option linter.all false
set_option maxRecDepth 100000
set_option maxHeartbeats 4000000
namespace Hy
open PySem L2
local macro_rules | `(tactic| walk_at "hp") => `(tactic| first
  | assumption | exact upd_same
  | (refine (upd_ne ?_).trans ?_ <;> first | assumption | (exact Ne.symm (by assumption)) | walk_at "ne" | walk_at "hp")
  | (refine (by assumption : Same _ _) _ _ ?_; assumption))
local macro_rules | `(tactic| walk_at "ne") => `(tactic| first
  | assumption | (exact Ne.symm (by assumption))
  | exact ne_of_none (by assumption) (by assumption) | exact Ne.symm (ne_of_none (by assumption) (by assumption)))
local macro_rules | `(tactic| walk_at "sz") => `(tactic| first | assumption | (show 0 ≤ sizeLine; decide) | (show 1 ≤ sizeLine; decide) | (show 2 ≤ sizeLine; decide) | (show 3 ≤ sizeLine; decide))
local macro_rules | `(tactic| walk_at "ar") => `(tactic| first
  | ((with_reducible show (0 : Int) < _); first | decide | omega)
  | ((with_reducible show CMul _ _); first | exact Or.inr (And.intro (by decide) (by decide)) | exact Or.inl (And.intro (by decide) (by decide)) | (refine Or.inl (And.intro ?_ ?_) <;> omega) | (refine Or.inr (And.intro ?_ ?_) <;> omega))
  | ((with_reducible show CPow _ _); exact And.intro (by decide) (And.intro (by decide) (by decide)))
  | ((with_reducible show CDiv _ _); first | exact And.intro (by decide) (by decide) | (refine And.intro ?_ ?_ <;> omega)))
/- one step of a reading -/
local macro_rules | `(tactic| walk_at "r1") => `(tactic| first
  | refine ⟨_, rfl, ?_⟩
  | refine iteB (by rfl) ?_ | refine iteC (by rfl) ?_
  | refine ⟨_, _, rfl, rfl, ?_⟩
  | refine ⟨rfl, ?_⟩
  | refine ⟨⟨_, rfl⟩, ?_⟩
  | refine ⟨_, _, _, _, true, rfl, .ty _, .base (.str _), kit_ty (by decide +kernel), ?_⟩
  | refine ⟨_, _, _, _, false, rfl, .ty _, .base (.str _), kit_ty (by decide +kernel), ?_⟩
  | refine ⟨_, _, _, _, true, rfl, .ty _, .base (.int _), kit_ty (by decide +kernel), ?_⟩
  | refine ⟨_, _, _, _, false, rfl, .ty _, .base (.int _), kit_ty (by decide +kernel), ?_⟩
  | refine ⟨_, _, _, _, true, rfl, .ty _, .base (.tup (by walk_at "hp")), kit_ty (by decide +kernel), ?_⟩
  | refine ⟨_, _, _, _, false, rfl, .ty _, .base (.tup (by walk_at "hp")), kit_ty (by decide +kernel), ?_⟩
  | refine ⟨_, _, _, _, true, rfl, .ty _, .base (.lst (by walk_at "hp")), kit_ty (by decide +kernel), ?_⟩
  | refine ⟨_, _, _, _, false, rfl, .ty _, .base (.lst (by walk_at "hp")), kit_ty (by decide +kernel), ?_⟩
  | refine ⟨_, _, rfl, ⟨by walk_at "sz", rfl⟩, ?_⟩
  | refine ⟨_, _, _, _, rfl, rfl, SqT.of (by walk_at "hp"), by rfl, ?_⟩
  | refine ⟨_, _, _, _, rfl, rfl, SqL.of (by walk_at "hp"), by rfl, ?_⟩
  | refine ⟨.inl ⟨rfl, _, SqL.of (by walk_at "hp")⟩, ?_⟩
  | refine ⟨_, _, _, rfl, rfl, (by walk_at "hp"), snoc_get, ?_⟩
  | refine ⟨_, _, _, _, rfl, rfl, (by walk_at "hp"), by rfl, ?_⟩
  | refine ⟨_, _, rfl, SqL.of (by walk_at "hp"), ?_⟩
  | refine ⟨_, _, rfl, SqT.of (by walk_at "hp"), by rfl, ?_⟩
  | refine ⟨_, (_ : List V), rfl, ?_⟩
  | refine ⟨_, _, rfl, .inl ⟨_, (by assumption), rfl⟩, ?_⟩
  | refine ⟨_, _, rfl, .inl ⟨_, SqL.of (by walk_at "hp"), rfl⟩, ?_⟩
  | refine ⟨_, _, rfl, .inr ⟨_, SqT.of (by walk_at "hp"), rfl⟩, ?_⟩
  | refine Or.inl ⟨(_ : Int), rfl, ?_⟩ | refine Or.inr ⟨(_ : Bool), rfl, ?_⟩
  | refine ⟨_, _, _, _, true, rfl, (by assumption : ND _ _ _ _), .ty _, kit_ty (by decide +kernel), ?_⟩
  | refine ⟨_, _, _, _, false, rfl, (by assumption : ND _ _ _ _), .ty _, kit_ty (by decide +kernel), ?_⟩
  | refine ⟨_, _, rfl, (by assumption : ND _ _ _ _), ?_⟩
  | refine And.intro (by walk_at "ar") ?_)
local macro_rules | `(tactic| walk_at "rd") => `(tactic| repeat walk_at "r1")

section
variable {P : Program} {w : World} {K : PySem.W.Frag} {mg : Str → Option Value} {base : Heap} {C : Addr}
theorem law_tail {J : Ends} {E : XK} {H H13 : Hp} {a st td x dd : Addr} {ns : List Int} {tab : Str} {x6 : Option V} {js : List DJ} {TTs : TT} (hS : ∀ H', Same H H' → SqL K H' a (ns.map V.int)) (hl : ns.length ≤ 63) (X13 : Same H H13) (htd : H13 td = some (.dK (kvT TTs))) (hD13 : DeskAt w C H13 x dd js)
    (hT : isT js TTs) (hTn : TTs.map (fun p => txS p.1) = [("a" : Str), "g", "z", "n"]) (hTf : ∀ js : List DJ, isT js TTs → js.map DJ.pf = PF) (k : ∀ H', J.rt (.bl true) H') :
    (tSeq
            (tFor
              (iRng1
                (tCons
                  (tCB (fun xs H Q => ∃ i j, xs = [V.int i, V.int j] ∧ Q (V.int (if j < i then j else i)) H)
                    (tCons
                      (tCB (fun xs H Q => ∃ i j, xs = [V.int i, V.int j] ∧ Q (V.int (if j > i then j else i)) H)
                        (tCons
                          (tCB (fun xs H Q => ∃ x n, xs = [x] ∧ LenV K x H n ∧ Q (V.int (n : Nat)) H) (tCons (tVar 0) tNil))
                          (tCons (tC (V.int 4)) tNil)))
                      (tCons (tC (V.int 40)) tNil)))
                  tNil))
              (gName 7)
              (tSeq
                (tAsg
                  (tCall sp__law_store [] E0
                    (tCons (tCall (sp__law_cell (K := K)) [] E0 (tCons (tVar 0) (tCons (tVar 7) tNil))) tNil))
                  (gName 1))
                (tSeq
                  (tAsg
                    (tCall sp__law_take [] E0
                      (tCons (tVar 1)
                        (tCons (tOp (rI CPow fun i j => V.int (i ^ j.toNat)) (tC (V.int 10)) (tC (V.int 6))) tNil)))
                    (gName 8))
                  (tSeq
                    (tAsg
                      (tOp (rIxL K)
                        (tLst
                          (tCons
                            (tTup
                              (tCons (tCall (sp__law_no_row K) [] E0 (tCons (tVar 8) tNil))
                                (tCons (tC (V.str (PySem.Str.ofString "NoRow"))) tNil)))
                            (tCons
                              (tTup
                                (tCons (tCall sp__law_no_name [] E0 (tCons (tVar 8) tNil))
                                  (tCons (tC (V.str (PySem.Str.ofString "NoName"))) tNil)))
                              (tCons
                                (tTup
                                  (tCons (tCall sp__law_no_text [] E0 (tCons (tVar 8) tNil))
                                    (tCons (tC (V.str (PySem.Str.ofString "NoText"))) tNil)))
                                (tCons (tCall sp__law_others [] E0 (tCons (tVar 8) tNil)) tNil)))))
                        (tCall sp__law_take [] E0 (tCons (tVar 1) (tCons (tC (V.int 4)) tNil))))
                      (gTup
                        K
                        2
                        (gCons (gName 9) (gCons (gName 10) gNil))))
                    (tSeq
                      (tIfS
                        (tOr
                          (tTest
                            (tOp rNe
                              (tCall (lsaid_sp C mg (sp_Desk_say w K C mg)) [] E0
                                (tCons (tVar 5) (tCons (tVar 9) tNil)))
                              (tVar 10)))
                          (tTest
                            (tOp (rNeP K) (tMeth C (PySem.Str.ofString "names") (sp_Desk_names w C) [] E0 (tVar 5) tNil)
                              (tLst
                                (tCons (tC (V.str (PySem.Str.ofString "a")))
                                  (tCons (tC (V.str (txS [103])))
                                    (tCons (tC (V.str (txS [110]))) (tCons (tC (V.str (txS [122]))) tNil))))))))
                        (tRet (tC (V.bl false))) tNext)
                      (tIfS
                        (tB
                          (tNil' (fun b => !b) K
                            (tLockE
                              (tLc (iKeys (tVar 4)) (gName 6)
                                (tTest
                                  (tOp rNe
                                    (tMeth C (PySem.Str.ofString "say") (sp_Desk_say w K C mg) [] E0 (tVar 5)
                                      (tCons
                                        (tOp
                                          (fun x y H Q =>
                                            ∃ i j,
                                              x = V.str i ∧
                                                y = V.str j ∧ i.length + j.length ≤ sizeLine ∧ Q (V.str (i ++ j)) H)
                                          (tC (V.str (PySem.Str.ofString "show "))) (tVar 6))
                                        tNil))
                                    (tDGet (tVar 4) (tVar 6))))
                                (tVar 6) (List.map (fun x => x.snd) [(PySem.Str.ofString "name", 6)])))))
                        (tRet (tC (V.bl false))) tNext))))))
            (tSeq
              (tIfS
                (tOr
                  (tTest
                    (tOp rNe
                      (tCall (lsaid_sp C mg (sp_Desk_say w K C mg)) [] E0
                        (tCons (tVar 5) (tCons (tC (V.str (PySem.Str.ofString "judge q a 1 0 1 0 1"))) tNil)))
                      (tC (V.str (PySem.Str.ofString "NoText")))))
                  (tTest
                    (tOp rNe
                      (tCall (lsaid_sp C mg (sp_Desk_say w K C mg)) [] E0
                        (tCons (tVar 5) (tCons (tC (V.str (PySem.Str.ofString "judge q a 1 0 1 0 0"))) tNil)))
                      (tC (V.str (PySem.Str.ofString "ok"))))))
                (tRet (tC (V.bl false))) tNext)
              (tRet
                (tAndV
                  (tOp rEq
                    (tMeth C (PySem.Str.ofString "say") (sp_Desk_say w K C mg) [] E (tVar 5)
                      (tCons (tC (V.str (PySem.Str.ofString "show q"))) tNil))
                    (tC (V.str (PySem.Str.ofString "a 1 0 1 0 0"))))
                  (tOp (rEqP K) (tMeth C (PySem.Str.ofString "names") (sp_Desk_names w C) [] E0 (tVar 5) tNil)
                    (tLst
                      (tCons (tC (V.str (PySem.Str.ofString "a")))
                        (tCons (tC (V.str (txS [103])))
                          (tCons (tC (V.str (txS [110])))
                            (tCons (tC (V.str (PySem.Str.ofString "q"))) (tCons (tC (V.str (txS [122]))) tNil))))))))))) J [some (V.ref a), some (V.ref st), some (V.str tab), none, some (V.ref td), some (V.ref x), x6, none, none, none, none] H13 := by
  have S0 : ∀ H', Same H13 H' → SqL K H' a (ns.map V.int) := fun H' S => hS _ (X13.trans S)
  have hS13 := S0 _ (Same.refl _)
  walk_at "rd"
  refine ⟨_, _, rfl, ?_⟩
  walk_at "rd"
  refine ⟨_, _, rfl, ?_⟩
  walk_at "rd"
  refine ⟨?_, ?_, ?_⟩
  · split <;> split <;> omega
  · split <;> split <;> omega
  generalize hN : (if (40 : Int) < _ then _ else _ : Int).toNat = N
  have hN20 : N ≤ 40 := by
    rw [← hN]
    split <;> split <;> omega
  clear hN
  have hjl : js.length ≤ 1000 := by
    have := congrArg List.length hT
    rw [List.length_map, List.length_map, ← List.length_map (f := fun p : List Nat × Jd => txS p.1) (as := TTs), hTn] at this
    rw [this]
    decide
  have hTd : (TTs.map fun p => txS p.1).Nodup := by rw [hTn]; decide +kernel
  have hnm : js.map (fun x => x.nm) = [("a" : Str), "g", "z", "n"] := hT.nm.trans hTn
  have hpf : js.map DJ.pf = PF := hTf js hT
  refine for_range (lo := 0) (n := N) (fun i σ H' => ∃ x1 x6 x7 x8 x9 x10 : Option V, σ = [some (V.ref a), x1, some (V.str tab), none, some (V.ref td), some (V.ref x), x6, x7, x8, x9, x10] ∧ Same H13 H')
    ⟨_, _, _, _, _, _, rfl, Same.refl _⟩ ?_ ?_
  · rintro i σ H14 hi ⟨x1, x6, x7, x8, x9, x10, rfl, S14⟩
    walk_at "rd"
    refine ⟨a, ns, i, by show [V.ref a, V.int (0 + (i : Int))] = _; rw [Int.zero_add], S0 _ S14, by omega, fun z => ?_⟩
    refine ⟨z, rfl, fun H1 st g0 g1 S1 nst hst => ?_⟩
    have hst1 : StoreAt H1 st := ⟨_, _, _, hst⟩
    have nst0 : ∀ b ∈ [st], H14 b = none := fun b hb => by rw [List.mem_singleton.mp hb]; exact nst
    walk_at "rd"
    refine ⟨st, _, rfl, hst1, by decide, by decide, fun H2 num K2 hst2 h20 h21 => ?_⟩
    have S2 : Same H14 H2 := Same.keepNew S1 nst0 K2
    walk_at "rd"
    refine fun H3 v S3 hv => ?_
    walk_at "rd"
    refine ⟨(by walk_at "sz"), fun p1 n1 => ?_⟩
    generalize e4 : upd H3 p1 _ = H4
    obtain ⟨S4, hp1⟩ := newF n1 e4
    walk_at "rd"
    refine fun H5 r2 S5 hr2 => ?_
    walk_at "rd"
    refine ⟨(by walk_at "sz"), fun p2 n2 => ?_⟩
    generalize e6 : upd H5 p2 _ = H6
    obtain ⟨S6, hp2⟩ := newF n2 e6
    walk_at "rd"
    refine fun H7 r3 S7 hr3 => ?_
    walk_at "rd"
    refine ⟨(by walk_at "sz"), fun p3 n3 => ?_⟩
    generalize e8 : upd H7 p3 _ = H8
    obtain ⟨S8, hp3⟩ := newF n3 e8
    walk_at "rd"
    refine fun H9 p4 r4 c4 S9 hr4 hp4 => ?_
    walk_at "rd"
    refine ⟨by show 4 ≤ sizeLine; decide, fun p5 n5 => ?_⟩
    generalize e10 : upd H9 p5 _ = H10
    obtain ⟨S10, hp5⟩ := newF n5 e10
    walk_at "rd"
    have S310 : Same H3 H10 := S4.trans (S5.trans (S6.trans (S7.trans (S8.trans (S9.trans S10)))))
    have hst10 : StoreAt H10 st := by
      obtain ⟨y1, y2, y3, q⟩ := hst2
      exact ⟨y1, y2, y3, S310 _ _ (S3 _ _ q)⟩
    refine ⟨st, 4, rfl, hst10, by decide, by decide, fun H11 r K11 hst11 hr0 hr1 => ?_⟩
    have S11 : Same H14 H11 := Same.keepNew (S2.trans (S3.trans S310)) nst0 K11
    have hH2st : ∀ b ∈ [st], H2 b ≠ none := fun b hb z => by
      obtain ⟨y1, y2, y3, q⟩ := hst2
      rw [List.mem_singleton.mp hb, q] at z
      cases z
    have ne : ∀ {p : Addr} {G : Hp}, Same H2 G → G p = none → p ∉ [st] := fun S n z => hH2st _ z (S.free n)
    have S23 : Same H2 H10 := S3.trans S310
    have q5 := K11.but _ _ (ne (S3.trans (S4.trans (S5.trans (S6.trans (S7.trans (S8.trans S9)))))) n5) hp5
    have q1 := K11.but _ _ (ne S3 n1) ((S5.trans (S6.trans (S7.trans (S8.trans (S9.trans S10))))) _ _ hp1)
    have q2 := K11.but _ _ (ne (S3.trans (S4.trans S5)) n2) ((S7.trans (S8.trans (S9.trans S10))) _ _ hp2)
    have q3 := K11.but _ _ (ne (S3.trans (S4.trans (S5.trans (S6.trans S7)))) n3) ((S9.trans S10) _ _ hp3)
    have q4 := K11.tup _ _ (S10 _ _ hp4)
    obtain ⟨t, hat, v9, i9, hi9, ht9, hR⟩ : ∃ t, atI [V.ref p1, V.ref p2, V.ref p3, V.ref p4] r = some (.ref t) ∧ ∃ v9 i9, i9 < 7 ∧ H11 t = some (.tup [v9, .str (exN i9)]) ∧ ((∃ y, v9 = .str y ∧ rowZb y = true ∧ DueP PF y (exN i9)) ∨ (NoTx K H11 v9 ∧ i9 = 0)) := by
      obtain rfl | rfl | rfl | rfl : r = 0 ∨ r = 1 ∨ r = 2 ∨ r = 3 := by omega
      · refine ⟨p1, rfl, v, 0, by decide, q1, ?_⟩
        rcases hv with ⟨y, hy, rfl⟩ | hv
        · exact .inl ⟨y, rfl, (no_row_ok y hy).1, .inl ⟨(no_row_ok y hy).2, rfl⟩⟩
        · exact .inr ⟨hv [st] H11 ((Same.keep S310).trans K11) hH2st, rfl⟩
      · exact ⟨p2, rfl, _, 1, by decide, q2, .inl ⟨_, rfl, (no_name_ok _ hr2).1, due_of (no_name_ok _ hr2).2⟩⟩
      · exact ⟨p3, rfl, _, 2, by decide, q3, .inl ⟨_, rfl, (no_text_ok _ hr3).1, (no_text_ok _ hr3).2⟩⟩
      · obtain ⟨i9, hi9, rfl⟩ : ∃ i9, i9 < 7 ∧ exN i9 = c4 := (show ∀ p ∈ mn_law_others, ∃ i9, i9 < 7 ∧ exN i9 = p.2 by decide +kernel) _ hr4
        exact ⟨p4, rfl, _, i9, hi9, q4, .inl ⟨_, rfl, (others_ok _ hr4).1, due_of (others_ok _ hr4).2⟩⟩
    refine ⟨_, _, _, _, rfl, rfl, SqL.of q5, hat, ?_⟩
    have hD11 := hD13.same (S14.trans S11)
    obtain ⟨dx11, hx11⟩ := hD11.ins
    have key : ∀ (R : V → Hp → Prop) (E' : XK), (∀ H'', Same H11 H'' → R (.str (exN i9)) H'') → lsaid_sp C mg (sp_Desk_say w K C mg) [V.ref x, v9] H11 R E' := by
      intro R E' hR'
      refine ⟨x, dd, dx11, v9, rfl, hx11, x, dd, js, v9, rfl, hD11, hjl, ?_⟩
      rcases hR with ⟨y, rfl, hy1, hy2⟩ | ⟨⟨u, ty, ku⟩, rfl⟩
      · exact .inl ⟨y, exN i9, rfl, rowZ_of hy1, by rw [hpf]; exact hy2, fun y2 hm H' S => ⟨rfl, i9, hi9, hm, fun H'' S' => hR' _ (S.trans S')⟩⟩
      · exact .inr (.inl ⟨u, ty, ku, fun y2 hm => ⟨rfl, 0, by decide, hm, fun H'' S' => hR' _ S'⟩⟩)
    walk_at "rd"
    dsimp only [tNil, List.append_nil]
    refine key _ _ fun H12 S12 => ?_
    have hD12 := hD11.same S12
    obtain ⟨dx12, hx12⟩ := hD12.ins
    walk_at "rd"
    refine iteC (by rw [decide_eq_true rfl]; rfl) ?_
    walk_at "rd"
    refine ⟨x, dx12, _, rfl, hx12, lk_no (by decide +kernel), ?_⟩
    walk_at "rd"
    refine ⟨x, dd, js, rfl, hD12, fun pn np => ?_⟩
    rw [hnm, names4]
    generalize e15 : upd H12 pn _ = H15
    obtain ⟨S15, hpn⟩ := newF np e15
    walk_at "rd"
    refine ⟨by show 4 ≤ sizeLine; decide, fun pl nl => ?_⟩
    generalize e16 : upd H15 pl _ = H16
    obtain ⟨S16, hpl⟩ := newF nl e16
    refine ⟨_, _, strs_dp (S16 _ _ hpn), strs_dp (l := [("a" : Str), txS [103], txS [110], txS [122]]) hpl, by decide +kernel, by decide +kernel, by decide +kernel, ?_⟩
    dsimp only [tNext]
    have S1316 : Same H13 H16 := S14.trans (S11.trans (S12.trans (S15.trans S16)))
    have htd16 := S1316 _ _ htd
    have hD16 := hD13.same S1316
    have htdd : dd ≠ td := fun z => by
      have q := hD16.dic
      rw [z, htd16] at q
      obtain ⟨j0, js0, e0⟩ : ∃ j0 js0, js = j0 :: js0 := by
        cases js with
        | nil => cases hnm
        | cons j0 js0 => exact ⟨_, _, rfl⟩
      obtain ⟨t0, ts0, e1⟩ : ∃ t0 ts0, TTs = t0 :: ts0 := by
        cases TTs with
        | nil => cases hTn
        | cons j0 js0 => exact ⟨_, _, rfl⟩
      rw [e0, e1] at q
      injection q with q
      injection q with q
      injection q with q1 q2
      injection q1 with q3 q4
      cases q4
    walk_at "rd"
    refine ⟨td, _, htd16, trivial, fun od => ?_⟩
    have hDF : DeskAt w C (upd H16 td (.frz od (.dK (kvT TTs)))) x dd js := hD16.oth htdd (.inl htd16)
    generalize eF : upd H16 td (.frz od _) = HF
    rw [eF] at hDF
    have hFt : HF td = some (.frz od (.dK (kvT TTs))) := by rw [← eF]; exact upd_same
    walk_at "rd"
    refine ⟨td, od, rfl, .inl ⟨kvT TTs, hFt, ?_⟩⟩
    refine fun D nD => lc_it walk_keys (PvE HF D fun _ => false) (PvE.start nD) (fun i H' _ q => q.S _ _ hFt) ?_ ?_
    · rintro j9 y H00 H17 hj q ⟨rfl, kk, vv, hkv, rfl⟩
      rw [kvT, List.getElem?_map] at hkv
      obtain ⟨p, hp, e2⟩ := Option.map_eq_some_iff.mp hkv
      cases e2
      have hmem : p ∈ TTs := List.mem_of_getElem? hp
      obtain ⟨jj, hjj, ejj⟩ : ∃ jj ∈ js, (jj.nm, jj.J) = (txS p.1, p.2) := by
        have : (txS p.1, p.2) ∈ js.map (fun j => (j.nm, j.J)) := by rw [show js.map (fun j => (j.nm, j.J)) = _ from hT]; exact List.mem_map.mpr ⟨p, hmem, rfl⟩
        exact List.mem_map.mp this
      obtain ⟨ej1, ej2⟩ := Prod.mk.inj ejj
      have hpn : txS p.1 ∈ [("a" : Str), "g", "z", "n"] := by rw [← hTn]; exact List.mem_map.mpr ⟨p, hmem, rfl⟩
      obtain ⟨hz, hw, hlen⟩ := shows_ok _ hpn
      have hD17 := hDF.same q.S
      obtain ⟨dx17, hx17⟩ := hD17.ins
      have hFt17 := q.S _ _ hFt
      walk_at "rd"
      refine ⟨x, dx17, _, rfl, hx17, lk_no (by decide +kernel), ?_⟩
      walk_at "rd"
      refine ⟨hlen, ?_⟩
      walk_at "rd"
      refine ⟨x, dd, js, _, rfl, hD17, hjl, .inr (.inr (.inl ⟨_, jj, hjj, rfl, rowZ_of hz, (by rw [ej1]; exact hw), fun H18 S18 => ?_⟩))⟩
      walk_at "rd"
      refine ⟨td, _, rfl, .inl ⟨kvT TTs, .inr (txS p.1), .inr ⟨od, S18 _ _ hFt17⟩, rfl, (kvT_at hTd hmem).symm⟩, ?_⟩
      rw [ej2]
      walk_at "rd"
      refine iteC (by rw [decide_eq_true rfl]; rfl) ?_
      exact q.skip S18 rfl
    · rintro H17 ⟨S17, acc, hDa, _, hacc⟩
      have he : acc.isEmpty = true := by
        rw [hacc]
        exact List.all_eq_true.mpr fun _ _ => rfl
      refine ⟨S17 _ _ hFt, ?_⟩
      have hDt : D ≠ td := fun z => by
        rw [z, hFt] at nD
        cases nD
      have S19 : Same H16 (upd H17 td (.dK (kvT TTs))) := lock_same htd16 (by rw [eF]; exact S17)
      generalize e19 : upd H17 td (.dK (kvT TTs)) = H19
      rw [e19] at S19
      have hD19 : H19 D = some (.lst acc) := by rw [← e19, upd_ne hDt]; exact hDa
      refine ⟨D, acc, rfl, SqL.of hD19, ?_⟩
      rw [he]
      walk_at "rd"
      exact ⟨_, _, _, _, _, _, rfl, S1316.trans S19⟩
  · rintro σ H14 ⟨x1, x6, x7, x8, x9, x10, rfl, S14⟩
    exact law_end (td := td) (hD13.same S14) hjl hnm hpf k
end
end Hy
set_option Elab.async false
set_option linter.all false
set_option maxRecDepth 100000
set_option maxHeartbeats 4000000
namespace Hy
open PySem L2
local macro_rules | `(tactic| walk_at "hp") => `(tactic| first
  | assumption | exact upd_same
  | (refine (upd_ne ?_).trans ?_ <;> first | assumption | (exact Ne.symm (by assumption)) | walk_at "ne" | walk_at "hp")
  | (refine (by assumption : Same _ _) _ _ ?_; assumption))
local macro_rules | `(tactic| walk_at "ne") => `(tactic| first
  | assumption | (exact Ne.symm (by assumption))
  | exact ne_of_none (by assumption) (by assumption) | exact Ne.symm (ne_of_none (by assumption) (by assumption)))
local macro_rules | `(tactic| walk_at "sz") => `(tactic| first | assumption | (show 0 ≤ sizeLine; decide) | (show 1 ≤ sizeLine; decide) | (show 2 ≤ sizeLine; decide) | (show 3 ≤ sizeLine; decide))
local macro_rules | `(tactic| walk_at "ar") => `(tactic| first
  | ((with_reducible show (0 : Int) < _); first | decide | omega)
  | ((with_reducible show CMul _ _); first | exact Or.inr (And.intro (by decide) (by decide)) | exact Or.inl (And.intro (by decide) (by decide)) | (refine Or.inl (And.intro ?_ ?_) <;> omega) | (refine Or.inr (And.intro ?_ ?_) <;> omega))
  | ((with_reducible show CPow _ _); exact And.intro (by decide) (And.intro (by decide) (by decide)))
  | ((with_reducible show CDiv _ _); first | exact And.intro (by decide) (by decide) | (refine And.intro ?_ ?_ <;> omega)))
/- one step of a reading -/
local macro_rules | `(tactic| walk_at "r1") => `(tactic| first
  | refine ⟨_, rfl, ?_⟩
  | refine iteB (by rfl) ?_ | refine iteC (by rfl) ?_
  | refine ⟨_, _, rfl, rfl, ?_⟩
  | refine ⟨rfl, ?_⟩
  | refine ⟨⟨_, rfl⟩, ?_⟩
  | refine ⟨_, _, _, _, true, rfl, .ty _, .base (.str _), kit_ty (by decide +kernel), ?_⟩
  | refine ⟨_, _, _, _, false, rfl, .ty _, .base (.str _), kit_ty (by decide +kernel), ?_⟩
  | refine ⟨_, _, _, _, true, rfl, .ty _, .base (.int _), kit_ty (by decide +kernel), ?_⟩
  | refine ⟨_, _, _, _, false, rfl, .ty _, .base (.int _), kit_ty (by decide +kernel), ?_⟩
  | refine ⟨_, _, _, _, true, rfl, .ty _, .base (.tup (by walk_at "hp")), kit_ty (by decide +kernel), ?_⟩
  | refine ⟨_, _, _, _, false, rfl, .ty _, .base (.tup (by walk_at "hp")), kit_ty (by decide +kernel), ?_⟩
  | refine ⟨_, _, _, _, true, rfl, .ty _, .base (.lst (by walk_at "hp")), kit_ty (by decide +kernel), ?_⟩
  | refine ⟨_, _, _, _, false, rfl, .ty _, .base (.lst (by walk_at "hp")), kit_ty (by decide +kernel), ?_⟩
  | refine ⟨_, _, rfl, ⟨by walk_at "sz", rfl⟩, ?_⟩
  | refine ⟨_, _, _, _, rfl, rfl, SqT.of (by walk_at "hp"), by rfl, ?_⟩
  | refine ⟨_, _, _, _, rfl, rfl, SqL.of (by walk_at "hp"), by rfl, ?_⟩
  | refine ⟨.inl ⟨rfl, _, SqL.of (by walk_at "hp")⟩, ?_⟩
  | refine ⟨_, _, _, rfl, rfl, (by walk_at "hp"), snoc_get, ?_⟩
  | refine ⟨_, _, _, _, rfl, rfl, (by walk_at "hp"), by rfl, ?_⟩
  | refine ⟨_, _, rfl, SqL.of (by walk_at "hp"), ?_⟩
  | refine ⟨_, _, rfl, SqT.of (by walk_at "hp"), by rfl, ?_⟩
  | refine ⟨_, (_ : List V), rfl, ?_⟩
  | refine ⟨_, _, rfl, .inl ⟨_, (by assumption), rfl⟩, ?_⟩
  | refine ⟨_, _, rfl, .inl ⟨_, SqL.of (by walk_at "hp"), rfl⟩, ?_⟩
  | refine ⟨_, _, rfl, .inr ⟨_, SqT.of (by walk_at "hp"), rfl⟩, ?_⟩
  | refine Or.inl ⟨(_ : Int), rfl, ?_⟩ | refine Or.inr ⟨(_ : Bool), rfl, ?_⟩
  | refine ⟨_, _, _, _, true, rfl, (by assumption : ND _ _ _ _), .ty _, kit_ty (by decide +kernel), ?_⟩
  | refine ⟨_, _, _, _, false, rfl, (by assumption : ND _ _ _ _), .ty _, kit_ty (by decide +kernel), ?_⟩
  | refine ⟨_, _, rfl, (by assumption : ND _ _ _ _), ?_⟩
  | refine And.intro (by walk_at "ar") ?_)
local macro_rules | `(tactic| walk_at "rd") => `(tactic| repeat walk_at "r1")

section
variable {P : Program} {w : World} {K : PySem.W.Frag} {mg : Str → Option Value} {base : Heap} {C : Addr}
abbrev s_law : Stmt := top 111
theorem sc_law : FnScope ["script", "store", "table", "k", "texts", "desk", "name", "at", "number", "row", "due"] ["script"] (defScope s_law) := ⟨rfl, rfl, rfl, by decide +kernel, rfl, by decide +kernel, by decide +kernel⟩

def lsp_law : Sp := fun vs H Q _ => ∃ (a : Addr) (ns : List Int), vs = [.ref a] ∧ SqL K H a (ns.map V.int) ∧ ns.length ≤ 63 ∧ ∀ H', Q (.bl true) H'
theorem lok_law (cD : Cls K C) (mDesk : MkO K mg "Desk" C) (T : Txt K mg) (G__law_cell : G' P w K mg base "_law_cell" 1 ["script", "k"] (sp__law_cell (K := K))) (G__law_store : G' P w K mg base "_law_store" 1 ["cell"] sp__law_store) (G__law_take : G' P w K mg base "_law_take" 1 ["store", "many"] sp__law_take)
    (G_Desk___init__ : Gm P w K mg base C "__init__" 1 ["self"] (sp_Desk___init__ C)) (G_Desk_names : Gm P w K mg base C "names" 1 ["self"] (sp_Desk_names w C)) (G_Desk_say : Gm P w K mg base C "say" 9 ["self", "row"] (sp_Desk_say w K C mg))
    (G__law_said : G' P w K mg base "_law_said" 10 ["desk", "row"] (lsaid_sp C mg (sp_Desk_say w K C mg))) (G__law_no_row : G' P w K mg base "_law_no_row" 1 ["number"] (sp__law_no_row K)) (G__law_no_name : G' P w K mg base "_law_no_name" 1 ["number"] sp__law_no_name)
    (G__law_no_text : G' P w K mg base "_law_no_text" 1 ["number"] sp__law_no_text) (G__law_others : G' P w K mg base "_law_others" 1 ["number"] sp__law_others) :
    ∀ (f : Addr) (fd : FuncData), Fun K "law" "law" s_law f fd → FnOk P w K mg base (L2.CX P w) 11 f fd ["script"] (lsp_law (K := K)) := by
  refine fun f fd F => F.okX sc_law (fun vs H Q E h => ?_) (fun cdv A outer s H vs Q E hr h => ?_)
  · obtain ⟨a, ns, rfl, _⟩ := h
    rfl
  · obtain ⟨a, ns, rfl, hS, hl, k⟩ := h
    refine ⟨_, (pss_cons (ps_set (i := 1) sc_law.nd rfl (by first | exact Or.inl rfl | exact Or.inr rfl) (pe_cl G__law_store (hr.mono (by omega)) passF (pa_cons (pe_cl G__law_cell (hr.mono (by omega)) passF (pa_cons (pv 0) (pa_cons pe_int pa_nil))) pa_nil)))
  (pss_cons (ps_set (i := 2) sc_law.nd rfl (by first | exact Or.inl rfl | exact Or.inr rfl) (pe_join pe_str (pe_lc (own := [("k", 3)]) rfl sc_law.nd (pi_range1 (by rfl) T.n_range (pa_cons pe_int pa_nil)) (blkOk_by (own := [("k", 3)]) (N := ["script", "store", "table", "k", "texts", "desk", "name", "at", "number", "row", "due"]) (sc := defScope s_law) (by decide +kernel)) (fun _ _ _ _ _ => (pg_name (i := 3) sc_law.nd rfl (by first | exact Or.inl rfl | exact Or.inr rfl))) (fun _ _ _ _ _ => pts_nil) (fun _ _ _ _ _ => (pe_callTy call_str_int (by rfl) T.n_str (by decide +kernel) (pa_cons (pe_cl G__law_take (hr.mono (by omega)) passF (pa_cons (pv 1) (pa_cons pe_int pa_nil))) pa_nil))))))
  (pss_cons (ps_set (i := 4) sc_law.nd rfl (by first | exact Or.inl rfl | exact Or.inr rfl) (pe_disp (pps_cons pe_str (pe_op op_add_str (pe_op op_add_str (pe_op op_add_str pe_str (pe_ix (ix_listK K) (pe_lst (pa_cons pe_str (pa_cons pe_str (pa_cons pe_str (pa_cons pe_str pa_nil))))) (pe_cl G__law_take (hr.mono (by omega)) passF (pa_cons (pv 1) (pa_cons pe_int pa_nil))) (fun _ _ => rfl))) pe_str) (pv 2)) pps_nil) (by rfl) rfl (by simp) (by decide)))
  (pss_cons (ps_dput (hu_of hr) (pv 4) pe_str (pe_op op_add_str pe_str (pe_join pe_str (pe_lc (own := [("k", 3)]) rfl sc_law.nd (pi_range1 (by rfl) T.n_range (pa_cons pe_int pa_nil)) (blkOk_by (own := [("k", 3)]) (N := ["script", "store", "table", "k", "texts", "desk", "name", "at", "number", "row", "due"]) (sc := defScope s_law) (by decide +kernel)) (fun _ _ _ _ _ => (pg_name (i := 3) sc_law.nd rfl (by first | exact Or.inl rfl | exact Or.inr rfl))) (fun _ _ _ _ _ => pts_nil) (fun _ _ _ _ _ => (pe_callTy call_str_int (by rfl) T.n_str (by decide +kernel) (pa_cons (pe_cl G__law_take (hr.mono (by omega)) passF (pa_cons (pv 1) (pa_cons pe_int pa_nil))) pa_nil)))))) rfl)
  (pss_cons (ps_dput (hu_of hr) (pv 4) pe_str pe_str rfl)
  (pss_cons (ps_dput (hu_of hr) (pv 4) pe_str pe_str rfl)
  (pss_cons (ps_set (i := 5) sc_law.nd rfl (by first | exact Or.inl rfl | exact Or.inr rfl) (pe_mkO mDesk G_Desk___init__ (hr.mono (by omega))))
  (pss_cons (ps_lock (ps_for (passes_of rfl) rfl (pi_keys (pv 4)) (pg_name (i := 6) sc_law.nd rfl (by first | exact Or.inl rfl | exact Or.inr rfl)) (pss_one (ps_if (pt_cmpR op_ne (pe_cl G__law_said (hr.mono (by omega)) passF (pa_cons (pv 5) (pa_cons (pe_op op_add_str (pe_op op_add_str (pe_op op_add_str pe_str (pv 6)) pe_str) (pe_dget (hu_of hr) (pv 4) (pv 6) (fun _ _ => rfl))) pa_nil))) pe_str (nomark _)) (pss_one (ps_ret pe_bl)) pss_nil))))
  (pss_cons (ps_for (passes_of rfl) rfl (pi_range1 (by rfl) T.n_range (pa_cons (pe_callB (call_min2 rfl) (by rfl) T.n_min (by decide +kernel) (pa_cons (pe_callB (call_max2 rfl) (by rfl) T.n_max (by decide +kernel) (pa_cons (pe_callB (call_lenK K) (by rfl) T.n_len PySem.boot_len (pa_cons (pv 0) pa_nil)) (pa_cons pe_int pa_nil))) (pa_cons pe_int pa_nil))) pa_nil)) (pg_name (i := 7) sc_law.nd rfl (by first | exact Or.inl rfl | exact Or.inr rfl)) (pss_cons (ps_set (i := 1) sc_law.nd rfl (by first | exact Or.inl rfl | exact Or.inr rfl) (pe_cl G__law_store (hr.mono (by omega)) passF (pa_cons (pe_cl G__law_cell (hr.mono (by omega)) passF (pa_cons (pv 0) (pa_cons (pv 7) pa_nil))) pa_nil)))
  (pss_cons (ps_set (i := 8) sc_law.nd rfl (by first | exact Or.inl rfl | exact Or.inr rfl) (pe_cl G__law_take (hr.mono (by omega)) passF (pa_cons (pv 1) (pa_cons (pe_op op_pow pe_int pe_int) pa_nil))))
  (pss_cons (ps_asg (pe_ix (ix_listK K) (pe_lst (pa_cons (pe_tup (pa_cons (pe_cl G__law_no_row (hr.mono (by omega)) passF (pa_cons (pv 8) pa_nil)) (pa_cons pe_str pa_nil))) (pa_cons (pe_tup (pa_cons (pe_cl G__law_no_name (hr.mono (by omega)) passF (pa_cons (pv 8) pa_nil)) (pa_cons pe_str pa_nil))) (pa_cons (pe_tup (pa_cons (pe_cl G__law_no_text (hr.mono (by omega)) passF (pa_cons (pv 8) pa_nil)) (pa_cons pe_str pa_nil))) (pa_cons (pe_cl G__law_others (hr.mono (by omega)) passF (pa_cons (pv 8) pa_nil)) pa_nil))))) (pe_cl G__law_take (hr.mono (by omega)) passF (pa_cons (pv 1) (pa_cons pe_int pa_nil))) (fun _ _ => rfl)) (pg_tup (by rfl) (pgs_cons (pg_name (i := 9) sc_law.nd rfl (by first | exact Or.inl rfl | exact Or.inr rfl)) (pgs_cons (pg_name (i := 10) sc_law.nd rfl (by first | exact Or.inl rfl | exact Or.inr rfl)) pgs_nil))))
  (pss_cons (ps_if (PW.pt (pw_or (pt_cmpR op_ne (pe_cl G__law_said (hr.mono (by omega)) passF (pa_cons (pv 5) (pa_cons (pv 9) pa_nil))) (pv 10) (nomark _)) (pw_or1 (pt_cmpR (op_nePK K hr) (pe_mt0 cD G_Desk_names (hr.mono (by omega)) passF (pv 5)) (pe_lst (pa_cons pe_str (pa_cons pe_str (pa_cons pe_str (pa_cons pe_str pa_nil))))) (nomark _))))) (pss_one (ps_ret pe_bl)) pss_nil)
  (pss_one (ps_if (pt_cmp (pc_neNilK K hr (pe_lock (pe_lc (own := [("name", 6)]) rfl sc_law.nd (pi_keys (pv 4)) (blkOk_by (own := [("name", 6)]) (N := ["script", "store", "table", "k", "texts", "desk", "name", "at", "number", "row", "due"]) (sc := defScope s_law) (by decide +kernel)) (fun _ _ _ _ _ => (pg_name (i := 6) sc_law.nd rfl (by first | exact Or.inl rfl | exact Or.inr rfl))) (fun _ _ _ _ _ => (pts_one (pt_cmpR op_ne (pe_mt cD G_Desk_say (hr.mono (by omega)) passF (pv 5) (pa_cons (pe_op op_add_str pe_str (pv 6)) pa_nil)) (pe_dget (hu_of hr) (pv 4) (pv 6) (fun _ _ => rfl)) (nomark _)))) (fun _ _ _ _ _ => (pv 6)))))) (pss_one (ps_ret pe_bl)) pss_nil)))))))
  (pss_cons (ps_if (PW.pt (pw_or (pt_cmpR op_ne (pe_cl G__law_said (hr.mono (by omega)) passF (pa_cons (pv 5) (pa_cons pe_str pa_nil))) pe_str (nomark _)) (pw_or1 (pt_cmpR op_ne (pe_cl G__law_said (hr.mono (by omega)) passF (pa_cons (pv 5) (pa_cons pe_str pa_nil))) pe_str (nomark _))))) (pss_one (ps_ret pe_bl)) pss_nil)
  (pss_one (ps_ret (pe_and (pe_cmpR op_eq (pe_mt cD G_Desk_say (hr.mono (by omega)) (passW (takes_of rfl rfl rfl rfl) (fun _ _ _ _ z => z)) (pv 5) (pa_cons pe_str pa_nil)) pe_str (nomark _)) (pe_one (pe_cmpR (op_eqPK K hr) (pe_mt0 cD G_Desk_names (hr.mono (by omega)) passF (pv 5)) (pe_lst (pa_cons pe_str (pa_cons pe_str (pa_cons pe_str (pa_cons pe_str (pa_cons pe_str pa_nil)))))) (nomark _)))))))))))))))), ?_⟩
    have sS : ∀ H', Same H H' → SqL K H' a (ns.map V.int) := fun H' S => hS.imp (fun q => q.imp (fun e => S _ _ e) (fun ⟨o, e⟩ => ⟨o, S _ _ e⟩)) id
    walk_at "rd"
    refine ⟨a, ns, 0, rfl, hS, by decide, fun z => ?_⟩
    refine ⟨z, rfl, fun H1 st g0 g1 S1 nst hst => ?_⟩
    have hst1 : StoreAt H1 st := ⟨_, _, _, hst⟩
    walk_at "rd"
    have e00 : PySem.Str.ofString "" = txS [] := by decide +kernel
    have e32 : PySem.Str.ofString " " = txS [32] := by decide +kernel
    refine ⟨by decide, by decide, fun D nD => lc_it walk_range (PvD st H1 D 2) (PvD.start hst1 nD) (fun _ _ _ _ => trivial) ?_ ?_⟩
    · rintro i x H2 H3 hi q ⟨rfl, rfl⟩
      walk_at "rd"
      refine ⟨st, 2, rfl, q.s, by decide, by decide, fun H4 r K4 hst4 h0 h1 => ?_⟩
      walk_at "rd"
      obtain ⟨d, rfl⟩ : ∃ d : Nat, r = (d : Int) := ⟨r.toNat, by omega⟩
      have hd9 : d ≤ 9 := by omega
      refine ⟨Nat.lt_of_le_of_lt (Nat.log2_le_self _) (show d < 1920 by omega), ?_⟩
      rw [str_dig d hd9]
      exact q.push hst1 nD K4 hst4 (by omega) (by omega)
    · rintro H2 ⟨K2, hst2, ta, hta1, hta2, hD⟩
      walk_at "rd"
      refine ⟨_, D, ta.map fun d => txS [dig d], rfl, rfl, .inl (SqL.of (by rw [List.map_map]; exact hD)), ?_, ?_⟩
      · rw [e00, sum_dig, txS_len, List.length_map]
        show ta.length + ta.length * 0 ≤ _
        omega
      rw [e00, join_dig]
      walk_at "rd"
      refine fun td ntd => ?_
      generalize e3 : upd H2 td _ = H3
      obtain ⟨S3, htd3⟩ := newF ntd e3
      have hst3 : StoreAt H3 st := by rw [← e3]; exact hst2.new ntd
      have tds : td ≠ st := hst2.ne ntd
      walk_at "rd"
      refine ⟨by show 4 ≤ sizeLine; decide, fun p4 n4 => ?_⟩
      generalize e4 : upd H3 p4 _ = H4
      obtain ⟨S4, hp4⟩ := newF n4 e4
      have hst4 : StoreAt H4 st := by rw [← e4]; exact hst3.new n4
      have p4s : p4 ≠ st := hst3.ne n4
      walk_at "rd"
      refine ⟨st, 4, rfl, hst4, by decide, by decide, fun H5 r K5 hst5 hr0 hr1 => ?_⟩
      have hp5 := K5.but _ _ (by simpa using p4s) hp4
      obtain ⟨gd, hgd, hG⟩ : ∃ gd ∈ [[], [0], [1], [0, 1]], atI [V.str (PySem.Str.ofString "-"), V.str (PySem.Str.ofString "0"), V.str (PySem.Str.ofString "1"), V.str (PySem.Str.ofString "0,1")] r = some (.str (txS (goodL gd))) := by
        obtain rfl | rfl | rfl | rfl : r = 0 ∨ r = 1 ∨ r = 2 ∨ r = 3 := by omega
        · exact ⟨[], by decide, by decide +kernel⟩
        · exact ⟨[0], by decide, by decide +kernel⟩
        · exact ⟨[1], by decide, by decide +kernel⟩
        · exact ⟨[0, 1], by decide, by decide +kernel⟩
      have hg3 : (goodL gd).length ≤ 3 := (show ∀ gd ∈ [[], [0], [1], [0, 1]], (goodL gd).length ≤ 3 by decide +kernel) gd hgd
      have eab : PySem.Str.ofString "ab 2 1 1 " = txS [97, 98, 32, 50, 32, 49, 32, 49, 32] := by decide +kernel
      have bd : ∀ {l m : List Nat}, l.length + m.length ≤ 10000 → (txS l).length + (txS m).length ≤ sizeLine := fun h => by
        rw [txS_len, txS_len]
        exact Nat.le_trans h (by decide)
      refine ⟨_, _, _, _, rfl, rfl, SqL.of hp5, hG, ?_⟩
      rw [eab]
      refine ⟨_, _, rfl, rfl, bd (by simp; omega), ?_⟩
      rw [txS_app]
      walk_at "rd"
      rw [e32]
      refine ⟨bd (by simp; omega), ?_⟩
      rw [txS_app]
      walk_at "rd"
      refine ⟨bd (by simp; omega), ?_⟩
      rw [txS_app]
      have hJA := ja_ok hta1 hta2 hgd
      have eJA : [97, 98, 32, 50, 32, 49, 32, 49, 32] ++ goodL gd ++ [32] ++ List.map dig ta = (JA ta gd).txL := by simp [Jd.txL, TL.joinL, JA, dig]
      rw [eJA, ← Jd.text_eq]
      have htd5 : H5 td = some (.dK []) := K5.but _ _ (by simpa using tds) (S4 _ _ htd3)
      refine ⟨htd5, [(.inr (txS [97]), .str (JA ta gd).text)], rfl, (by show 1 ≤ 15; decide), ?_⟩
      have nst0 : ∀ b ∈ [st], H b = none := fun b hb => by rw [List.mem_singleton.mp hb]; exact nst
      have X2 : Same H H2 := Same.keepNew S1 nst0 K2
      have ntdH : H td = none := X2.free ntd
      have X5 : Same H H5 := Same.keepNew (X2.trans (S3.trans S4)) nst0 K5
      generalize e6 : upd H5 td _ = H6
      have X6 : Same H H6 := by rw [← e6]; exact Same.upd_own X5 ntdH
      have hst6 : StoreAt H6 st := by rw [← e6]; exact hst5.oth tds
      have htd6 : H6 td = some (.dK (kvT [([97], JA ta gd)])) := by rw [← e6]; exact upd_same
      clear e6
      walk_at "rd"
      refine ⟨by decide, by decide, fun D2 nD2 => lc_it walk_range (PvD st H6 D2 6) (PvD.start hst6 nD2) (fun _ _ _ _ => trivial) ?_ ?_⟩
      · rintro i x H7 H8 hi q ⟨rfl, rfl⟩
        walk_at "rd"
        refine ⟨st, 6, rfl, q.s, by decide, by decide, fun H9 r9 K9 hst9 h90 h91 => ?_⟩
        walk_at "rd"
        obtain ⟨d, rfl⟩ : ∃ d : Nat, r9 = (d : Int) := ⟨r9.toNat, by omega⟩
        have hd9 : d ≤ 9 := by omega
        refine ⟨Nat.lt_of_le_of_lt (Nat.log2_le_self _) (show d < 1920 by omega), ?_⟩
        rw [str_dig d hd9]
        exact q.push hst6 nD2 K9 hst9 (by omega) (by omega)
      · rintro H7 ⟨K7, hst7, tg, htg1, htg2, hD2⟩
        have eg : PySem.Str.ofString "ab 6 1 1 0,5 " = txS [97, 98, 32, 54, 32, 49, 32, 49, 32, 48, 44, 53, 32] := by decide +kernel
        have X7 : Same H H7 := Same.keepNew X6 nst0 K7
        have htd7 := K7.but _ _ (by simpa using tds) htd6
        walk_at "rd"
        refine ⟨_, D2, tg.map fun d => txS [dig d], rfl, rfl, .inl (SqL.of (by rw [List.map_map]; exact hD2)), ?_, ?_⟩
        · rw [sum_dig, txS_len, List.length_map]
          show tg.length + tg.length * 0 ≤ _
          omega
        rw [join_dig, eg]
        refine ⟨_, _, rfl, rfl, bd (by simp; omega), ?_⟩
        rw [txS_app]
        have hJG := jg_ok htg1 htg2
        have eJG : [97, 98, 32, 54, 32, 49, 32, 49, 32, 48, 44, 53, 32] ++ List.map dig tg = (JG tg).txL := by simp [Jd.txL, TL.joinL, JG, dig, goodL]
        rw [eJG, ← Jd.text_eq]
        walk_at "rd"
        have ezt : PySem.Str.ofString "z 1 0 1 0 0" = JZ.text := by decide +kernel
        have ent : PySem.Str.ofString "ab 1 0 1 - 00" = JNo.text := by decide +kernel
        rw [ezt, ent]
        refine ⟨td, _, rfl, DPut.k (k := .inr ("g" : Str)) htd7 (by show 1 < sizeLine; decide), ?_⟩
        have egn : ("g" : Str) = txS [103] := by decide +kernel
        have ezn : ("z" : Str) = txS [122] := by decide +kernel
        have enn : ("n" : Str) = txS [110] := by decide +kernel
        rw [egn, kvT_put (show txS [103] ∉ [txS [97]] by decide +kernel)]
        generalize e8 : upd H7 td _ = H8
        have X8 : Same H H8 := by rw [← e8]; exact Same.upd_own X7 ntdH
        have htd8 : H8 td = some (.dK (kvT [([97], JA ta gd), ([103], JG tg)])) := by rw [← e8]; exact upd_same
        clear e8
        walk_at "rd"
        refine ⟨td, _, rfl, DPut.k (k := .inr ("z" : Str)) htd8 (by show 2 < sizeLine; decide), ?_⟩
        rw [ezn, kvT_put (show txS [122] ∉ [txS [97], txS [103]] by decide +kernel)]
        generalize e9 : upd H8 td _ = H9
        have X9 : Same H H9 := by rw [← e9]; exact Same.upd_own X8 ntdH
        have htd9 : H9 td = some (.dK (kvT [([97], JA ta gd), ([103], JG tg), ([122], JZ)])) := by rw [← e9]; exact upd_same
        clear e9
        walk_at "rd"
        refine ⟨td, _, rfl, DPut.k (k := .inr ("n" : Str)) htd9 (by show 3 < sizeLine; decide), ?_⟩
        rw [enn, kvT_put (show txS [110] ∉ [txS [97], txS [103], txS [122]] by decide +kernel)]
        generalize e10 : upd H9 td _ = H10
        have X10 : Same H H10 := by rw [← e10]; exact Same.upd_own X9 ntdH
        have htd10 : H10 td = some (.dK (kvT [([97], JA ta gd), ([103], JG tg), ([122], JZ), ([110], JNo)])) := by rw [← e10]; exact upd_same
        clear e10
        generalize hT : [([97], JA ta gd), ([103], JG tg), ([122], JZ), ([110], JNo)] = TTs at htd10
        have hTn : TTs.map (fun p => txS p.1) = [("a" : Str), "g", "z", "n"] := by subst hT; show [txS [97], txS [103], txS [122], txS [110]] = _; decide +kernel
        have hTd : (TTs.map fun p => txS p.1).Nodup := by rw [hTn]; decide +kernel
        have hTo : ∀ p ∈ TTs, p.2.Ok ∧ nameB p.1 = true := by
          subst hT
          intro p hp
          simp only [List.mem_cons, List.not_mem_nil, or_false] at hp
          rcases hp with rfl | rfl | rfl | rfl
          · exact ⟨hJA, rfl⟩
          · exact ⟨hJG, rfl⟩
          · exact ⟨jz_ok, rfl⟩
          · exact ⟨jn_ok, rfl⟩
        have hTf : ∀ js : List DJ, isT js TTs → js.map DJ.pf = PF := by
          subst hT
          intro js h
          have q := congrArg (List.map fun p : Str × Jd => (⟨p.1, p.2.ls, p.2.st, p.2.few, p.2.turn⟩ : Pf)) h
          rw [List.map_map, List.map_map] at q
          refine Eq.trans ?_ (q.trans ?_)
          · rfl
          · show [(⟨txS [97], [97, 98], 2, 1, 1⟩ : Pf), ⟨txS [103], [97, 98], 6, 1, 1⟩, ⟨txS [122], [122], 1, 0, 1⟩, ⟨txS [110], [97, 98], 1, 0, 1⟩] = PF
            rw [← egn, ← ezn, ← enn, show txS [97] = ("a" : Str) by decide +kernel]
            rfl
        clear hT hG hD hD2 htd9 htd8 htd7 htd6 htd5 htd3 hp5 hp4 K7 K5 K2 X9 X8 X7 X6 X5 X2 S4 S3 hst7 hst6 hst5 hst4 hst3 hst2 hst1 hst e4 e3
        walk_at "rd"
        refine fun x dx nx ndx hxd => ?_
        refine ⟨x, dx, rfl, upd_same, fun dd ndd => ⟨rfl, ?_⟩⟩
        generalize e12 : upd _ x (HO.ins C dx [(PySem.Str.ofString "judges_here", V.ref dd)]) = H12
        have X12 : Same H H12 := by
          rw [← e12]
          exact Same.upd_own (Same.upd_new (Same.upd_own (Same.upd_own X10 (X10.free ndx)) (X10.free nx)) ndd) (X10.free nx)
        have nddH : H dd = none := Same.free (Same.upd_own (Same.upd_own X10 (X10.free ndx)) (X10.free nx)) ndd
        have hxdd : x ≠ dd := ne_of_none upd_same ndd
        have htd12 : H12 td = some (.dK (kvT TTs)) := by
          have q1 : upd (upd H10 dx (.own x)) x (.ins C dx []) td = some (.dK (kvT TTs)) := by
            rw [upd_ne (ne_of_none htd10 nx), upd_ne (ne_of_none htd10 ndx)]
            exact htd10
          rw [← e12, upd_ne (ne_of_none htd10 nx), upd_ne (ne_of_none q1 ndd)]
          exact q1
        have hD12 : DeskAt w C H12 x dd [] := by
          refine { ins := ⟨dx, by rw [← e12]; exact upd_same⟩, dic := ?_, jn := fun j hj => (nomatch hj), nd := List.nodup_nil }
          rw [← e12, upd_ne (Ne.symm hxdd)]
          exact upd_same
        have htdd : dd ≠ td := fun z => by
          have q := hD12.dic
          rw [z, htd12] at q
          have := congrArg (fun o => match o with | some (HO.dK k) => k.length | _ => 0) q
          have this : (kvT TTs).length = 0 := this
          rw [kvT, List.length_map, ← List.length_map (f := fun p : List Nat × Jd => txS p.1) (as := TTs), hTn] at this
          exact absurd this (by decide)
        clear e12 htd10 X10
        walk_at "rd"
        refine ⟨td, _, htd12, trivial, fun od => ?_⟩
        have hDF : DeskAt w C (upd H12 td (.frz od (.dK (kvT TTs)))) x dd [] := hD12.oth htdd (.inl htd12)
        generalize eF : upd H12 td (.frz od _) = HF
        rw [eF] at hDF
        have hFt : HF td = some (.frz od (.dK (kvT TTs))) := by rw [← eF]; exact upd_same
        walk_at "rd"
        refine ⟨td, od, rfl, .inl ⟨kvT TTs, hFt, ?_⟩⟩
        have ejd : PySem.Str.ofString "judge " = txS (cJ ++ [32]) := by decide +kernel
        have bd2 : ∀ {l m : List Nat}, l.length + m.length ≤ 100000 → (txS l).length + (txS m).length ≤ sizeLine := fun h => by
          rw [txS_len, txS_len]
          exact Nat.le_of_lt (big_of h (Nat.le_refl _))
        have hTl : TTs.length = 4 := by rw [← List.length_map (f := fun p : List Nat × Jd => txS p.1) (as := TTs), hTn]; rfl
        have ansOk : AnsW "ok" := ⟨by decide +kernel, by decide +kernel⟩
        refine for_it walk_keys (fun i σ H' => ∃ (x6 : Option V) (js : List DJ), σ = [some (.ref a), some (.ref st), some (.str (txS (ta.map dig))), none, some (.ref td), some (.ref x), x6, none, none, none, none] ∧ Keep [dd] HF H' ∧ DeskAt w C H' x dd js ∧ isT js (TTs.take i))
          ⟨none, [], rfl, Keep.refl _ _, hDF, rfl⟩ (fun i σ H' _ ⟨_, _, _, q, _⟩ => q.but _ _ (by simpa using Ne.symm htdd) hFt) ?_ ?_
        · rintro i y σ H00 H13 hi ⟨x6, js, rfl, KF, hD13, hT13⟩ ⟨rfl, kk, vv, hkv, rfl⟩
          rw [kvT, List.getElem?_map] at hkv
          obtain ⟨p, hp, e2⟩ := Option.map_eq_some_iff.mp hkv
          cases e2
          have hmem : p ∈ TTs := List.mem_of_getElem? hp
          obtain ⟨hpo, hpn⟩ := hTo p hmem
          have hp8 : p.1.length ≤ 8 := by
            unfold nameB at hpn
            rw [Bool.and_eq_true, decide_eq_true_eq] at hpn
            exact hpn.1.2
          have hpt : p.2.txL.length ≤ 90000 := hpo.len
          have hFt13 : H13 td = some (.frz od (.dK (kvT TTs))) := KF.but _ _ (by simpa using Ne.symm htdd) hFt
          walk_at "rd"
          rw [ejd]
          refine ⟨bd2 (by simp [cJ]; omega), ?_⟩
          rw [txS_app]
          walk_at "rd"
          refine ⟨bd2 (by simp [cJ]; omega), ?_⟩
          rw [txS_app]
          walk_at "rd"
          refine ⟨td, _, rfl, .inl ⟨kvT TTs, .inr (txS p.1), .inr ⟨od, hFt13⟩, rfl, (kvT_at hTd hmem).symm⟩, ?_⟩
          rw [Jd.text_eq]
          refine ⟨_, _, rfl, rfl, bd2 (by simp [cJ]; omega), ?_⟩
          rw [txS_app]
          have erow : cJ ++ [32] ++ p.1 ++ [32] ++ p.2.txL = cJ ++ 32 :: (p.1 ++ 32 :: p.2.txL) := by simp
          rw [erow]
          obtain ⟨dx13, hx13⟩ := hD13.ins
          obtain ⟨hz, hw⟩ := row_judge hpn (show p.2.txL.length ≤ 80000 from hpo.len8)
          have hjl : js.length ≤ 1000 := by
            have := congrArg List.length hT13
            rw [List.length_map, List.length_map, List.length_take] at this
            omega
          have hnew : txS p.1 ∉ js.map (·.nm) := by
            rw [hT13.nm]
            have e3 : (TTs.take (i + 1)).map (fun p => txS p.1) = (TTs.take i).map (fun p => txS p.1) ++ [txS p.1] := by rw [List.take_succ, hp, List.map_append]; rfl
            have h3 : ((TTs.take (i + 1)).map fun p => txS p.1).Nodup := hTd.sublist ((List.take_sublist _ _).map _)
            rw [e3, List.nodup_append] at h3
            exact fun hm => h3.2.2 _ hm _ (by simp) rfl
          refine ⟨x, dd, dx13, _, rfl, hx13, x, dd, js, _, rfl, hD13, hjl, .inr (.inr (.inr ⟨_, txS p.1, p.2.txL, p.2, rfl, hz, hw, hpt, hpo.rjd, fun H15 a2 d2 g2 es2 K15 hD15 => ⟨"ok", rfl, ansOk, fun H16 S16 => ?_⟩⟩))⟩
          walk_at "rd"
          rw [setJ_new hnew] at hD15
          refine ⟨_, _, rfl, KF.trans (K15.trans (Same.keep S16)), hD15.same S16, ?_⟩
          show List.map _ _ = List.map _ _
          rw [List.map_append, hT13, List.take_succ, hp, List.map_append]
          rfl
        · rintro σ H13 ⟨x6, js, rfl, KF, hD13, hT13⟩
          have hFt13 : H13 td = some (.frz od (.dK (kvT TTs))) := KF.but _ _ (by simpa using Ne.symm htdd) hFt
          refine ⟨hFt13, ?_⟩
          have hDm := hD13.oth (u := .dK (kvT TTs)) htdd (.inr ⟨od, hFt13⟩)
          have Xm : Same H (upd H13 td (.dK (kvT TTs))) := fun b o e => by
            have hb : b ≠ td := fun z => by rw [z, ntdH] at e; cases e
            have hd : b ≠ dd := fun z => by rw [z, nddH] at e; cases e
            rw [upd_ne hb]
            refine KF.but _ _ (by simpa using hd) ?_
            rw [← eF, upd_ne hb]
            exact X12 _ _ e
          rw [show (kvT TTs).length = TTs.length by rw [kvT, List.length_map], List.take_length] at hT13
          exact law_tail sS hl Xm upd_same hDm hT13 hTn hTf k
end
end Hy
set_option Elab.async false
set_option linter.all false
set_option maxRecDepth 100000
set_option maxHeartbeats 4000000
namespace Hy
open PySem L2
/-! ### the head by facts -/
theorem kitOne_self {K : PySem.W.Frag} {X : Addr} : PySem.W.kitOne K (.ref X) (.ref X) = some true := by
  unfold PySem.W.kitOne
  exact if_pos (beq_self_eq_true _)
theorem kitOne_no {K : PySem.W.Frag} {X C : Addr} (hs : PySem.W.subIn K (.ref X) (.ref X) = some true) (hd : PySem.W.hasDictIn K C = true) (ht : PySem.W.typeIn K (.ref C) = some (.type "type"))
    (h : PySem.W.subIn K (.ref X) (.ref C) = some false) : PySem.W.kitOne K (.ref X) (.ref C) = some false := by
  have ne : ¬ ((Value.ref X == Value.ref C) = true) := fun e => by
    have e2 : X = C := Value.ref.inj (beq_iff_eq.mp e)
    subst e2
    rw [hs] at h
    cases h
  obtain ⟨cd, hc, _⟩ := PySem.W.any_some hd
  unfold PySem.W.kitOne PySem.W.kitCls
  rw [if_neg ne]
  dsimp only
  rw [if_pos (by rw [hc, ht]; rfl)]
  exact h
theorem kitOne_ty {K : PySem.W.Frag} {X : Addr} {T : String} {b : Bool} (hm : PySem.W.kitMeta T = true) (h : PySem.W.subIn K (.ref X) (.type T) = some b) : PySem.W.kitOne K (.ref X) (.type T) = some b := by
  have ne : ¬ ((Value.ref X == Value.type T) = true) := fun e => by
    have z : Value.ref X = Value.type T := beq_iff_eq.mp e
    cases z
  unfold PySem.W.kitOne PySem.W.kitCls
  rw [if_neg ne]
  dsimp only
  rw [if_pos hm]
  exact h
theorem fun_ofD {K : PySem.W.Frag} {x q : Str} {st : Stmt} {f : Addr} {fd : FuncData} (F : FunD K x q (defArgs st) (defBody st) (defScope st) [] [] f fd) : Fun K x q st f fd := by
  obtain ⟨oc, od, dV, kV, doc, pm, an, cdv, ct, osl, rfl, lk, hcd, hd, _⟩ := F.ex
  have e : dV = .none := by
    rcases hd with ⟨_, h⟩ | ⟨h, _⟩
    · exact h
    · exact absurd rfl h
  subst e
  exact fun_mk lk hcd F.kp
/-- a dict of the top, texts to texts -/
def valOf (e : DictEntry) : Option Str := match e.val with
  | .str x _ => some x
  | _ => none
def gdB (K : PySem.W.Frag) (x : Str) (kvs : List (Str × Str)) : Bool := match K.lookup (He.ga K x) with
  | some ⟨_, _, .dict es _, _⟩ => decide (es.toList.map valOf = kvs.map fun p => some p.2)
  | _ => false
theorem ents_of {w : World} : ∀ {l : List DictEntry} {kvs : List (Str × Str)}, l.map He.keyOf = He.keysIn w.params (kvs.map (·.1)) → l.map valOf = (kvs.map fun p => some p.2) → Paired (EntT w) kvs l
  | [], [], _, _ => .nil
  | [], _ :: _, _, h => by cases h
  | _ :: _, [], _, h => by cases h
  | e :: l, p :: kvs, h1, h2 => by
    rw [List.map_cons, List.map_cons] at h2
    have h1' : He.keyOf e :: l.map He.keyOf = some (p.1, PyData.keyHash w.params p.1) :: He.keysIn w.params (kvs.map (·.1)) := h1
    injection h1' with a1 a2
    injection h2 with b1 b2
    refine .cons ?_ (ents_of a2 b2)
    unfold He.keyOf at a1
    unfold valOf at b1
    split at a1
    · rename_i y t q
      obtain ⟨c1, c2⟩ := Prod.mk.inj (Option.some.inj a1)
      split at b1
      · rename_i z u q2
        refine ⟨?_, ⟨t, by rw [q, c1]⟩, ⟨u, by rw [q2, Option.some.inj b1]⟩⟩
        rw [c2]
        rfl
      · cases b1
    · cases a1
theorem gd_of {K : PySem.W.Frag} {mg : Str → Option Value} {w : World} {x : Str} {kvs : List (Str × Str)} (t : He.dicW K (He.ga K x) = some (He.keysIn w.params (kvs.map (·.1)))) (v : gdB K x kvs = true) (m : mg x = some (.ref (He.ga K x))) : GD K mg w x kvs := by
  obtain ⟨es0, n0, hK⟩ := He.dicW_ok t
  unfold He.dicW at t
  unfold gdB at v
  cases q : K.lookup (He.ga K x) with
  | none =>
    rw [q] at v
    cases v
  | some o =>
    obtain ⟨oc, od, dt, osl⟩ := o
    rw [q] at t v
    cases oc with
    | type c =>
      cases od with
      | none =>
        cases dt with
        | dict es n =>
          have t1 : (match decide (c = "dict") && (osl.isEmpty && !(He.ga K x == sysModules)) with
            | true => some (es.toList.map He.keyOf)
            | false => none) = some (He.keysIn w.params (kvs.map (·.1))) := t
          cases z : decide (c = "dict") && (osl.isEmpty && !(He.ga K x == sysModules)) with
          | false =>
            rw [z] at t1
            cases t1
          | true =>
            rw [z] at t1
            obtain ⟨z1, z2⟩ := He.ba z
            obtain ⟨z3, z4⟩ := He.ba z2
            have e1 : c = "dict" := of_decide_eq_true z1
            have e2 : osl = #[] := Array.isEmpty_iff.mp z3
            have e3 : (He.ga K x == sysModules) = false := by
              cases y : He.ga K x == sysModules with
              | false => rfl
              | true =>
                rw [y] at z4
                cases z4
            subst e1 e2
            exact ⟨_, _, es, n, m, e3, q, ⟨rfl, rfl, rfl⟩, rfl, ents_of (Option.some.inj t1) (of_decide_eq_true v)⟩
        | _ => cases v
      | some b => cases dt <;> cases t
    | _ => cases od <;> cases dt <;> cases t
/-! the errors' classes -/
def E7 : List Str := ["NoRow", "NoName", "NoText", "NoLetter", "NoFit", "TooMany", "NoNumber"]
def subB (K : PySem.W.Frag) (x y : Str) (b : Bool) : Bool := decide (PySem.W.subIn K (.ref (He.ga K x)) (.ref (He.ga K y)) = some b)
def exA (K : PySem.W.Frag) (x : Str) : Bool := He.eqO (PySem.W.findIn K (.ref (He.ga K x)) "__getattribute__") (some (some (.builtin "BaseException.__getattribute__"))) && (He.eqO (PySem.W.findIn K (.ref (He.ga K x)) "__getattr__") (some none) &&
  (He.eqO (PySem.W.findIn K (.ref (He.ga K x)) "__class__") (some (some (.builtin "object.__class__"))) && (decide (PySem.W.mroIn K (He.ga K x) (.type "object") = some true) && (decide (PySem.W.subIn K (.ref (He.ga K x)) (.type "ValueError") = some true) &&
  (subB K x "HeapError" true && (subB K x x true && (subB K x "NoTree" false && E7.all fun y => decide (x = y) || subB K x y false)))))))
def exB (K : PySem.W.Frag) : Bool := He.eqO (PySem.W.specialIn K (.builtin "object.__class__") "__get__") (some (some (.builtin "getset_descriptor.__get__"))) && (decide (PySem.W.takesIn K (.builtin "object.__class__") = some true) &&
  ((E7 ++ [("HeapError" : Str), "NoTree"]).all (fun x => PySem.W.hasDictIn K (He.ga K x)) && E7.all (exA K)))
theorem exN_mem : ∀ i, i < 7 → exN i ∈ E7 := by decide +kernel
theorem exN_inj : ∀ i, i < 7 → ∀ j, j < 7 → exN i = exN j → i = j := by decide +kernel
theorem txE7_of {K : PySem.W.Frag} {mg : Str → Option Value} (glo : ∀ x ∈ E7 ++ [("HeapError" : Str), "NoTree"], mg x = some (.ref (He.ga K x))) (exc : ∀ x ∈ E7 ++ [("HeapError" : Str), "NoTree"], (He.Fa.exc x).ok K = true) (nV : mg "ValueError" = none) (hB : exB K = true) :
    TxE7 K mg (He.ga K "HeapError") (He.ga K "NoTree") (fun i => He.ga K (exN i)) := by
  obtain ⟨b1, hB⟩ := He.ba hB
  obtain ⟨b2, hB⟩ := He.ba hB
  obtain ⟨b3, b4⟩ := He.ba hB
  have m7 : ∀ {x : Str}, x ∈ E7 → x ∈ E7 ++ [("HeapError" : Str), "NoTree"] := fun h => List.mem_append_left _ h
  have hH : ("HeapError" : Str) ∈ E7 ++ [("HeapError" : Str), "NoTree"] := by decide +kernel
  have hT : ("NoTree" : Str) ∈ E7 ++ [("HeapError" : Str), "NoTree"] := by decide +kernel
  have hd : ∀ x ∈ E7 ++ [("HeapError" : Str), "NoTree"], PySem.W.hasDictIn K (He.ga K x) = true := fun x hx => List.all_eq_true.mp b3 x hx
  have A : ∀ x ∈ E7, _ := fun x hx => He.ba (List.all_eq_true.mp b4 x hx)
  have ec := fun x hx => He.exc_ok (x := x) (exc x hx)
  have m : ∀ i, i < 7 → mg (exN i) = some (.ref (He.ga K (exN i))) := fun i hi => glo _ (m7 (exN_mem i hi))
  refine ⟨glo _ hH, ⟨_, glo _ hT, rfl⟩, ⟨_, m 0 (by decide), rfl⟩, ⟨_, m 1 (by decide), rfl⟩, ⟨_, m 2 (by decide), rfl⟩, ⟨_, m 3 (by decide), rfl⟩, ⟨_, m 4 (by decide), rfl⟩, ⟨_, m 5 (by decide), rfl⟩, ⟨_, m 6 (by decide), rfl⟩, nV, m,
    fun i hi => ?_, fun i hi => ?_, fun i j hi hj => ?_, fun i hi => ?_, fun i hi => ?_⟩
  all_goals
    have hx := exN_mem i hi
    obtain ⟨a1, a⟩ := A _ hx
    obtain ⟨a2, a⟩ := He.ba a
    obtain ⟨a3, a⟩ := He.ba a
    obtain ⟨a4, a⟩ := He.ba a
    obtain ⟨a5, a⟩ := He.ba a
    obtain ⟨a6, a⟩ := He.ba a
    obtain ⟨a7, a⟩ := He.ba a
    obtain ⟨a8, a9⟩ := He.ba a
    have e1 := ec _ (m7 hx)
  · exact ⟨He.eqO_ok a1, He.eqO_ok a2, e1.2.2.1, hd _ (m7 hx), He.eqO_ok a3, He.eqO_ok b1, of_decide_eq_true b2, of_decide_eq_true a4⟩
  · exact PySem.W.exm_ref (ec _ hH).2.2.1 (hd _ hH) (ec _ hH).2.2.2 (of_decide_eq_true a6)
  · by_cases h : i = j
    · subst h
      rw [decide_eq_true rfl]
      exact kitOne_self
    · rw [decide_eq_false h]
      have hy := exN_mem j hj
      have h2 := List.all_eq_true.mp a9 _ hy
      have h3 : decide (exN i = exN j) = false := decide_eq_false fun z => h (exN_inj i hi j hj z)
      rw [h3, Bool.false_or] at h2
      exact kitOne_no (of_decide_eq_true a7) (hd _ (m7 hy)) (ec _ (m7 hy)).2.2.2 (of_decide_eq_true h2)
  · exact kitOne_no (of_decide_eq_true a7) (hd _ hT) (ec _ hT).2.2.2 (of_decide_eq_true a8)
  · exact kitOne_ty (by decide +kernel) (of_decide_eq_true a5)
/-! the hook -/
abbrev AlY : Type := He.AlT × Bool
def obsY (asf : (Addr → Option Obj) → List Addr) (fa : List He.Fa) (fn : List He.DefD) (ts : List He.Tab) (ex : PySem.W.Frag → Bool) (g : Addr → Option Obj) : AlY := (He.obsT fa fn ts (He.frG g (asf g)), ex (He.frG g (asf g)))
def hookY (asf : (Addr → Option Obj) → List Addr) (fa : List He.Fa) (fn : List He.DefD) (ts : List He.Tab) (ex : PySem.W.Frag → Bool) : PySem.W.Hook where
  α := AlY
  obs := fun s => obsY asf fa fn ts ex s.heap.get?
  val := fun w => (He.valT fn ts w, true)
  says := fun w h => ∃ K : PySem.W.Frag, K.In h ∧ He.SaysT fa fn ts w K ∧ ex K = true
  of := fun _ _ e => ⟨_, He.frG_in, congrArg (fun z : AlY => z.1) e, congrArg (fun z : AlY => z.2) e⟩
  keeps := fun _ _ _ ⟨K, hK, c⟩ k => ⟨K, PySem.W.Frag.In.keeps hK k, c⟩
theorem obsY_eq {asf : (Addr → Option Obj) → List Addr} {fa : List He.Fa} {fn : List He.DefD} {ts : List He.Tab} {ex : PySem.W.Frag → Bool} {g : Addr → Option Obj} {s : Shared} (h : ∀ a, g a = s.heap.get? a) : obsY asf fa fn ts ex g = (hookY asf fa fn ts ex).obs s := by
  have e : g = s.heap.get? := funext h
  rw [e] <;> rfl
theorem saysT_tab {fa : List He.Fa} {fn : List He.DefD} {t : He.Tab} {w : World} {K : PySem.W.Frag} (c : He.SaysT fa fn [t] w K) : He.dicW K (t.1 K) = some (He.keysIn w.params t.2) := by
  have e : [He.dicW K (t.1 K)] = [some (He.keysIn w.params t.2)] := congrArg (fun z : He.AlT => z.2) c
  exact (List.cons.inj e).1
/-- a law's end over such a head -/
theorem walk_ofY {l : PySem.W.OpenLaw} {n k : Nat} {q : Program} {loose : List Str} {XP : (Str → Option Value) → Heap → Prop} {YP : World → Heap → Prop} {d : DefRec} {CX : World → CXT} {x : Str}
    (hn : l.most = some n) (hn2 : n ≤ sizeLine) (hdf : d.params.defaults = []) (hr : Room k callerA)
    (F : ∀ (w : World) (mg : Str → Option Value) (fa : Addr) (h : Heap), YP w h → h.Ns mainGlobals mg → mg d.name = some (.ref fa) →
      ∃ (K : PySem.W.Frag) (fd : FuncData) (sp : Sp), K.In h ∧ (∀ (s : Shared) (u : Value), BindsTo s fd ⟨[u], []⟩ [(x, u)]) ∧
        (∀ (H : Hp) (a : Addr) (ns : List Int), ns.length ≤ n → SqL K H a (ns.map V.int) → sp [.ref a] H (fun v _ => v = .bl true) fun _ _ _ => False) ∧
        ∀ base : Heap, K.In base → base.Ns mainGlobals mg → FnOk l.prog w K mg base (CX w) k fa fd [x] sp)
    (hCX : ∀ (w : World) (H : Hp) (s : Shared) (e : Value) (s' : Shared), CX w [] H s (fun _ _ _ => False) e s' → False) :
    PySem.W.WalkO q loose XP YP l.row.toRowW d [] (fun f vs => PySem.call f vs) := by
  refine Att.attach_call hn hdf fun w s₀ s₁ mg mb fa o pm cd doc a vs ns G Y ho hd hcd hmg hobj hints hlen hg => ?_
  obtain ⟨K, fd, sp, KX, hb, hsp, hF⟩ := F w mg fa _ Y G.T.g hmg
  exact law_call KX G.T.g G.T.b G.T.builtins G.T.nolimit hg hobj hints (Nat.le_trans hlen hn2) hr hF hb (fun H hO hS => hsp H a ns hlen hS) fun H e s' => hCX w H s₁ e s'
end Hy
set_option maxRecDepth 100000
set_option maxHeartbeats 4000000
namespace Hy
open PySem L2
section
variable {P : Program} {w : World} {K : PySem.W.Frag} {mg : Str → Option Value} {base : Heap} {C : Addr}
structure TxF (K : PySem.W.Frag) (mg : Str → Option Value) (w : World) (C : Addr) : Prop where
  T : Txt K mg
  d_is_letter : Df K mg "is_letter" s_is_letter ["thing"]
  d_is_part : Df K mg "is_part" s_is_part ["thing"]
  d_is_tree : Df K mg "is_tree" s_is_tree ["thing"]
  d_need_tree : Df K mg "need_tree" s_need_tree ["thing"]
  d_parts_in_order : Df K mg "parts_in_order" s_parts_in_order ["tree"]
  d_closed_part : Df K mg "closed_part" s_closed_part ["letter", "children"]
  d_read_tree : Df K mg "read_tree" s_read_tree ["text"]
  d_is_whole_within : Df K mg "is_whole_within" s_is_whole_within ["thing", "low", "high"]
  d_are_letters : Df K mg "are_letters" s_are_letters ["thing"]
  d_how_many_tuples : Df K mg "how_many_tuples" s_how_many_tuples ["letters", "states", "classes"]
  d_are_good : Df K mg "are_good" s_are_good ["thing", "states"]
  d_is_key : Df K mg "is_key" s_is_key ["thing", "letters", "states", "classes"]
  d_is_table : Df K mg "is_table" s_is_table ["thing", "letters", "states", "classes"]
  d_is_judge : Df K mg "is_judge" s_is_judge ["thing"]
  d_class_rows : Df K mg "class_rows" s_class_rows ["states", "classes"]
  d_written_good : Df K mg "written_good" s_written_good ["good"]
  d_show_judge : Df K mg "show_judge" s_show_judge ["judge"]
  d_figure_of : Df K mg "figure_of" s_figure_of ["word"]
  d_read_good : Df K mg "read_good" s_read_good ["word"]
  d_read_judge : Df K mg "read_judge" s_read_judge ["text"]
  d_is_name : Df K mg "is_name" s_is_name ["word"]
  d_is_number : Df K mg "is_number" s_is_number ["word"]
  d_fits : Df K mg "fits" s_fits ["word", "kind"]
  d_words_asked : Df K mg "words_asked" s_words_asked ["row"]
  d_need_size : Df K mg "need_size" s_need_size ["thing", "most"]
  d_count_let_by : Df K mg "count_let_by" s_count_let_by ["judge", "size"]
  d_within_told : Df K mg "within_told" s_within_told ["one", "other"]
  d_within_answer : Df K mg "within_answer" s_within_answer ["one", "other"]
  d_part_states : Df K mg "part_states" s_part_states ["judge", "tree"]
  d_state_of : Df K mg "state_of" s_state_of ["judge", "tree"]
  d_lets_by : Df K mg "lets_by" s_lets_by ["judge", "tree"]
  d_need_room : Df K mg "need_room" s_need_room ["letters", "states", "few", "turn"]
  d_parts_both : Df K mg "parts_both" s_parts_both ["one", "other"]
  d_judges_joined : Df K mg "judges_joined" s_judges_joined ["word", "one", "other"]
  d__law_said : Df K mg "_law_said" s__law_said ["desk", "row"]
  d__law_cell : Df K mg "_law_cell" s__law_cell ["script", "k"]
  d__law_store : Df K mg "_law_store" s__law_store ["cell"]
  d__law_take : Df K mg "_law_take" s__law_take ["store", "many"]
  d__law_no_row : Df K mg "_law_no_row" s__law_no_row ["number"]
  d__law_no_name : Df K mg "_law_no_name" s__law_no_name ["number"]
  d__law_no_text : Df K mg "_law_no_text" s__law_no_text ["number"]
  d__law_others : Df K mg "_law_others" s__law_others ["number"]
  d_need_letters_within : Da K mg "need_letters_within" "need_letters" s_need_letters_within ["one", "other"]
  d_need_letters_judges : Da K mg "need_letters_judges" "need_letters" s_need_letters_judges ["judge", "tree"]
  d_Desk___init__ : Dm K C "__init__" "Desk.__init__" s_Desk___init__ ["self"]
  d_Desk_names : Dm K C "names" "Desk.names" s_Desk_names ["self"]
  d_Desk_judge_by : Dm K C "judge_by" "Desk.judge_by" s_Desk_judge_by ["self", "name"]
  d_Desk_made : Dm K C "made" "Desk.made" s_Desk_made ["self", "words"]
  d_Desk_told : Dm K C "told" "Desk.told" s_Desk_told ["self", "words"]
  d_Desk_say : Dm K C "say" "Desk.say" s_Desk_say ["self", "row"]
  TG_SHAPES : GD K mg w "SHAPES" shapes
  te : ∃ (eH eT : Addr) (A : Nat → Addr), TxE7 K mg eH eT A
  cD : Cls K C
  nJ : NoAttr K C "judges_here"
  mD : MkO K mg "Desk" C
theorem law_ok (Z : TxF K mg w C) : ∀ (f : Addr) (fd : FuncData), Fun K "law" "law" s_law f fd → FnOk P w K mg base (L2.CX P w) 11 f fd ["script"] (lsp_law (K := K)) := by
  have T := Z.T
  have cD := Z.cD
  have nJ := Z.nJ
  have mDesk := Z.mD
  obtain ⟨eH, eT, A, TE⟩ := Z.te
  have G_is_letter := ok_is_letter (P := P) (w := w) (base := base) Z.d_is_letter T
  have G_is_part := ok_is_part (P := P) (w := w) (base := base) Z.d_is_part T G_is_letter
  have G_is_tree := ok_is_tree (P := P) (w := w) (base := base) Z.d_is_tree T G_is_part
  have G_need_tree := ok_need_tree (P := P) (w := w) (base := base) Z.d_need_tree T G_is_tree
  have G_parts_in_order := ok_parts_in_order (P := P) (w := w) (base := base) Z.d_parts_in_order T
  have G_closed_part := ok_closed_part (P := P) (w := w) (base := base) Z.d_closed_part T
  have G_read_tree := ok_read_tree (P := P) (w := w) (base := base) Z.d_read_tree T G_closed_part
  have G_is_whole_within := ok_is_whole_within (P := P) (w := w) (base := base) Z.d_is_whole_within T
  have G_are_letters := ok_are_letters (P := P) (w := w) (base := base) Z.d_are_letters T
  have G_how_many_tuples := ok_how_many_tuples (P := P) (w := w) (base := base) Z.d_how_many_tuples T
  have G_are_good := ok_are_good (P := P) (w := w) (base := base) Z.d_are_good T G_is_whole_within
  have G_is_key := ok_is_key (P := P) (w := w) (base := base) Z.d_is_key T G_is_whole_within
  have G_is_table := ok_is_table (P := P) (w := w) (base := base) Z.d_is_table T G_is_whole_within G_how_many_tuples G_is_key
  have G_is_judge := ok_is_judge (P := P) (w := w) (base := base) Z.d_is_judge T G_are_letters G_is_whole_within G_is_table G_are_good
  have G_class_rows := ok_class_rows (P := P) (w := w) (base := base) Z.d_class_rows T
  have G_written_good := ok_written_good (P := P) (w := w) (base := base) Z.d_written_good T
  have G_show_judge := ok_show_judge (P := P) (w := w) (base := base) Z.d_show_judge T G_class_rows G_written_good
  have G_figure_of := ok_figure_of (P := P) (w := w) (base := base) Z.d_figure_of T
  have G_read_good := ok_read_good (P := P) (w := w) (base := base) Z.d_read_good T G_figure_of
  have G_read_judge := ok_read_judge (P := P) (w := w) (base := base) Z.d_read_judge T G_figure_of G_how_many_tuples G_class_rows G_read_good G_is_judge
  have G_is_name := ok_is_name (P := P) (w := w) (base := base) Z.d_is_name T
  have G_is_number := ok_is_number (P := P) (w := w) (base := base) Z.d_is_number T
  have G_fits := ok_fits (P := P) (w := w) (base := base) Z.d_fits T G_is_name G_is_number
  have G_words_asked := ok_words_asked (P := P) (w := w) (base := base) Z.d_words_asked T Z.TG_SHAPES G_fits
  have G_need_size := ok_need_size (P := P) (w := w) (base := base) Z.d_need_size T G_is_whole_within
  have G_count_let_by := ok_count_let_by (P := P) (w := w) (base := base) Z.d_count_let_by T G_need_size
  have G_need_letters_within := ok_need_letters_within (P := P) (w := w) (base := base) Z.d_need_letters_within T
  have G_within_told := ok_within_told (P := P) (w := w) (base := base) Z.d_within_told T G_need_letters_within
  have G_within_answer := ok_within_answer (P := P) (w := w) (base := base) Z.d_within_answer T G_within_told
  have G_need_letters_judges := ok_need_letters_judges (P := P) (w := w) (base := base) Z.d_need_letters_judges T G_parts_in_order
  have G_part_states := ok_part_states (P := P) (w := w) (base := base) Z.d_part_states T G_need_tree G_need_letters_judges
  have G_state_of := ok_state_of (P := P) (w := w) (base := base) Z.d_state_of T G_part_states
  have G_lets_by := ok_lets_by (P := P) (w := w) (base := base) Z.d_lets_by T G_state_of
  have G_need_room := ok_need_room (P := P) (w := w) (base := base) Z.d_need_room T
  have G_parts_both := ok_parts_both (P := P) (w := w) (base := base) Z.d_parts_both T
  have G_judges_joined := ok_judges_joined (P := P) (w := w) (base := base) Z.d_judges_joined T G_parts_both G_need_room
  have G_Desk___init__ := ok_Desk___init__ (P := P) (w := w) (base := base) cD nJ Z.d_Desk___init__ T
  have G_Desk_names := ok_Desk_names (P := P) (w := w) (base := base) cD nJ Z.d_Desk_names T
  have G_Desk_judge_by := ok_Desk_judge_by (P := P) (w := w) (base := base) cD nJ Z.d_Desk_judge_by T
  have G_Desk_made := ok_Desk_made (P := P) (w := w) (base := base) cD nJ Z.d_Desk_made T G_Desk_judge_by G_read_judge G_judges_joined
  have G_Desk_told := ok_Desk_told (P := P) (w := w) (base := base) cD nJ Z.d_Desk_told T G_Desk_judge_by G_read_tree G_state_of G_lets_by G_within_answer G_count_let_by G_show_judge
  have G_Desk_say := ok_Desk_say (P := P) (w := w) (base := base) cD nJ Z.d_Desk_say T G_words_asked G_Desk_made G_Desk_judge_by G_Desk_told
  have G__law_said := lsaid_ok (P := P) (w := w) (base := base) say_mono Z.d__law_said T TE cD G_Desk_say
  have G__law_cell := ok__law_cell (P := P) (w := w) (base := base) Z.d__law_cell T
  have G__law_store := ok__law_store (P := P) (w := w) (base := base) Z.d__law_store T
  have G__law_take := ok__law_take (P := P) (w := w) (base := base) Z.d__law_take T
  have G__law_no_row := ok__law_no_row (P := P) (w := w) (base := base) Z.d__law_no_row T
  have G__law_no_name := ok__law_no_name (P := P) (w := w) (base := base) Z.d__law_no_name T
  have G__law_no_text := ok__law_no_text (P := P) (w := w) (base := base) Z.d__law_no_text T
  have G__law_others := ok__law_others (P := P) (w := w) (base := base) Z.d__law_others T
  exact lok_law cD mDesk T G__law_cell G__law_store G__law_take G_Desk___init__ G_Desk_names G_Desk_say G__law_said G__law_no_row G__law_no_name G__law_no_text G__law_others
theorem cx_no (w : World) (H : Hp) (s : Shared) (e : Value) (s2 : Shared) (h : L2.CX P w [] H s (fun _ _ _ => False) e s2) : False := by
  obtain ⟨_, _, _, _, _, _, _, _, _, _, _, _, z⟩ := h
  exact z
end
def fa0 : List He.Fa := [.free "sorted", .free "len", .free "range", .free "enumerate", .free "sum", .free "tuple", .free "max", .free "dict", .free "isinstance", .free "str", .free "list", .free "int", .free "min", .free "set", .free "zip", .free "bool", .free "ValueError", .str "LETTERS_trees" "abcdefghijklmnopqrstuvwxyz", .int "MOST_STATES_judges" 6, .int "MOST_FEW" 4, .int "MOST_TURN_judges" 4, .int "MOST_TUPLES_judges" 600, .int "MOST_COUNTED" 24, .int "MOST_STATES_joining" 6, .int "MOST_TURN_joining" 4, .int "MOST_TUPLES_joining" 600, .str "FIGURES_rows" "0123456789", .str "LETTERS_rows" "abcdefghijklmnopqrstuvwxyz", .str "FIGURES_texts" "0123456789", .int "MOST_TUPLES_texts" 600]
def fa1 : List He.Fa := [.glo "HeapError", .exc "HeapError", .glo "NoTree", .exc "NoTree", .glo "NoLetter", .exc "NoLetter", .glo "NoFit", .exc "NoFit", .glo "TooMany", .exc "TooMany", .glo "NoNumber", .exc "NoNumber", .glo "NoText", .exc "NoText", .glo "NoName", .exc "NoName", .glo "NoRow", .exc "NoRow", .glo "is_letter", .glo "is_part", .glo "is_tree", .glo "need_tree", .glo "parts_in_order", .glo "closed_part", .glo "read_tree", .glo "is_whole_within", .glo "are_letters", .glo "how_many_tuples", .glo "are_good", .glo "is_key"]
def fa2 : List He.Fa := [.glo "is_table", .glo "is_judge", .glo "class_rows", .glo "written_good", .glo "show_judge", .glo "figure_of", .glo "read_good", .glo "read_judge", .glo "is_name", .glo "is_number", .glo "fits", .glo "words_asked", .glo "need_size", .glo "count_let_by", .glo "within_told", .glo "within_answer", .glo "part_states", .glo "state_of", .glo "lets_by", .glo "need_room", .glo "parts_both", .glo "judges_joined", .glo "_law_said", .glo "_law_cell", .glo "_law_store", .glo "_law_take", .glo "_law_no_row", .glo "_law_no_name", .glo "_law_no_text", .glo "_law_others"]
def fa3 : List He.Fa := [.glo "law", .glo "need_letters_within", .glo "need_letters_judges", .glo "Desk", .cls "Desk", .noat "Desk" "judges_here", .mkr "Desk", .meth "Desk" "__init__", .meth "Desk" "names", .meth "Desk" "judge_by", .meth "Desk" "made", .meth "Desk" "told", .meth "Desk" "say", .glo "SHAPES"]
def faA : List He.Fa := fa0 ++ fa1 ++ fa2 ++ fa3
def dd0 : He.DefD := ⟨("is_letter", none), "is_letter", "is_letter", defArgs s_is_letter, defBody s_is_letter, defScope s_is_letter, [], []⟩
def dd1 : He.DefD := ⟨("is_part", none), "is_part", "is_part", defArgs s_is_part, defBody s_is_part, defScope s_is_part, [], []⟩
def dd2 : He.DefD := ⟨("is_tree", none), "is_tree", "is_tree", defArgs s_is_tree, defBody s_is_tree, defScope s_is_tree, [], []⟩
def dd3 : He.DefD := ⟨("need_tree", none), "need_tree", "need_tree", defArgs s_need_tree, defBody s_need_tree, defScope s_need_tree, [], []⟩
def dd4 : He.DefD := ⟨("parts_in_order", none), "parts_in_order", "parts_in_order", defArgs s_parts_in_order, defBody s_parts_in_order, defScope s_parts_in_order, [], []⟩
def dd5 : He.DefD := ⟨("closed_part", none), "closed_part", "closed_part", defArgs s_closed_part, defBody s_closed_part, defScope s_closed_part, [], []⟩
def dd6 : He.DefD := ⟨("read_tree", none), "read_tree", "read_tree", defArgs s_read_tree, defBody s_read_tree, defScope s_read_tree, [], []⟩
def dd7 : He.DefD := ⟨("is_whole_within", none), "is_whole_within", "is_whole_within", defArgs s_is_whole_within, defBody s_is_whole_within, defScope s_is_whole_within, [], []⟩
def dd8 : He.DefD := ⟨("are_letters", none), "are_letters", "are_letters", defArgs s_are_letters, defBody s_are_letters, defScope s_are_letters, [], []⟩
def dd9 : He.DefD := ⟨("how_many_tuples", none), "how_many_tuples", "how_many_tuples", defArgs s_how_many_tuples, defBody s_how_many_tuples, defScope s_how_many_tuples, [], []⟩
def dd10 : He.DefD := ⟨("are_good", none), "are_good", "are_good", defArgs s_are_good, defBody s_are_good, defScope s_are_good, [], []⟩
def dd11 : He.DefD := ⟨("is_key", none), "is_key", "is_key", defArgs s_is_key, defBody s_is_key, defScope s_is_key, [], []⟩
def dd12 : He.DefD := ⟨("is_table", none), "is_table", "is_table", defArgs s_is_table, defBody s_is_table, defScope s_is_table, [], []⟩
def dd13 : He.DefD := ⟨("is_judge", none), "is_judge", "is_judge", defArgs s_is_judge, defBody s_is_judge, defScope s_is_judge, [], []⟩
def dd14 : He.DefD := ⟨("class_rows", none), "class_rows", "class_rows", defArgs s_class_rows, defBody s_class_rows, defScope s_class_rows, [], []⟩
def dd15 : He.DefD := ⟨("written_good", none), "written_good", "written_good", defArgs s_written_good, defBody s_written_good, defScope s_written_good, [], []⟩
def dd16 : He.DefD := ⟨("show_judge", none), "show_judge", "show_judge", defArgs s_show_judge, defBody s_show_judge, defScope s_show_judge, [], []⟩
def dd17 : He.DefD := ⟨("figure_of", none), "figure_of", "figure_of", defArgs s_figure_of, defBody s_figure_of, defScope s_figure_of, [], []⟩
def dd18 : He.DefD := ⟨("read_good", none), "read_good", "read_good", defArgs s_read_good, defBody s_read_good, defScope s_read_good, [], []⟩
def dd19 : He.DefD := ⟨("read_judge", none), "read_judge", "read_judge", defArgs s_read_judge, defBody s_read_judge, defScope s_read_judge, [], []⟩
def dd20 : He.DefD := ⟨("is_name", none), "is_name", "is_name", defArgs s_is_name, defBody s_is_name, defScope s_is_name, [], []⟩
def dd21 : He.DefD := ⟨("is_number", none), "is_number", "is_number", defArgs s_is_number, defBody s_is_number, defScope s_is_number, [], []⟩
def dd22 : He.DefD := ⟨("fits", none), "fits", "fits", defArgs s_fits, defBody s_fits, defScope s_fits, [], []⟩
def dd23 : He.DefD := ⟨("words_asked", none), "words_asked", "words_asked", defArgs s_words_asked, defBody s_words_asked, defScope s_words_asked, [], []⟩
def dd24 : He.DefD := ⟨("need_size", none), "need_size", "need_size", defArgs s_need_size, defBody s_need_size, defScope s_need_size, [], []⟩
def dd25 : He.DefD := ⟨("count_let_by", none), "count_let_by", "count_let_by", defArgs s_count_let_by, defBody s_count_let_by, defScope s_count_let_by, [], []⟩
def dd26 : He.DefD := ⟨("need_letters_within", none), "need_letters", "need_letters", defArgs s_need_letters_within, defBody s_need_letters_within, defScope s_need_letters_within, [], []⟩
def dd27 : He.DefD := ⟨("within_told", none), "within_told", "within_told", defArgs s_within_told, defBody s_within_told, defScope s_within_told, [], []⟩
def dd28 : He.DefD := ⟨("within_answer", none), "within_answer", "within_answer", defArgs s_within_answer, defBody s_within_answer, defScope s_within_answer, [], []⟩
def dd29 : He.DefD := ⟨("need_letters_judges", none), "need_letters", "need_letters", defArgs s_need_letters_judges, defBody s_need_letters_judges, defScope s_need_letters_judges, [], []⟩
def dd30 : He.DefD := ⟨("part_states", none), "part_states", "part_states", defArgs s_part_states, defBody s_part_states, defScope s_part_states, [], []⟩
def dd31 : He.DefD := ⟨("state_of", none), "state_of", "state_of", defArgs s_state_of, defBody s_state_of, defScope s_state_of, [], []⟩
def dd32 : He.DefD := ⟨("lets_by", none), "lets_by", "lets_by", defArgs s_lets_by, defBody s_lets_by, defScope s_lets_by, [], []⟩
def dd33 : He.DefD := ⟨("need_room", none), "need_room", "need_room", defArgs s_need_room, defBody s_need_room, defScope s_need_room, [], []⟩
def dd34 : He.DefD := ⟨("parts_both", none), "parts_both", "parts_both", defArgs s_parts_both, defBody s_parts_both, defScope s_parts_both, [], []⟩
def dd35 : He.DefD := ⟨("judges_joined", none), "judges_joined", "judges_joined", defArgs s_judges_joined, defBody s_judges_joined, defScope s_judges_joined, [], []⟩
def dd36 : He.DefD := ⟨("Desk", some "__init__"), "__init__", "Desk.__init__", defArgs s_Desk___init__, defBody s_Desk___init__, defScope s_Desk___init__, [], []⟩
def dd37 : He.DefD := ⟨("Desk", some "names"), "names", "Desk.names", defArgs s_Desk_names, defBody s_Desk_names, defScope s_Desk_names, [], []⟩
def dd38 : He.DefD := ⟨("Desk", some "judge_by"), "judge_by", "Desk.judge_by", defArgs s_Desk_judge_by, defBody s_Desk_judge_by, defScope s_Desk_judge_by, [], []⟩
def dd39 : He.DefD := ⟨("Desk", some "made"), "made", "Desk.made", defArgs s_Desk_made, defBody s_Desk_made, defScope s_Desk_made, [], []⟩
def dd40 : He.DefD := ⟨("Desk", some "told"), "told", "Desk.told", defArgs s_Desk_told, defBody s_Desk_told, defScope s_Desk_told, [], []⟩
def dd41 : He.DefD := ⟨("Desk", some "say"), "say", "Desk.say", defArgs s_Desk_say, defBody s_Desk_say, defScope s_Desk_say, [], []⟩
def dd42 : He.DefD := ⟨("_law_said", none), "_law_said", "_law_said", defArgs s__law_said, defBody s__law_said, defScope s__law_said, [], []⟩
def dd43 : He.DefD := ⟨("_law_cell", none), "_law_cell", "_law_cell", defArgs s__law_cell, defBody s__law_cell, defScope s__law_cell, [], []⟩
def dd44 : He.DefD := ⟨("_law_store", none), "_law_store", "_law_store", defArgs s__law_store, defBody s__law_store, defScope s__law_store, [], []⟩
def dd45 : He.DefD := ⟨("_law_take", none), "_law_take", "_law_take", defArgs s__law_take, defBody s__law_take, defScope s__law_take, [], []⟩
def dd46 : He.DefD := ⟨("_law_no_row", none), "_law_no_row", "_law_no_row", defArgs s__law_no_row, defBody s__law_no_row, defScope s__law_no_row, [], []⟩
def dd47 : He.DefD := ⟨("_law_no_name", none), "_law_no_name", "_law_no_name", defArgs s__law_no_name, defBody s__law_no_name, defScope s__law_no_name, [], []⟩
def dd48 : He.DefD := ⟨("_law_no_text", none), "_law_no_text", "_law_no_text", defArgs s__law_no_text, defBody s__law_no_text, defScope s__law_no_text, [], []⟩
def dd49 : He.DefD := ⟨("_law_others", none), "_law_others", "_law_others", defArgs s__law_others, defBody s__law_others, defScope s__law_others, [], []⟩
def dd50 : He.DefD := ⟨("law", none), "law", "law", defArgs s_law, defBody s_law, defScope s_law, [], []⟩
def fnA : List He.DefD := [dd0, dd1, dd2, dd3, dd4, dd5, dd6, dd7, dd8, dd9, dd10, dd11, dd12, dd13, dd14, dd15, dd16, dd17, dd18, dd19, dd20, dd21, dd22, dd23, dd24, dd25, dd26, dd27, dd28, dd29, dd30, dd31, dd32, dd33, dd34, dd35, dd36, dd37, dd38, dd39, dd40, dd41, dd42, dd43, dd44, dd45, dd46, dd47, dd48, dd49, dd50]
def tsA : List He.Tab := [(fun K => He.ga K "SHAPES", shapes.map (·.1))]
def exA1 (K : PySem.W.Frag) : Bool := exB K && gdB K "SHAPES" shapes
def unA0 : List Str := ["is_letter", "is_part", "is_tree", "need_tree", "parts_in_order", "closed_part", "read_tree", "is_whole_within", "are_letters", "how_many_tuples", "are_good", "is_key", "is_table", "is_judge", "class_rows", "written_good", "show_judge", "figure_of", "read_good", "read_judge", "is_name", "is_number", "fits", "words_asked", "need_size", "count_let_by", "within_told", "within_answer", "part_states", "state_of"]
def unA1 : List Str := ["lets_by", "need_room", "parts_both", "judges_joined", "_law_said", "_law_cell", "_law_store", "_law_take", "_law_no_row", "_law_no_name", "_law_no_text", "_law_others", "law", "need_letters_within", "need_letters_judges", "HeapError", "NoTree", "NoLetter", "NoFit", "TooMany", "NoNumber", "NoText", "NoName", "NoRow", "Desk", "SHAPES"]
def unA : List Str := unA0 ++ unA1
def rfA (g : Addr → Option Obj) (a : Addr) : List Addr := match g a with | some o => He.refsO o | none => []
def asA (g : Addr → Option Obj) : List Addr :=
  let K0 := He.frG g [mainGlobals]
  let A1 := unA.map (He.ga K0)
  let D3 := (rfA g (He.ga K0 "Desk")).flatMap (rfA g)
  mainGlobals :: (A1 ++ (A1.flatMap (rfA g) ++ (D3 ++ D3.flatMap (rfA g))))
abbrev hkA : PySem.W.Hook := hookY asA faA fnA tsA exA1
def obA (s : PySem.W.SharedT) : AlY := obsY asA faA fnA tsA exA1 (HandSHeadRun.getT s)
theorem obA_eq (s : PySem.W.SharedT) : obA s = hkA.obs s.abs := obsY_eq (HandSHeadRun.getT_eq s)
def nmA0 : List Str := ["HeapError", "NoTree", "NoLetter", "NoFit", "TooMany", "NoNumber", "NoText", "NoName", "NoRow", "LETTERS_trees", "is_letter", "is_part", "is_tree", "need_tree", "parts_in_order", "in_order", "formed_part", "formed_tree", "told_form", "written_tree", "is_heap_of", "states_that_come", "MOST_STATES_judges", "MOST_FEW", "MOST_TURN_judges", "MOST_TUPLES_judges", "is_whole_within", "are_letters", "how_many_tuples", "is_key"]
def nmA1 : List Str := ["is_table", "are_good", "is_judge", "class_of", "need_letters", "need_letters_judges", "states_within", "part_states", "state_of", "lets_by", "MOST_COUNTED", "ways_to_choose", "with_more", "counts_of", "need_size", "count_let_by", "MOST_STATES_joining", "MOST_TURN_joining", "MOST_TUPLES_joining", "parts_both", "all_classes", "need_room", "class_sums", "turned_judge", "state_joined", "judges_joined", "rows_of_classes", "with_one_more", "are_parted", "alike_groups"]
def nmA2 : List Str := ["least_judge", "FIGURES_rows", "LETTERS_rows", "SHAPES", "is_name", "is_number", "fits", "words_asked", "FIGURES_texts", "MOST_TUPLES_texts", "closed_part", "read_tree", "class_rows", "written_good", "show_judge", "figure_of", "read_good", "read_judge", "need_letters_within", "one_more", "heap_with", "pairs_behind", "is_bad", "Search", "within_told", "within_answer", "Desk", "_law_cell", "_law_store", "_law_take"]
def nmA3 : List Str := ["_law_classes", "_law_judge", "_law_shown", "_law_said", "_law_no_row", "_law_no_name", "_law_no_text", "_law_others"]
def nmA : List Str := nmA0 ++ nmA1 ++ nmA2 ++ nmA3
abbrev rA : PySem.W.OpenRow := PySem.W.OpenLaw.row PySem.Challenge.rw_heaptrees_k86_whole_refused_in_order
abbrev qA : Program := PySem.W.view rA.prog [111]
theorem run0 (w : World) : HandSHeadRun.RunEq rA qA hkA obA 20000 nmA (w.withFollow "special-get-raises" false) := by
  intro os
  kernel_rfl
theorem run1 (w : World) : HandSHeadRun.RunEq rA qA hkA obA 20000 nmA (w.withFollow "special-get-raises" true) := by
  intro os
  kernel_rfl
theorem runA (w : World) : HandSHeadRun.RunEq rA qA hkA obA 20000 nmA w := PySem.W.byRow2 "special-get-raises" (P := fun w => HandSHeadRun.RunEq rA qA hkA obA 20000 nmA w) run0 run1 w
theorem factsA {P : Program} {w : World} {K : PySem.W.Frag} {h : Heap} {mg : Str → Option Value} {f : Addr} (X : K.In h) (G : h.Ns mainGlobals mg) (hfa : mg ("law" : Str) = some (.ref f)) (c0 : He.SaysT faA fnA tsA w K) (c1 : exA1 K = true) :
    ∃ fd : FuncData, (∀ (s : Shared) (v : Value), BindsTo s fd ⟨[v], []⟩ [("script", v)]) ∧ ∀ base : Heap, K.In base → base.Ns mainGlobals mg → FnOk P w K mg base (L2.CX P w) 11 f fd ["script"] (lsp_law (K := K)) := by
  have c : He.SaysD faA fnA K := c0.d
  obtain ⟨hex, hgd⟩ := He.ba c1
  have T : Txt K mg := ⟨He.free_ok X G (c.fact 0 (f := .free "sorted") rfl), He.free_ok X G (c.fact 1 (f := .free "len") rfl), He.free_ok X G (c.fact 2 (f := .free "range") rfl), He.free_ok X G (c.fact 3 (f := .free "enumerate") rfl), He.free_ok X G (c.fact 4 (f := .free "sum") rfl), He.free_ok X G (c.fact 5 (f := .free "tuple") rfl), He.free_ok X G (c.fact 6 (f := .free "max") rfl), He.free_ok X G (c.fact 7 (f := .free "dict") rfl), He.free_ok X G (c.fact 8 (f := .free "isinstance") rfl), He.free_ok X G (c.fact 9 (f := .free "str") rfl), He.free_ok X G (c.fact 10 (f := .free "list") rfl), He.free_ok X G (c.fact 11 (f := .free "int") rfl), He.free_ok X G (c.fact 12 (f := .free "min") rfl), He.free_ok X G (c.fact 13 (f := .free "set") rfl), He.free_ok X G (c.fact 14 (f := .free "zip") rfl), He.free_ok X G (c.fact 15 (f := .free "bool") rfl), (He.str_ok X G (c.fact 17 (f := .str "LETTERS_trees" "abcdefghijklmnopqrstuvwxyz") rfl)).elim fun t e => ⟨_, e, ⟨t, rfl⟩⟩, (He.int_ok X G (c.fact 18 (f := .int "MOST_STATES_judges" 6) rfl)).elim fun t e => ⟨_, e, ⟨t, rfl⟩⟩, (He.int_ok X G (c.fact 19 (f := .int "MOST_FEW" 4) rfl)).elim fun t e => ⟨_, e, ⟨t, rfl⟩⟩, (He.int_ok X G (c.fact 20 (f := .int "MOST_TURN_judges" 4) rfl)).elim fun t e => ⟨_, e, ⟨t, rfl⟩⟩, (He.int_ok X G (c.fact 21 (f := .int "MOST_TUPLES_judges" 600) rfl)).elim fun t e => ⟨_, e, ⟨t, rfl⟩⟩, (He.int_ok X G (c.fact 22 (f := .int "MOST_COUNTED" 24) rfl)).elim fun t e => ⟨_, e, ⟨t, rfl⟩⟩, (He.int_ok X G (c.fact 23 (f := .int "MOST_STATES_joining" 6) rfl)).elim fun t e => ⟨_, e, ⟨t, rfl⟩⟩, (He.int_ok X G (c.fact 24 (f := .int "MOST_TURN_joining" 4) rfl)).elim fun t e => ⟨_, e, ⟨t, rfl⟩⟩, (He.int_ok X G (c.fact 25 (f := .int "MOST_TUPLES_joining" 600) rfl)).elim fun t e => ⟨_, e, ⟨t, rfl⟩⟩, (He.str_ok X G (c.fact 26 (f := .str "FIGURES_rows" "0123456789") rfl)).elim fun t e => ⟨_, e, ⟨t, rfl⟩⟩, (He.str_ok X G (c.fact 27 (f := .str "LETTERS_rows" "abcdefghijklmnopqrstuvwxyz") rfl)).elim fun t e => ⟨_, e, ⟨t, rfl⟩⟩, (He.str_ok X G (c.fact 28 (f := .str "FIGURES_texts" "0123456789") rfl)).elim fun t e => ⟨_, e, ⟨t, rfl⟩⟩, (He.int_ok X G (c.fact 29 (f := .int "MOST_TUPLES_texts" 600) rfl)).elim fun t e => ⟨_, e, ⟨t, rfl⟩⟩, ⟨_, He.glo_ok X G (c.fact 30 (f := .glo "HeapError") rfl), (He.exc_ok (c.fact 31 (f := .exc "HeapError") rfl)).1, (He.exc_ok (c.fact 31 (f := .exc "HeapError") rfl)).2.1, (He.exc_ok (c.fact 31 (f := .exc "HeapError") rfl)).2.2.1, (He.exc_ok (c.fact 31 (f := .exc "HeapError") rfl)).2.2.2⟩, ⟨_, He.glo_ok X G (c.fact 32 (f := .glo "NoTree") rfl), (He.exc_ok (c.fact 33 (f := .exc "NoTree") rfl)).1, (He.exc_ok (c.fact 33 (f := .exc "NoTree") rfl)).2.1, (He.exc_ok (c.fact 33 (f := .exc "NoTree") rfl)).2.2.1, (He.exc_ok (c.fact 33 (f := .exc "NoTree") rfl)).2.2.2⟩, ⟨_, He.glo_ok X G (c.fact 34 (f := .glo "NoLetter") rfl), (He.exc_ok (c.fact 35 (f := .exc "NoLetter") rfl)).1, (He.exc_ok (c.fact 35 (f := .exc "NoLetter") rfl)).2.1, (He.exc_ok (c.fact 35 (f := .exc "NoLetter") rfl)).2.2.1, (He.exc_ok (c.fact 35 (f := .exc "NoLetter") rfl)).2.2.2⟩, ⟨_, He.glo_ok X G (c.fact 36 (f := .glo "NoFit") rfl), (He.exc_ok (c.fact 37 (f := .exc "NoFit") rfl)).1, (He.exc_ok (c.fact 37 (f := .exc "NoFit") rfl)).2.1, (He.exc_ok (c.fact 37 (f := .exc "NoFit") rfl)).2.2.1, (He.exc_ok (c.fact 37 (f := .exc "NoFit") rfl)).2.2.2⟩, ⟨_, He.glo_ok X G (c.fact 38 (f := .glo "TooMany") rfl), (He.exc_ok (c.fact 39 (f := .exc "TooMany") rfl)).1, (He.exc_ok (c.fact 39 (f := .exc "TooMany") rfl)).2.1, (He.exc_ok (c.fact 39 (f := .exc "TooMany") rfl)).2.2.1, (He.exc_ok (c.fact 39 (f := .exc "TooMany") rfl)).2.2.2⟩, ⟨_, He.glo_ok X G (c.fact 40 (f := .glo "NoNumber") rfl), (He.exc_ok (c.fact 41 (f := .exc "NoNumber") rfl)).1, (He.exc_ok (c.fact 41 (f := .exc "NoNumber") rfl)).2.1, (He.exc_ok (c.fact 41 (f := .exc "NoNumber") rfl)).2.2.1, (He.exc_ok (c.fact 41 (f := .exc "NoNumber") rfl)).2.2.2⟩, ⟨_, He.glo_ok X G (c.fact 42 (f := .glo "NoText") rfl), (He.exc_ok (c.fact 43 (f := .exc "NoText") rfl)).1, (He.exc_ok (c.fact 43 (f := .exc "NoText") rfl)).2.1, (He.exc_ok (c.fact 43 (f := .exc "NoText") rfl)).2.2.1, (He.exc_ok (c.fact 43 (f := .exc "NoText") rfl)).2.2.2⟩, ⟨_, He.glo_ok X G (c.fact 44 (f := .glo "NoName") rfl), (He.exc_ok (c.fact 45 (f := .exc "NoName") rfl)).1, (He.exc_ok (c.fact 45 (f := .exc "NoName") rfl)).2.1, (He.exc_ok (c.fact 45 (f := .exc "NoName") rfl)).2.2.1, (He.exc_ok (c.fact 45 (f := .exc "NoName") rfl)).2.2.2⟩, ⟨_, He.glo_ok X G (c.fact 46 (f := .glo "NoRow") rfl), (He.exc_ok (c.fact 47 (f := .exc "NoRow") rfl)).1, (He.exc_ok (c.fact 47 (f := .exc "NoRow") rfl)).2.1, (He.exc_ok (c.fact 47 (f := .exc "NoRow") rfl)).2.2.1, (He.exc_ok (c.fact 47 (f := .exc "NoRow") rfl)).2.2.2⟩⟩
  obtain ⟨fd0, EE0⟩ := c.def_ 0 (d := dd0) rfl
  have F0 := fun_ofD (st := s_is_letter) EE0
  have B0 := F0.binds (ps := ["thing"]) fun _ _ _ _ _ _ us hl => match us, hl with | [_], _ => rfl
  obtain ⟨fd1, EE1⟩ := c.def_ 1 (d := dd1) rfl
  have F1 := fun_ofD (st := s_is_part) EE1
  have B1 := F1.binds (ps := ["thing"]) fun _ _ _ _ _ _ us hl => match us, hl with | [_], _ => rfl
  obtain ⟨fd2, EE2⟩ := c.def_ 2 (d := dd2) rfl
  have F2 := fun_ofD (st := s_is_tree) EE2
  have B2 := F2.binds (ps := ["thing"]) fun _ _ _ _ _ _ us hl => match us, hl with | [_], _ => rfl
  obtain ⟨fd3, EE3⟩ := c.def_ 3 (d := dd3) rfl
  have F3 := fun_ofD (st := s_need_tree) EE3
  have B3 := F3.binds (ps := ["thing"]) fun _ _ _ _ _ _ us hl => match us, hl with | [_], _ => rfl
  obtain ⟨fd4, EE4⟩ := c.def_ 4 (d := dd4) rfl
  have F4 := fun_ofD (st := s_parts_in_order) EE4
  have B4 := F4.binds (ps := ["tree"]) fun _ _ _ _ _ _ us hl => match us, hl with | [_], _ => rfl
  obtain ⟨fd5, EE5⟩ := c.def_ 5 (d := dd5) rfl
  have F5 := fun_ofD (st := s_closed_part) EE5
  have B5 := F5.binds (ps := ["letter", "children"]) fun _ _ _ _ _ _ us hl => match us, hl with | [_, _], _ => rfl
  obtain ⟨fd6, EE6⟩ := c.def_ 6 (d := dd6) rfl
  have F6 := fun_ofD (st := s_read_tree) EE6
  have B6 := F6.binds (ps := ["text"]) fun _ _ _ _ _ _ us hl => match us, hl with | [_], _ => rfl
  obtain ⟨fd7, EE7⟩ := c.def_ 7 (d := dd7) rfl
  have F7 := fun_ofD (st := s_is_whole_within) EE7
  have B7 := F7.binds (ps := ["thing", "low", "high"]) fun _ _ _ _ _ _ us hl => match us, hl with | [_, _, _], _ => rfl
  obtain ⟨fd8, EE8⟩ := c.def_ 8 (d := dd8) rfl
  have F8 := fun_ofD (st := s_are_letters) EE8
  have B8 := F8.binds (ps := ["thing"]) fun _ _ _ _ _ _ us hl => match us, hl with | [_], _ => rfl
  obtain ⟨fd9, EE9⟩ := c.def_ 9 (d := dd9) rfl
  have F9 := fun_ofD (st := s_how_many_tuples) EE9
  have B9 := F9.binds (ps := ["letters", "states", "classes"]) fun _ _ _ _ _ _ us hl => match us, hl with | [_, _, _], _ => rfl
  obtain ⟨fd10, EE10⟩ := c.def_ 10 (d := dd10) rfl
  have F10 := fun_ofD (st := s_are_good) EE10
  have B10 := F10.binds (ps := ["thing", "states"]) fun _ _ _ _ _ _ us hl => match us, hl with | [_, _], _ => rfl
  obtain ⟨fd11, EE11⟩ := c.def_ 11 (d := dd11) rfl
  have F11 := fun_ofD (st := s_is_key) EE11
  have B11 := F11.binds (ps := ["thing", "letters", "states", "classes"]) fun _ _ _ _ _ _ us hl => match us, hl with | [_, _, _, _], _ => rfl
  obtain ⟨fd12, EE12⟩ := c.def_ 12 (d := dd12) rfl
  have F12 := fun_ofD (st := s_is_table) EE12
  have B12 := F12.binds (ps := ["thing", "letters", "states", "classes"]) fun _ _ _ _ _ _ us hl => match us, hl with | [_, _, _, _], _ => rfl
  obtain ⟨fd13, EE13⟩ := c.def_ 13 (d := dd13) rfl
  have F13 := fun_ofD (st := s_is_judge) EE13
  have B13 := F13.binds (ps := ["thing"]) fun _ _ _ _ _ _ us hl => match us, hl with | [_], _ => rfl
  obtain ⟨fd14, EE14⟩ := c.def_ 14 (d := dd14) rfl
  have F14 := fun_ofD (st := s_class_rows) EE14
  have B14 := F14.binds (ps := ["states", "classes"]) fun _ _ _ _ _ _ us hl => match us, hl with | [_, _], _ => rfl
  obtain ⟨fd15, EE15⟩ := c.def_ 15 (d := dd15) rfl
  have F15 := fun_ofD (st := s_written_good) EE15
  have B15 := F15.binds (ps := ["good"]) fun _ _ _ _ _ _ us hl => match us, hl with | [_], _ => rfl
  obtain ⟨fd16, EE16⟩ := c.def_ 16 (d := dd16) rfl
  have F16 := fun_ofD (st := s_show_judge) EE16
  have B16 := F16.binds (ps := ["judge"]) fun _ _ _ _ _ _ us hl => match us, hl with | [_], _ => rfl
  obtain ⟨fd17, EE17⟩ := c.def_ 17 (d := dd17) rfl
  have F17 := fun_ofD (st := s_figure_of) EE17
  have B17 := F17.binds (ps := ["word"]) fun _ _ _ _ _ _ us hl => match us, hl with | [_], _ => rfl
  obtain ⟨fd18, EE18⟩ := c.def_ 18 (d := dd18) rfl
  have F18 := fun_ofD (st := s_read_good) EE18
  have B18 := F18.binds (ps := ["word"]) fun _ _ _ _ _ _ us hl => match us, hl with | [_], _ => rfl
  obtain ⟨fd19, EE19⟩ := c.def_ 19 (d := dd19) rfl
  have F19 := fun_ofD (st := s_read_judge) EE19
  have B19 := F19.binds (ps := ["text"]) fun _ _ _ _ _ _ us hl => match us, hl with | [_], _ => rfl
  obtain ⟨fd20, EE20⟩ := c.def_ 20 (d := dd20) rfl
  have F20 := fun_ofD (st := s_is_name) EE20
  have B20 := F20.binds (ps := ["word"]) fun _ _ _ _ _ _ us hl => match us, hl with | [_], _ => rfl
  obtain ⟨fd21, EE21⟩ := c.def_ 21 (d := dd21) rfl
  have F21 := fun_ofD (st := s_is_number) EE21
  have B21 := F21.binds (ps := ["word"]) fun _ _ _ _ _ _ us hl => match us, hl with | [_], _ => rfl
  obtain ⟨fd22, EE22⟩ := c.def_ 22 (d := dd22) rfl
  have F22 := fun_ofD (st := s_fits) EE22
  have B22 := F22.binds (ps := ["word", "kind"]) fun _ _ _ _ _ _ us hl => match us, hl with | [_, _], _ => rfl
  obtain ⟨fd23, EE23⟩ := c.def_ 23 (d := dd23) rfl
  have F23 := fun_ofD (st := s_words_asked) EE23
  have B23 := F23.binds (ps := ["row"]) fun _ _ _ _ _ _ us hl => match us, hl with | [_], _ => rfl
  obtain ⟨fd24, EE24⟩ := c.def_ 24 (d := dd24) rfl
  have F24 := fun_ofD (st := s_need_size) EE24
  have B24 := F24.binds (ps := ["thing", "most"]) fun _ _ _ _ _ _ us hl => match us, hl with | [_, _], _ => rfl
  obtain ⟨fd25, EE25⟩ := c.def_ 25 (d := dd25) rfl
  have F25 := fun_ofD (st := s_count_let_by) EE25
  have B25 := F25.binds (ps := ["judge", "size"]) fun _ _ _ _ _ _ us hl => match us, hl with | [_, _], _ => rfl
  obtain ⟨fd26, EE26⟩ := c.def_ 26 (d := dd26) rfl
  have F26 := fun_ofD (st := s_need_letters_within) EE26
  have B26 := F26.binds (ps := ["one", "other"]) fun _ _ _ _ _ _ us hl => match us, hl with | [_, _], _ => rfl
  obtain ⟨fd27, EE27⟩ := c.def_ 27 (d := dd27) rfl
  have F27 := fun_ofD (st := s_within_told) EE27
  have B27 := F27.binds (ps := ["one", "other"]) fun _ _ _ _ _ _ us hl => match us, hl with | [_, _], _ => rfl
  obtain ⟨fd28, EE28⟩ := c.def_ 28 (d := dd28) rfl
  have F28 := fun_ofD (st := s_within_answer) EE28
  have B28 := F28.binds (ps := ["one", "other"]) fun _ _ _ _ _ _ us hl => match us, hl with | [_, _], _ => rfl
  obtain ⟨fd29, EE29⟩ := c.def_ 29 (d := dd29) rfl
  have F29 := fun_ofD (st := s_need_letters_judges) EE29
  have B29 := F29.binds (ps := ["judge", "tree"]) fun _ _ _ _ _ _ us hl => match us, hl with | [_, _], _ => rfl
  obtain ⟨fd30, EE30⟩ := c.def_ 30 (d := dd30) rfl
  have F30 := fun_ofD (st := s_part_states) EE30
  have B30 := F30.binds (ps := ["judge", "tree"]) fun _ _ _ _ _ _ us hl => match us, hl with | [_, _], _ => rfl
  obtain ⟨fd31, EE31⟩ := c.def_ 31 (d := dd31) rfl
  have F31 := fun_ofD (st := s_state_of) EE31
  have B31 := F31.binds (ps := ["judge", "tree"]) fun _ _ _ _ _ _ us hl => match us, hl with | [_, _], _ => rfl
  obtain ⟨fd32, EE32⟩ := c.def_ 32 (d := dd32) rfl
  have F32 := fun_ofD (st := s_lets_by) EE32
  have B32 := F32.binds (ps := ["judge", "tree"]) fun _ _ _ _ _ _ us hl => match us, hl with | [_, _], _ => rfl
  obtain ⟨fd33, EE33⟩ := c.def_ 33 (d := dd33) rfl
  have F33 := fun_ofD (st := s_need_room) EE33
  have B33 := F33.binds (ps := ["letters", "states", "few", "turn"]) fun _ _ _ _ _ _ us hl => match us, hl with | [_, _, _, _], _ => rfl
  obtain ⟨fd34, EE34⟩ := c.def_ 34 (d := dd34) rfl
  have F34 := fun_ofD (st := s_parts_both) EE34
  have B34 := F34.binds (ps := ["one", "other"]) fun _ _ _ _ _ _ us hl => match us, hl with | [_, _], _ => rfl
  obtain ⟨fd35, EE35⟩ := c.def_ 35 (d := dd35) rfl
  have F35 := fun_ofD (st := s_judges_joined) EE35
  have B35 := F35.binds (ps := ["word", "one", "other"]) fun _ _ _ _ _ _ us hl => match us, hl with | [_, _, _], _ => rfl
  obtain ⟨fd36, EE36⟩ := c.def_ 36 (d := dd36) rfl
  have F36 := fun_ofD (st := s_Desk___init__) EE36
  have B36 := F36.binds (ps := ["self"]) fun _ _ _ _ _ _ us hl => match us, hl with | [_], _ => rfl
  obtain ⟨fd37, EE37⟩ := c.def_ 37 (d := dd37) rfl
  have F37 := fun_ofD (st := s_Desk_names) EE37
  have B37 := F37.binds (ps := ["self"]) fun _ _ _ _ _ _ us hl => match us, hl with | [_], _ => rfl
  obtain ⟨fd38, EE38⟩ := c.def_ 38 (d := dd38) rfl
  have F38 := fun_ofD (st := s_Desk_judge_by) EE38
  have B38 := F38.binds (ps := ["self", "name"]) fun _ _ _ _ _ _ us hl => match us, hl with | [_, _], _ => rfl
  obtain ⟨fd39, EE39⟩ := c.def_ 39 (d := dd39) rfl
  have F39 := fun_ofD (st := s_Desk_made) EE39
  have B39 := F39.binds (ps := ["self", "words"]) fun _ _ _ _ _ _ us hl => match us, hl with | [_, _], _ => rfl
  obtain ⟨fd40, EE40⟩ := c.def_ 40 (d := dd40) rfl
  have F40 := fun_ofD (st := s_Desk_told) EE40
  have B40 := F40.binds (ps := ["self", "words"]) fun _ _ _ _ _ _ us hl => match us, hl with | [_, _], _ => rfl
  obtain ⟨fd41, EE41⟩ := c.def_ 41 (d := dd41) rfl
  have F41 := fun_ofD (st := s_Desk_say) EE41
  have B41 := F41.binds (ps := ["self", "row"]) fun _ _ _ _ _ _ us hl => match us, hl with | [_, _], _ => rfl
  obtain ⟨fd42, EE42⟩ := c.def_ 42 (d := dd42) rfl
  have F42 := fun_ofD (st := s__law_said) EE42
  have B42 := F42.binds (ps := ["desk", "row"]) fun _ _ _ _ _ _ us hl => match us, hl with | [_, _], _ => rfl
  obtain ⟨fd43, EE43⟩ := c.def_ 43 (d := dd43) rfl
  have F43 := fun_ofD (st := s__law_cell) EE43
  have B43 := F43.binds (ps := ["script", "k"]) fun _ _ _ _ _ _ us hl => match us, hl with | [_, _], _ => rfl
  obtain ⟨fd44, EE44⟩ := c.def_ 44 (d := dd44) rfl
  have F44 := fun_ofD (st := s__law_store) EE44
  have B44 := F44.binds (ps := ["cell"]) fun _ _ _ _ _ _ us hl => match us, hl with | [_], _ => rfl
  obtain ⟨fd45, EE45⟩ := c.def_ 45 (d := dd45) rfl
  have F45 := fun_ofD (st := s__law_take) EE45
  have B45 := F45.binds (ps := ["store", "many"]) fun _ _ _ _ _ _ us hl => match us, hl with | [_, _], _ => rfl
  obtain ⟨fd46, EE46⟩ := c.def_ 46 (d := dd46) rfl
  have F46 := fun_ofD (st := s__law_no_row) EE46
  have B46 := F46.binds (ps := ["number"]) fun _ _ _ _ _ _ us hl => match us, hl with | [_], _ => rfl
  obtain ⟨fd47, EE47⟩ := c.def_ 47 (d := dd47) rfl
  have F47 := fun_ofD (st := s__law_no_name) EE47
  have B47 := F47.binds (ps := ["number"]) fun _ _ _ _ _ _ us hl => match us, hl with | [_], _ => rfl
  obtain ⟨fd48, EE48⟩ := c.def_ 48 (d := dd48) rfl
  have F48 := fun_ofD (st := s__law_no_text) EE48
  have B48 := F48.binds (ps := ["number"]) fun _ _ _ _ _ _ us hl => match us, hl with | [_], _ => rfl
  obtain ⟨fd49, EE49⟩ := c.def_ 49 (d := dd49) rfl
  have F49 := fun_ofD (st := s__law_others) EE49
  have B49 := F49.binds (ps := ["number"]) fun _ _ _ _ _ _ us hl => match us, hl with | [_], _ => rfl
  obtain ⟨fd50, EE50⟩ := c.def_ 50 (d := dd50) rfl
  have F50 := fun_ofD (st := s_law) EE50
  have B50 := F50.binds (ps := ["script"]) fun _ _ _ _ _ _ us hl => match us, hl with | [_], _ => rfl
  have gl7 : ∀ x ∈ E7 ++ [("HeapError" : Str), "NoTree"], mg x = some (.ref (He.ga K x)) := by
    intro x hx
    simp only [E7, List.cons_append, List.nil_append, List.mem_cons, List.not_mem_nil, or_false] at hx
    rcases hx with rfl | rfl | rfl | rfl | rfl | rfl | rfl | rfl | rfl
    · exact He.glo_ok X G (c.fact 46 (f := .glo "NoRow") rfl)
    · exact He.glo_ok X G (c.fact 44 (f := .glo "NoName") rfl)
    · exact He.glo_ok X G (c.fact 42 (f := .glo "NoText") rfl)
    · exact He.glo_ok X G (c.fact 34 (f := .glo "NoLetter") rfl)
    · exact He.glo_ok X G (c.fact 36 (f := .glo "NoFit") rfl)
    · exact He.glo_ok X G (c.fact 38 (f := .glo "TooMany") rfl)
    · exact He.glo_ok X G (c.fact 40 (f := .glo "NoNumber") rfl)
    · exact He.glo_ok X G (c.fact 30 (f := .glo "HeapError") rfl)
    · exact He.glo_ok X G (c.fact 32 (f := .glo "NoTree") rfl)
  have ex7 : ∀ x ∈ E7 ++ [("HeapError" : Str), "NoTree"], (He.Fa.exc x).ok K = true := by
    intro x hx
    simp only [E7, List.cons_append, List.nil_append, List.mem_cons, List.not_mem_nil, or_false] at hx
    rcases hx with rfl | rfl | rfl | rfl | rfl | rfl | rfl | rfl | rfl
    · exact (c.fact 47 (f := .exc "NoRow") rfl)
    · exact (c.fact 45 (f := .exc "NoName") rfl)
    · exact (c.fact 43 (f := .exc "NoText") rfl)
    · exact (c.fact 35 (f := .exc "NoLetter") rfl)
    · exact (c.fact 37 (f := .exc "NoFit") rfl)
    · exact (c.fact 39 (f := .exc "TooMany") rfl)
    · exact (c.fact 41 (f := .exc "NoNumber") rfl)
    · exact (c.fact 31 (f := .exc "HeapError") rfl)
    · exact (c.fact 33 (f := .exc "NoTree") rfl)
  have TE := txE7_of gl7 ex7 (He.free_ok X G (c.fact 16 (f := .free "ValueError") rfl)) hex
  have mk := He.mkr_ok (c.fact 96 (f := .mkr "Desk") rfl)
  have Z : TxF K mg w (He.ga K "Desk") := ⟨T, ⟨_, _, F0, He.glo_ok X G (c.fact 48 (f := .glo "is_letter") rfl), B0⟩, ⟨_, _, F1, He.glo_ok X G (c.fact 49 (f := .glo "is_part") rfl), B1⟩, ⟨_, _, F2, He.glo_ok X G (c.fact 50 (f := .glo "is_tree") rfl), B2⟩, ⟨_, _, F3, He.glo_ok X G (c.fact 51 (f := .glo "need_tree") rfl), B3⟩, ⟨_, _, F4, He.glo_ok X G (c.fact 52 (f := .glo "parts_in_order") rfl), B4⟩, ⟨_, _, F5, He.glo_ok X G (c.fact 53 (f := .glo "closed_part") rfl), B5⟩, ⟨_, _, F6, He.glo_ok X G (c.fact 54 (f := .glo "read_tree") rfl), B6⟩, ⟨_, _, F7, He.glo_ok X G (c.fact 55 (f := .glo "is_whole_within") rfl), B7⟩, ⟨_, _, F8, He.glo_ok X G (c.fact 56 (f := .glo "are_letters") rfl), B8⟩, ⟨_, _, F9, He.glo_ok X G (c.fact 57 (f := .glo "how_many_tuples") rfl), B9⟩, ⟨_, _, F10, He.glo_ok X G (c.fact 58 (f := .glo "are_good") rfl), B10⟩, ⟨_, _, F11, He.glo_ok X G (c.fact 59 (f := .glo "is_key") rfl), B11⟩, ⟨_, _, F12, He.glo_ok X G (c.fact 60 (f := .glo "is_table") rfl), B12⟩, ⟨_, _, F13, He.glo_ok X G (c.fact 61 (f := .glo "is_judge") rfl), B13⟩, ⟨_, _, F14, He.glo_ok X G (c.fact 62 (f := .glo "class_rows") rfl), B14⟩, ⟨_, _, F15, He.glo_ok X G (c.fact 63 (f := .glo "written_good") rfl), B15⟩, ⟨_, _, F16, He.glo_ok X G (c.fact 64 (f := .glo "show_judge") rfl), B16⟩, ⟨_, _, F17, He.glo_ok X G (c.fact 65 (f := .glo "figure_of") rfl), B17⟩, ⟨_, _, F18, He.glo_ok X G (c.fact 66 (f := .glo "read_good") rfl), B18⟩, ⟨_, _, F19, He.glo_ok X G (c.fact 67 (f := .glo "read_judge") rfl), B19⟩, ⟨_, _, F20, He.glo_ok X G (c.fact 68 (f := .glo "is_name") rfl), B20⟩, ⟨_, _, F21, He.glo_ok X G (c.fact 69 (f := .glo "is_number") rfl), B21⟩, ⟨_, _, F22, He.glo_ok X G (c.fact 70 (f := .glo "fits") rfl), B22⟩, ⟨_, _, F23, He.glo_ok X G (c.fact 71 (f := .glo "words_asked") rfl), B23⟩, ⟨_, _, F24, He.glo_ok X G (c.fact 72 (f := .glo "need_size") rfl), B24⟩, ⟨_, _, F25, He.glo_ok X G (c.fact 73 (f := .glo "count_let_by") rfl), B25⟩, ⟨_, _, F27, He.glo_ok X G (c.fact 74 (f := .glo "within_told") rfl), B27⟩, ⟨_, _, F28, He.glo_ok X G (c.fact 75 (f := .glo "within_answer") rfl), B28⟩, ⟨_, _, F30, He.glo_ok X G (c.fact 76 (f := .glo "part_states") rfl), B30⟩, ⟨_, _, F31, He.glo_ok X G (c.fact 77 (f := .glo "state_of") rfl), B31⟩, ⟨_, _, F32, He.glo_ok X G (c.fact 78 (f := .glo "lets_by") rfl), B32⟩, ⟨_, _, F33, He.glo_ok X G (c.fact 79 (f := .glo "need_room") rfl), B33⟩, ⟨_, _, F34, He.glo_ok X G (c.fact 80 (f := .glo "parts_both") rfl), B34⟩, ⟨_, _, F35, He.glo_ok X G (c.fact 81 (f := .glo "judges_joined") rfl), B35⟩, ⟨_, _, F42, He.glo_ok X G (c.fact 82 (f := .glo "_law_said") rfl), B42⟩, ⟨_, _, F43, He.glo_ok X G (c.fact 83 (f := .glo "_law_cell") rfl), B43⟩, ⟨_, _, F44, He.glo_ok X G (c.fact 84 (f := .glo "_law_store") rfl), B44⟩, ⟨_, _, F45, He.glo_ok X G (c.fact 85 (f := .glo "_law_take") rfl), B45⟩, ⟨_, _, F46, He.glo_ok X G (c.fact 86 (f := .glo "_law_no_row") rfl), B46⟩, ⟨_, _, F47, He.glo_ok X G (c.fact 87 (f := .glo "_law_no_name") rfl), B47⟩, ⟨_, _, F48, He.glo_ok X G (c.fact 88 (f := .glo "_law_no_text") rfl), B48⟩, ⟨_, _, F49, He.glo_ok X G (c.fact 89 (f := .glo "_law_others") rfl), B49⟩, ⟨_, _, F26, He.glo_ok X G (c.fact 91 (f := .glo "need_letters_within") rfl), B26⟩, ⟨_, _, F29, He.glo_ok X G (c.fact 92 (f := .glo "need_letters_judges") rfl), B29⟩, ⟨_, _, F36, He.meth_ok (c.fact 97 (f := .meth "Desk" "__init__") rfl), B36⟩, ⟨_, _, F37, He.meth_ok (c.fact 98 (f := .meth "Desk" "names") rfl), B37⟩, ⟨_, _, F38, He.meth_ok (c.fact 99 (f := .meth "Desk" "judge_by") rfl), B38⟩, ⟨_, _, F39, He.meth_ok (c.fact 100 (f := .meth "Desk" "made") rfl), B39⟩, ⟨_, _, F40, He.meth_ok (c.fact 101 (f := .meth "Desk" "told") rfl), B40⟩, ⟨_, _, F41, He.meth_ok (c.fact 102 (f := .meth "Desk" "say") rfl), B41⟩, gd_of (saysT_tab c0) hgd (He.glo_ok X G (c.fact 103 (f := .glo "SHAPES") rfl)), ⟨_, _, _, TE⟩, He.cls_ok (c.fact 94 (f := .cls "Desk") rfl), He.noat_ok (c.fact 95 (f := .noat "Desk" "judges_here") rfl), ⟨mk.makes, mk.kp, He.glo_ok X G (c.fact 93 (f := .glo "Desk") rfl)⟩⟩
  have e := hfa.symm.trans (He.glo_ok X G (c.fact 90 (f := .glo "law") rfl))
  cases e
  have b := FunD.bindsA (ps := ["script"]) EE50 fun _ _ _ _ _ _ us hl => match us, hl with | [_], _ => rfl
  exact ⟨fd50, fun s v => b s [v] rfl, fun base _ _ => law_ok Z _ _ F50⟩
end Hy
open PySem PySem.W PySem.Calls PyProof.Rows in
set_option maxRecDepth 100000 in
set_option maxHeartbeats 0 in
theorem PySem.Challenge.cw_heaptrees_k86_whole_refused_in_order_holds : PySem.Challenge.rw_heaptrees_k86_whole_refused_in_order.Holds := by
  w_on; o_law
  refine HandSHeadRun.head_any (r := OpenLaw.row PySem.Challenge.rw_heaptrees_k86_whole_refused_in_order) (q := view (OpenLaw.row PySem.Challenge.rw_heaptrees_k86_whole_refused_in_order).prog [111]) (H := Hy.hkA) (ob := Hy.obA) (M := 20000) (loose := Hy.nmA) (d := HandSHeadRun.topDef (OpenLaw.row PySem.Challenge.rw_heaptrees_k86_whole_refused_in_order).prog 111) (kwd := []) Hy.obA_eq
    (by kernel_rfl) (fun s => by kernel_rfl) Hy.runA (by kernel_rfl) (by kernel_rfl) (by kernel_rfl) (by rfl) (by first | assumption | decide +kernel) (by decide +kernel) ⟨rfl, rfl, rfl, rfl, rfl, by decide +kernel⟩ ?hw ?hc
  case hw => w_witness2
  case hc =>
    refine Hy.walk_ofY (l := PySem.Challenge.rw_heaptrees_k86_whole_refused_in_order) (n := 63) (k := 11) (x := "script") (CX := fun w => L2.CX (PySem.Challenge.rw_heaptrees_k86_whole_refused_in_order).prog w) rfl (by decide) (by kernel_rfl) ⟨rfl, by decide, by decide⟩ ?F (fun w H s e s2 z => Hy.cx_no w H s e s2 z)
    intro w mg fa h Y G hmg0
    obtain ⟨K, KX, c0, c1⟩ := Y
    have hmg : mg ("law" : PySem.Str) = some (.ref fa) := by
      have e : (HandSHeadRun.topDef (OpenLaw.row PySem.Challenge.rw_heaptrees_k86_whole_refused_in_order).prog 111).name = ("law" : PySem.Str) := by kernel_rfl
      rw [← e]
      exact hmg0
    obtain ⟨fd, hb, hF⟩ := Hy.factsA (P := (PySem.Challenge.rw_heaptrees_k86_whole_refused_in_order).prog) (w := w) KX G hmg c0 c1
    exact ⟨K, fd, Hy.lsp_law (K := K), KX, hb, fun H a ns hl hS => ⟨a, ns, rfl, hS, hl, fun _ => rfl⟩, hF⟩

