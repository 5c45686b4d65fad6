import PyProof.Rows.All
import Wide.All
import OpenK.AllK
import Wide.FinOn
import PyProof.EqAt
import PyProof.EqKinds
import PyProof.EnumMake
import KE.KRevSl
import KE.DataEq
import KE.SortData
import KE.SortLaws
import HandS.ForMost
import HandS.ForExc
import HandS.IsInst
import HandS.TupAny
import HandS.Wide
import KE.KIsAll
import KE.KTryMore
import HandS.ExcIs
import PyProof.StrOps2
import PyProof.SliceStr2
import PyProof.Rows.StrRev
import PySem.Challenge.RW_heaptrees_k76_texts_of_no_tree
set_option Elab.async false
set_option linter.all false
set_option maxRecDepth 100000
set_option maxHeartbeats 4000000
namespace Hy
open PySem L2

/-! ### defs of the text, by name -/
structure Df (K : PySem.W.Frag) (mg : Str → Option Value) (x : Str) (st : Stmt) (ps : List Str) : Prop where
  ex : ∃ (f : Addr) (fd : FuncData), Fun K x x st f fd ∧ mg x = some (.ref f) ∧ Binds K fd ps []
structure Gd (P : Program) (w : World) (K : PySem.W.Frag) (mg : Str → Option Value) (base : Heap) (x : Str) (k : Nat) (ps : List Str) (sp : Sp) : Prop where
  ex : ∃ (f : Addr) (fd : FuncData), FnOk P w K mg base (L2.CX P w) k f fd ps sp ∧ mg x = some (.ref f) ∧ PySem.W.keepIn K (.ref f) = true ∧ Binds K fd ps []
section
variable {P : Program} {w : World} {K : PySem.W.Frag} {mg : Str → Option Value} {base : Heap} {x : Str} {st : Stmt} {ps : List Str} {k j : Nat} {sp sp' : Sp}
theorem Df.ok (D : Df K mg x st ps) (h : ∀ (f : Addr) (fd : FuncData), Fun K x x st f fd → FnOk P w K mg base (L2.CX P w) k f fd ps sp) : Gd P w K mg base x k ps sp := by
  obtain ⟨f, fd, F, m, b⟩ := D.ex
  exact ⟨f, fd, h f fd F, m, F.kp, b⟩
theorem Gd.mono (G : Gd P w K mg base x j ps sp) (h : j ≤ k) : Gd P w K mg base x k ps sp := by
  obtain ⟨f, fd, F, m, kp, b⟩ := G.ex
  exact ⟨f, fd, F.mono h, m, kp, b⟩
theorem Gd.imp (G : Gd P w K mg base x k ps sp) (h : ∀ vs H Q E, sp' vs H Q E → sp vs H Q E) : Gd P w K mg base x k ps sp' := by
  obtain ⟨f, fd, F, m, kp, b⟩ := G.ex
  exact ⟨f, fd, F.imp h, m, kp, b⟩
end
/-- an exception that can't be -/
theorem passF {X : Cx} : Passes (L2.CX X.prog X.w) X E0 := fun _ _ _ _ _ _ _ h => by
  obtain ⟨_, _, _, _, _, _, _, _, _, _, _, _, z⟩ := h
  exact z.elim
theorem passW {X : Cx} {W : WX} {E : XK} (tk : Takes X W) (h : ∀ cls d σ H, E cls d H → W cls d σ H) : Passes (L2.CX X.prog X.w) X E := passes_call tk h
section
variable {X : Cx} {x : Str} {k : Nat} {ps : List Str} {sp : Sp} {E : XK} {p pos : Pos} {e : Expr} {es : List Expr} {t : TA}
theorem pe_cl (G : Gd X.prog X.w X.K X.mg X.base x k ps sp) (hr : Room k X.A) (hx : Passes (L2.CX X.prog X.w) X E) (ha : PA X (e :: es) t) (hg : Gl X x := by rfl) (hdb : (x == ("__debug__" : Str)) = false := by decide)
    (he : starEach (e :: es) X.env = (false, eval e X.env) :: starEach es X.env := by rfl) (hpl : (backTo pos (starEach es X.env)).any (·.1) = false := by rfl) : PE X (.Call (.Name x p) (e :: es) [] pos) (tCall sp [] E t) := by
  obtain ⟨f, fd, F, m, kp, b⟩ := G.ex
  exact pe_call F hr hg m kp b .nil hx ha hdb he hpl
theorem pe_cl0 (G : Gd X.prog X.w X.K X.mg X.base x k ps sp) (hr : Room k X.A) (hx : Passes (L2.CX X.prog X.w) X E) (hg : Gl X x := by rfl) (hdb : (x == ("__debug__" : Str)) = false := by decide) : PE X (.Call (.Name x p) [] [] pos) (tCall sp [] E tNil) := by
  obtain ⟨f, fd, F, m, kp, b⟩ := G.ex
  exact pe_call0 F hr hg m kp b .nil hx hdb
end

/-! ### heaps: what stands, what is new -/
theorem Same.upd_new {H H' : Hp} {p : Addr} {o : HO} (s : Same H H') (n : H' p = none) : Same H (upd H' p o) := fun b u e => by
  rw [upd_ne (ne_of_none (s _ _ e) n)]
  exact s _ _ e
theorem same_new {H : Hp} {p : Addr} {o : HO} (n : H p = none) : Same H (upd H p o) := Same.upd_new (Same.refl H) n
/-- a list of ours (new behind H) is changed -/
theorem Same.upd_own {H H' : Hp} {p : Addr} {o : HO} (s : Same H H') (n : H p = none) : Same H (upd H' p o) := fun b u e => by
  rw [upd_ne (ne_of_none e n)]
  exact s _ _ e
/-- all but what stands at the addresses of A stands as it was; tuples always stand -/
structure Keep (A : List Addr) (H H' : Hp) : Prop where
  but : ∀ b o, b ∉ A → H b = some o → H' b = some o
  tup : ∀ b xs, H b = some (.tup xs) → H' b = some (.tup xs)
theorem Keep.refl (A : List Addr) (H : Hp) : Keep A H H := ⟨fun _ _ _ h => h, fun _ _ h => h⟩
theorem Keep.trans {A : List Addr} {H H1 H2 : Hp} (a : Keep A H H1) (b : Keep A H1 H2) : Keep A H H2 := ⟨fun c o n h => b.but c o n (a.but c o n h), fun c o h => b.tup c o (a.tup c o h)⟩
theorem Keep.mono {A B : List Addr} {H H' : Hp} (a : Keep A H H') (h : ∀ c ∈ A, c ∈ B) : Keep B H H' := ⟨fun c o n e => a.but c o (fun z => n (h c z)) e, a.tup⟩
theorem Same.keep {A : List Addr} {H H' : Hp} (s : Same H H') : Keep A H H' := ⟨fun _ _ _ h => s _ _ h, fun _ _ h => s _ _ h⟩
theorem Keep.same {H H' : Hp} (k : Keep [] H H') : Same H H' := fun b o e => k.but b o (by simp) e
theorem Keep.upd {A : List Addr} {H H' : Hp} {a : Addr} {xs : List V} {o : HO} (k : Keep A H H') (ha : a ∈ A) (e : H' a = some (.lst xs)) : Keep A H (upd H' a o) := by
  refine ⟨fun b u n h => ?_, fun b u h => ?_⟩
  · rw [upd_ne (fun z => n (by rw [z]; exact ha))]
    exact k.but b u n h
  · have q := k.tup b u h
    rw [upd_ne (ne_of q e (fun z => nomatch z))]
    exact q
theorem Keep.updNew {A : List Addr} {H H' : Hp} {a : Addr} {o : HO} (k : Keep A H H') (n : H' a = none) : Keep A H (L2.upd H' a o) := by
  refine ⟨fun b u z h => ?_, fun b u h => ?_⟩
  · rw [upd_ne (ne_of_none (k.but b u z h) n)]
    exact k.but b u z h
  · rw [upd_ne (ne_of_none (k.tup b u h) n)]
    exact k.tup b u h

theorem Keep.own {A : List Addr} {H H' : Hp} {a : Addr} {o : HO} (k : Keep A H H') (n : H a = none) : Keep A H (L2.upd H' a o) := by
  refine ⟨fun b u z h => ?_, fun b u h => ?_⟩
  · rw [upd_ne (ne_of_none h n)]
    exact k.but b u z h
  · rw [upd_ne (ne_of_none h n)]
    exact k.tup b u h
theorem Keep.some {A : List Addr} {H H' : Hp} (k : Keep A H H') {b : Addr} (n : H' b = none) (hA : b ∉ A) : H b = none := by
  cases q : H b with
  | none => rfl
  | some o =>
    rw [k.but b o hA q] at n
    cases n

/-! ### == and != of data of any depth -/
theorem dp_room {X : Cx} {k : Nat} (hr : Room k X.A) {n : Nat} (h : n ≤ 200) : X.A.units + n < cLine := by
  have := hr.un
  omega
def rEqP (K : PySem.W.Frag) : R2 := fun x y H Q => ∃ d e, Dp K H x d ∧ Dp K H y e ∧ d.plain = true ∧ e.plain = true ∧ min d.depth e.depth ≤ 200 ∧ Q (.bl (PyData.eqv d e)) H
def rNeP (K : PySem.W.Frag) : R2 := fun x y H Q => ∃ d e, Dp K H x d ∧ Dp K H y e ∧ d.plain = true ∧ e.plain = true ∧ min d.depth e.depth ≤ 200 ∧ Q (.bl (!PyData.eqv d e)) H
theorem op_eqP {X : Cx} {k : Nat} (hr : Room k X.A) : OpR X (compareOp .Eq) (rEqP X.K) := by
  intro pins s σ H x y v u Q I rx ry h
  obtain ⟨d, e, hd, he, pd, pe, hm, q⟩ := h
  obtain ⟨as, r1⟩ := Dp.reads I d x v hd rx
  obtain ⟨bs, r2⟩ := Dp.reads I e y u he ry
  exact PySem.SeqAt.eq_plain r1 r2 pd pe (dp_room hr hm) ⟨.bl _, H, I, rfl, q⟩
theorem op_neP {X : Cx} {k : Nat} (hr : Room k X.A) : OpR X (compareOp .NotEq) (rNeP X.K) := by
  intro pins s σ H x y v u Q I rx ry h
  obtain ⟨d, e, hd, he, pd, pe, hm, q⟩ := h
  obtain ⟨as, r1⟩ := Dp.reads I d x v hd rx
  obtain ⟨bs, r2⟩ := Dp.reads I e y u he ry
  exact PySem.SeqAt.ne_plain r1 r2 pd pe (dp_room hr hm) ⟨.bl _, H, I, rfl, q⟩

/-! ### xs[::-1] -/
def tRevL (K : PySem.W.Frag) (te : TE) : TE := fun σ H Q => te σ H fun x H1 => ∃ a xs, x = .ref a ∧ SqL K H1 a xs ∧ ∀ p, H1 p = none → Q (.ref p) (upd H1 p (.lst xs.reverse))
theorem vals_rev {xs : List V} {us : List Value} (r : Vals xs us) : Vals xs.reverse us.reverse := by
  induction r with
  | nil => exact .nil
  | cons h _ ih =>
    rw [List.reverse_cons, List.reverse_cons]
    exact ih.append (.cons h .nil)
theorem pe_rev {X : Cx} {e : Expr} {te : TE} {pos p2 p3 p4 : Pos} {j : Nat} (he : PE X e te) : PE X (.Subscript e (.Slice none none (some (.UnaryOp .USub (.Constant (.int 1) j p4) p3)) p2) pos) (tRevL X.K te) := by
  refine ⟨fun pins s σ H Q I h => ?_⟩
  refine PyProof.Rows.Subscript_ (thn (he.run pins s σ H _ I h) fun v s1 ⟨x, H1, I1, r1, a, xs, ex, hx, q1⟩ => ?_)
  subst ex
  cases r1
  refine wpAny_Slice ?_
  rw [evalPart_none]
  refine wpAny_pure ?_
  refine wpAny_pure ?_
  have hu : PE X (.UnaryOp .USub (.Constant (.int 1) j p4) p3) (tUn (fun x H Q => ∃ i, x = .int i ∧ Q (.int (-i)) H) (tC (.int 1))) := by exact pe_un un_neg pe_int
  have hp := (po_some hu).run pins s1 σ H1 (fun o H2 => o = some (-1) ∧ H2 = H1) I1
  refine thn (hp ?_) fun vk s2 ⟨o, H2, I2, pk, eo, eH⟩ => ?_
  · exact ⟨_, rfl, _, rfl, rfl, rfl⟩
  subst eo eH
  obtain ⟨its, r, ht, hz⟩ := I2.list hx
  have I4 : Inv X pins σ H2 { s2 with heap := s2.heap.push { cls := .type "slice", data := .fields #[.none, .none, vk] } } := I2.kept (t' := s2.toks) fun b ob q => Heap.get?_push_of_some _ q
  obtain ⟨its, r, ht, hz⟩ := I4.list hx
  show wpAny (model X.prog X.w) X.A (PyProof.Rows.subscriptTail e (.Slice none none (some (.UnaryOp .USub (.Constant (.int 1) j p4) p3)) p2) (.ref a) (.ref s2.heap.objs.size)) (EP X pins σ Q) X.xe { s2 with heap := s2.heap.push { cls := .type "slice", data := .fields #[.none, .none, vk] } }
  refine PyProof.Rows.tail_any (ops := [.ref a, .ref s2.heap.objs.size]) ht.isList.typeIs PySem.F.slot_list_getitem.lookup ?_ (by with_unfolding_all rfl)
  refine wpAny_getItem_list_slice ht.isList (Heap.IsSliceOf.new ..) .none .none pk (by decide) ?_ (by rw [List.size_toArray, ← r.length]; exact hz)
  rw [PySem.W.krv_pick]
  dsimp only
  refine ⟨.ref (s2.heap.push { cls := .type "slice", data := .fields #[.none, .none, vk] }).objs.size, _, I4.laid (t' := s2.toks) (o := .lst xs.reverse) (fun b ob q => Heap.get?_push_of_some _ q) (Nat.le_refl _) ?_, rfl, q1 _ (I4.hok.fresh (Nat.le_refl _))⟩
  exact ⟨by rw [List.length_reverse]; exact hz, its.reverse, 0, vals_rev r, Heap.get?_push_size _ rfl⟩

/-! ### enumerate(text) -/
def Ites (x : Str) : It := ⟨fun i _ => i < x.cps.size, fun i H v H' => ∃ T c, v = .ref T ∧ H T = none ∧ H' = upd H T (.tup [.int (i : Nat), .str ⟨#[c]⟩]) ∧ x.cps[i]? = some c, fun i _ => i = x.cps.size⟩
theorem turn_enumS {P : Program} {w : World} {K : PySem.W.Frag} {elts : List Expr} {kk : Nat} {tpos : Pos} (x : Str) (t : Tok) (e it : Addr) :
    Turn P w K (.Tuple elts kk tpos) (Ites x) [e, it] e (fun i h => (∃ old, IsEnum h e it ((i : Nat) : Int) old) ∧ h.IsStrIter it (strIterType x) x t i ∧ e ≠ it) where
  mem := by simp
  obj := fun i h st b hb => by
    obtain ⟨⟨old, he⟩, ⟨o, ho, hc, hd⟩, _⟩ := st
    have e' : b = e ∨ b = it := by simpa using hb
    rcases e' with z | z
    · rw [z]; exact ⟨_, he, fun v q => nomatch q⟩
    · rw [z]; exact ⟨o, ho, fun v q => by rw [hd] at q; cases q⟩
  keep := fun i h h' st k => let ⟨⟨old, he⟩, ⟨o, ho, r⟩, hne⟩ := st; ⟨⟨old, k e (by simp) _ he⟩, ⟨o, k it (by simp) _ ho, r⟩, hne⟩
  item := by
    intro X hP hw hK hc i pins s σ H E I hf st hg
    subst hP hw hK
    obtain ⟨⟨old, he⟩, hit, hne⟩ := st
    have hel : e < s.heap.objs.size := Heap.lt_size he
    have hil : it < s.heap.objs.size := by obtain ⟨_, q, _⟩ := hit; exact Heap.lt_size q
    have main : ∀ (ty : String), Draws X.prog X.w X.A.in1 it [it] x.cps.size (fun i v => ∃ c u, x.cps[i]? = some c ∧ v = .str ⟨#[c]⟩ u) (fun i h => h.IsStrIter it ty x t i) → s.heap.IsStrIter it ty x t i →
        wpAny (model X.prog X.w) X.A (pyNext (.ref e)) (fun r s1 => ∃ u, r = some u ∧
          wpAny (model X.prog X.w) X.A (letOwnedTupleGo (.Tuple elts kk tpos) (.ref e) u) (fun _ s2 => ∃ y H', Inv X pins σ H' s2 ∧ RelV y u ∧ (Ites x).yld i H y H' ∧ ((∃ old, IsEnum s2.heap e it ((i + 1 : Nat) : Int) old) ∧ s2.heap.IsStrIter it ty x t (i + 1) ∧ e ≠ it) ∧ ∀ b ∈ [e, it], H' b = none) E s1) E s := by
      intro ty D hit
      refine wpAny_pyNext_enum_itemD D he hit hg hne (by simp [hne]) fun u h' tk hP ho hit' hT hsz hk => ?_
      obtain ⟨c, tu, hcx, rfl⟩ := hP
      refine ⟨_, rfl, wpAny_letOwnedTupleGo_enum (s := { s with heap := h', toks := tk + 1 }) ho fun h'' he' sb => ?_⟩
      have hT2 : h''.get? s.heap.objs.size = some { cls := .type "tuple", data := .seq #[.int i tk, .str ⟨#[c]⟩ tu] } := (sb.2 _ (Nat.ne_of_gt hel)).trans hT
      have new : ObjOk X.prog X.w (upd H s.heap.objs.size (.tup [.int (i : Nat), .str ⟨#[c]⟩])) h'' s.heap.objs.size (.tup [.int (i : Nat), .str ⟨#[c]⟩]) :=
        ⟨by show 2 ≤ sizeLine; decide, [.int i tk, .str ⟨#[c]⟩ tu], .cons ⟨_, rfl⟩ (.cons ⟨_, rfl⟩ .nil), ⟨_, hT2, rfl, _, rfl⟩⟩
      have I1 : Inv X pins σ (upd H s.heap.objs.size (.tup [.int (i : Nat), .str ⟨#[c]⟩])) { s with heap := h'', toks := tk + 1 } :=
        I.turnedNew (ch := [e, it]) (fun b ob hb q => (sb.2 b (fun z => hb (by simp [z]))).trans (hk b ob (fun z => hb (by simp [z])) (fun z => hb (by simp [z])) q)) hf (Nat.le_refl _) new
      refine ⟨.ref s.heap.objs.size, _, I1, rfl, ⟨_, c, rfl, I.hok.fresh (Nat.le_refl _), rfl, hcx⟩, ⟨⟨.str ⟨#[c]⟩ tu, ?_⟩, ?_, hne⟩, fun b hb => ?_⟩
      · have e1 : ((i + 1 : Nat) : Int) = (i : Int) + 1 := by omega
        rw [e1]; exact he'
      · obtain ⟨oi, hoi, ri⟩ := hit'
        exact ⟨oi, (sb.2 it (Ne.symm hne)).trans hoi, ri⟩
      · have hb' : b < s.heap.objs.size := by
          have e' : b = e ∨ b = it := by simpa using hb
          rcases e' with z | z
          · rw [z]; exact hel
          · rw [z]; exact hil
        rw [upd_ne (Nat.ne_of_lt hb')]
        exact (hf b hb).1
    unfold strIterType at hit ⊢
    split at hit
    · rename_i ha
      rw [if_pos ha]
      exact main _ (Draws.strAscii (A := X.A.in1) (I.ok.hd hc) it x t) hit
    · rename_i ha
      rw [if_neg ha]
      exact main _ (Draws.strWide (A := X.A.in1) (I.ok.hd hc) it x t) hit
  done := by
    intro X hP hw hK hc i pins s σ H E I hf st hg
    subst hP hw hK
    obtain ⟨⟨old, he⟩, hit, hne⟩ := st
    have hg' : i = x.cps.size := hg
    obtain ⟨f0, f1, f2, f3, f4, f5⟩ := hf it (by simp)
    rw [hg'] at hit
    unfold strIterType at hit
    split at hit
    · exact wpAny_pyNext_enum_endD (Draws.strAscii (A := X.A.in1) (I.ok.hd hc) it x t) he hit fun h' eb => ⟨rfl, I.turned (t' := s.toks) (fun b o hb q => eb b o hb q) f0 f1 f3 f4 f5⟩
    · exact wpAny_pyNext_enum_endD (Draws.strWide (A := X.A.in1) (I.ok.hd hc) it x t) he hit fun h' eb => ⟨rfl, I.turned (t' := s.toks) (fun b o hb q => eb b o hb q) f0 f1 f3 f4 f5⟩
  self := fun A i s Q E st h => let ⟨⟨_, he⟩, _⟩ := st; wpAny_pyIter_enum he h
def iEnumS (ta : TA) : TI := fun σ H R => ta σ H fun vs H1 => ∃ x, vs = [.str x] ∧ R (Ites x) H1
theorem pi_enumS {X : Cx} {e : Expr} {ta : TA} {p pos tpos : Pos} {elts : List Expr} {kk : Nat} (hm : X.mg "enumerate" = none) (ha : PA X [e] ta) (hg : Gl X "enumerate" := by rfl) (hs : starEach [e] X.env = [(false, eval e X.env)] := by rfl) :
    PI X (.Tuple elts kk tpos) (.Call (.Name "enumerate" p) [e] [] pos) (iEnumS ta) := by
  refine ⟨fun pins s σ H R I h => ?_⟩
  refine PyProof.Rows.Call_ (ld_blt I hg hm PyProof.Rows.boot_enumerate (PyProof.Rows.callWith_type1 (thn (ha.run pos pins s σ H _ I h) fun us s1 ⟨vs, H1, I1, r1, q1⟩ => ?_) hs rfl))
  obtain ⟨x, ex, q⟩ := q1
  subst ex
  cases r1 with
  | cons r rr =>
    cases rr
    obtain ⟨t, rfl⟩ := r
    refine call_enumerate_str fun h' he hit hsz hk => wpAny_pyIter_enum he ?_
    have I2 : Inv X pins σ H1 { s1 with heap := h' } := I1.kept (t' := s1.toks) hk
    refine ⟨s1.heap.objs.size + 1, [s1.heap.objs.size + 1, s1.heap.objs.size], _, _, H1, rfl, I2, turn_enumS x t (s1.heap.objs.size + 1) s1.heap.objs.size, ⟨⟨.none, he⟩, hit, Nat.succ_ne_self _⟩, fun b hb => ?_, q⟩
    have e' : b = s1.heap.objs.size + 1 ∨ b = s1.heap.objs.size := by simpa using hb
    have hle : s1.heap.objs.size ≤ b := by
      rcases e' with z | z
      · rw [z]; exact Nat.le_add_right _ _
      · rw [z]; exact Nat.le_refl _
    exact I1.fpOk hle (I1.hok.fresh hle)
/-- its loop -/
theorem for_enumS {x : Str} {g : TG} {tb : TS} {D : Ends} {σ : St} {H : Hp} (Pv : Nat → St → Hp → Prop) (h0 : Pv 0 σ H)
    (hs : ∀ i c σ H T, x.cps[i]? = some c → Pv i σ H → H T = none → g (.ref T) σ (upd H T (.tup [.int (i : Nat), .str ⟨#[c]⟩])) fun σ2 H2 => tb { D with nx := Pv (i + 1), ct := Pv (i + 1), bk := D.nx } σ2 H2) (hd : ∀ σ H, Pv x.cps.size σ H → D.nx σ H) :
    ∃ W : Nat → Nat → St → Hp → Prop, (∃ m, W 0 m σ H) ∧ ∀ i m σ H, W i m σ H →
      ((Ites x).stop i H ∧ D.nx σ H) ∨ ((Ites x).go i H ∧ ∃ N : St → Hp → Prop, (∀ σ' H', N σ' H' → ∃ m', m' < m ∧ W (i + 1) m' σ' H') ∧ ∀ v H', (Ites x).yld i H v H' → g v σ H' fun σ2 H2 => tb { D with nx := N, ct := N, bk := D.nx } σ2 H2) := by
  refine ⟨fun i m σ H => m = x.cps.size - i ∧ i ≤ x.cps.size ∧ Pv i σ H, ⟨x.cps.size, by simp, Nat.zero_le _, h0⟩, ?_⟩
  rintro i m σ H ⟨rfl, hi, p⟩
  by_cases hlt : i < x.cps.size
  · refine .inr ⟨hlt, Pv (i + 1), fun σ' H' p' => ⟨x.cps.size - (i + 1), by omega, rfl, hlt, p'⟩, fun v H' y => ?_⟩
    obtain ⟨T, c, rfl, hT, rfl, hc⟩ := y
    exact hs i c σ H T hc p hT
  · have e : i = x.cps.size := by omega
    subst e
    exact .inl ⟨rfl, hd σ H p⟩

/-! ### xs.count(x), x in xs, sorted(xs), of data -/
def rCntD (K : PySem.W.Frag) : V → List V → Hp → VK → Prop := fun x xs H Q => ∃ (p : Addr) (y : V) (ds : List PyData) (d : PyData), x = .ref p ∧ xs = [y] ∧ Dp K H (.ref p) (.list ds) ∧ Dp K H y d ∧ PyData.plainAll ds = true ∧ d.plain = true ∧ min (PyData.depthAll ds) d.depth ≤ 190 ∧
  Q (.int ((ds.countP fun z => PyData.eqv z d : Nat) : Int)) H
theorem mt_countD {X : Cx} {k : Nat} (hr : Room k X.A) : MtR X "list.count" (rCntD X.K) := by
  intro pins s σ H x xs v us Q I rx rxs h
  obtain ⟨p, y, ds, d, rfl, rfl, hl, hy, pl, pd, hm, q⟩ := h
  cases rx
  obtain ⟨u, rfl, ru⟩ := rxs.one
  obtain ⟨as, r1⟩ := Dp.reads I _ _ _ hl (show RelV (.ref p) (.ref p) from rfl)
  obtain ⟨bs, r2⟩ := Dp.reads I d y u hy ru
  cases hl with
  | lst hs ha =>
    obtain ⟨its, rv, ⟨⟨cls, dd, data, sl⟩, n, ho, hc, hdn, hd⟩, hlen⟩ := I.list hs
    simp only at hc hd
    subst hc hd
    cases r1 with
    | list h1 h2 h3 h4 =>
      rw [ho] at h1
      cases h1
      cases h3
      have hu : X.A.units + 1 + min (PyData.depthAll ds) d.depth < cLine := by
        have := hr.un
        omega
      refine call_meets PySem.F.slot_list_count ⟨_, ho, rfl⟩ PySem.F.entry_list_count (PySem.F.args_list_count_2 _ _)
        (SeqAt.list_countAt p its.toArray n dd sl u (fun z => PyData.eqv (SeqAt.readOf s.heap z) d)) ⟨ho, SeqAt.items_plain h4 r2 pl pd hu, ?_⟩
      have ec : its.toArray.toList.countP (fun z => PyData.eqv (SeqAt.readOf s.heap z) d) = ds.countP fun z => PyData.eqv z d := by
        have e2 := SeqAt.readsAll_map_plain ds _ _ pl h4
        have e3 : ds.countP (fun z => PyData.eqv z d) = (its.toArray.toList.map (SeqAt.readOf s.heap)).countP fun z => PyData.eqv z d := by rw [e2]
        rw [e3, List.countP_map]
        rfl
      refine ⟨.int _, H, I.tok _, ⟨s.toks, ?_⟩, q⟩
      rw [ec]
def rInD' (K : PySem.W.Frag) : R2 := fun x y H Q => ∃ (ds : List PyData) (d : PyData), Dp K H y (.list ds) ∧ Dp K H x d ∧ PyData.plainAll ds = true ∧ d.plain = true ∧ min (PyData.depthAll ds) d.depth ≤ 190 ∧ Q (.bl (ds.any fun z => PyData.eqv z d)) H
theorem op_inL {X : Cx} {k : Nat} (hr : Room k X.A) : OpR X (compareOp .In) (rInD' X.K) := by
  intro pins s σ H x y v u Q I rx ry h
  obtain ⟨ds, d, hl, hy, pl, pd, hm, q⟩ := h
  obtain ⟨as, r1⟩ := Dp.reads I _ _ _ hl ry
  obtain ⟨bs, r2⟩ := Dp.reads I _ _ _ hy rx
  exact SeqAt.in_list_data r1 r2 pl pd (by have := hr.un; omega) ⟨.bl _, H, I, rfl, q⟩

/-- sorted(xs): alike data, each item with what it reads as -/
def rSortedD (K : PySem.W.Frag) : List V → Hp → VK → Prop := fun vs H Q => ∃ (a : Addr) (ps : List (V × PyData)), vs = [V.ref a] ∧ SqL K H a (ps.map (·.1)) ∧ (∀ p ∈ ps, Dp K H p.1 p.2 ∧ p.2.depth ≤ 190) ∧ PySem.W.AllAlike (ps.map (·.2)) ∧ PySem.W.Sortable (ps.map (·.2)) ∧
  ∀ p, H p = none → Q (.ref p) (upd H p (.lst ((ps.mergeSort (PySem.W.dataLe false (·.2))).map (·.1))))
theorem each_of {R : V → Value → Prop} : ∀ {ps : List (V × PyData)} {us : List Value}, Paired R (ps.map (·.1)) us → PySem.W.EachIs (fun (u : Value) (p : V × PyData) => R p.1 u ∧ p ∈ ps) us ps
  | [], [], _ => .nil
  | p :: ps, u :: us, h => by
    cases h with
    | cons a b => exact .cons ⟨a, List.mem_cons_self⟩ ((each_of b).mono fun _ _ z => ⟨z.1, List.mem_cons_of_mem _ z.2⟩)
theorem each_back : ∀ {ps : List (V × PyData)} {us : List Value}, PySem.W.EachIs (fun (u : Value) (p : V × PyData) => RelV p.1 u) us ps → Vals (ps.map (·.1)) us
  | [], [], _ => .nil
  | p :: ps, u :: us, h => by
    cases h with
    | cons a b => exact .cons a (each_back b)
theorem cr_sortedD {X : Cx} {k : Nat} (hr : Room k X.A) : CallR X (.builtin "sorted") (rSortedD X.K) := by
  intro pins s σ H vs us Q I r h
  obtain ⟨a, ps, rfl, hs, hd, hal, hk, q⟩ := h
  obtain ⟨its, rv, hl, hz⟩ := I.list hs
  rw [Vals.ref1 r]
  have e := each_of rv
  have er : PySem.W.EachIs (fun v b => ∃ as, Reads s.heap v b.2 as) its ps := e.mono fun u p ⟨h1, h2⟩ => Dp.reads I _ _ _ (hd p h2).1 h1
  have e' : PySem.W.EachIs (fun (u : Value) (p : V × PyData) => RelV p.1 u) its ps := e.mono fun u p z => z.1
  have hlen : ps.length ≤ sizeLine := by rw [List.length_map] at hz; exact hz
  refine PySem.W.sorted_data (enc := fun p : V × PyData => p.2) hl.isList e' er hal hk hlen (fun b hb => ?_) fun out ho eo => ?_
  · have := hr.un
    have := (hd b hb).2
    omega
  · obtain ⟨ep, he'⟩ := PyProof.Rows.sortedAll_at s.heap its out.toArray
    refine ⟨.ref _, upd H (s.heap.objs.size + 1) (.lst ((ps.mergeSort (PySem.W.dataLe false (·.2))).map (·.1))), I.laid (t' := s.toks) (fun _ _ => PyProof.Rows.sortedAll_old) (Nat.le_succ _) ⟨?_, out, ep, each_back eo, he'⟩, rfl, q _ (I.hok.fresh (Nat.le_succ _))⟩
    rw [List.length_map, List.length_mergeSort]
    exact hlen
/-! ### xs != [], xs == [] (the new list is not tracked) -/
def tNil' (f : Bool → Bool) (K : PySem.W.Frag) (te : TE) : TE := fun σ H Q => te σ H fun x H1 => ∃ a xs, x = .ref a ∧ SqL K H1 a xs ∧ Q (.bl (f xs.isEmpty)) H1
theorem rc_nil {s : Shared} {A : Around} {a b : Addr} {its : List Value} (h1 : s.heap.IsList a its.toArray) (h2 : s.heap.IsList b #[]) (hu : A.units < cLine) : SeqAt.RcAt A s (.ref a) (.ref b) its.isEmpty ∧ SeqAt.RcNeAt A s (.ref a) (.ref b) (!its.isEmpty) := by
  cases its with
  | nil =>
    refine ⟨?_, ?_⟩
    · have q := SeqAt.RcAt.lists (A := A) (s := s) (e := fun _ => true) h1 h2 rfl hu (fun j hj => absurd hj (Nat.not_lt_zero j))
      exact q
    · have q := SeqAt.RcNeAt.lists (A := A) (s := s) (e := fun _ => true) h1 h2 rfl hu (fun j hj => absurd hj (Nat.not_lt_zero j))
      exact q
  | cons x r =>
    have hz : ((x :: r).toArray.size != (#[] : Array Value).size) = true := by simp
    exact ⟨SeqAt.RcAt.lists_lengths h1 h2 hz hu, SeqAt.RcNeAt.lists_lengths h1 h2 hz hu⟩
theorem vals_emp {xs : List V} {us : List Value} (r : Vals xs us) : us.isEmpty = xs.isEmpty := by cases r <;> rfl
section
variable {X : Cx} {e : Expr} {te : TE} {pos p2 : Pos} {k : Nat}
theorem nil_run (f : Bool → Bool) {pins : List (Addr × Obj)} {s : Shared} {σ : St} {H : Hp} {Q : VK} (he : PE X e te) (hu : X.A.units < cLine) (I : Inv X pins σ H s) (h : tNil' f X.K te σ H Q) {op : CmpOp}
    (hop : ∀ (v u : Value) (s : Shared) (its : List Value) (a b : Addr), v = .ref a → u = .ref b → s.heap.IsList a its.toArray → s.heap.IsList b #[] → ∀ Q' E', Q' (.bool (f its.isEmpty)) s → wpAny (model X.prog X.w) X.A (compareOp op v u) Q' E' s) :
    wpAny (model X.prog X.w) X.A (eval e X.env) (fun v s₁ => wpAny (model X.prog X.w) X.A (eval (.List [] p2) X.env) (fun u s₂ => wpAny (model X.prog X.w) X.A (compareOp op v u) (EP X pins σ Q) X.xe s₂) X.xe s₁) X.xe s := by
  refine thn (he.run pins s σ H _ I h) fun v s1 ⟨x, H1, I1, r1, a, xs, ex, hx, q1⟩ => ?_
  subst ex
  obtain rfl : v = .ref a := r1
  refine wpAny_List_spliced (thn (pa_nil.run p2 pins s1 σ H1 (fun vs H2 => vs = [] ∧ H2 = H1) I1 ⟨rfl, rfl⟩) fun us s2 ⟨vs, H2, I2, r2, ev, eH⟩ => ?_)
  subst ev eH
  cases r2
  refine ⟨Nat.zero_le _, ?_⟩
  have I3 : Inv X pins σ H2 { s2 with heap := s2.heap.push { cls := .type "list", data := .seq #[] } } := I2.kept (t' := s2.toks) fun b u z => Heap.get?_push_of_some _ z
  obtain ⟨its, r, ht, hz⟩ := I3.list hx
  refine hop _ _ _ its a s2.heap.objs.size rfl rfl ht.isList ⟨_, Heap.get?_push_size _ rfl, rfl, _, rfl⟩ _ _ ⟨.bl _, H2, I3, rfl, ?_⟩
  rw [vals_emp r]
  exact q1
theorem pc_neNil (hr : Room k X.A) (he : PE X e te) : PC X .NotEq e (.List [] p2) (tNil' (fun b => !b) X.K te) :=
  ⟨fun pins s σ H Q I h => nil_run _ he hr.units0 I h fun v u s its a b e1 e2 h1 h2 Q' E' q => by subst e1 e2; exact (rc_nil h1 h2 hr.units0).2 _ _ _ _ q⟩
theorem pc_eqNil (hr : Room k X.A) (he : PE X e te) : PC X .Eq e (.List [] p2) (tNil' (fun b => b) X.K te) :=
  ⟨fun pins s σ H Q I h => nil_run _ he hr.units0 I h fun v u s its a b e1 e2 h1 h2 Q' E' q => by subst e1 e2; exact (rc_nil h1 h2 hr.units0).1 _ _ _ _ q⟩
end
end Hy
set_option Elab.async false
set_option linter.all false
set_option maxRecDepth 100000
set_option maxHeartbeats 4000000
namespace Hy
/-! trees, their writings, their told forms; reading back (plain Lean) -/
inductive Tr where
  | node (c : Nat) (ts : List Tr)
def Tr.c : Tr → Nat | .node c _ => c
def Tr.ts : Tr → List Tr | .node _ ts => ts
theorem Tr.eta (t : Tr) : t = .node t.c t.ts := by cases t; rfl
mutual
def Tr.size : Tr → Nat
  | .node _ ts => 1 + Tr.sizes ts
def Tr.sizes : List Tr → Nat
  | [] => 0
  | t :: ts => t.size + Tr.sizes ts
end
mutual
def Tr.dep : Tr → Nat
  | .node _ ts => 1 + Tr.deps ts
def Tr.deps : List Tr → Nat
  | [] => 0
  | t :: ts => max t.dep (Tr.deps ts)
end
/-- small letters, by their codes -/
def isL (c : Nat) : Bool := decide (97 ≤ c) && decide (c ≤ 122)
mutual
def Tr.ok : Tr → Bool
  | .node c ts => isL c && Tr.oks ts
def Tr.oks : List Tr → Bool
  | [] => true
  | t :: ts => t.ok && Tr.oks ts
end
mutual
def Tr.W : Tr → List Nat
  | .node c ts => if ts.isEmpty then [c] else c :: 40 :: (Tr.Ws ts ++ [41])
def Tr.Ws : List Tr → List Nat
  | [] => []
  | t :: ts => t.W ++ Tr.Ws ts
end
mutual
/-- all parts, each behind its children -/
def Tr.parts : Tr → List Tr
  | .node c ts => Tr.partss ts ++ [.node c ts]
def Tr.partss : List Tr → List Tr
  | [] => []
  | t :: ts => t.parts ++ Tr.partss ts
end
theorem Tr.size_pos (t : Tr) : 1 ≤ t.size := by cases t; simp only [Tr.size]; omega
theorem Tr.sizes_append : ∀ (a b : List Tr), Tr.sizes (a ++ b) = Tr.sizes a + Tr.sizes b
  | [], b => by simp [Tr.sizes]
  | t :: a, b => by simp only [List.cons_append, Tr.sizes, Tr.sizes_append a b]; omega
theorem Tr.partss_append : ∀ (a b : List Tr), Tr.partss (a ++ b) = Tr.partss a ++ Tr.partss b
  | [], b => by simp [Tr.partss]
  | t :: a, b => by simp only [List.cons_append, Tr.partss, Tr.partss_append a b, List.append_assoc]
theorem Tr.Ws_append : ∀ (a b : List Tr), Tr.Ws (a ++ b) = Tr.Ws a ++ Tr.Ws b
  | [], b => by simp [Tr.Ws]
  | t :: a, b => by simp only [List.cons_append, Tr.Ws, Tr.Ws_append a b, List.append_assoc]
theorem Tr.oks_append : ∀ (a b : List Tr), Tr.oks (a ++ b) = (Tr.oks a && Tr.oks b)
  | [], b => by simp [Tr.oks]
  | t :: a, b => by simp only [List.cons_append, Tr.oks, Tr.oks_append a b, Bool.and_assoc]
theorem Tr.sizes_perm {a b : List Tr} (h : a.Perm b) : Tr.sizes a = Tr.sizes b := by
  induction h with
  | nil => rfl
  | cons x _ ih => simp only [Tr.sizes, ih]
  | swap x y l => simp only [Tr.sizes]; omega
  | trans _ _ h1 h2 => exact h1.trans h2
theorem Tr.deps_perm {a b : List Tr} (h : a.Perm b) : Tr.deps a = Tr.deps b := by
  induction h with
  | nil => rfl
  | cons x _ ih => simp only [Tr.deps, ih]
  | swap x y l => simp only [Tr.deps]; omega
  | trans _ _ h1 h2 => exact h1.trans h2
theorem Tr.oks_iff : ∀ {a : List Tr}, Tr.oks a = true ↔ ∀ t ∈ a, t.ok = true
  | [] => by simp [Tr.oks]
  | t :: a => by simp only [Tr.oks, Bool.and_eq_true, List.mem_cons, forall_eq_or_imp, Tr.oks_iff (a := a)]
theorem Tr.sizes_mem : ∀ {a : List Tr} {t : Tr}, t ∈ a → t.size ≤ Tr.sizes a
  | x :: a, t, h => by
    rcases List.mem_cons.mp h with rfl | h
    · simp only [Tr.sizes]; omega
    · have := Tr.sizes_mem h
      simp only [Tr.sizes]; omega
theorem Tr.deps_mem : ∀ {a : List Tr} {t : Tr}, t ∈ a → t.dep ≤ Tr.deps a
  | x :: a, t, h => by
    rcases List.mem_cons.mp h with rfl | h
    · simp only [Tr.deps]; omega
    · have := Tr.deps_mem h
      simp only [Tr.deps]; omega
theorem Tr.deps_le : ∀ {a : List Tr} {n : Nat}, (∀ t ∈ a, t.dep ≤ n) → Tr.deps a ≤ n
  | [], n, _ => Nat.zero_le _
  | x :: a, n, h => by
    have h1 := h x List.mem_cons_self
    have h2 := Tr.deps_le fun t ht => h t (List.mem_cons_of_mem _ ht)
    simp only [Tr.deps]; omega
theorem Tr.sizes_len : ∀ (a : List Tr), a.length ≤ Tr.sizes a
  | [] => Nat.zero_le _
  | t :: a => by
    have := Tr.sizes_len a
    have := t.size_pos
    simp only [Tr.sizes, List.length_cons]; omega
mutual
theorem Tr.parts_len : ∀ t : Tr, t.parts.length = t.size
  | .node c ts => by simp only [Tr.parts, Tr.size, List.length_append, List.length_singleton, Tr.partss_len ts]; omega
theorem Tr.partss_len : ∀ ts : List Tr, (Tr.partss ts).length = Tr.sizes ts
  | [] => rfl
  | t :: ts => by simp only [Tr.partss, Tr.sizes, List.length_append, Tr.parts_len t, Tr.partss_len ts]
end
mutual
theorem Tr.parts_prop (P : Tr → Prop) (hP : ∀ c ts, P (.node c ts) → ∀ t ∈ ts, P t) : ∀ t : Tr, P t → ∀ q ∈ t.parts, P q
  | .node c ts, h, q, hq => by
    simp only [Tr.parts, List.mem_append, List.mem_singleton] at hq
    rcases hq with hq | rfl
    · exact Tr.partss_prop P hP ts (hP c ts h) q hq
    · exact h
theorem Tr.partss_prop (P : Tr → Prop) (hP : ∀ c ts, P (.node c ts) → ∀ t ∈ ts, P t) : ∀ ts : List Tr, (∀ t ∈ ts, P t) → ∀ q ∈ Tr.partss ts, P q
  | [], _, q, hq => by simp [Tr.partss] at hq
  | t :: ts, h, q, hq => by
    simp only [Tr.partss, List.mem_append] at hq
    rcases hq with hq | hq
    · exact Tr.parts_prop P hP t (h t List.mem_cons_self) q hq
    · exact Tr.partss_prop P hP ts (fun u hu => h u (List.mem_cons_of_mem _ hu)) q hq
end
mutual
theorem Tr.W_len : ∀ t : Tr, t.W.length ≤ 3 * t.size
  | .node c ts => by
    unfold Tr.W Tr.size
    have := Tr.Ws_len ts
    split
    · simp only [List.length_singleton]; omega
    · simp only [List.length_cons, List.length_append, List.length_nil]; omega
theorem Tr.Ws_len : ∀ ts : List Tr, (Tr.Ws ts).length ≤ 3 * Tr.sizes ts
  | [] => Nat.zero_le _
  | t :: ts => by
    have := Tr.W_len t
    have := Tr.Ws_len ts
    simp only [Tr.Ws, Tr.sizes, List.length_append]; omega
end
theorem Tr.W_leaf (c : Nat) : (Tr.node c []).W = [c] := by simp [Tr.W]
theorem Tr.W_node (c : Nat) {ts : List Tr} (h : ts ≠ []) : (Tr.node c ts).W = c :: 40 :: (Tr.Ws ts ++ [41]) := by
  unfold Tr.W
  rw [if_neg (by simpa using h)]
theorem Tr.Ws_flat : ∀ ts : List Tr, Tr.Ws ts = (ts.map Tr.W).flatten
  | [] => rfl
  | t :: ts => by simp only [Tr.Ws, List.map_cons, List.flatten_cons, Tr.Ws_flat ts]

/-! ### the order of writings -/
def leW (a b : Tr) : Bool := decide (a.W ≤ b.W)
theorem leW_total (a b : Tr) : (leW a b || leW b a) = true := by
  unfold leW
  rcases List.le_total (a.W) (b.W) with h | h <;> simp [h]
theorem leW_trans (a b c : Tr) (h1 : leW a b = true) (h2 : leW b c = true) : leW a c = true := by
  unfold leW at *
  exact decide_eq_true (List.le_trans (of_decide_eq_true h1) (of_decide_eq_true h2))
theorem leW_anti {a b : Tr} (h1 : leW a b = true) (h2 : leW b a = true) : a.W = b.W := List.le_antisymm (of_decide_eq_true h1) (of_decide_eq_true h2)
abbrev SrtW (ts : List Tr) : Prop := ts.Pairwise fun a b => leW a b = true
def sortT (ts : List Tr) : List Tr := ts.mergeSort leW
theorem sortT_srt (ts : List Tr) : SrtW (sortT ts) := List.pairwise_mergeSort leW_trans leW_total ts
theorem sortT_perm (ts : List Tr) : (sortT ts).Perm ts := List.mergeSort_perm ts leW

/-! ### reading -/
/-- the sign ahead, the open ones, those here -/
structure RS where
  prev : Nat
  ab : List (Nat × List Tr)
  here : List Tr
def RS.step (s : RS) (x : Nat) : Option RS :=
  if isL x = true then some ⟨x, s.ab, s.here ++ [.node x []]⟩
  else if x = 40 ∧ isL s.prev = true then some ⟨x, s.ab ++ [(s.prev, s.here.dropLast)], []⟩
  else if x = 41 then
    match s.ab.getLast? with
    | none => none
    | some (l, more) => if s.here ≠ [] ∧ SrtW s.here then some ⟨x, s.ab.dropLast, more ++ [.node l s.here]⟩ else none
  else none
def RS.run (s : RS) : List Nat → Option RS
  | [] => some s
  | x :: xs => (s.step x).bind fun s' => s'.run xs
theorem RS.run_append : ∀ (a b : List Nat) (s : RS), s.run (a ++ b) = (s.run a).bind fun s' => s'.run b
  | [], b, s => rfl
  | x :: a, b, s => by
    simp only [List.cons_append, RS.run]
    cases s.step x with
    | none => rfl
    | some s' => exact RS.run_append a b s'
mutual
/-- in told form, of small letters -/
def Tr.told : Tr → Prop
  | .node c ts => isL c = true ∧ SrtW ts ∧ Tr.tolds ts
def Tr.tolds : List Tr → Prop
  | [] => True
  | t :: ts => t.told ∧ Tr.tolds ts
end
theorem Tr.tolds_iff : ∀ {ts : List Tr}, Tr.tolds ts ↔ ∀ t ∈ ts, t.told
  | [] => by simp [Tr.tolds]
  | t :: ts => by simp only [Tr.tolds, List.mem_cons, forall_eq_or_imp, Tr.tolds_iff (ts := ts)]
theorem isL_40 : isL 40 = false := rfl
theorem isL_41 : isL 41 = false := rfl
mutual
theorem RS.run_W : ∀ (t : Tr) (s : RS), t.told → ∃ p, s.run t.W = some ⟨p, s.ab, s.here ++ [t]⟩
  | .node c ts, s, h => by
    obtain ⟨hc, hs, ht⟩ := h
    cases ts with
    | nil =>
      rw [Tr.W_leaf]
      simp only [RS.run, RS.step, if_pos hc, Option.bind_some]
      exact ⟨_, rfl⟩
    | cons t ts =>
      rw [Tr.W_node c (by simp)]
      obtain ⟨p, hp⟩ := RS.run_Ws (t :: ts) ⟨40, s.ab ++ [(c, s.here)], []⟩ ht
      simp only [RS.run, RS.step, if_pos hc, Option.bind_some]
      rw [if_neg (by rw [isL_40]; decide), if_pos (by simp [hc])]
      simp only [Option.bind_some, List.dropLast_concat]
      rw [RS.run_append, hp]
      simp only [Option.bind_some, List.nil_append, RS.run, RS.step, List.getLast?_concat, List.dropLast_concat]
      rw [if_neg (by rw [isL_41]; decide), if_neg (by rintro ⟨h, _⟩; exact absurd h (by decide)), if_pos trivial, if_pos ⟨by simp, hs⟩]
      exact ⟨_, rfl⟩
theorem RS.run_Ws : ∀ (ts : List Tr) (s : RS), Tr.tolds ts → ∃ p, s.run (Tr.Ws ts) = some ⟨p, s.ab, s.here ++ ts⟩
  | [], s, _ => ⟨s.prev, by simp [Tr.Ws, RS.run]⟩
  | t :: ts, s, h => by
    obtain ⟨p, hp⟩ := RS.run_W t s h.1
    obtain ⟨q, hq⟩ := RS.run_Ws ts ⟨p, s.ab, s.here ++ [t]⟩ h.2
    refine ⟨q, ?_⟩
    rw [Tr.Ws, RS.run_append, hp]
    simp only [Option.bind_some]
    rw [hq]
    simp
end
/-- trees in told form have unlike writings -/
theorem told_inj {t u : Tr} (ht : t.told) (hu : u.told) (h : t.W = u.W) : t = u := by
  obtain ⟨p, hp⟩ := RS.run_W t ⟨0, [], []⟩ ht
  obtain ⟨q, hq⟩ := RS.run_W u ⟨0, [], []⟩ hu
  rw [h, hq] at hp
  have e := congrArg RS.here (Option.some.inj hp)
  simpa using e.symm
mutual
def Tr.form : Tr → Tr
  | .node c ts => .node c (sortT (Tr.forms ts))
def Tr.forms : List Tr → List Tr
  | [] => []
  | t :: ts => t.form :: Tr.forms ts
end
theorem Tr.forms_map : ∀ ts : List Tr, Tr.forms ts = ts.map Tr.form
  | [] => rfl
  | t :: ts => by simp only [Tr.forms, List.map_cons, Tr.forms_map ts]
mutual
theorem Tr.form_told : ∀ t : Tr, t.ok = true → t.form.told
  | .node c ts, h => by
    simp only [Tr.ok, Bool.and_eq_true] at h
    refine ⟨h.1, sortT_srt _, Tr.tolds_iff.mpr fun t ht => ?_⟩
    exact Tr.tolds_iff.mp (Tr.forms_told ts h.2) t ((sortT_perm _).mem_iff.mp ht)
theorem Tr.forms_told : ∀ ts : List Tr, Tr.oks ts = true → Tr.tolds (Tr.forms ts)
  | [], _ => trivial
  | t :: ts, h => by
    simp only [Tr.oks, Bool.and_eq_true] at h
    exact ⟨Tr.form_told t h.1, Tr.forms_told ts h.2⟩
end
mutual
theorem Tr.form_size : ∀ t : Tr, t.form.size = t.size
  | .node c ts => by simp only [Tr.form, Tr.size, Tr.sizes_perm (sortT_perm _), Tr.forms_sizes ts]
theorem Tr.forms_sizes : ∀ ts : List Tr, Tr.sizes (Tr.forms ts) = Tr.sizes ts
  | [] => rfl
  | t :: ts => by simp only [Tr.forms, Tr.sizes, Tr.form_size t, Tr.forms_sizes ts]
end
mutual
theorem Tr.form_dep : ∀ t : Tr, t.form.dep = t.dep
  | .node c ts => by simp only [Tr.form, Tr.dep, Tr.deps_perm (sortT_perm _), Tr.forms_deps ts]
theorem Tr.forms_deps : ∀ ts : List Tr, Tr.deps (Tr.forms ts) = Tr.deps ts
  | [] => rfl
  | t :: ts => by simp only [Tr.forms, Tr.deps, Tr.form_dep t, Tr.forms_deps ts]
end
mutual
theorem Tr.form_ok : ∀ t : Tr, t.form.ok = t.ok
  | .node c ts => by
    have h : Tr.oks (sortT (Tr.forms ts)) = Tr.oks (Tr.forms ts) := by
      rw [Bool.eq_iff_iff, Tr.oks_iff, Tr.oks_iff]
      exact ⟨fun a t ht => a t ((sortT_perm _).mem_iff.mpr ht), fun a t ht => a t ((sortT_perm _).mem_iff.mp ht)⟩
    simp only [Tr.form, Tr.ok, h, Tr.forms_ok ts]
theorem Tr.forms_ok : ∀ ts : List Tr, Tr.oks (Tr.forms ts) = Tr.oks ts
  | [] => rfl
  | t :: ts => by simp only [Tr.forms, Tr.oks, Tr.form_ok t, Tr.forms_ok ts]
end
/-- the one sorted list of trees in told form -/
theorem srt_uniq {as bs : List Tr} (ha : SrtW as) (hb : SrtW bs) (h : as.Perm bs) (ht : Tr.tolds as) : as = bs := by
  refine h.eq_of_pairwise (le := fun a b => leW a b = true) (fun a b h1 h2 h3 h4 => ?_) ha hb
  have t1 := Tr.tolds_iff.mp ht a h1
  have t2 := Tr.tolds_iff.mp ht b (h.mem_iff.mpr h2)
  exact told_inj t1 t2 (leW_anti h3 h4)
/-! ### parts worked off by a stack -/
inductive Post : List Tr → List Tr → List Tr → Prop
  | nil (ss : List Tr) : Post ss [] ss
  | cons (ss ts : List Tr) (c : Nat) {l r : List Tr} : Post (ss ++ [.node c ts]) l r → Post (ss ++ ts) (.node c ts :: l) r
mutual
theorem Post.tree : ∀ (t : Tr) (ss l r : List Tr), Post (ss ++ [t]) l r → Post ss (t.parts ++ l) r
  | .node c ts, ss, l, r, h => by
    rw [Tr.parts, List.append_assoc]
    exact Post.trees ts ss _ r (.cons ss ts c h)
theorem Post.trees : ∀ (ts : List Tr) (ss l r : List Tr), Post (ss ++ ts) l r → Post ss (Tr.partss ts ++ l) r
  | [], ss, l, r, h => by simpa [Tr.partss] using h
  | t :: ts, ss, l, r, h => by
    rw [Tr.partss, List.append_assoc]
    refine Post.tree t ss _ r (Post.trees ts (ss ++ [t]) l r ?_)
    simpa using h
end
theorem Post.all (t : Tr) : Post [] t.parts [t] := by
  have h := Post.tree t [] [] [t] (.nil _)
  simpa using h
theorem Post.out {os : List Tr} {q : Tr} {l r : List Tr} (h : Post os (q :: l) r) : ∃ ss, os = ss ++ q.ts ∧ Post (ss ++ [q]) l r := by
  cases h with
  | cons ss ts c h => exact ⟨ss, rfl, h⟩
theorem Post.end_ {os r : List Tr} (h : Post os [] r) : os = r := by
  cases h with
  | nil => rfl
theorem Tr.W_len1 (t : Tr) : 1 ≤ t.W.length := by
  cases t with
  | node c ts =>
    unfold Tr.W
    split <;> simp
/-! ### what reading keeps -/
def RS.tot (s : RS) : Nat := (s.ab.map fun p => 1 + Tr.sizes p.2).sum + Tr.sizes s.here
def RS.Inv (s : RS) : Prop := isL s.prev = true → ∃ hs, s.here = hs ++ [.node s.prev []]
theorem RS.inv0 : RS.Inv ⟨0, [], []⟩ := fun h => absurd h (by decide)
theorem RS.step_inv {s s' : RS} {x : Nat} (h : s.step x = some s') : s'.Inv := by
  unfold RS.step at h
  split at h
  · cases h
    exact fun _ => ⟨s.here, rfl⟩
  · split at h
    · rename_i h1 h2
      cases h
      intro hx
      rw [h2.1] at hx
      exact absurd (show isL 40 = true from hx) (by decide)
    · split at h
      · rename_i h1 h2 h3
        split at h
        · cases h
        · split at h
          · cases h
            intro hx
            rw [show x = 41 from h3] at hx
            exact absurd (show isL 41 = true from hx) (by decide)
          · cases h
      · cases h
theorem RS.step_tot {s s' : RS} {x : Nat} (I : s.Inv) (h : s.step x = some s') : s'.tot ≤ s.tot + 1 := by
  unfold RS.step at h
  split at h
  · cases h
    simp only [RS.tot, Tr.sizes_append, Tr.sizes, Tr.size]
    omega
  · split at h
    · rename_i h1 h2
      cases h
      obtain ⟨hs, e⟩ := I h2.2
      simp only [RS.tot, e, List.dropLast_concat, List.map_append, List.map_cons, List.map_nil, List.sum_append, List.sum_cons, List.sum_nil, Tr.sizes_append, Tr.sizes, Tr.size]
      omega
    · split at h
      · split at h
        · cases h
        · rename_i l more hl
          split at h
          · cases h
            have e : s.ab = s.ab.dropLast ++ [(l, more)] := by
              have hne : s.ab ≠ [] := fun z => by rw [z] at hl; cases hl
              rw [List.getLast?_eq_some_getLast hne] at hl
              have q := List.dropLast_concat_getLast hne
              rw [Option.some.inj hl] at q
              exact q.symm
            have e2 : (s.ab.map fun p => 1 + Tr.sizes p.2).sum = (s.ab.dropLast.map fun p => 1 + Tr.sizes p.2).sum + (1 + Tr.sizes more) := by
              conv => lhs; rw [e]
              simp only [List.map_append, List.map_cons, List.map_nil, List.sum_append, List.sum_cons, List.sum_nil]
              omega
            simp only [RS.tot, Tr.sizes_append, Tr.sizes, Tr.size, e2]
            omega
          · cases h
      · cases h
def parse (l : List Nat) : Option Tr := match RS.run ⟨0, [], []⟩ l with
  | some ⟨_, [], [t]⟩ => some t
  | _ => none
theorem parse_W {t : Tr} (h : t.told) : parse t.W = some t := by
  obtain ⟨p, hp⟩ := RS.run_W t ⟨0, [], []⟩ h
  unfold parse
  rw [hp]
  rfl
theorem take_snoc {α : Type} {l : List α} {i : Nat} {x : α} (h : l[i]? = some x) : l.take (i + 1) = l.take i ++ [x] := by
  rw [List.take_succ, h]
  rfl
theorem RS.run_next {s0 s : RS} {l : List Nat} {i x : Nat} (h : s0.run (l.take i) = some s) (hx : l[i]? = some x) : s0.run (l.take (i + 1)) = s.step x := by
  rw [take_snoc hx, RS.run_append, h]
  simp only [Option.bind_some, RS.run]
  cases s.step x <;> rfl
theorem RS.run_stop {s0 s : RS} {l : List Nat} {i x : Nat} (h : s0.run (l.take i) = some s) (hx : l[i]? = some x) (hn : s.step x = none) : s0.run l = none := by
  have e : l = l.take (i + 1) ++ l.drop (i + 1) := (List.take_append_drop _ _).symm
  rw [e, RS.run_append, RS.run_next h hx, hn]
  rfl
end Hy
set_option Elab.async false
set_option linter.all false
set_option maxRecDepth 100000
set_option maxHeartbeats 4000000
namespace Hy
/-! what was read, from its tree; the parts as one list (plain Lean) -/
def RS.text (s : RS) : List Nat := (s.ab.flatMap fun p => Tr.Ws p.2 ++ [p.1, 40]) ++ Tr.Ws s.here
theorem RS.step_text {s s' : RS} {x : Nat} (I : s.Inv) (h : s.step x = some s') : s'.text = s.text ++ [x] := by
  unfold RS.step at h
  split at h
  · cases h
    simp [RS.text, Tr.Ws_append, Tr.Ws, Tr.W_leaf]
  · split at h
    · rename_i h2
      obtain ⟨rfl, hp⟩ := h2
      obtain ⟨hs, e⟩ := I hp
      cases h
      simp [RS.text, e, Tr.Ws_append, Tr.Ws, Tr.W_leaf]
    · split at h
      · rename_i h3
        subst h3
        rcases List.eq_nil_or_concat s.ab with e | ⟨ab, ⟨l, more⟩, e⟩
        · rw [e] at h
          cases h
        · rw [List.concat_eq_append] at e
          rw [e, List.getLast?_concat, List.dropLast_concat] at h
          simp only at h
          split at h
          · rename_i h4
            cases h
            simp [RS.text, e, Tr.Ws_append, Tr.Ws, Tr.W_node _ h4.1]
          · cases h
      · cases h
theorem RS.run_text : ∀ (l : List Nat) (s s' : RS), s.Inv → s.run l = some s' → s'.text = s.text ++ l
  | [], s, s', _, h => by
    cases h
    simp
  | x :: l, s, s', I, h => by
    rw [RS.run] at h
    obtain ⟨s1, h1, h2⟩ := Option.bind_eq_some_iff.mp h
    rw [RS.run_text l s1 s' (RS.step_inv h1) h2, RS.step_text I h1, List.append_assoc]
    rfl
theorem parse_inv {l : List Nat} {t : Tr} (h : parse l = some t) : t.W = l := by
  unfold parse at h
  split at h
  · rename_i p t' e
    cases h
    have z := RS.run_text l _ _ RS.inv0 e
    simpa [RS.text, Tr.Ws] using z
  · cases h
mutual
theorem Tr.dep_W : ∀ t : Tr, 3 * t.dep ≤ t.W.length + 2
  | .node c [] => by simp [Tr.dep, Tr.deps, Tr.W]
  | .node c (t :: ts) => by
    have h := Tr.deps_W (t :: ts) (by simp)
    rw [Tr.W_node c (by simp), Tr.dep]
    simp only [List.length_cons, List.length_append, List.length_nil]
    omega
theorem Tr.deps_W : ∀ ts : List Tr, ts ≠ [] → 3 * Tr.deps ts ≤ (Tr.Ws ts).length + 2
  | [], h => absurd rfl h
  | [t], _ => by
    have := Tr.dep_W t
    simp only [Tr.deps, Tr.Ws, List.append_nil]
    omega
  | t :: u :: ts, _ => by
    have h1 := Tr.dep_W t
    have h2 := Tr.deps_W (u :: ts) (by simp)
    rw [Tr.deps, Tr.Ws, List.length_append]
    omega
end
/-- the open ones' parts, each with its leaf behind -/
def flatA (ab : List (Nat × List Tr)) : List Tr := ab.flatMap fun p => p.2 ++ [.node p.1 []]
def begs (ab : List (Nat × List Tr)) : List Nat := (List.range ab.length).map fun i => (flatA (ab.take (i + 1))).length
theorem flatA_snoc (ab : List (Nat × List Tr)) (c : Nat) (ts : List Tr) : flatA (ab ++ [(c, ts)]) = flatA ab ++ (ts ++ [.node c []]) := by simp [flatA]
theorem begs_snoc (ab : List (Nat × List Tr)) (p : Nat × List Tr) : begs (ab ++ [p]) = begs ab ++ [(flatA (ab ++ [p])).length] := by
  unfold begs
  rw [List.length_append, List.length_singleton, List.range_succ, List.map_append, List.map_singleton]
  congr 1
  · refine List.map_congr_left fun i hi => ?_
    have := List.mem_range.mp hi
    rw [List.take_append_of_le_length (by omega)]
  · rw [List.take_of_length_le (by simp)]
theorem flat_tot : ∀ ab : List (Nat × List Tr), (flatA ab).length ≤ (ab.map fun p => 1 + Tr.sizes p.2).sum
  | [] => Nat.zero_le _
  | p :: ab => by
    have h1 := flat_tot ab
    have h2 := Tr.sizes_len p.2
    simp only [flatA, List.flatMap_cons, List.length_append, List.length_singleton, List.map_cons, List.sum_cons] at h1 ⊢
    omega
theorem run_letters : ∀ (l : List Nat) (s : RS), (∀ c ∈ l, isL c = true) → ∃ p, s.run l = some ⟨p, s.ab, s.here ++ l.map fun c => .node c []⟩
  | [], s, _ => ⟨s.prev, by simp [RS.run]⟩
  | c :: l, s, h => by
    have hc : s.step c = some ⟨c, s.ab, s.here ++ [.node c []]⟩ := by
      unfold RS.step
      rw [if_pos (h c List.mem_cons_self)]
    obtain ⟨p, e⟩ := run_letters l ⟨c, s.ab, s.here ++ [.node c []]⟩ fun d hd => h d (List.mem_cons_of_mem _ hd)
    refine ⟨p, ?_⟩
    rw [RS.run, hc, Option.bind_some, e]
    simp
theorem parse_letters {l : List Nat} (h : ∀ c ∈ l, isL c = true) (h2 : 2 ≤ l.length) : parse l = none := by
  obtain ⟨p, e⟩ := run_letters l ⟨0, [], []⟩ h
  unfold parse
  rw [e]
  match l, h2 with
  | a :: b :: r, _ => rfl
theorem parse_first {x : Nat} {l : List Nat} (h : isL x = false) : parse (x :: l) = none := by
  have e : RS.step ⟨0, [], []⟩ x = none := by
    unfold RS.step
    rw [if_neg (by rw [h]; decide), if_neg (fun z => absurd z.2 (by decide))]
    split <;> rfl
  unfold parse
  rw [RS.run, e]
  rfl
end Hy
set_option Elab.async false
set_option linter.all false
set_option maxRecDepth 100000
set_option maxHeartbeats 4000000
namespace Hy
open PySem L2

/-! ### names of the module -/
/-- the module's name x holds v -/
def GV (mg : Str → Option Value) (x : Str) (v : V) : Prop := ∃ u, mg x = some u ∧ RelV v u
theorem pe_gv {X : Cx} {x : Str} {v : V} {pos : Pos} (h : GV X.mg x v) (hg : Gl X x := by rfl) (hd : (x == ("__debug__" : Str)) = false := by decide) : PE X (.Name x pos) (tC v) := by
  obtain ⟨u, m, r⟩ := h
  exact pe_glob hg m r hd
theorem pe_ty {X : Cx} {x : Str} {n : String} {pos : Pos} (hm : X.mg x = none) (hv : bootBuiltins x = some (.type n)) (hg : Gl X x := by rfl) (hn : x ≠ "__name__" := by decide) (hd : (x == ("__debug__" : Str)) = false := by decide) : PE X (.Name x pos) (tC (.ty n)) :=
  pe_bltn hg hm hv rfl hn hd
/-- an own error class -/
structure ExcF (K : PySem.W.Frag) (mg : Str → Option Value) (x : Str) : Prop where
  ex : ∃ C : Addr, mg x = some (.ref C) ∧ PySem.W.excIn K C [.type "ValueError", .type "Exception", .type "BaseException", .type "object"] "ValueError.__new__" = true ∧ PySem.W.keepIn K (.ref C) = true ∧
    PySem.W.subIn K (.ref C) (.type "BaseException") = some true ∧ PySem.W.typeIn K (.ref C) = some (.type "type")
theorem ps_rs {X : Cx} {W : WX} {x m : Str} {j : Nat} {p p2 pos pos' : Pos} (F : ExcF X.K X.mg x) (hc : X.calm = true) (tk : Takes X W) (hg : Gl X x := by rfl) (hdb : (x == ("__debug__" : Str)) = false := by decide) :
    PS X (.Raise (some (.Call (.Name x p) [.Constant (.str m) j p2] [] pos')) none pos) (fun _ σ H => ∀ c, X.mg x = some c → W c none σ H) := by
  obtain ⟨C, g, e, k, s1, t1⟩ := F.ex
  have h := ps_raise (pos := pos) hc tk (pmk_own (j := j) (p := p) (p2 := p2) (pos := pos') (m := m) PySem.F.excBase_ValueError e g k (raises_own s1 t1) hg hdb)
  exact ⟨fun pins s σ H D I q => h.run pins s σ H D I (q _ g)⟩

/-! ### xs[i] += e -/
def gtL (K : PySem.W.Frag) : V → V → Hp → VK → Prop := fun o i H Q => ∃ p xs j v, o = .ref p ∧ i = .int j ∧ SqL K H p xs ∧ atI xs j = some v ∧ Q v H
theorem pget_list {X : Cx} : PGet X (gtL X.K) := by
  intro pins s σ H o i ov iv Q I ro ri h
  obtain ⟨p, xs, j, v, rfl, rfl, hx, ha, q⟩ := h
  cases ro
  obtain ⟨t, rfl⟩ := ri
  obtain ⟨its, r, pl, hz⟩ := I.list hx
  obtain ⟨k, h1, h2, h3, h4, h5⟩ := atI_get ha
  obtain ⟨w, ew, rw'⟩ := r.get h2
  have hl := r.length
  have hn := line63
  have fin : EP X pins σ Q w s := ⟨v, H, I, rw', q⟩
  by_cases h0 : 0 ≤ j
  · have hj : j.toNat = k := by
      rw [seqIndex_of h0 h5] at h1
      exact Option.some.inj h1
    exact wpAny_getItem_list pl.isList h0 (by omega) (by rw [hj]; simpa using ew) fin
  · have hj : (j + (its.toArray.size : Int)).toNat = k := by
      rw [seqIndex_neg (by omega) h4] at h1
      rw [List.size_toArray, ← hl]
      exact Option.some.inj h1
    exact wpAny_getItem_list_neg pl.isList (by omega) (by rw [List.size_toArray] <;> omega) (by omega) (by rw [hj]; simpa using ew) fin
theorem ps_augI {X : Cx} {o i e : Expr} {to ti te : TE} {pos tpos : Pos} (ho : PE X o to) (hi : PE X i ti) (he : PE X e te)
    (ha : ∀ ov iv new, augStore i ov iv new = (do holding [new, ov, iv] (setItem ov iv new); release [new, ov, iv] []; pure .next) := by intros; rfl) :
    PS X (.AugAssign (.Subscript o i tpos) .Add e pos) (tAugS to ti te (gtL X.K) (ipI fun i j => i + j) rSetL) :=
  ps_augS ho hi pget_list he ip_add set_list ha

/-! ### trees on the heap: v reads as t, its lists (one a part) at as -/
abbrev Fp := V × Tr × List Addr
inductive TF (H : Hp) : Tr → V → List Addr → Prop
  | mk {t : Tr} {v : V} {as : List Addr} (a l : Addr) (ps : List Fp) (ha : H a = some (.tup [.str ⟨#[t.c]⟩, .ref l])) (hl : H l = some (.lst (ps.map (·.1)))) (hp : ∀ p ∈ ps, TF H p.2.1 p.1 p.2.2)
      (ht : t.ts = ps.map (·.2.1)) (hv : v = .ref a) (has : as = l :: ps.flatMap (·.2.2)) : TF H t v as
theorem TF.out {H : Hp} {t : Tr} {v : V} {as : List Addr} (h : TF H t v as) : ∃ (a l : Addr) (ps : List Fp), H a = some (.tup [.str ⟨#[t.c]⟩, .ref l]) ∧ H l = some (.lst (ps.map (·.1))) ∧ (∀ p ∈ ps, TF H p.2.1 p.1 p.2.2) ∧
    t.ts = ps.map (·.2.1) ∧ v = .ref a ∧ as = l :: ps.flatMap (·.2.2) := by
  cases h with
  | mk a l ps ha hl hp ht hv has => exact ⟨a, l, ps, ha, hl, hp, ht, hv, has⟩
theorem TF.stay {H H' : Hp} {t : Tr} {v : V} {as : List Addr} (h : TF H t v as) (ht : ∀ b xs, H b = some (.tup xs) → H' b = some (.tup xs)) (hl : ∀ b ∈ as, ∀ xs, H b = some (.lst xs) → H' b = some (.lst xs)) : TF H' t v as := by
  induction h with
  | mk a l ps ha hl' hp ht' hv has ih =>
    refine .mk a l ps (ht _ _ ha) (hl l (by rw [has]; simp) _ hl') (fun p hm => ih p hm fun b hb xs e => hl b ?_ xs e) ht' hv has
    rw [has]
    exact List.mem_cons_of_mem _ (List.mem_flatMap.mpr ⟨p, hm, hb⟩)
theorem TF.same {H H' : Hp} {t : Tr} {v : V} {as : List Addr} (h : TF H t v as) (s : Same H H') : TF H' t v as := h.stay (fun _ _ e => s _ _ e) fun _ _ _ e => s _ _ e
theorem TF.keep {A : List Addr} {H H' : Hp} {t : Tr} {v : V} {as : List Addr} (h : TF H t v as) (k : Keep A H H') (d : ∀ b ∈ as, b ∉ A) : TF H' t v as := h.stay k.tup fun b hb _ e => k.but b _ (d b hb) e
theorem TF.live {H : Hp} {t : Tr} {v : V} {as : List Addr} (h : TF H t v as) : ∀ b ∈ as, ∃ xs, H b = some (.lst xs) := by
  induction h with
  | mk a l ps ha hl hp ht hv has ih =>
    intro b hb
    rw [has] at hb
    rcases List.mem_cons.mp hb with rfl | hb
    · exact ⟨_, hl⟩
    · obtain ⟨p, hm, hb⟩ := List.mem_flatMap.mp hb
      exact ih p hm b hb
/-- what stands is no new place -/
theorem TF.ne {H : Hp} {t : Tr} {v : V} {as : List Addr} (h : TF H t v as) {p : Addr} (n : H p = none) : p ∉ as := fun hb => by
  obtain ⟨xs, e⟩ := h.live p hb
  rw [n] at e
  cases e
mutual
def Tr.toD : Tr → PyData
  | .node c ts => .tuple [.str ⟨#[c]⟩, .list (Tr.toDs ts)]
def Tr.toDs : List Tr → List PyData
  | [] => []
  | t :: ts => t.toD :: Tr.toDs ts
end
theorem Tr.toDs_map : ∀ ts : List Tr, Tr.toDs ts = ts.map Tr.toD
  | [] => rfl
  | t :: ts => by simp only [Tr.toDs, List.map_cons, Tr.toDs_map ts]
mutual
theorem Tr.toD_plain : ∀ t : Tr, t.toD.plain = true
  | .node c ts => by simp [Tr.toD, PyData.plain, PyData.plainAll, Tr.toDs_plain ts]
theorem Tr.toDs_plain : ∀ ts : List Tr, PyData.plainAll (Tr.toDs ts) = true
  | [] => rfl
  | t :: ts => by simp [Tr.toDs, PyData.plainAll, Tr.toD_plain t, Tr.toDs_plain ts]
end
mutual
theorem Tr.toD_depth : ∀ t : Tr, t.toD.depth = 2 * t.dep
  | .node c ts => by
    simp only [Tr.toD, PyData.depth, PyData.depthAll, Tr.dep, Tr.toDs_depth ts]
    omega
theorem Tr.toDs_depth : ∀ ts : List Tr, PyData.depthAll (Tr.toDs ts) = 2 * Tr.deps ts
  | [] => rfl
  | t :: ts => by
    simp only [Tr.toDs, PyData.depthAll, Tr.deps, Tr.toD_depth t, Tr.toDs_depth ts]
    omega
end
theorem dpAll_of {K : PySem.W.Frag} {H : Hp} {α : Type} (f : α → V) (g : α → PyData) : ∀ {ps : List α}, (∀ p ∈ ps, Dp K H (f p) (g p)) → DpAll K H (ps.map f) (ps.map g)
  | [], _ => .nil
  | p :: ps, h => .cons (h p List.mem_cons_self) (dpAll_of f g fun q hq => h q (List.mem_cons_of_mem _ hq))
theorem TF.dp {K : PySem.W.Frag} {H : Hp} {t : Tr} {v : V} {as : List Addr} (h : TF H t v as) : Dp K H v t.toD := by
  induction h with
  | @mk t v as a l ps ha hl hp ht hv has ih =>
    subst hv
    cases t with
    | node c ts =>
      have e : ts = ps.map (·.2.1) := ht
      rw [Tr.toD, Tr.toDs_map, e, List.map_map]
      exact .tup (SqT.of ha) (.cons (.str _) (.cons (.lst (SqL.of hl) (dpAll_of _ _ ih)) .nil))
/-- the text of some codes -/
abbrev txS (l : List Nat) : Str := ⟨l.toArray⟩
abbrev tx (l : List Nat) : V := .str ⟨l.toArray⟩
theorem tx_inj {a b : List Nat} (h : tx a = tx b) : a = b := by
  have e := V.str.inj h
  simpa using congrArg (fun s : Str => s.cps.toList) e
/-- a tree with its writing, in a pair -/
def FF (H : Hp) (t : Tr) (v : V) (as : List Addr) : Prop := ∃ a u, v = .ref a ∧ H a = some (.tup [tx t.W, u]) ∧ TF H t u as
theorem FF.stay {H H' : Hp} {t : Tr} {v : V} {as : List Addr} (h : FF H t v as) (ht : ∀ b xs, H b = some (.tup xs) → H' b = some (.tup xs)) (hl : ∀ b ∈ as, ∀ xs, H b = some (.lst xs) → H' b = some (.lst xs)) : FF H' t v as :=
  let ⟨a, u, e, ha, hu⟩ := h
  ⟨a, u, e, ht _ _ ha, hu.stay ht hl⟩
theorem FF.same {H H' : Hp} {t : Tr} {v : V} {as : List Addr} (h : FF H t v as) (s : Same H H') : FF H' t v as := h.stay (fun _ _ e => s _ _ e) fun _ _ _ e => s _ _ e
theorem FF.keep {A : List Addr} {H H' : Hp} {t : Tr} {v : V} {as : List Addr} (h : FF H t v as) (k : Keep A H H') (d : ∀ b ∈ as, b ∉ A) : FF H' t v as := h.stay k.tup fun b hb _ e => k.but b _ (d b hb) e
theorem FF.live {H : Hp} {t : Tr} {v : V} {as : List Addr} (h : FF H t v as) : ∀ b ∈ as, ∃ xs, H b = some (.lst xs) := let ⟨_, _, _, _, hu⟩ := h; hu.live
theorem FF.dp {K : PySem.W.Frag} {H : Hp} {t : Tr} {v : V} {as : List Addr} (h : FF H t v as) : Dp K H v (.tuple [.str (txS t.W), t.toD]) := by
  obtain ⟨a, u, rfl, ha, hu⟩ := h
  exact .tup (SqT.of ha) (.cons (.str _) (.cons hu.dp .nil))
/-! ### the rules with the written part told (in a comprehension's block too) -/
section
variable {X : Cx} {e o : Expr} {es : List Expr} {te to : TE} {t : TA} {k : Nat}
theorem ix_listK (K : PySem.W.Frag) (h : X.K = K := by rfl) : IxR X (rIxL K) := h ▸ ix_list
theorem ix_tupK (K : PySem.W.Frag) (h : X.K = K := by rfl) : IxR X (rIxT K) := h ▸ ix_tup
theorem sl_listK (K : PySem.W.Frag) (h : X.K = K := by rfl) : SlR X (rSlL K) := h ▸ sl_list
theorem sl_tupAK (K : PySem.W.Frag) (h : X.K = K := by rfl) : SlR X (rSlA K) := h ▸ sl_tupA
theorem op_catAK (K : PySem.W.Frag) (h : X.K = K := by rfl) : OpR X (binaryOp .Add) (rCatA K) := h ▸ op_catA
theorem op_in_seqK (K : PySem.W.Frag) (h : X.K = K := by rfl) : OpR X (compareOp .In) (rIn K false) := h ▸ op_in_seq
theorem op_notIn_seqK (K : PySem.W.Frag) (h : X.K = K := by rfl) : OpR X (compareOp .NotIn) (rIn K true) := h ▸ op_notIn_seq
theorem op_eqPK (K : PySem.W.Frag) (hr : Room k X.A) (h : X.K = K := by rfl) : OpR X (compareOp .Eq) (rEqP K) := h ▸ op_eqP hr
theorem op_nePK (K : PySem.W.Frag) (hr : Room k X.A) (h : X.K = K := by rfl) : OpR X (compareOp .NotEq) (rNeP K) := h ▸ op_neP hr
theorem op_inLK (K : PySem.W.Frag) (hr : Room k X.A) (h : X.K = K := by rfl) : OpR X (compareOp .In) (rInD' K) := h ▸ op_inL hr
theorem call_lenK (K : PySem.W.Frag) (h : X.K = K := by rfl) : CallR X (.builtin "len") (fun xs H Q => ∃ x n, xs = [x] ∧ LenV K x H n ∧ Q (.int n) H) := h ▸ call_len
theorem call_isiK (K : PySem.W.Frag) (h : X.K = K := by rfl) : CallR X (.builtin "isinstance") (rIsi K) := h ▸ call_isi
theorem call_isiTK (K : PySem.W.Frag) (h : X.K = K := by rfl) : CallR X (.builtin "isinstance") (rIsiT K) := h ▸ call_isiT
theorem cr_sortedDK (K : PySem.W.Frag) (hr : Room k X.A) (h : X.K = K := by rfl) : CallR X (.builtin "sorted") (rSortedD K) := h ▸ cr_sortedD hr
theorem cr_maxK (K : PySem.W.Frag) (hc : X.calm = true) (h : X.K = K := by rfl) : CallR X (.builtin "max") (rMax K) := h ▸ cr_max hc
theorem cr_minK (K : PySem.W.Frag) (hc : X.calm = true) (h : X.K = K := by rfl) : CallR X (.builtin "min") (rMin K) := h ▸ cr_min hc
theorem cr_sumK (K : PySem.W.Frag) (hc : X.calm = true) (h : X.K = K := by rfl) : CallR X (.builtin "sum") (rSum K) := h ▸ cr_sum hc
theorem call_list_ofK (K : PySem.W.Frag) (h : X.K = K := by rfl) : CallR X (.type "list") (fun xs H Q => ∃ p ys, xs = [.ref p] ∧ (SqL K H p ys ∨ SqT K H p ys) ∧ ∀ l, H l = none → Q (.ref l) (upd H l (.lst ys))) := h ▸ call_list_of
theorem call_tuple_ofK (K : PySem.W.Frag) (h : X.K = K := by rfl) : CallR X (.type "tuple") (fun xs H Q => ∃ p ys, xs = [.ref p] ∧ ((SqL K H p ys ∧ ∀ l, H l = none → Q (.ref l) (upd H l (.tup ys))) ∨ (SqT K H p ys ∧ Q (.ref p) H))) := h ▸ call_tuple_of
theorem mt_countDK (K : PySem.W.Frag) (hr : Room k X.A) (h : X.K = K := by rfl) : MtR X "list.count" (rCntD K) := h ▸ mt_countD hr
theorem cbm0 {T : String} {r : V → List V → Hp → VK → Prop} (K : PySem.W.Frag) (hp : PE X e (tBM0 X.K T r to)) (h : X.K = K := by rfl) : PE X e (tBM0 K T r to) := h ▸ hp
theorem cbm {T : String} {r : V → List V → Hp → VK → Prop} (K : PySem.W.Frag) (hp : PE X e (tBM X.K T r to t)) (h : X.K = K := by rfl) : PE X e (tBM K T r to t) := h ▸ hp
theorem pe_revK {pos p2 p3 p4 : Pos} {j : Nat} (K : PySem.W.Frag) (he : PE X e te) (h : X.K = K := by rfl) : PE X (.Subscript e (.Slice none none (some (.UnaryOp .USub (.Constant (.int 1) j p4) p3)) p2) pos) (tRevL K te) := h ▸ pe_rev he
theorem pc_neNilK {p2 : Pos} (K : PySem.W.Frag) (hr : Room k X.A) (he : PE X e te) (h : X.K = K := by rfl) : PC X .NotEq e (.List [] p2) (tNil' (fun b => !b) K te) := h ▸ pc_neNil hr he
theorem pc_eqNilK {p2 : Pos} (K : PySem.W.Frag) (hr : Room k X.A) (he : PE X e te) (h : X.K = K := by rfl) : PC X .Eq e (.List [] p2) (tNil' (fun b => b) K te) := h ▸ pc_eqNil hr he
theorem pi_listK {tg l : Expr} {tl : TE} (K : PySem.W.Frag) (hl : PE X l tl) (h : X.K = K := by rfl) : PI X tg l (iList K tl) := h ▸ pi_list hl
theorem pi_tupK {tg l : Expr} {tl : TE} (K : PySem.W.Frag) (hl : PE X l tl) (h : X.K = K := by rfl) : PI X tg l (iTup K tl) := h ▸ pi_tup hl
theorem pe_fldK {f : Str} {pos : Pos} (K : PySem.W.Frag) (he : PE X e te) (hb : attributeBase e f X.env (eval e X.env) = eval e X.env) (h : X.K = K := by rfl) : PE X (.Attribute e f pos) (tFld K te f) := h ▸ pe_fld he hb
end
/-! ### small things -/
theorem letter_in {c : Nat} : decide (c ∈ (PySem.Str.ofString "abcdefghijklmnopqrstuvwxyz").cps.toList) = isL c := by
  have e : (PySem.Str.ofString "abcdefghijklmnopqrstuvwxyz").cps.toList = [97, 98, 99, 100, 101, 102, 103, 104, 105, 106, 107, 108, 109, 110, 111, 112, 113, 114, 115, 116, 117, 118, 119, 120, 121, 122] := by decide +kernel
  rw [e]
  unfold isL
  rw [Bool.eq_iff_iff]
  simp only [List.mem_cons, List.not_mem_nil, or_false, decide_eq_true_eq, Bool.and_eq_true]
  omega
theorem snoc_cases {α : Type} (l : List α) : l = [] ∨ ∃ q x, l = q ++ [x] := by
  rcases List.eq_nil_or_concat l with h | ⟨q, x, h⟩
  · exact .inl h
  · exact .inr ⟨q, x, by rw [h, List.concat_eq_append]⟩
theorem snoc_get {α : Type} {xs : List α} {y : α} : (xs ++ [y])[(xs ++ [y]).length - 1]? = some y := by simp
theorem ifNe {α : Type} {xs : List α} {A B : Prop} (h : xs ≠ []) (a : A) : if (!xs.isEmpty) = true then A else B := by
  rw [if_pos (by cases xs with | nil => exact absurd rfl h | cons => rfl)]
  exact a
theorem ifNe1 {α : Type} {xs : List α} {y : α} {A B : Prop} (a : A) : if (!(xs ++ [y]).isEmpty) = true then A else B := ifNe (by simp) a
theorem newF {H H' : Hp} {p : Addr} {o : HO} (n : H p = none) (e : upd H p o = H') : Same H H' ∧ H' p = some o := by
  subst e
  exact ⟨same_new n, upd_same⟩
theorem ownF {H0 H H' : Hp} {p : Addr} {o : HO} (S : Same H0 H) (n : H0 p = none) (e : upd H p o = H') : Same H0 H' ∧ H' p = some o := by
  subst e
  exact ⟨Same.upd_own S n, upd_same⟩
theorem atI_end {α : Type} {xs : List α} {y : α} : atI (xs ++ [y]) (-1) = some y := by
  have e : ixN (xs ++ [y]).length (-1) = some xs.length := by
    unfold ixN
    rw [if_neg (by omega), if_pos (by rw [List.length_append, List.length_singleton]; omega), List.length_append, List.length_singleton]
    congr 1
    omega
  unfold atI
  rw [e]
  simp
theorem txS_app (a b : List Nat) : txS a ++ txS b = txS (a ++ b) := by
  show Str.append (txS a) (txS b) = _
  unfold Str.append
  simp
theorem joinL_nil : ∀ ws : List (List Nat), TL.joinL [] ws = ws.flatten
  | [] => rfl
  | [p] => by simp [TL.joinL]
  | p :: q :: r => by
    rw [TL.joinL, joinL_nil (q :: r)]
    simp
theorem join_nil (ws : List (List Nat)) : Txt.join (txS []) (ws.map txS) = txS ws.flatten := by
  rw [TL.join_eq]
  have h := TL.tl_join (txS []) (ws.map txS)
  rw [List.map_map] at h
  have e : ws.map (TL.tl ∘ txS) = ws := by
    have : (TL.tl ∘ txS) = id := funext fun l => by simp [TL.tl]
    rw [this, List.map_id]
  have e0 : TL.tl (txS []) = [] := rfl
  rw [e, e0, joinL_nil] at h
  have h2 : (Str.join (txS []) (ws.map txS)).cps = ws.flatten.toArray := by
    rw [← h]
  calc Str.join (txS []) (ws.map txS) = ⟨(Str.join (txS []) (ws.map txS)).cps⟩ := rfl
    _ = _ := by rw [h2]
theorem txS_len (l : List Nat) : (txS l).length = l.length := by
  show (txS l).cps.size = _
  simp
theorem str_one (c : Nat) : (⟨#[c]⟩ : Str) = txS [c] := rfl
theorem cut_take {xs : List V} {n : Nat} {i : Int} (h : i = (n : Int)) (hn : n ≤ xs.length) : cutV xs none (some i) = xs.take n := by
  subst h
  unfold cutV
  rw [HT.sIx_none, HT.sIx_nat, Nat.min_eq_left hn]
  simp
theorem cut_drop {xs : List V} {n : Nat} {i : Int} (h : i = (n : Int)) (hn : n ≤ xs.length) : cutV xs (some i) none = xs.drop n := by
  subst h
  unfold cutV
  rw [HT.sIx_none, HT.sIx_nat, Nat.min_eq_left hn]
  refine List.take_of_length_le ?_
  rw [List.length_drop]
  exact Nat.le_refl _
theorem iteB {c : Bool} {A B : Prop} (h : c = true) (a : A) : if c = true then A else B := by rw [if_pos h]; exact a
theorem iteC {c : Bool} {A B : Prop} (h : c = false) (b : B) : if c = true then A else B := by rw [if_neg (by rw [h]; decide)]; exact b
end Hy
set_option Elab.async false
set_option linter.all false
set_option maxRecDepth 100000
set_option maxHeartbeats 4000000
namespace Hy
open PySem PySem.Spec PyProof.Rows L2
/-! a caught error that is kept behind its except clause -/
/-- the error's object, told by its class -/
def isEx (a : Addr) (cls : Value) (h : Heap) : Prop := ∃ (o : Obj) (vs : Array Value), h.get? a = some o ∧ o.cls = cls ∧ o.dict = none ∧ o.data = .fields vs
def exO (a : Addr) (cls : Value) : HO := .ext (isEx a cls)
section
variable {X : Cx} {pins : List (Addr × Obj)} {σ : L2.St} {H : Hp} {s : Shared}
theorem adopt {a : Addr} {oe : Obj} {vs : Array Value} {cls : Value} (J : Inv X pins σ H s) (n : H a = none) (e : s.heap.get? a = some oe) (h1 : oe.cls = cls) (h2 : oe.dict = none) (h3 : oe.data = .fields vs)
    (hL : a ≠ X.env.locals) (h0 : X.s_0.heap.get? a = none) (hp : ∀ p ∈ X.pn ++ pins, p.1 ≠ a) : Inv X pins σ (upd H a (exO a cls)) s := by
  have ne : ∀ {b : Addr} {o : HO}, H b = some o → b ≠ a := fun q => ne_of_none q n
  have up : ∀ {b : Addr} {o : HO}, H b = some o → upd H a (exO a cls) b = some o := fun q => (upd_ne (ne q)).trans q
  have off : ∀ {b : Addr}, b ≠ a → H b = none → upd H a (exO a cls) b = none := fun q r => (upd_ne q).trans r
  refine { J with base := ?base, free := off (Ne.symm hL) J.free, freeC := fun x c k => off ?cell (J.freeC x c k), pin := fun p k => ?pin, hok := fun b o k => ?hok }
  case base =>
    refine { J.base with free := fun b o q m r => off (fun z => ?_) (J.base.free b o q m r), tups := fun b xs q => up (J.base.tups b xs q), frzs := fun b o u q => up (J.base.frzs b o u q), tbls := fun b ps q => ?_ }
    · rw [z, h0] at q
      cases q
    · obtain ⟨more, r⟩ := J.base.tbls b ps q
      exact ⟨more, up r⟩
  case cell =>
    rintro rfl
    obtain ⟨v, ov, w1, w2⟩ := J.cell x c k
    rw [e] at w1
    cases w1
    first
      | (rw [h3] at w2; cases w2)
      | (rw [w2] at h3; cases h3)
  case pin =>
    obtain ⟨q1, q2, q3⟩ := J.pin p k
    exact ⟨q1, off (hp p k) q2, q3⟩
  case hok =>
    by_cases z : b = a
    · subst z
      rw [upd_same] at k
      cases k
      exact ⟨⟨oe, vs, e, h1, h2, h3⟩, ⟨oe, e⟩, fun g1 g2 ⟨o, ws, w1, w2, w3, w4⟩ w => ⟨o, ws, w o w1, w2, w3, w4⟩⟩
    · rw [upd_ne z] at k
      exact (J.hok b o k).stay (fun _ _ _ q => q) (fun c q => up q) fun c xs q => up q
end
/-- the wish of the body's errors: class c catches them all; behind the suite the error stands in the abstract heap -/
def wAd (K : PySem.W.Frag) (c : Value) (i : Nat) (ts : Addr → Value → TS) (D : Ends) : WX := fun cls d σ H =>
  PySem.W.exmOne K cls c = some true ∧ d = none ∧ ∀ a, H a = none →
    ts a cls ⟨fun σ' H' => D.nx (σ'.set i none) (upd H' a (exO a cls)), fun _ _ => False, fun _ _ => False, fun _ _ => False⟩ (σ.set i (some (.ref a))) H
section
variable {X : Cx} {x n : Str} {c : Value} {i : Nat} {body suite : List Stmt} {b₀ : Stmt} {np pos pos2 : Pos} {tb : WX → TS} {ts : Addr → Value → TS}
theorem ps_try_ad (hs : X.stack = X.env :: X.outer)
    (hf : X.env.frame = some X.env.locals) (hN : X.N.Nodup)
    (hi : X.N[i]? = some n) (hln : X.env.kindOf n = some .local)
    (hc : Names X x c) (hex : X.ex = [])
    (hb : ∀ (W : WX) (pn : List (Addr × Obj))
      (xe : Value → Shared → Prop), Takes (X.tr pn xe) W →
      PassesOwn (model X.prog X.w) X.A X.env xe →
      PSs (X.tr pn xe) body (tb W))
    (hsu : ∀ (a : Addr) (oe : Obj) (cls : Value)
      (pn : List (Addr × Obj)), PSs (X.suite a ((a, oe) :: pn)) (b₀ :: suite) (ts a cls)) :
    PS X (.Try body [.ExceptHandler (some (.Name x np)) (some n) (b₀ :: suite) pos2] [] [] pos)
      (fun D σ H => tb (wAd X.K c i ts D) D σ H) := by
  refine ⟨fun pp s0 σ0 H0 D I0 want => ?_⟩
  have fine := I0.ok
  have fr1 : X.A.frames = some (X.env :: X.outer) := hs ▸ fine.frames
  refine wpAny_Try_except ?_
  have B1 := hb (wAd X.K c i ts D) (X.pn ++ pp)
    (fun e s1 => wpAny (model X.prog X.w) X.A (noteFrame e X.env)
      (fun _ s2 => wpAny (model X.prog X.w) X.A (setFlight e none)
        (fun _ s3 => wpAny (model X.prog X.w) X.A
          (handleBy e X.env
            [.ExceptHandler (some (.Name x np)) (some n) (b₀ :: suite) pos2])
          (SP X pp D) X.xe s3) X.xe s2) X.xe s1) ?land PassesOwn.looking
  case land =>
    rintro u t ⟨a, B, sI, p', σ1, H1, cls, d, rfl, J1, nb, ups, sky, na, eos, bare, ex1, rfl, wish⟩
    have J : Inv X pp σ1 H1 sI := J1.ofTry fine
    have sky : Sky B (X.env :: X.outer) a (Zc cls none) X.env.locals t.heap := hs ▸ sky
    show wpAny (model X.prog X.w) X.A (noteFrame (.ref a) X.env) _ _ _
    refine Sky.land Zc.steady fr1 hf sky fun g1 F1 u1 => ?_
    have L1 := J.landed nb F1.1 (ups.trans u1) eos bare (s' := { t with heap := g1 })
    obtain ⟨o1, v1, at1, z1, f1⟩ := F1.there
    have off : a ∉ frs (X.env :: X.outer) := fun hm => by
      obtain ⟨_, o2, at2, no⟩ := F1.2.2.1.mem hm
      cases at1.symm.trans at2
      exact no _ f1
    have offL : a ≠ X.env.locals := fun z =>
      off (List.mem_filterMap.mpr ⟨_, List.mem_cons_self, z ▸ hf⟩)
    have offF : a ∉ X.fs := fun hm => by
      obtain ⟨e, he, q⟩ := List.mem_filterMap.mp hm
      exact off (List.mem_filterMap.mpr ⟨e, .tail _ he, q⟩)
    have notI : ∀ o, sI.heap.get? a ≠ some o := fun o q => by
      have z := nb a o q (hs ▸ off)
      rw [F1.2.1] at z
      cases z
    have not0 : X.s_0.heap.get? a = none := by
      cases q : X.s_0.heap.get? a with
      | none => rfl
      | some o =>
        obtain ⟨o2, q2⟩ := J.base.there a o q (by rw [hex]; exact List.not_mem_nil)
        exact absurd q2 (notI o2)
    have apart : ∀ p ∈ X.pn ++ pp, p.1 ≠ a := fun p k z =>
      notI p.2 (z ▸ (J.pin p k).1)
    refine wpAny_handleBy_cons (codeAny_handlers_test ?_) (fun q => nomatch q)
    have S1 := L1.suite at1 f1 na offL offF
    have ty1 : PySem.W.Looks (model X.prog X.w) g1 (typeOf (.ref a)) cls :=
      fun _ _ _ _ k q => wpAny_typeOf_ref (k _ _ at1) (z1.1 ▸ q)
    have hits := PySem.W.exm_one (M := model X.prog X.w) L1.kIn ty1 ex1
    have named : ∀ {Q E : Value → Shared → Prop}, Q c { t with heap := g1 } →
        wpAny (model X.prog X.w) (X.A.mark (some (.ref a)))
          (eval (.Name x np) X.env) Q E { t with heap := g1 } := fun {Q E} q => by
      obtain ⟨k1, k2, k3 | ⟨k3, k4, k5⟩⟩ := hc
      · exact ld_glob (X := X.suite a ((a, o1) :: (X.pn ++ pp))) S1 k1 k3 q k2
      · exact ld_blt (X := X.suite a ((a, o1) :: (X.pn ++ pp))) S1 k1 k3 k4 q k5 k2
    refine named (hits.here (codeAny_handlers_suite_as ?_))
    refine HandSPX.lands_againZ F1 fun g2 F2 u2 => ?_
    have L2 := J.landed nb F2.1 ((ups.trans u1).trans u2) eos bare (s' := { t with heap := g2 })
    obtain ⟨o2, v2, at2, z2, f2⟩ := F2.there
    have S2 := L2.suite at2 f2 na offL offF
    refine store_ok (X := X.suite a ((a, o2) :: (X.pn ++ pp))) (v := .ref a) S2 hN hi (.inl hln) rfl
      (fun s5 S5 => ?_) (.inr hln)
    refine wpAny_mono ((hsu a o2 cls (X.pn ++ pp)).run [] s5 _ H1 _ S5 (wish a na))
      (fun fl s6 got => ?_) (fun _ _ z => z.elim)
    cases fl with
    | next =>
      obtain ⟨σ6, H6, S6, q6⟩ := got
      have P6 := S6.pin (a, o2) (List.mem_append_left _ List.mem_cons_self)
      have J6 := adopt (S6.unsuite fine) P6.2.1 P6.1 z2.1 z2.2 f2 offL not0 apart
      exact gone_ok J6 hN hi hln fun s7 J7 => ⟨_, _, J7, q6⟩
    | brk =>
      obtain ⟨_, _, _, z⟩ := got
      exact z.elim
    | cont =>
      obtain ⟨_, _, _, z⟩ := got
      exact z.elim
    | ret u =>
      obtain ⟨_, _, _, _, _, z⟩ := got
      exact z.elim
  refine wpAny_mono (B1.run [] s0 σ0 H0 D (I0.toTry _) want) (fun fl s1 got => ?_) (fun _ _ q => q)
  cases fl with
  | next =>
    obtain ⟨σ2, H2, J2, q2⟩ := got
    exact wpAny_execs_nil ⟨σ2, H2, J2.ofTry fine, q2⟩
  | brk =>
    obtain ⟨σ2, H2, J2, q2⟩ := got
    exact ⟨σ2, H2, J2.ofTry fine, q2⟩
  | cont =>
    obtain ⟨σ2, H2, J2, q2⟩ := got
    exact ⟨σ2, H2, J2.ofTry fine, q2⟩
  | ret u =>
    obtain ⟨v2, σ2, H2, J2, r2, q2⟩ := got
    exact ⟨v2, σ2, H2, J2.ofTry fine, r2, q2⟩
end
/-- isinstance(e, C), isinstance(e, (C1, ..)): e such an error -/
def rIsX (K : PySem.W.Frag) : List V → Hp → VK → Prop := fun xs H Q => ∃ (a D : Addr) (c : V) (u : Value) (b : Bool),
  xs = [.ref a, c] ∧ ClsV c u ∧ H a = some (exO a (.ref D)) ∧ ExcC K D ∧ PySem.W.kitOne K (.ref D) u = some b ∧ Q (.bl b) H
def rIsXT (K : PySem.W.Frag) : List V → Hp → VK → Prop := fun xs H Q => ∃ (a D tp : Addr) (cs : List V) (us : List Value) (b : Bool),
  xs = [.ref a, .ref tp] ∧ H tp = some (.tup cs) ∧ Paired ClsV cs us ∧ H a = some (exO a (.ref D)) ∧ ExcC K D ∧ PySem.W.kitAny K (.ref D) us = some b ∧ Q (.bl b) H
section
variable {X : Cx} {pins : List (Addr × Obj)} {σ : L2.St} {H : Hp} {s : Shared}
theorem ex_at {a D : Addr} (I : Inv X pins σ H s) (h : H a = some (exO a (.ref D))) : ∃ ox, PySem.W.InstAt s.heap a ox D none := by
  obtain ⟨⟨⟨oc, od, oda, osl⟩, vs, e, h1, h2, h3⟩, _⟩ := (show ObjOk X.prog X.w H s.heap a (exO a (.ref D)) from I.hok a _ h)
  dsimp only at h1 h2 h3
  subst h1 h2 h3
  exact ⟨_, e, rfl, rfl, trivial⟩
theorem ex_kit {a D : Addr} {ox : Obj} (C : ExcC X.K D) : PySem.W.KitX X.K (.ref a) (.ref D) (fun h => PySem.W.InstAt h a ox D none) :=
  PySem.W.handS_kitx_exc C.hg C.hk C.hs C.hd C.ha C.hn C.ht C.hm
theorem call_isX : CallR X (.builtin "isinstance") (rIsX X.K) := by
  intro pins s σ H xs us Q I r h
  obtain ⟨a, D, c, u, b, rfl, k, ha, C, e, q⟩ := h
  obtain ⟨u1, u2, rfl, r1, r2⟩ := vals2 r
  cases (show u1 = Value.ref a from r1)
  cases k.eq r2
  obtain ⟨ox, J⟩ := ex_at I ha
  exact PySem.W.kia_one (ex_kit C) I.kIn J e (fun z => nomatch z) fun tk => ⟨.bl b, H, I.tok tk, rfl, q⟩
theorem call_isXT : CallR X (.builtin "isinstance") (rIsXT X.K) := by
  intro pins s σ H xs us Q I r h
  obtain ⟨a, D, tp, cs, ws, b, rfl, hT, k, ha, C, e, q⟩ := h
  obtain ⟨u1, u2, rfl, r1, r2⟩ := vals2 r
  cases (show u1 = Value.ref a from r1)
  cases (show u2 = Value.ref tp from r2)
  obtain ⟨ox, J⟩ := ex_at I ha
  obtain ⟨_, its, rv, ⟨oc, od, dt, sl⟩, k1, k2, m, k3⟩ := (show ObjOk X.prog X.w H s.heap tp (.tup cs) from I.hok tp _ hT)
  cases ClsV.all k rv
  simp only at k2 k3
  subst k2 k3
  exact PySem.W.kia_tup (ex_kit C) I.kIn J k1 e (fun z => nomatch z) fun tk => ⟨.bl b, H, I.tok tk, rfl, q⟩
theorem call_isXK (K : PySem.W.Frag) (h : X.K = K := by rfl) : CallR X (.builtin "isinstance") (rIsX K) := h ▸ call_isX
theorem call_isXTK (K : PySem.W.Frag) (h : X.K = K := by rfl) : CallR X (.builtin "isinstance") (rIsXT K) := h ▸ call_isXT
end
section
variable {X : Cx} {x : Str} {k : Nat} {ps : List Str} {sp : Sp} {W : WX} {p pos : Pos} {e : Expr} {es : List Expr} {t : TA}
theorem pe_clS (G : Gd X.prog X.w X.K X.mg X.base x k ps sp) (hr : Room k X.A) (tk : Takes X W)
    (ha : PA X (e :: es) t) (hg : Gl X x := by rfl) (hdb : (x == ("__debug__" : Str)) = false := by decide)
    (he : starEach (e :: es) X.env = (false, eval e X.env) :: starEach es X.env := by rfl)
    (hpl : (backTo pos (starEach es X.env)).any (·.1) = false := by rfl) : PE X (.Call (.Name x p) (e :: es) [] pos) (tCallS sp (WE W) t) := by
  obtain ⟨f, fd, F, m, kp, b⟩ := G.ex
  exact pe_callS F hr hg m kp b (fun σ => passAt tk σ) ha hdb he hpl
end
end Hy
set_option Elab.async false
set_option linter.all false
set_option maxRecDepth 100000
set_option maxHeartbeats 4000000
namespace Hy
open PySem PySem.Spec PyProof.Rows L2
/-! texts: s * n, s[::-1] -/
theorem reps_list (l : List Nat) : ∀ (n : Nat) (b : Array Nat), (List.replicate n l.toArray).foldl (· ++ ·) b = b ++ ((List.replicate n l).flatten).toArray
  | 0, b => by simp
  | n + 1, b => by
    rw [List.replicate_succ, List.foldl_cons, reps_list l n, List.replicate_succ, List.flatten_cons]
    simp
def rRepS : R2 := fun x y H Q => ∃ (l : List Nat) (n : Nat), x = tx l ∧ y = .int (n : Int) ∧ l ≠ [] ∧ 2 ≤ n ∧ n ≤ 1000000 ∧ l.length * n ≤ sizeLine ∧ Q (tx (List.replicate n l).flatten) H
theorem op_mul_str {X : Cx} : OpR X (binaryOp .Mult) rRepS := by
  intro pins s σ H x y v u Q I rx ry h
  obtain ⟨l, n, rfl, rfl, h0, h2, h3, hz, q⟩ := h
  obtain ⟨t, rfl⟩ := rx
  obtain ⟨t', rfl⟩ := ry
  have hl : 1 ≤ l.length := by
    cases l with
    | nil => exact absurd rfl h0
    | cons a b => simp
  have hs : sizeLine ≤ 2 ^ 62 := by decide
  have n1 : ¬ ((n : Int) < 1) := by omega
  have el : (⟨l.toArray⟩ : Str).length = l.length := txS_len l
  have tl : Builtin.Str.tooLong ((⟨l.toArray⟩ : Str).length * (n : Int).toNat) = false := by
    rw [el, Int.toNat_natCast]
    unfold Builtin.Str.tooLong
    exact decide_eq_false (by omega)
  refine P.mul_str ?_ (fun _ _ => ?_) (fun _ _ => tl) ?_
  · rw [decide_eq_false (by omega), decide_eq_false (by omega)]
    rfl
  · have z : ((l.length : Int)) ≤ (2 ^ 63 - 1) / (n : Int) := by
      rw [Int.le_ediv_iff_mul_le (by omega)]
      have e : ((l.length : Int)) * (n : Int) = ((l.length * n : Nat) : Int) := by simp
      rw [e]
      omega
    rw [el]
    omega
  · have e1 : ((n : Int) == 1) = false := by
      rw [beq_eq_false_iff_ne]
      omega
    have e2 : ((⟨l.toArray⟩ : Str).length == 0) = false := by
      rw [beq_eq_false_iff_ne, el]
      omega
    rw [if_neg n1, if_neg (by rw [e1, e2]; decide), Int.toNat_natCast]
    have e3 : (⟨(List.replicate n (⟨l.toArray⟩ : Str).cps).foldl (· ++ ·) #[]⟩ : Str) = txS (List.replicate n l).flatten := by
      have z := reps_list l n #[]
      rw [Array.empty_append] at z
      exact congrArg Str.mk z
    rw [e3]
    refine ⟨?_, tx (List.replicate n l).flatten, H, I.tok _, ⟨_, rfl⟩, q⟩
    rw [txS_len, List.length_flatten, List.map_replicate, List.sum_replicate_nat, Nat.mul_comm]
    exact hz
def tRevS (te : TE) : TE := fun σ H Q => te σ H fun x H1 => ∃ z, x = .str z ∧ z.length ≤ sizeLine ∧ ∀ y : Str, y.length = z.length → Q (.str y) H1
theorem pe_revS {X : Cx} {e : Expr} {te : TE} {pos p2 p3 p4 : Pos} {j : Nat} (he : PE X e te) :
    PE X (.Subscript e (.Slice none none (some (.UnaryOp .USub (.Constant (.int 1) j p4) p3)) p2) pos) (tRevS te) := by
  refine ⟨fun pins s σ H Q I h => ?_⟩
  refine PyProof.Rows.Subscript_ (thn (he.run pins s σ H _ I h) fun v s1 ⟨x, H1, I1, r1, z, ex, hz, q1⟩ => ?_)
  subst ex
  obtain ⟨t, rfl⟩ := r1
  refine wpAny_Slice ?_
  rw [evalPart_none]
  refine wpAny_pure ?_
  refine wpAny_pure ?_
  have hu : PE X (.UnaryOp .USub (.Constant (.int 1) j p4) p3) (tUn (fun x H Q => ∃ i, x = .int i ∧ Q (.int (-i)) H) (tC (.int 1))) := by exact pe_un un_neg pe_int
  have hp := (po_some hu).run pins s1 σ H1 (fun o H2 => o = some (-1) ∧ H2 = H1) I1
  refine thn (hp ?_) fun vk s2 ⟨o, H2, I2, pk, eo, eH⟩ => ?_
  · exact ⟨_, rfl, _, rfl, rfl, rfl⟩
  subst eo eH
  obtain ⟨st, rfl, est⟩ := IsPart.raw pk
  obtain ⟨⟨m, tk⟩, rfl, em⟩ := Option.map_eq_some_iff.mp est
  dsimp only at em
  subst em
  have I4 : Inv X pins σ H2 { s2 with heap := s2.heap.push { cls := .type "slice", data := .fields #[.none, .none, partValue (some (-1, tk))] } } :=
    I2.kept (t' := s2.toks) fun b ob q => Heap.get?_push_of_some _ q
  refine PyProof.Rows.tail_any (ops := [.str z t, .ref s2.heap.objs.size]) (typeIs_str _ _ _) F.slot_str_getitem.lookup ?_ (by with_unfolding_all rfl)
  refine wpAny_getItem_str_slice (l := none) (u := none) (st := some (-1, tk)) ⟨_, Heap.get?_push_size _ rfl, rfl, rfl⟩ rfl ?_
  have len := step_rev_len z tk
  unfold Txt.sliceBy at len
  unfold sliceMade
  rw [if_neg (by simp)] at len ⊢
  exact ⟨Nat.le_trans (Nat.le_of_eq len) hz, .str _, H2, I4.tok _, ⟨_, rfl⟩, q1 _ len⟩
end Hy
set_option Elab.async false
set_option linter.all false
set_option maxRecDepth 100000
set_option maxHeartbeats 4000000
namespace Hy
open PySem L2
def top (i : Nat) : Stmt := PySem.Challenge.pw_heaptrees_k76_texts_of_no_tree.main.body.getD i (.Pass ⟨0, 0, 0, 0⟩)
structure Txt (K : PySem.W.Frag) (mg : Str → Option Value) : Prop where
  n_enumerate : mg "enumerate" = none
  n_range : mg "range" = none
  n_sorted : mg "sorted" = none
  n_isinstance : mg "isinstance" = none
  n_str : mg "str" = none
  n_dict : mg "dict" = none
  n_len : mg "len" = none
  n_list : mg "list" = none
  n_tuple : mg "tuple" = none
  n_int : mg "int" = none
  n_min : mg "min" = none
  n_bool : mg "bool" = none
  n_max : mg "max" = none
  g_LETTERS : GV mg "LETTERS" (.str "abcdefghijklmnopqrstuvwxyz")
  x_HeapError : ExcF K mg "HeapError"
  x_NoTree : ExcF K mg "NoTree"
  x_NoLetter : ExcF K mg "NoLetter"
  x_NoFit : ExcF K mg "NoFit"
  x_TooMany : ExcF K mg "TooMany"
  x_NoNumber : ExcF K mg "NoNumber"
  x_NoText : ExcF K mg "NoText"
  x_NoName : ExcF K mg "NoName"
  x_NoRow : ExcF K mg "NoRow"

local macro_rules | `(tactic| walk_at "hp") => `(tactic| first
  | assumption | exact upd_same
  | (refine (upd_ne ?_).trans ?_ <;> first | assumption | (exact Ne.symm (by assumption)) | walk_at "ne" | walk_at "hp")
  | (refine (by assumption : Same _ _) _ _ ?_; assumption))
local macro_rules | `(tactic| walk_at "ne") => `(tactic| first
  | assumption | (exact Ne.symm (by assumption))
  | exact ne_of_none (by assumption) (by assumption) | exact Ne.symm (ne_of_none (by assumption) (by assumption)))
local macro_rules | `(tactic| walk_at "sz") => `(tactic| first | assumption | (show 0 ≤ sizeLine; decide) | (show 1 ≤ sizeLine; decide) | (show 2 ≤ sizeLine; decide) | (show 3 ≤ sizeLine; decide))
local macro_rules | `(tactic| walk_at "ar") => `(tactic| first
  | ((with_reducible show (0 : Int) < _); first | decide | omega)
  | ((with_reducible show CMul _ _); first | exact Or.inr (And.intro (by decide) (by decide)) | exact Or.inl (And.intro (by decide) (by decide)) | (refine Or.inl (And.intro ?_ ?_) <;> omega) | (refine Or.inr (And.intro ?_ ?_) <;> omega))
  | ((with_reducible show CPow _ _); exact And.intro (by decide) (And.intro (by decide) (by decide)))
  | ((with_reducible show CDiv _ _); first | exact And.intro (by decide) (by decide) | (refine And.intro ?_ ?_ <;> omega)))
/- one step of a reading -/
local macro_rules | `(tactic| walk_at "r1") => `(tactic| first
  | refine ⟨_, rfl, ?_⟩
  | refine iteB (by rfl) ?_ | refine iteC (by rfl) ?_
  | refine ⟨_, _, rfl, rfl, ?_⟩
  | refine ⟨rfl, ?_⟩
  | refine ⟨⟨_, rfl⟩, ?_⟩
  | refine ⟨_, _, _, _, true, rfl, .ty _, .base (.str _), kit_ty (by decide +kernel), ?_⟩
  | refine ⟨_, _, _, _, false, rfl, .ty _, .base (.str _), kit_ty (by decide +kernel), ?_⟩
  | refine ⟨_, _, _, _, true, rfl, .ty _, .base (.tup (by walk_at "hp")), kit_ty (by decide +kernel), ?_⟩
  | refine ⟨_, _, _, _, false, rfl, .ty _, .base (.tup (by walk_at "hp")), kit_ty (by decide +kernel), ?_⟩
  | refine ⟨_, _, _, _, true, rfl, .ty _, .base (.lst (by walk_at "hp")), kit_ty (by decide +kernel), ?_⟩
  | refine ⟨_, _, _, _, false, rfl, .ty _, .base (.lst (by walk_at "hp")), kit_ty (by decide +kernel), ?_⟩
  | refine ⟨_, _, rfl, ⟨by walk_at "sz", rfl⟩, ?_⟩
  | refine ⟨_, _, _, _, rfl, rfl, SqT.of (by walk_at "hp"), by rfl, ?_⟩
  | refine ⟨_, _, _, _, rfl, rfl, SqL.of (by walk_at "hp"), by rfl, ?_⟩
  | refine ⟨.inl ⟨rfl, _, SqL.of (by walk_at "hp")⟩, ?_⟩
  | refine ⟨_, _, _, rfl, rfl, (by walk_at "hp"), snoc_get, ?_⟩
  | refine ⟨_, _, _, _, rfl, rfl, (by walk_at "hp"), by rfl, ?_⟩
  | refine ⟨_, _, rfl, SqL.of (by walk_at "hp"), ?_⟩
  | refine ⟨_, _, rfl, SqT.of (by walk_at "hp"), by rfl, ?_⟩
  | refine ⟨_, (_ : List V), rfl, ?_⟩
  | refine ⟨_, _, rfl, .inl ⟨_, (by assumption), rfl⟩, ?_⟩
  | refine ⟨_, _, rfl, .inl ⟨_, SqL.of (by walk_at "hp"), rfl⟩, ?_⟩
  | refine ⟨_, _, rfl, .inr ⟨_, SqT.of (by walk_at "hp"), rfl⟩, ?_⟩
  | refine Or.inl ⟨(_ : Int), rfl, ?_⟩ | refine Or.inr ⟨(_ : Bool), rfl, ?_⟩
  | refine And.intro (by walk_at "ar") ?_)
local macro_rules | `(tactic| walk_at "rd") => `(tactic| repeat walk_at "r1")

section
variable {P : Program} {w : World} {K : PySem.W.Frag} {mg : Str → Option Value} {base : Heap}
abbrev G' (P : Program) (w : World) (K : PySem.W.Frag) (mg : Str → Option Value) (base : Heap) := Gd P w K mg base

/-! ### is_letter -/

/-! ### is_part, is_tree, need_tree: of trees -/
/-! ### parts_in_order: the parts themselves -/
/-- the values vs are the trees ts, at some lists -/
def TVs (H : Hp) (ts : List Tr) (vs : List V) : Prop := ∃ ps : List Fp, ts = ps.map (·.2.1) ∧ vs = ps.map (·.1) ∧ ∀ p ∈ ps, TF H p.2.1 p.1 p.2.2
end
end Hy
set_option Elab.async false
set_option linter.all false
set_option maxRecDepth 100000
set_option maxHeartbeats 4000000
namespace Hy
open PySem L2
local macro_rules | `(tactic| walk_at "hp") => `(tactic| first
  | assumption | exact upd_same
  | (refine (upd_ne ?_).trans ?_ <;> first | assumption | (exact Ne.symm (by assumption)) | walk_at "ne" | walk_at "hp")
  | (refine (by assumption : Same _ _) _ _ ?_; assumption))
local macro_rules | `(tactic| walk_at "ne") => `(tactic| first
  | assumption | (exact Ne.symm (by assumption))
  | exact ne_of_none (by assumption) (by assumption) | exact Ne.symm (ne_of_none (by assumption) (by assumption)))
local macro_rules | `(tactic| walk_at "sz") => `(tactic| first | assumption | (show 0 ≤ sizeLine; decide) | (show 1 ≤ sizeLine; decide) | (show 2 ≤ sizeLine; decide) | (show 3 ≤ sizeLine; decide))
local macro_rules | `(tactic| walk_at "ar") => `(tactic| first
  | ((with_reducible show (0 : Int) < _); first | decide | omega)
  | ((with_reducible show CMul _ _); first | exact Or.inr (And.intro (by decide) (by decide)) | exact Or.inl (And.intro (by decide) (by decide)) | (refine Or.inl (And.intro ?_ ?_) <;> omega) | (refine Or.inr (And.intro ?_ ?_) <;> omega))
  | ((with_reducible show CPow _ _); exact And.intro (by decide) (And.intro (by decide) (by decide)))
  | ((with_reducible show CDiv _ _); first | exact And.intro (by decide) (by decide) | (refine And.intro ?_ ?_ <;> omega)))
/- one step of a reading -/
local macro_rules | `(tactic| walk_at "r1") => `(tactic| first
  | refine ⟨_, rfl, ?_⟩
  | refine iteB (by rfl) ?_ | refine iteC (by rfl) ?_
  | refine ⟨_, _, rfl, rfl, ?_⟩
  | refine ⟨rfl, ?_⟩
  | refine ⟨⟨_, rfl⟩, ?_⟩
  | refine ⟨_, _, _, _, true, rfl, .ty _, .base (.str _), kit_ty (by decide +kernel), ?_⟩
  | refine ⟨_, _, _, _, false, rfl, .ty _, .base (.str _), kit_ty (by decide +kernel), ?_⟩
  | refine ⟨_, _, _, _, true, rfl, .ty _, .base (.tup (by walk_at "hp")), kit_ty (by decide +kernel), ?_⟩
  | refine ⟨_, _, _, _, false, rfl, .ty _, .base (.tup (by walk_at "hp")), kit_ty (by decide +kernel), ?_⟩
  | refine ⟨_, _, _, _, true, rfl, .ty _, .base (.lst (by walk_at "hp")), kit_ty (by decide +kernel), ?_⟩
  | refine ⟨_, _, _, _, false, rfl, .ty _, .base (.lst (by walk_at "hp")), kit_ty (by decide +kernel), ?_⟩
  | refine ⟨_, _, rfl, ⟨by walk_at "sz", rfl⟩, ?_⟩
  | refine ⟨_, _, _, _, rfl, rfl, SqT.of (by walk_at "hp"), by rfl, ?_⟩
  | refine ⟨_, _, _, _, rfl, rfl, SqL.of (by walk_at "hp"), by rfl, ?_⟩
  | refine ⟨.inl ⟨rfl, _, SqL.of (by walk_at "hp")⟩, ?_⟩
  | refine ⟨_, _, _, rfl, rfl, (by walk_at "hp"), snoc_get, ?_⟩
  | refine ⟨_, _, _, _, rfl, rfl, (by walk_at "hp"), by rfl, ?_⟩
  | refine ⟨_, _, rfl, SqL.of (by walk_at "hp"), ?_⟩
  | refine ⟨_, _, rfl, SqT.of (by walk_at "hp"), by rfl, ?_⟩
  | refine ⟨_, (_ : List V), rfl, ?_⟩
  | refine ⟨_, _, rfl, .inl ⟨_, (by assumption), rfl⟩, ?_⟩
  | refine ⟨_, _, rfl, .inl ⟨_, SqL.of (by walk_at "hp"), rfl⟩, ?_⟩
  | refine ⟨_, _, rfl, .inr ⟨_, SqT.of (by walk_at "hp"), rfl⟩, ?_⟩
  | refine Or.inl ⟨(_ : Int), rfl, ?_⟩ | refine Or.inr ⟨(_ : Bool), rfl, ?_⟩
  | refine And.intro (by walk_at "ar") ?_)
local macro_rules | `(tactic| walk_at "rd") => `(tactic| repeat walk_at "r1")

abbrev Fp.v (p : Fp) : V := p.1
abbrev Fp.t (p : Fp) : Tr := p.2.1
abbrev Fp.as (p : Fp) : List Addr := p.2.2
/-- the writings' order, told of pairs (writing, place) -/
theorem le_pair {a b : Tr} {i j : Int} (h : PySem.W.dataLe false (fun p : V × PyData => p.2) (x, .tuple [.str (txS a.W), .int i]) (y, .tuple [.str (txS b.W), .int j]) = true) : leW a b = true := by
  have h' : (!PySem.W.dataLt (.tuple [.str (txS b.W), .int j]) (.tuple [.str (txS a.W), .int i])) = true := h
  rw [PySem.W.dataLt_pair (by simp [PySem.W.alike]) (by simp [PySem.W.alike])] at h'
  unfold leW
  by_cases e : PyData.eqv (.str (txS b.W)) (.str (txS a.W)) = true
  · have e' : txS b.W = txS a.W := by simpa [PyData.eqv] using e
    have e2 : b.W = a.W := by simpa using congrArg (fun s : Str => s.cps.toList) e'
    rw [e2]
    exact decide_eq_true (List.le_refl _)
  · rw [if_neg e, PySem.W.dataLt_str] at h'
    have h2 : ¬ (b.W < a.W) := by simpa using h'
    exact decide_eq_true (List.not_lt.mp h2)
theorem alike_pair (a b : Tr) (i j : Int) : PySem.W.alike (.tuple [.str (txS a.W), .int i]) (.tuple [.str (txS b.W), .int j]) = true := by simp [PySem.W.alike, PySem.W.alikeAll]
theorem dataLe_total {β : Type} (k : β → PyData) : PySem.W.TotalLe (PySem.W.dataLe false k) := PySem.W.sortLe_total _ _ _
def d0 : Fp := (.non, .node 0 [], [])
theorem getD_some {ps : List Fp} {i : Nat} (h : i < ps.length) : ps[i]? = some (ps.getD i d0) := by
  rw [List.getD_eq_getElem?_getD, List.getElem?_eq_getElem h]
  rfl
theorem map_getD {ps : List Fp} : (List.range ps.length).map (fun i => ps.getD i d0) = ps := by
  refine List.ext_getElem? fun i => ?_
  rw [List.getElem?_map]
  by_cases h : i < ps.length
  · rw [List.getElem?_range h, getD_some h]
    rfl
  · rw [List.getElem?_eq_none (by simp; omega), List.getElem?_eq_none (by omega)]
    rfl

theorem wipe2 {σ : St} {a b : Nat} (x y : Option V) : wipe (((wipe σ [a, b]).set a x).set b y) [a, b] = wipe σ [a, b] := by
  refine List.ext_getElem? fun i => ?_
  simp only [wipe, List.getElem?_set, List.length_set]
  by_cases h1 : a = i
  · simp [h1]
  · by_cases h2 : b = i
    · simp [h1, h2]
    · simp [h1, h2]
/-! ### [more for more, child in xs], [child for more, child in xs] -/
/-- what a comprehension over a list asks, behind its list -/
abbrev LcR (g : TG) (tt : TT) (te : TE) (vs : List Nat) (σ : St) (Qd : Addr → Hp → Prop) (J : It) (H1 : Hp) : Prop := ∀ D, H1 D = none → ∃ W : Nat → Nat → Hp → Prop, (∃ m, W 0 m (upd H1 D (.lst []))) ∧
  ∀ i m H, W i m H → (J.stop i H ∧ Qd D H) ∨ (J.go i H ∧ ∃ Nx : Hp → Prop, (∀ H', Nx H' → ∃ m', m' < m ∧ W (i + 1) m' H') ∧
    ∀ x H', J.yld i H x H' → g x (wipe σ vs) H' fun σ2 H2 => wipe σ2 vs = wipe σ vs ∧ tt σ2 H2 fun b H3 => if b = true then te σ2 H3 fun y H4 => ∃ acc, H4 D = some (.lst acc) ∧ acc.length < sizeLine ∧ Nx (upd H4 D (.lst (acc ++ [y]))) else Nx H3)
theorem lc_more {K : PySem.W.Frag} {σ : St} {H : Hp} {Qd : Addr → Hp → Prop} {p : Addr} {qs : List Fp} {a b : Nat} (ha : a < σ.length) (hb : b < σ.length) (hab : a ≠ b) (hp : H p = some (.lst (qs.map Fp.v))) (hF : ∀ q ∈ qs, FF H q.t q.v q.as) (hn : qs.length ≤ 100000)
    (k : ∀ (D : Addr) (H' : Hp), Same H H' → H D = none → H' D = some (.lst (qs.map fun q => tx q.t.W)) → Qd D H') : (∃ xs, SqL K H p xs) ∧ LcR (gTup K 2 (gCons (gName a) (gCons (gName b) gNil))) tYes (tVar a) [a, b] σ Qd (Itl K p) H := by
  refine ⟨⟨_, SqL.of hp⟩, fun D nD => lc_list (xs := qs.map Fp.v) (fun j H' => Same H H' ∧ H' D = some (.lst ((qs.take j).map fun q => tx q.t.W))) ⟨same_new nD, upd_same⟩ (fun j H' _ h => SqL.of (h.1 _ _ hp)) ?_ ?_⟩
  · rintro j x H3 hx ⟨S3, hD⟩
    rw [List.getElem?_map] at hx
    obtain ⟨q, hj, rfl⟩ := Option.map_eq_some_iff.mp hx
    obtain ⟨c, u, e, hc, hu⟩ := hF q (List.mem_of_getElem? hj)
    refine ⟨c, _, e, SqT.of (S3 _ _ hc), rfl, _, _, rfl, _, _, rfl, rfl, ?_⟩
    refine ⟨wipe2 _ _, tx q.t.W, ?_, _, hD, ?_, Same.upd_own S3 nD, ?_⟩
    · show (((wipe σ [a, b]).set a (some (tx q.t.W))).set b (some u))[a]? = _
      rw [List.getElem?_set_ne (Ne.symm hab), List.getElem?_set_self (by simpa [wipe] using ha)]
    · rw [List.length_map, List.length_take]
      exact Nat.lt_of_le_of_lt (Nat.le_trans (Nat.min_le_right _ _) hn) (by decide)
    · rw [upd_same, List.take_succ, List.map_append, hj]
      rfl
  · rintro H3 ⟨S3, hD⟩
    refine k D _ S3 nD ?_
    rw [hD, List.take_of_length_le (by simp)]
theorem lc_child {K : PySem.W.Frag} {σ : St} {H : Hp} {Qd : Addr → Hp → Prop} {p : Addr} {qs : List Fp} {a b : Nat} (ha : a < σ.length) (hb : b < σ.length) (hab : a ≠ b) (hp : H p = some (.lst (qs.map Fp.v))) (hF : ∀ q ∈ qs, FF H q.t q.v q.as) (hn : qs.length ≤ 100000)
    (k : ∀ (D : Addr) (H' : Hp) (us : List Fp), Same H H' → H D = none → H' D = some (.lst (us.map Fp.v)) → us.map Fp.t = qs.map Fp.t → us.map Fp.as = qs.map Fp.as → (∀ u ∈ us, TF H u.t u.v u.as) → Qd D H') : (∃ xs, SqL K H p xs) ∧ LcR (gTup K 2 (gCons (gName a) (gCons (gName b) gNil))) tYes (tVar b) [a, b] σ Qd (Itl K p) H := by
  refine ⟨⟨_, SqL.of hp⟩, fun D nD => lc_list (xs := qs.map Fp.v) (fun j H' => Same H H' ∧ ∃ us : List Fp, H' D = some (.lst (us.map Fp.v)) ∧ us.map Fp.t = (qs.take j).map Fp.t ∧ us.map Fp.as = (qs.take j).map Fp.as ∧ ∀ u ∈ us, TF H u.t u.v u.as) ⟨same_new nD, [], upd_same, rfl, rfl, fun u hu => by cases hu⟩ (fun j H' _ h => SqL.of (h.1 _ _ hp)) ?_ ?_⟩
  · rintro j x H3 hx ⟨S3, us, hD, h1, h2, h3⟩
    rw [List.getElem?_map] at hx
    obtain ⟨q, hj, rfl⟩ := Option.map_eq_some_iff.mp hx
    obtain ⟨c, u, e, hc, hu⟩ := hF q (List.mem_of_getElem? hj)
    refine ⟨c, _, e, SqT.of (S3 _ _ hc), rfl, _, _, rfl, _, _, rfl, rfl, ?_⟩
    refine ⟨wipe2 _ _, u, ?_, _, hD, ?_, Same.upd_own S3 nD, us ++ [(u, q.t, q.as)], ?_, ?_, ?_, ?_⟩
    · show (((wipe σ [a, b]).set a (some (tx q.t.W))).set b (some u))[b]? = _
      rw [List.getElem?_set_self (by simpa [wipe] using hb)]
    · have q := congrArg List.length h1
      rw [List.length_map, List.length_map, List.length_take] at q
      rw [List.length_map, q]
      exact Nat.lt_of_le_of_lt (Nat.le_trans (Nat.min_le_right _ _) hn) (by decide)
    · rw [upd_same, List.map_append]
      rfl
    · rw [List.take_succ, List.map_append, List.map_append, h1, hj]
      rfl
    · rw [List.take_succ, List.map_append, List.map_append, h2, hj]
      rfl
    · intro w hw
      rcases List.mem_append.mp hw with hw | hw
      · exact h3 w hw
      · obtain rfl := List.mem_singleton.mp hw
        exact hu
  · rintro H3 ⟨S3, us, hD, h1, h2, h3⟩
    rw [List.take_of_length_le (by simp)] at h1 h2
    exact k D _ us S3 nD hD h1 h2 h3
section
variable {P : Program} {w : World} {K : PySem.W.Frag} {mg : Str → Option Value} {base : Heap}

/-! ### formed_part -/
end
end Hy
set_option Elab.async false
set_option linter.all false
set_option maxRecDepth 100000
set_option maxHeartbeats 4000000
namespace Hy
open PySem L2
local macro_rules | `(tactic| walk_at "hp") => `(tactic| first
  | assumption | exact upd_same
  | (refine (upd_ne ?_).trans ?_ <;> first | assumption | (exact Ne.symm (by assumption)) | walk_at "ne" | walk_at "hp")
  | (refine (by assumption : Same _ _) _ _ ?_; assumption))
local macro_rules | `(tactic| walk_at "ne") => `(tactic| first
  | assumption | (exact Ne.symm (by assumption))
  | exact ne_of_none (by assumption) (by assumption) | exact Ne.symm (ne_of_none (by assumption) (by assumption)))
local macro_rules | `(tactic| walk_at "sz") => `(tactic| first | assumption | (show 0 ≤ sizeLine; decide) | (show 1 ≤ sizeLine; decide) | (show 2 ≤ sizeLine; decide) | (show 3 ≤ sizeLine; decide))
local macro_rules | `(tactic| walk_at "ar") => `(tactic| first
  | ((with_reducible show (0 : Int) < _); first | decide | omega)
  | ((with_reducible show CMul _ _); first | exact Or.inr (And.intro (by decide) (by decide)) | exact Or.inl (And.intro (by decide) (by decide)) | (refine Or.inl (And.intro ?_ ?_) <;> omega) | (refine Or.inr (And.intro ?_ ?_) <;> omega))
  | ((with_reducible show CPow _ _); exact And.intro (by decide) (And.intro (by decide) (by decide)))
  | ((with_reducible show CDiv _ _); first | exact And.intro (by decide) (by decide) | (refine And.intro ?_ ?_ <;> omega)))
/- one step of a reading -/
local macro_rules | `(tactic| walk_at "r1") => `(tactic| first
  | refine ⟨_, rfl, ?_⟩
  | refine iteB (by rfl) ?_ | refine iteC (by rfl) ?_
  | refine ⟨_, _, rfl, rfl, ?_⟩
  | refine ⟨rfl, ?_⟩
  | refine ⟨⟨_, rfl⟩, ?_⟩
  | refine ⟨_, _, _, _, true, rfl, .ty _, .base (.str _), kit_ty (by decide +kernel), ?_⟩
  | refine ⟨_, _, _, _, false, rfl, .ty _, .base (.str _), kit_ty (by decide +kernel), ?_⟩
  | refine ⟨_, _, _, _, true, rfl, .ty _, .base (.tup (by walk_at "hp")), kit_ty (by decide +kernel), ?_⟩
  | refine ⟨_, _, _, _, false, rfl, .ty _, .base (.tup (by walk_at "hp")), kit_ty (by decide +kernel), ?_⟩
  | refine ⟨_, _, _, _, true, rfl, .ty _, .base (.lst (by walk_at "hp")), kit_ty (by decide +kernel), ?_⟩
  | refine ⟨_, _, _, _, false, rfl, .ty _, .base (.lst (by walk_at "hp")), kit_ty (by decide +kernel), ?_⟩
  | refine ⟨_, _, rfl, ⟨by walk_at "sz", rfl⟩, ?_⟩
  | refine ⟨_, _, _, _, rfl, rfl, SqT.of (by walk_at "hp"), by rfl, ?_⟩
  | refine ⟨_, _, _, _, rfl, rfl, SqL.of (by walk_at "hp"), by rfl, ?_⟩
  | refine ⟨.inl ⟨rfl, _, SqL.of (by walk_at "hp")⟩, ?_⟩
  | refine ⟨_, _, _, rfl, rfl, (by walk_at "hp"), snoc_get, ?_⟩
  | refine ⟨_, _, _, _, rfl, rfl, (by walk_at "hp"), by rfl, ?_⟩
  | refine ⟨_, _, rfl, SqL.of (by walk_at "hp"), ?_⟩
  | refine ⟨_, _, rfl, SqT.of (by walk_at "hp"), by rfl, ?_⟩
  | refine ⟨_, (_ : List V), rfl, ?_⟩
  | refine ⟨_, _, rfl, .inl ⟨_, (by assumption), rfl⟩, ?_⟩
  | refine ⟨_, _, rfl, .inl ⟨_, SqL.of (by walk_at "hp"), rfl⟩, ?_⟩
  | refine ⟨_, _, rfl, .inr ⟨_, SqT.of (by walk_at "hp"), rfl⟩, ?_⟩
  | refine Or.inl ⟨(_ : Int), rfl, ?_⟩ | refine Or.inr ⟨(_ : Bool), rfl, ?_⟩
  | refine And.intro (by walk_at "ar") ?_)
local macro_rules | `(tactic| walk_at "rd") => `(tactic| repeat walk_at "r1")

theorem Tr.parts_size (t : Tr) : ∀ q ∈ t.parts, q.size ≤ t.size := by
  refine Tr.parts_prop (fun q => q.size ≤ t.size) (fun c ts h u hu => ?_) t (Nat.le_refl _)
  have := Tr.sizes_mem hu
  simp only [Tr.size] at h
  omega
theorem Tr.parts_ok (t : Tr) (h : t.ok = true) : ∀ q ∈ t.parts, q.ok = true := by
  refine Tr.parts_prop (fun q => q.ok = true) (fun c ts h u hu => ?_) t h
  simp only [Tr.ok, Bool.and_eq_true] at h
  exact Tr.oks_iff.mp h.2 u hu
section
variable {P : Program} {w : World} {K : PySem.W.Frag} {mg : Str → Option Value} {base : Heap}

theorem rep_one {α : Type} (m : Nat) (v : α) : (List.replicate m [v]).flatten = List.replicate m v := by
  induction m with
  | zero => rfl
  | succ n ih => rw [List.replicate_succ, List.flatten_cons, ih]; rfl
/-- a child, and how often -/
abbrev Hv := Fp × Addr × Nat
def kids (hs : List Hv) : List Fp := hs.flatMap fun h => List.replicate h.2.2 h.1
theorem kids_snoc (hs : List Hv) (h : Hv) : kids (hs ++ [h]) = kids hs ++ List.replicate h.2.2 h.1 := by simp [kids]
theorem kids_take (hs : List Hv) (i : Nat) : (kids (hs.take i)).length ≤ (kids hs).length := by
  conv => rhs; rw [← List.take_append_drop i hs]
  unfold kids
  rw [List.flatMap_append, List.length_append]
  omega
end
end Hy
set_option Elab.async false
set_option linter.all false
set_option maxRecDepth 100000
set_option maxHeartbeats 4000000
namespace Hy
open PySem L2
local macro_rules | `(tactic| walk_at "hp") => `(tactic| first
  | assumption | exact upd_same
  | (refine (upd_ne ?_).trans ?_ <;> first | assumption | (exact Ne.symm (by assumption)) | walk_at "ne" | walk_at "hp")
  | (refine (by assumption : Same _ _) _ _ ?_; assumption))
local macro_rules | `(tactic| walk_at "ne") => `(tactic| first
  | assumption | (exact Ne.symm (by assumption))
  | exact ne_of_none (by assumption) (by assumption) | exact Ne.symm (ne_of_none (by assumption) (by assumption)))
local macro_rules | `(tactic| walk_at "sz") => `(tactic| first | assumption | (show 0 ≤ sizeLine; decide) | (show 1 ≤ sizeLine; decide) | (show 2 ≤ sizeLine; decide) | (show 3 ≤ sizeLine; decide))
local macro_rules | `(tactic| walk_at "ar") => `(tactic| first
  | ((with_reducible show (0 : Int) < _); first | decide | omega)
  | ((with_reducible show CMul _ _); first | exact Or.inr (And.intro (by decide) (by decide)) | exact Or.inl (And.intro (by decide) (by decide)) | (refine Or.inl (And.intro ?_ ?_) <;> omega) | (refine Or.inr (And.intro ?_ ?_) <;> omega))
  | ((with_reducible show CPow _ _); exact And.intro (by decide) (And.intro (by decide) (by decide)))
  | ((with_reducible show CDiv _ _); first | exact And.intro (by decide) (by decide) | (refine And.intro ?_ ?_ <;> omega)))
/- one step of a reading -/
local macro_rules | `(tactic| walk_at "r1") => `(tactic| first
  | refine ⟨_, rfl, ?_⟩
  | refine iteB (by rfl) ?_ | refine iteC (by rfl) ?_
  | refine ⟨_, _, rfl, rfl, ?_⟩
  | refine ⟨rfl, ?_⟩
  | refine ⟨⟨_, rfl⟩, ?_⟩
  | refine ⟨_, _, _, _, true, rfl, .ty _, .base (.str _), kit_ty (by decide +kernel), ?_⟩
  | refine ⟨_, _, _, _, false, rfl, .ty _, .base (.str _), kit_ty (by decide +kernel), ?_⟩
  | refine ⟨_, _, _, _, true, rfl, .ty _, .base (.tup (by walk_at "hp")), kit_ty (by decide +kernel), ?_⟩
  | refine ⟨_, _, _, _, false, rfl, .ty _, .base (.tup (by walk_at "hp")), kit_ty (by decide +kernel), ?_⟩
  | refine ⟨_, _, _, _, true, rfl, .ty _, .base (.lst (by walk_at "hp")), kit_ty (by decide +kernel), ?_⟩
  | refine ⟨_, _, _, _, false, rfl, .ty _, .base (.lst (by walk_at "hp")), kit_ty (by decide +kernel), ?_⟩
  | refine ⟨_, _, rfl, ⟨by walk_at "sz", rfl⟩, ?_⟩
  | refine ⟨_, _, _, _, rfl, rfl, SqT.of (by walk_at "hp"), by rfl, ?_⟩
  | refine ⟨_, _, _, _, rfl, rfl, SqL.of (by walk_at "hp"), by rfl, ?_⟩
  | refine ⟨.inl ⟨rfl, _, SqL.of (by walk_at "hp")⟩, ?_⟩
  | refine ⟨_, _, _, rfl, rfl, (by walk_at "hp"), snoc_get, ?_⟩
  | refine ⟨_, _, _, _, rfl, rfl, (by walk_at "hp"), by rfl, ?_⟩
  | refine ⟨_, _, rfl, SqL.of (by walk_at "hp"), ?_⟩
  | refine ⟨_, _, rfl, SqT.of (by walk_at "hp"), by rfl, ?_⟩
  | refine ⟨_, (_ : List V), rfl, ?_⟩
  | refine ⟨_, _, rfl, .inl ⟨_, (by assumption), rfl⟩, ?_⟩
  | refine ⟨_, _, rfl, .inl ⟨_, SqL.of (by walk_at "hp"), rfl⟩, ?_⟩
  | refine ⟨_, _, rfl, .inr ⟨_, SqT.of (by walk_at "hp"), rfl⟩, ?_⟩
  | refine Or.inl ⟨(_ : Int), rfl, ?_⟩ | refine Or.inr ⟨(_ : Bool), rfl, ?_⟩
  | refine And.intro (by walk_at "ar") ?_)
local macro_rules | `(tactic| walk_at "rd") => `(tactic| repeat walk_at "r1")

def leL (a b : List Nat) : Bool := decide (a ≤ b)
theorem leL_total (a b : List Nat) : (leL a b || leL b a) = true := by
  unfold leL
  rcases List.le_total a b with h | h <;> simp [h]
theorem leL_trans (a b c : List Nat) (h1 : leL a b = true) (h2 : leL b c = true) : leL a c = true := decide_eq_true (List.le_trans (of_decide_eq_true h1) (of_decide_eq_true h2))
theorem leL_anti {a b : List Nat} (h1 : leL a b = true) (h2 : leL b a = true) : a = b := List.le_antisymm (of_decide_eq_true h1) (of_decide_eq_true h2)
def sortL (ws : List (List Nat)) : List (List Nat) := ws.mergeSort leL
theorem sortL_iff (ws : List (List Nat)) : sortL ws = ws ↔ ws.Pairwise fun a b => leL a b = true := by
  constructor
  · intro h
    rw [← h]
    exact List.pairwise_mergeSort leL_trans leL_total ws
  · intro h
    exact List.mergeSort_of_pairwise h
theorem srt_strs (ws : List (List Nat)) : ((ws.map fun l => (tx l, PyData.str (txS l))).mergeSort (PySem.W.dataLe false fun p : V × PyData => p.2)).map (·.1) = (sortL ws).map tx := by
  rw [← PySem.W.sort_maps (r := leL) (fun l => (tx l, PyData.str (txS l))) (fun a _ b _ => ?_), List.map_map]
  · rfl
  · show leL a b = PySem.W.dataLe false (fun l : List Nat => PyData.str (txS l)) a b
    rw [PySem.W.dataLe_str]
    show leL a b = decide ((txS a).cps.toList ≤ (txS b).cps.toList)
    simp [leL]
theorem fst_strs (ws : List (List Nat)) : (ws.map fun l => (tx l, PyData.str (txS l))).map (·.1) = ws.map tx := by rw [List.map_map]; rfl
theorem txs_strs (ws : List (List Nat)) : (ws.map txS).map V.str = ws.map tx := by rw [List.map_map]; rfl
theorem eqv_strs : ∀ (a b : List (List Nat)), PyData.eqvAll (a.map fun l => PyData.str (txS l)) (b.map fun l => PyData.str (txS l)) = decide (a = b)
  | [], [] => by simp [PyData.eqvAll]
  | [], _ :: _ => by simp [PyData.eqvAll]
  | _ :: _, [] => by simp [PyData.eqvAll]
  | x :: a, y :: b => by
    have e : (txS x = txS y) = (x = y) := by
      refine propext ⟨fun h => ?_, fun h => by rw [h]⟩
      simpa using congrArg (fun s : Str => s.cps.toList) h
    simp only [List.map_cons, PyData.eqvAll, eqv_strs a b, PyData.eqv]
    by_cases h1 : x = y
    · by_cases h2 : a = b <;> simp [h1, h2]
    · have : ¬ txS x = txS y := by rw [e]; exact h1
      simp [h1, this]
theorem plain_strs : ∀ a : List (List Nat), PyData.plainAll (a.map fun l => PyData.str (txS l)) = true
  | [] => rfl
  | x :: a => by simp only [List.map_cons, PyData.plainAll, PyData.plain, plain_strs a, Bool.and_self]
theorem depth_strs : ∀ a : List (List Nat), PyData.depthAll (a.map fun l => PyData.str (txS l)) = 0
  | [] => rfl
  | x :: a => by simp only [List.map_cons, PyData.depthAll, PyData.depth, depth_strs a]; rfl
theorem dp_strs {K : PySem.W.Frag} {H : Hp} {p : Addr} {a : List (List Nat)} (h : H p = some (.lst (a.map tx))) : Dp K H (.ref p) (.list (a.map fun l => PyData.str (txS l))) := .lst (SqL.of h) (dpAll_of _ _ fun l _ => .str _)
theorem srtW_iff (ts : List Tr) : SrtW ts ↔ (ts.map Tr.W).Pairwise fun a b => leL a b = true := by rw [List.pairwise_map]; rfl
section
variable {P : Program} {w : World} {K : PySem.W.Frag} {mg : Str → Option Value} {base : Heap}
abbrev s_closed_part : Stmt := top 12
theorem sc_closed_part : FnScope ["letter", "children", "written", "more", "child"] ["letter", "children"] (defScope s_closed_part) := ⟨rfl, rfl, rfl, by decide +kernel, rfl, by decide +kernel, by decide +kernel⟩

def sp_closed_part : Sp := fun vs H Q E => ∃ (c : Nat) (fl : Addr) (ps : List Fp), vs = [.str ⟨#[c]⟩, .ref fl] ∧ H fl = some (.lst (ps.map Fp.v)) ∧ (∀ p ∈ ps, FF H p.t p.v p.as) ∧ Tr.sizes (ps.map Fp.t) ≤ 100000 ∧
  (ps ≠ [] → SrtW (ps.map Fp.t) → ∀ (H' : Hp) (v : V) (l : Addr), Same H H' → H l = none → FF H' (.node c (ps.map Fp.t)) v (l :: ps.flatMap Fp.as) → Q v H') ∧
  (¬ (ps ≠ [] ∧ SrtW (ps.map Fp.t)) → ∀ x, mg "NoText" = some x → ∀ H' : Hp, Same H H' → E x none H')
theorem ok_closed_part (D : Df K mg "closed_part" s_closed_part ["letter", "children"]) (T : Txt K mg) : G' P w K mg base "closed_part" 1 ["letter", "children"] (sp_closed_part (mg := mg)) := by
  refine D.ok fun f fd F => F.okX sc_closed_part (fun vs H Q E h => ?_) (fun cdv A outer s H vs Q E hr h => ?_)
  · obtain ⟨c, fl, ps, rfl, _⟩ := h
    rfl
  · obtain ⟨c, fl, ps, rfl, hf, hF, hz, k1, k2⟩ := h
    have hlen := Tr.sizes_len (ps.map Fp.t)
    rw [List.length_map] at hlen
    have hW := Tr.Ws_len (ps.map Fp.t)
    rw [Tr.Ws_flat] at hW
    refine ⟨_, (pss_cons (ps_setLc (i := 2) (own := [("more", 3), ("child", 4)]) (g := (gTup K 2 (gCons (gName 3) (gCons (gName 4) gNil)))) rfl sc_closed_part.nd rfl rfl (sw_true rfl rfl rfl (by decide +kernel)) (pi_listK K (pv 1)) (blkOk_by (own := [("more", 3), ("child", 4)]) (N := ["letter", "children", "written", "more", "child"]) (sc := defScope s_closed_part) (by decide +kernel)) (fun _ _ _ _ _ => (pg_tup (by rfl) (pgs_cons (pg_name (i := 3) sc_closed_part.nd rfl (by first | exact Or.inl rfl | exact Or.inr rfl)) (pgs_cons (pg_name (i := 4) sc_closed_part.nd rfl (by first | exact Or.inl rfl | exact Or.inr rfl)) pgs_nil)))) (fun _ _ _ _ _ => pts_nil) (fun _ _ _ _ _ => (pv 3)))
  (pss_cons (ps_if (PW.pt (pw_or (pt_cmp (pc_eqNilK K hr (pv 1))) (pw_or1 (pt_cmpR (op_nePK K hr) (pe_callB (cr_sortedDK K hr) (by rfl) T.n_sorted (by decide +kernel) (pa_cons (pv 2) pa_nil)) (pv 2) (nomark _))))) (pss_one (ps_rs T.x_NoText rfl (takes_of rfl rfl rfl rfl))) pss_nil)
  (pss_one (ps_ret (pe_tup (pa_cons (pe_op op_add_str (pe_op op_add_str (pe_op op_add_str (pv 0) pe_str) (pe_join pe_str (pv 2))) pe_str) (pa_cons (pe_tup (pa_cons (pv 0) (pa_cons (pe_lc (own := [("more", 3), ("child", 4)]) (g := (gTup K 2 (gCons (gName 3) (gCons (gName 4) gNil)))) rfl sc_closed_part.nd (pi_listK K (pv 1)) (blkOk_by (own := [("more", 3), ("child", 4)]) (N := ["letter", "children", "written", "more", "child"]) (sc := defScope s_closed_part) (by decide +kernel)) (fun _ _ _ _ _ => (pg_tup (by rfl) (pgs_cons (pg_name (i := 3) sc_closed_part.nd rfl (by first | exact Or.inl rfl | exact Or.inr rfl)) (pgs_cons (pg_name (i := 4) sc_closed_part.nd rfl (by first | exact Or.inl rfl | exact Or.inr rfl)) pgs_nil)))) (fun _ _ _ _ _ => pts_nil) (fun _ _ _ _ _ => (pv 4))) pa_nil))) pa_nil))))))), ?_⟩
    walk_at "rd"
    refine lc_more (a := 3) (b := 4) (qs := ps) (show 3 < 5 by decide) (show 4 < 5 by decide) (by decide) hf hF (by omega) fun D1 H1 S1 nD1 hD1 => ?_
    have eW : (ps.map fun q => tx q.t.W) = ((ps.map Fp.t).map Tr.W).map tx := by rw [List.map_map, List.map_map]; rfl
    rw [eW] at hD1
    have hf1 := S1 _ _ hf
    walk_at "rd"
    by_cases he : ps = []
    · subst he
      walk_at "rd"
      intro x hx
      exact k2 (by simp) x hx _ S1
    · refine iteC (by cases ps with | nil => exact absurd rfl he | cons => rfl) ?_
      walk_at "rd"
      refine ⟨D1, (((ps.map Fp.t).map Tr.W).map fun l => (tx l, PyData.str (txS l))), rfl, SqL.of (by rw [fst_strs]; exact hD1), ?_, ?_, ?_, fun p np => ?_⟩
      · intro q hq
        obtain ⟨l, _, rfl⟩ := List.mem_map.mp hq
        exact ⟨.str _, by simp [PyData.depth]⟩
      · intro a ha b hb
        simp only [List.mem_map] at ha hb
        obtain ⟨_, ⟨_, _, rfl⟩, rfl⟩ := ha
        obtain ⟨_, ⟨_, _, rfl⟩, rfl⟩ := hb
        simp [PySem.W.alike]
      · refine .inr fun a ha => ?_
        simp only [List.mem_map] at ha
        obtain ⟨_, ⟨_, _, rfl⟩, rfl⟩ := ha
        exact ⟨(fun z => nomatch z), (fun _ z => nomatch z)⟩
      rw [srt_strs]
      generalize e2 : upd H1 p _ = H2
      obtain ⟨S2, hp2⟩ := newF np e2
      have hD2 := S2 _ _ hD1
      have hf2 := S2 _ _ hf1
      walk_at "rd"
      refine ⟨_, _, dp_strs hp2, dp_strs hD2, plain_strs _, plain_strs _, ?_, ?_⟩
      · simp only [PyData.depth, depth_strs]
        decide
      have ev : PyData.eqv (.list ((sortL ((ps.map Fp.t).map Tr.W)).map fun l => PyData.str (txS l))) (.list (((ps.map Fp.t).map Tr.W).map fun l => PyData.str (txS l))) = decide (sortL ((ps.map Fp.t).map Tr.W) = (ps.map Fp.t).map Tr.W) := by
        rw [← eqv_strs]
        rfl
      rw [ev]
      by_cases hs : SrtW (ps.map Fp.t)
      · rw [decide_eq_true ((sortL_iff _).mpr ((srtW_iff _).mp hs))]
        walk_at "rd"
        have hne : ps.map Fp.t ≠ [] := by simpa using he
        have hw : (Tr.node c (ps.map Fp.t)).W = c :: 40 :: (((ps.map Fp.t).map Tr.W).flatten ++ [41]) := by rw [Tr.W_node c hne, Tr.Ws_flat]
        have e40 : (⟨#[c]⟩ : Str) ++ PySem.Str.ofString "(" = txS [c, 40] := txS_app [c] [40]
        have e41 : PySem.Str.ofString ")" = txS [41] := rfl
        refine ⟨by show 1 + 1 ≤ sizeLine; decide, ?_⟩
        walk_at "rd"
        refine ⟨txS [], D1, ((ps.map Fp.t).map Tr.W).map txS, rfl, rfl, .inl (SqL.of (by rw [txs_strs]; exact hD2)), ?_, ?_⟩
        · have e : ((((ps.map Fp.t).map Tr.W).map txS).map (·.length)).sum = (((ps.map Fp.t).map Tr.W).flatten).length := by
            rw [List.map_map, List.length_flatten]
            congr 1
          rw [e]
          show _ + _ * 0 ≤ 16777216
          omega
        rw [join_nil, e40, e41]
        refine ⟨_, _, rfl, rfl, ?_, ?_⟩
        · rw [txS_len, txS_len]
          exact Nat.le_trans (show _ ≤ 400000 by show 2 + _ ≤ _; omega) (by decide)
        rw [txS_app]
        refine ⟨_, _, rfl, rfl, ?_, ?_⟩
        · rw [txS_len, txS_len]
          exact Nat.le_trans (show _ ≤ 400000 by rw [List.length_append]; show 2 + _ + 1 ≤ _; omega) (by decide)
        rw [txS_app]
        have S02 : Same H H2 := S1.trans S2
        walk_at "rd"
        refine lc_child (a := 3) (b := 4) (qs := ps) (show 3 < 5 by decide) (show 4 < 5 by decide) (by decide) hf2 (fun q hq => (hF q hq).same S02) (by omega) fun D H3 us S3 nD hD e1 e2 hu => ?_
        refine ⟨(by walk_at "sz"), fun t2 n2 => ⟨(by walk_at "sz"), fun t3 n3 => ?_⟩⟩
        have n23 : t3 ≠ t2 := fun q => by rw [q, upd_same] at n3; cases n3
        have Sa : Same H3 (upd (upd H3 t2 (.tup [.str ⟨#[c]⟩, .ref D])) t3 (.tup [tx (([c, 40] ++ ((ps.map Fp.t).map Tr.W).flatten) ++ [41]), .ref t2])) := Same.upd_new (same_new n2) n3
        refine k1 he hs _ _ D ((S02.trans S3).trans Sa) (S02.free nD) ⟨t3, .ref t2, rfl, by rw [upd_same, hw]; rfl, ?_⟩
        refine .mk t2 D us (by rw [upd_ne n23.symm, upd_same]; rfl) (Sa _ _ hD) (fun u hu' => ((hu u hu').same S3).same Sa) e1.symm rfl ?_
        rw [List.flatMap_def, List.flatMap_def]
        show D :: (ps.map Fp.as).flatten = D :: (us.map Fp.as).flatten
        rw [e2]
      · rw [decide_eq_false fun h => hs ((srtW_iff _).mpr ((sortL_iff _).mp h))]
        walk_at "rd"
        intro x hx
        exact k2 (fun z => hs z.2) x hx _ (S1.trans S2)
end
end Hy
set_option Elab.async false
set_option linter.all false
set_option maxRecDepth 100000
set_option maxHeartbeats 4000000
namespace Hy
open PySem L2
local macro_rules | `(tactic| walk_at "hp") => `(tactic| first
  | assumption | exact upd_same
  | (refine (upd_ne ?_).trans ?_ <;> first | assumption | (exact Ne.symm (by assumption)) | walk_at "ne" | walk_at "hp")
  | (refine (by assumption : Same _ _) _ _ ?_; assumption))
local macro_rules | `(tactic| walk_at "ne") => `(tactic| first
  | assumption | (exact Ne.symm (by assumption))
  | exact ne_of_none (by assumption) (by assumption) | exact Ne.symm (ne_of_none (by assumption) (by assumption)))
local macro_rules | `(tactic| walk_at "sz") => `(tactic| first | assumption | (show 0 ≤ sizeLine; decide) | (show 1 ≤ sizeLine; decide) | (show 2 ≤ sizeLine; decide) | (show 3 ≤ sizeLine; decide))
local macro_rules | `(tactic| walk_at "ar") => `(tactic| first
  | ((with_reducible show (0 : Int) < _); first | decide | omega)
  | ((with_reducible show CMul _ _); first | exact Or.inr (And.intro (by decide) (by decide)) | exact Or.inl (And.intro (by decide) (by decide)) | (refine Or.inl (And.intro ?_ ?_) <;> omega) | (refine Or.inr (And.intro ?_ ?_) <;> omega))
  | ((with_reducible show CPow _ _); exact And.intro (by decide) (And.intro (by decide) (by decide)))
  | ((with_reducible show CDiv _ _); first | exact And.intro (by decide) (by decide) | (refine And.intro ?_ ?_ <;> omega)))
/- one step of a reading -/
local macro_rules | `(tactic| walk_at "r1") => `(tactic| first
  | refine ⟨_, rfl, ?_⟩
  | refine iteB (by rfl) ?_ | refine iteC (by rfl) ?_
  | refine ⟨_, _, rfl, rfl, ?_⟩
  | refine ⟨rfl, ?_⟩
  | refine ⟨⟨_, rfl⟩, ?_⟩
  | refine ⟨_, _, _, _, true, rfl, .ty _, .base (.str _), kit_ty (by decide +kernel), ?_⟩
  | refine ⟨_, _, _, _, false, rfl, .ty _, .base (.str _), kit_ty (by decide +kernel), ?_⟩
  | refine ⟨_, _, _, _, true, rfl, .ty _, .base (.tup (by walk_at "hp")), kit_ty (by decide +kernel), ?_⟩
  | refine ⟨_, _, _, _, false, rfl, .ty _, .base (.tup (by walk_at "hp")), kit_ty (by decide +kernel), ?_⟩
  | refine ⟨_, _, _, _, true, rfl, .ty _, .base (.lst (by walk_at "hp")), kit_ty (by decide +kernel), ?_⟩
  | refine ⟨_, _, _, _, false, rfl, .ty _, .base (.lst (by walk_at "hp")), kit_ty (by decide +kernel), ?_⟩
  | refine ⟨_, _, rfl, ⟨by walk_at "sz", rfl⟩, ?_⟩
  | refine ⟨_, _, _, _, rfl, rfl, SqT.of (by walk_at "hp"), by rfl, ?_⟩
  | refine ⟨_, _, _, _, rfl, rfl, SqL.of (by walk_at "hp"), by rfl, ?_⟩
  | refine ⟨.inl ⟨rfl, _, SqL.of (by walk_at "hp")⟩, ?_⟩
  | refine ⟨_, _, _, rfl, rfl, (by walk_at "hp"), snoc_get, ?_⟩
  | refine ⟨_, _, _, _, rfl, rfl, (by walk_at "hp"), by rfl, ?_⟩
  | refine ⟨_, _, rfl, SqL.of (by walk_at "hp"), ?_⟩
  | refine ⟨_, _, rfl, SqT.of (by walk_at "hp"), by rfl, ?_⟩
  | refine ⟨_, (_ : List V), rfl, ?_⟩
  | refine ⟨_, _, rfl, .inl ⟨_, (by assumption), rfl⟩, ?_⟩
  | refine ⟨_, _, rfl, .inl ⟨_, SqL.of (by walk_at "hp"), rfl⟩, ?_⟩
  | refine ⟨_, _, rfl, .inr ⟨_, SqT.of (by walk_at "hp"), rfl⟩, ?_⟩
  | refine Or.inl ⟨(_ : Int), rfl, ?_⟩ | refine Or.inr ⟨(_ : Bool), rfl, ?_⟩
  | refine And.intro (by walk_at "ar") ?_)
local macro_rules | `(tactic| walk_at "rd") => `(tactic| repeat walk_at "r1")

theorem sign_eq {c d : Nat} : decide (V.str ⟨#[c]⟩ = V.str ⟨#[d]⟩) = decide (c = d) := by
  by_cases h : c = d
  · rw [h, decide_eq_true rfl, decide_eq_true rfl]
  · rw [decide_eq_false h, decide_eq_false fun z => h ?_]
    have z2 : (⟨#[c]⟩ : Str) = ⟨#[d]⟩ := V.str.inj z
    have z3 := congrArg (fun s : Str => s.cps.toList) z2
    simpa using z3
theorem sign_op {c : Nat} : decide (V.str ⟨#[c]⟩ = V.str (PySem.Str.ofString "(")) = decide (c = 40) := by
  have e : PySem.Str.ofString "(" = ⟨#[40]⟩ := by decide +kernel
  rw [e, sign_eq]
theorem sign_cl {c : Nat} : decide (V.str ⟨#[c]⟩ = V.str (PySem.Str.ofString ")")) = decide (c = 41) := by
  have e : PySem.Str.ofString ")" = ⟨#[41]⟩ := by decide +kernel
  rw [e, sign_eq]
theorem RS.step40 {s : RS} (h : isL s.prev = false) : s.step 40 = none := by
  unfold RS.step
  rw [if_neg (by decide), if_neg (fun z => by rw [h] at z; exact absurd z.2 (by decide)), if_neg (by decide)]
theorem RS.step40_ok {s : RS} (h : isL s.prev = true) : s.step 40 = some ⟨40, s.ab ++ [(s.prev, s.here.dropLast)], []⟩ := by
  unfold RS.step
  rw [if_neg (by decide), if_pos ⟨rfl, h⟩]
theorem RS.step_other {s : RS} {x : Nat} (h1 : isL x = false) (h2 : x ≠ 40) (h3 : x ≠ 41) : s.step x = none := by
  unfold RS.step
  rw [if_neg (by rw [h1]; decide), if_neg (fun z => h2 z.1), if_neg h3]
theorem RS.step41_none {s : RS} (h : s.ab = []) : s.step 41 = none := by
  unfold RS.step
  rw [if_neg (by decide), if_neg (fun z => absurd z.1 (by decide)), if_pos rfl, h]
  rfl
theorem RS.step41 {prev l : Nat} {ab : List (Nat × List Tr)} {more here : List Tr} : RS.step ⟨prev, ab ++ [(l, more)], here⟩ 41 = if here ≠ [] ∧ SrtW here then some ⟨41, ab, more ++ [.node l here]⟩ else none := by
  unfold RS.step
  rw [if_neg (by decide), if_neg (fun z => absurd z.1 (by decide)), if_pos rfl]
  simp only [List.getLast?_concat, List.dropLast_concat]
theorem sum_ge {α : Type} (g : α → Nat) (h : ∀ x, 1 ≤ g x) : ∀ l : List α, l.length ≤ (l.map g).sum
  | [] => Nat.zero_le _
  | x :: l => by
    have := sum_ge g h l
    have := h x
    simp only [List.length_cons, List.map_cons, List.sum_cons]
    omega
/-- an open part: its tuple, its letter, its list, what stands in it -/
structure Op where
  tup : Addr
  c : Nat
  lst : Addr
  ps : List Fp
def fpO (fs : List Op) : List Addr := fs.flatMap fun f => f.lst :: f.ps.flatMap Fp.as
def fpR (al hh : Addr) (fs : List Op) (hs : List Fp) : List Addr := al :: (fpO fs ++ (hh :: hs.flatMap Fp.as))
structure RepR (H0 H : Hp) (al hh : Addr) (fs : List Op) (hs : List Fp) : Prop where
  ab : H al = some (.lst (fs.map fun f => V.ref f.tup))
  op : ∀ f ∈ fs, H f.tup = some (.tup [.str ⟨#[f.c]⟩, .ref f.lst]) ∧ H f.lst = some (.lst (f.ps.map Fp.v)) ∧ ∀ p ∈ f.ps, FF H p.t p.v p.as
  he : H hh = some (.lst (hs.map Fp.v))
  hp : ∀ p ∈ hs, FF H p.t p.v p.as
  nd : (fpR al hh fs hs).Nodup
  fr : ∀ a ∈ fpR al hh fs hs, H0 a = none
def rsOf (prev : Nat) (fs : List Op) (hs : List Fp) : RS := ⟨prev, fs.map fun f => (f.c, f.ps.map Fp.t), hs.map Fp.t⟩
theorem nodup_swap {A B : List Addr} {x y : Addr} (h : (A ++ x :: B).Nodup) (hy : y ∉ A ++ B) : (A ++ y :: B).Nodup := by
  have h1 := List.perm_middle.nodup_iff.mp h
  exact List.perm_middle.nodup_iff.mpr (List.nodup_cons.mpr ⟨hy, (List.nodup_cons.mp h1).2⟩)
theorem fpR_app (al hh : Addr) (fs : List Op) (hs : List Fp) (p : Fp) : fpR al hh fs (hs ++ [p]) = fpR al hh fs hs ++ p.as := by
  simp [fpR, List.flatMap_append]
theorem RepR.live {H0 H : Hp} {al hh : Addr} {fs : List Op} {hs : List Fp} (R : RepR H0 H al hh fs hs) : ∀ a ∈ fpR al hh fs hs, ∃ xs, H a = some (.lst xs) := by
  intro a ha
  unfold fpR fpO at ha
  rcases List.mem_cons.mp ha with rfl | ha
  · exact ⟨_, R.ab⟩
  rcases List.mem_append.mp ha with ha | ha
  · obtain ⟨f, hf, ha⟩ := List.mem_flatMap.mp ha
    obtain ⟨h1, h2, h3⟩ := R.op f hf
    rcases List.mem_cons.mp ha with rfl | ha
    · exact ⟨_, h2⟩
    · obtain ⟨p, hp, ha⟩ := List.mem_flatMap.mp ha
      exact (h3 p hp).live a ha
  · rcases List.mem_cons.mp ha with rfl | ha
    · exact ⟨_, R.he⟩
    · obtain ⟨p, hp, ha⟩ := List.mem_flatMap.mp ha
      exact (R.hp p hp).live a ha
theorem RepR.new {H0 H : Hp} {al hh a : Addr} {fs : List Op} {hs : List Fp} (R : RepR H0 H al hh fs hs) (n : H a = none) : a ∉ fpR al hh fs hs := fun h => by
  obtain ⟨xs, e⟩ := R.live a h
  rw [n] at e
  cases e
theorem RepR.same {H0 H H' : Hp} {al hh : Addr} {fs : List Op} {hs : List Fp} (R : RepR H0 H al hh fs hs) (S : Same H H') : RepR H0 H' al hh fs hs :=
  ⟨S _ _ R.ab, fun f hf => ⟨S _ _ (R.op f hf).1, S _ _ (R.op f hf).2.1, fun p hp => ((R.op f hf).2.2 p hp).same S⟩, S _ _ R.he, fun p hp => (R.hp p hp).same S, R.nd, R.fr⟩
theorem mem_op {al hh a : Addr} {fs : List Op} {hs : List Fp} {f : Op} (hf : f ∈ fs) (h : a = f.lst ∨ ∃ p ∈ f.ps, a ∈ p.as) : a ∈ fpO fs := by
  refine List.mem_flatMap.mpr ⟨f, hf, ?_⟩
  rcases h with rfl | ⟨p, hp, ha⟩
  · exact List.mem_cons_self
  · exact List.mem_cons_of_mem _ (List.mem_flatMap.mpr ⟨p, hp, ha⟩)
/-- the list of those here is changed -/
theorem RepR.here {H0 H H' : Hp} {al hh : Addr} {fs : List Op} {hs hs' : List Fp} (R : RepR H0 H al hh fs hs) (k : Keep [hh] H H') (e : H' hh = some (.lst (hs'.map Fp.v))) (hp : ∀ p ∈ hs', FF H' p.t p.v p.as) (nd : (fpR al hh fs hs').Nodup)
    (fr : ∀ a ∈ fpR al hh fs hs', H0 a = none) : RepR H0 H' al hh fs hs' := by
  have nd0 := R.nd
  unfold fpR at nd0
  obtain ⟨n1, n2⟩ := List.nodup_cons.mp nd0
  obtain ⟨n3, n4, n5⟩ := List.nodup_append.mp n2
  have nah : al ∉ [hh] := fun z => n1 (by rw [List.mem_singleton.mp z]; exact List.mem_append_right _ List.mem_cons_self)
  have nO : ∀ a ∈ fpO fs, a ∉ [hh] := fun a ha z => n5 a ha hh List.mem_cons_self (List.mem_singleton.mp z)
  refine ⟨k.but _ _ nah R.ab, fun f hf => ?_, e, hp, nd, fr⟩
  obtain ⟨h1, h2, h3⟩ := R.op f hf
  exact ⟨k.tup _ _ h1, k.but _ _ (nO _ (mem_op (al := al) (hh := hh) (hs := hs) hf (.inl rfl))) h2, fun p hp => (h3 p hp).keep k fun b hb => nO _ (mem_op (al := al) (hh := hh) (hs := hs) hf (.inr ⟨p, hp, hb⟩))⟩
theorem RepR.put {H0 H H' : Hp} {al hh : Addr} {fs : List Op} {hs : List Fp} {p : Fp} (R : RepR H0 H al hh fs hs) (k : Keep [hh] H H') (e : H' hh = some (.lst ((hs ++ [p]).map Fp.v))) (hp : FF H' p.t p.v p.as) (h1 : ∀ a ∈ p.as, a ∉ fpR al hh fs hs) (h2 : p.as.Nodup)
    (h3 : ∀ a ∈ p.as, H0 a = none) : RepR H0 H' al hh fs (hs ++ [p]) := by
  have nd0 := R.nd
  unfold fpR at nd0
  obtain ⟨_, n2⟩ := List.nodup_cons.mp nd0
  obtain ⟨_, n4, _⟩ := List.nodup_append.mp n2
  obtain ⟨n6, _⟩ := List.nodup_cons.mp n4
  refine R.here k e (fun q hq => ?_) ?_ ?_
  · rcases List.mem_append.mp hq with hq | hq
    · exact (R.hp q hq).keep k fun b hb z => n6 (by rw [← List.mem_singleton.mp z]; exact List.mem_flatMap.mpr ⟨q, hq, hb⟩)
    · obtain rfl := List.mem_singleton.mp hq
      exact hp
  · rw [fpR_app]
    exact List.nodup_append.mpr ⟨R.nd, h2, fun a ha b hb z => h1 b hb (z ▸ ha)⟩
  · intro a ha
    rw [fpR_app] at ha
    rcases List.mem_append.mp ha with ha | ha
    · exact R.fr a ha
    · exact h3 a ha
theorem RepR.pop {H0 H H' : Hp} {al hh : Addr} {fs : List Op} {hs : List Fp} {p : Fp} (R : RepR H0 H al hh fs (hs ++ [p])) (k : Keep [hh] H H') (e : H' hh = some (.lst (hs.map Fp.v))) : RepR H0 H' al hh fs hs := by
  have nd0 := R.nd
  have nd1 := nd0
  unfold fpR at nd0
  obtain ⟨_, n2⟩ := List.nodup_cons.mp nd0
  obtain ⟨_, n4, _⟩ := List.nodup_append.mp n2
  obtain ⟨n6, _⟩ := List.nodup_cons.mp n4
  rw [fpR_app] at nd1
  refine R.here k e (fun q hq => ?_) (List.nodup_append.mp nd1).1 fun a ha => R.fr a (by rw [fpR_app]; exact List.mem_append_left _ ha)
  exact (R.hp q (List.mem_append_left _ hq)).keep k fun b hb z => n6 (by rw [← List.mem_singleton.mp z]; exact List.mem_flatMap.mpr ⟨q, List.mem_append_left _ hq, hb⟩)
/-- the list of the open ones is changed: all else stands -/
theorem RepR.away {H0 H H' : Hp} {al hh : Addr} {fs : List Op} {hs : List Fp} (R : RepR H0 H al hh fs hs) (k : Keep [al] H H') :
    (∀ f ∈ fs, H' f.tup = some (.tup [.str ⟨#[f.c]⟩, .ref f.lst]) ∧ H' f.lst = some (.lst (f.ps.map Fp.v)) ∧ ∀ p ∈ f.ps, FF H' p.t p.v p.as) ∧ H' hh = some (.lst (hs.map Fp.v)) ∧ ∀ p ∈ hs, FF H' p.t p.v p.as := by
  have nd0 := R.nd
  unfold fpR at nd0
  obtain ⟨n1, _⟩ := List.nodup_cons.mp nd0
  have nO : ∀ a ∈ fpO fs, a ∉ [al] := fun a ha z => n1 (by rw [← List.mem_singleton.mp z]; exact List.mem_append_left _ ha)
  have nH : ∀ a ∈ hh :: hs.flatMap Fp.as, a ∉ [al] := fun a ha z => n1 (by rw [← List.mem_singleton.mp z]; exact List.mem_append_right _ ha)
  refine ⟨fun f hf => ?_, k.but _ _ (nH _ List.mem_cons_self) R.he, fun p hp => (R.hp p hp).keep k fun b hb => nH _ (List.mem_cons_of_mem _ (List.mem_flatMap.mpr ⟨p, hp, hb⟩))⟩
  obtain ⟨h1, h2', h3⟩ := R.op f hf
  exact ⟨k.tup _ _ h1, k.but _ _ (nO _ (mem_op (al := al) (hh := hh) (hs := hs) hf (.inl rfl))) h2', fun p hp => (h3 p hp).keep k fun b hb => nO _ (mem_op (al := al) (hh := hh) (hs := hs) hf (.inr ⟨p, hp, hb⟩))⟩
/-- a part is opened -/
theorem RepR.opened {H0 H H' : Hp} {al hh h2 t : Addr} {c : Nat} {fs : List Op} {hs : List Fp} (R : RepR H0 H al hh fs hs) (k : Keep [al] H H') (ht : H t = some (.tup [.str ⟨#[c]⟩, .ref hh])) (ea : H' al = some (.lst ((fs ++ [(⟨t, c, hh, hs⟩ : Op)]).map fun f => V.ref f.tup)))
    (e2 : H' h2 = some (.lst [])) (n2 : H h2 = none) (n0 : H0 h2 = none) : RepR H0 H' al h2 (fs ++ [⟨t, c, hh, hs⟩]) [] := by
  have nd0 := R.nd
  unfold fpR at nd0
  obtain ⟨n1, _⟩ := List.nodup_cons.mp nd0
  have nO : ∀ a ∈ fpO fs, a ∉ [al] := fun a ha z => n1 (by rw [← List.mem_singleton.mp z]; exact List.mem_append_left _ ha)
  have nH : ∀ a ∈ hh :: hs.flatMap Fp.as, a ∉ [al] := fun a ha z => n1 (by rw [← List.mem_singleton.mp z]; exact List.mem_append_right _ ha)
  have ef : fpR al h2 (fs ++ [⟨t, c, hh, hs⟩]) [] = fpR al hh fs hs ++ [h2] := by simp [fpR, fpO, List.flatMap_append]
  refine ⟨ea, fun f hf => ?_, e2, fun p hp => (by cases hp), ?_, ?_⟩
  · rcases List.mem_append.mp hf with hf | hf
    · obtain ⟨h1, h2', h3⟩ := R.op f hf
      exact ⟨k.tup _ _ h1, k.but _ _ (nO _ (mem_op (al := al) (hh := hh) (hs := hs) hf (.inl rfl))) h2', fun p hp => (h3 p hp).keep k fun b hb => nO _ (mem_op (al := al) (hh := hh) (hs := hs) hf (.inr ⟨p, hp, hb⟩))⟩
    · obtain rfl := List.mem_singleton.mp hf
      exact ⟨k.tup _ _ ht, k.but _ _ (nH _ List.mem_cons_self) R.he, fun p hp => (R.hp p hp).keep k fun b hb => nH _ (List.mem_cons_of_mem _ (List.mem_flatMap.mpr ⟨p, hp, hb⟩))⟩
  · rw [ef]
    exact List.nodup_append.mpr ⟨R.nd, by simp, fun a ha b hb z => R.new n2 (by rw [← List.mem_singleton.mp hb, ← z]; exact ha)⟩
  · intro a ha
    rw [ef] at ha
    rcases List.mem_append.mp ha with ha | ha
    · exact R.fr a ha
    · rw [List.mem_singleton.mp ha]
      exact n0
/-- a part is closed -/
theorem RepR.closed {H0 H H' : Hp} {al hh ml t l : Addr} {c : Nat} {u : Tr} {v : V} {fs : List Op} {hs ms : List Fp} (R : RepR H0 H al hh (fs ++ [⟨t, c, ml, ms⟩]) hs) (k : Keep [al, ml] H H') (ea : H' al = some (.lst (fs.map fun f => V.ref f.tup)))
    (em : H' ml = some (.lst ((ms ++ [(v, u, l :: hs.flatMap Fp.as)]).map Fp.v))) (hF : FF H' u v (l :: hs.flatMap Fp.as)) (nl : H l = none) (n0 : H0 l = none) : RepR H0 H' al ml fs (ms ++ [(v, u, l :: hs.flatMap Fp.as)]) := by
  have eO : fpR al hh (fs ++ [⟨t, c, ml, ms⟩]) hs = (al :: (fpO fs ++ (ml :: ms.flatMap Fp.as))) ++ (hh :: hs.flatMap Fp.as) := by simp [fpR, fpO, List.flatMap_append]
  have eN : fpR al ml fs (ms ++ [(v, u, l :: hs.flatMap Fp.as)]) = (al :: (fpO fs ++ (ml :: ms.flatMap Fp.as))) ++ (l :: hs.flatMap Fp.as) := by simp [fpR, fpO, List.flatMap_append]
  have nd0 := R.nd
  have hl := R.new nl
  rw [eO] at nd0 hl
  obtain ⟨n1, _, _⟩ := List.nodup_append.mp nd0
  obtain ⟨n2, n3⟩ := List.nodup_cons.mp n1
  obtain ⟨_, n4, n5⟩ := List.nodup_append.mp n3
  obtain ⟨n6, _⟩ := List.nodup_cons.mp n4
  have nO : ∀ a ∈ fpO fs, a ∉ [al, ml] := fun a ha z => by
    rcases List.mem_cons.mp z with rfl | z
    · exact n2 (List.mem_append_left _ ha)
    · exact n5 a ha ml List.mem_cons_self (List.mem_singleton.mp z)
  have nM : ∀ a ∈ ms.flatMap Fp.as, a ∉ [al, ml] := fun a ha z => by
    rcases List.mem_cons.mp z with rfl | z
    · exact n2 (List.mem_append_right _ (List.mem_cons_of_mem _ ha))
    · exact n6 (by rw [← List.mem_singleton.mp z]; exact ha)
  have op := (R.op ⟨t, c, ml, ms⟩ (by simp)).2.2
  refine ⟨ea, fun f hf => ?_, em, fun p hp => ?_, ?_, ?_⟩
  · obtain ⟨h1, h2', h3⟩ := R.op f (List.mem_append_left _ hf)
    exact ⟨k.tup _ _ h1, k.but _ _ (nO _ (mem_op (al := al) (hh := hh) (hs := hs) hf (.inl rfl))) h2', fun p hp => (h3 p hp).keep k fun b hb => nO _ (mem_op (al := al) (hh := hh) (hs := hs) hf (.inr ⟨p, hp, hb⟩))⟩
  · rcases List.mem_append.mp hp with hp | hp
    · exact (op p hp).keep k fun b hb => nM _ (List.mem_flatMap.mpr ⟨p, hp, hb⟩)
    · obtain rfl := List.mem_singleton.mp hp
      exact hF
  · rw [eN]
    refine nodup_swap nd0 fun z => hl ?_
    rcases List.mem_append.mp z with z | z
    · exact List.mem_append_left _ z
    · exact List.mem_append_right _ (List.mem_cons_of_mem _ z)
  · intro a ha
    rw [eN] at ha
    rcases List.mem_append.mp ha with ha | ha
    · exact R.fr a (by rw [eO]; exact List.mem_append_left _ ha)
    · rcases List.mem_cons.mp ha with rfl | ha
      · exact n0
      · exact R.fr a (by rw [eO]; exact List.mem_append_right _ (List.mem_cons_of_mem _ ha))
section
variable {P : Program} {w : World} {K : PySem.W.Frag} {mg : Str → Option Value} {base : Heap}
abbrev s_read_tree : Stmt := top 13
theorem sc_read_tree : FnScope ["text", "above", "here", "at", "sign", "letter", "more"] ["text"] (defScope s_read_tree) := ⟨rfl, rfl, rfl, by decide +kernel, rfl, by decide +kernel, by decide +kernel⟩

def sp_read_tree : Sp := fun vs H Q E => (∃ l : List Nat, vs = [tx l] ∧ l.length ≤ 90000 ∧
  (∀ t, parse l = some t → ∀ (H' : Hp) (v : V) (as : List Addr), Same H H' → TF H' t v as → (∀ a ∈ as, H a = none) → as.Nodup → Q v H') ∧
  (parse l = none → ∀ x, mg "NoText" = some x → ∀ H' : Hp, Same H H' → E x none H')) ∨
  ∃ v u, vs = [v] ∧ TyX K H v u ∧ PySem.W.kitOne K u (.type "str") = some false ∧ ∀ x, mg "NoText" = some x → E x none H
theorem ok_read_tree (D : Df K mg "read_tree" s_read_tree ["text"]) (T : Txt K mg) (G_closed_part : G' P w K mg base "closed_part" 1 ["letter", "children"] (sp_closed_part (mg := mg))) : G' P w K mg base "read_tree" 2 ["text"] (sp_read_tree (K := K) (mg := mg)) := by
  refine D.ok fun f fd F => F.okX sc_read_tree (fun vs H Q E h => ?_) (fun cdv A outer s H vs Q E hr h => ?_)
  · rcases h with ⟨l, rfl, _⟩ | ⟨v, u, rfl, _⟩
    · rfl
    · rfl
  · refine ⟨_, (pss_cons (ps_if (pt_not (pt_val (pe_callB (call_isiK K) (by rfl) T.n_isinstance (by decide +kernel) (pa_cons (pv 0) (pa_cons (pe_ty (n := "str") T.n_str (by decide +kernel)) pa_nil))))) (pss_one (ps_rs T.x_NoText rfl (takes_of rfl rfl rfl rfl))) pss_nil)
  (pss_cons (ps_set (i := 1) sc_read_tree.nd rfl (by first | exact Or.inl rfl | exact Or.inr rfl) (pe_lst pa_nil))
  (pss_cons (ps_set (i := 2) sc_read_tree.nd rfl (by first | exact Or.inl rfl | exact Or.inr rfl) (pe_lst pa_nil))
  (pss_cons (ps_for (passes_of rfl) rfl (pi_enumS T.n_enumerate (pa_cons (pv 0) pa_nil)) (pg_tup (by rfl) (pgs_cons (pg_name (i := 3) sc_read_tree.nd rfl (by first | exact Or.inl rfl | exact Or.inr rfl)) (pgs_cons (pg_name (i := 4) sc_read_tree.nd rfl (by first | exact Or.inl rfl | exact Or.inr rfl)) pgs_nil))) (pss_one (ps_if (pt_cmpR op_in_sign (pv 4) (pe_gv T.g_LETTERS) (by rfl)) (pss_one (ps_expr (cbm K (pe_bm PySem.F.plainAttrs_list PySem.F.slot_list_append PySem.F.type_list_append mt_append (pv 2) (pa_cons (pe_tup (pa_cons (pv 4) (pa_cons (pe_tup (pa_cons (pv 4) (pa_cons (pe_lst pa_nil) pa_nil))) pa_nil))) pa_nil))))) (pss_one (ps_if (PW.pt (pw_and (pt_cmpR op_eq (pv 4) pe_str (nomark _)) (pw_and (pt_cmpR op_gt (pv 3) pe_int (nomark _)) (pw_and1 (pt_cmpR op_in_sign (pe_ix ix_str (pv 0) (pe_op op_sub (pv 3) pe_int) (fun _ _ => rfl)) (pe_gv T.g_LETTERS) (by rfl)))))) (pss_cons (ps_set (i := 5) sc_read_tree.nd rfl (by first | exact Or.inl rfl | exact Or.inr rfl) (pe_ix (ix_tupK K) (cbm0 K (pe_bm0 PySem.F.plainAttrs_list PySem.F.slot_list_pop PySem.F.type_list_pop mt_pop (pv 2))) pe_int (fun _ _ => rfl)))
  (pss_cons (ps_expr (cbm K (pe_bm PySem.F.plainAttrs_list PySem.F.slot_list_append PySem.F.type_list_append mt_append (pv 1) (pa_cons (pe_tup (pa_cons (pv 5) (pa_cons (pv 2) pa_nil))) pa_nil))))
  (pss_one (ps_set (i := 2) sc_read_tree.nd rfl (by first | exact Or.inl rfl | exact Or.inr rfl) (pe_lst pa_nil))))) (pss_one (ps_if (PW.pt (pw_and (pt_cmpR op_eq (pv 4) pe_str (nomark _)) (pw_and1 (pt_cmp (pc_neNilK K hr (pv 1)))))) (pss_cons (ps_asg (cbm0 K (pe_bm0 PySem.F.plainAttrs_list PySem.F.slot_list_pop PySem.F.type_list_pop mt_pop (pv 1))) (pg_tup (by rfl) (pgs_cons (pg_name (i := 5) sc_read_tree.nd rfl (by first | exact Or.inl rfl | exact Or.inr rfl)) (pgs_cons (pg_name (i := 6) sc_read_tree.nd rfl (by first | exact Or.inl rfl | exact Or.inr rfl)) pgs_nil))))
  (pss_cons (ps_expr (cbm K (pe_bm PySem.F.plainAttrs_list PySem.F.slot_list_append PySem.F.type_list_append mt_append (pv 6) (pa_cons (pe_cl G_closed_part (hr.mono (by omega)) (passW (takes_of rfl rfl rfl rfl) (fun _ _ _ _ z => z)) (pa_cons (pv 5) (pa_cons (pv 2) pa_nil))) pa_nil))))
  (pss_one (ps_set (i := 2) sc_read_tree.nd rfl (by first | exact Or.inl rfl | exact Or.inr rfl) (pv 6))))) (pss_one (ps_rs T.x_NoText rfl (takes_of rfl rfl rfl rfl))))))))))
  (pss_cons (ps_if (PW.pt (pw_or (pt_cmp (pc_neNilK K hr (pv 1))) (pw_or1 (pt_cmpR op_ne (pe_callB (call_lenK K) (by rfl) T.n_len PySem.boot_len (pa_cons (pv 2) pa_nil)) pe_int (nomark _))))) (pss_one (ps_rs T.x_NoText rfl (takes_of rfl rfl rfl rfl))) pss_nil)
  (pss_one (ps_ret (pe_ix (ix_tupK K) (pe_ix (ix_listK K) (pv 2) pe_int (fun _ _ => rfl)) pe_int (fun _ _ => rfl))))))))), ?_⟩
    rcases h with ⟨l, rfl, hl, k1, k2⟩ | ⟨v, u, rfl, ty, ku, k2⟩
    rotate_left
    · walk_at "rd"
      refine ⟨_, _, _, _, false, rfl, .ty _, ty, ku, ?_⟩
      walk_at "rd"
      exact fun x hx => k2 x hx
    walk_at "rd"
    refine ⟨(by walk_at "sz"), fun al na => ?_⟩
    generalize e0 : upd H al _ = H0
    obtain ⟨S0, ha0⟩ := newF na e0
    walk_at "rd"
    refine ⟨(by walk_at "sz"), fun hh nh0 => ?_⟩
    have nh : H hh = none := S0.free nh0
    have nah : al ≠ hh := ne_of_none ha0 nh0
    generalize e1 : upd H0 hh _ = H1
    obtain ⟨S1, hh1⟩ := newF nh0 e1
    have ha1 := S1 _ _ ha0
    walk_at "rd"
    refine for_enumS (fun i σ H' => ∃ (al hh : Addr) (fs : List Op) (hs : List Fp) (prev : Nat) (x3 x4 x5 x6 : Option V), σ = [some (tx l), some (.ref al), some (.ref hh), x3, x4, x5, x6] ∧ Same H H' ∧ RepR H H' al hh fs hs ∧
        RS.run ⟨0, [], []⟩ (l.take i) = some (rsOf prev fs hs) ∧ (rsOf prev fs hs).Inv ∧ (rsOf prev fs hs).tot ≤ i ∧ (i = 0 → prev = 0) ∧ (0 < i → l[i - 1]? = some prev))
      ⟨al, hh, [], [], 0, none, none, none, none, rfl, S0.trans S1, ⟨ha1, fun f hf => (by cases hf), hh1, fun p hp => (by cases hp), ?_, ?_⟩, rfl, RS.inv0, Nat.le_refl _, fun _ => rfl, fun h => absurd h (by decide)⟩ ?_ ?_
    · simpa [fpR, fpO] using nah
    · intro a ha'
      have : a = al ∨ a = hh := by simpa [fpR, fpO] using ha'
      rcases this with rfl | rfl
      · exact na
      · exact nh
    · rintro i c σ H2 T' hc ⟨al, hh, fs, hs, prev, x3, x4, x5, x6, rfl, S2, R, hrun, hinv, htot, hp0, hp1⟩ nT
      generalize e2 : upd H2 T' _ = H3
      obtain ⟨S23, hT3⟩ := newF nT e2
      have S3 : Same H H3 := S2.trans S23
      have hc' : l[i]? = some c := by simpa using hc
      have hi : i < l.length := (List.getElem?_eq_some_iff.mp hc').1
      have nh' : H hh = none := R.fr hh (by simp [fpR])
      have na' : H al = none := R.fr al (by simp [fpR])
      have Ra := S23 _ _ R.ab
      have Rh := S23 _ _ R.he
      walk_at "rd"
      rw [letter_in]
      cases hL : isL c with
      | true =>
        have hstep : (rsOf prev fs hs).step c = some (rsOf c fs (hs ++ [(.non, .node c [], [])])) := by
          unfold RS.step
          rw [if_pos hL]
          simp [rsOf]
        walk_at "rd"
        refine ⟨(by walk_at "sz"), fun l0 n0 => ?_⟩
        generalize e4 : upd H3 l0 _ = H4
        obtain ⟨S34, hl4⟩ := newF n0 e4
        walk_at "rd"
        refine ⟨(by walk_at "sz"), fun t1 n1 => ?_⟩
        generalize e5 : upd H4 t1 _ = H5
        obtain ⟨S45, ht5⟩ := newF n1 e5
        walk_at "rd"
        refine ⟨(by walk_at "sz"), fun t2 n2 => ?_⟩
        generalize e6 : upd H5 t2 _ = H6
        obtain ⟨S56, ht6⟩ := newF n2 e6
        have S36 : Same H3 H6 := S34.trans (S45.trans S56)
        have R6 := (R.same S23).same S36
        have Rh6 := R6.he
        walk_at "rd"
        refine ⟨_, _, _, rfl, rfl, Rh6, ?_, ?_⟩
        · rw [List.length_map]
          have z := Tr.sizes_len (hs.map Fp.t)
          rw [List.length_map] at z
          simp only [RS.tot, rsOf] at htot
          exact Nat.lt_of_le_of_lt (show _ ≤ 90000 by omega) (by decide)
        generalize e7 : upd H6 hh _ = H7
        have k7 : Keep [hh] H6 H7 := by subst e7; exact (Keep.refl _ _).upd (by simp) Rh6
        have hh7 : H7 hh = some (.lst (hs.map Fp.v ++ [.ref t2])) := by subst e7; exact upd_same
        have nl : H l0 = none := S3.free n0
        have nlhh : l0 ≠ hh := (ne_of_none (S23 _ _ R.he) n0).symm
        have FF6 : FF H6 (.node c []) (.ref t2) [l0] := ⟨t2, .ref t1, rfl, by rw [ht6, Tr.W_leaf], .mk t1 l0 [] (S56 _ _ ht5) (S56 _ _ (S45 _ _ hl4)) (fun p hp => by cases hp) rfl rfl rfl⟩
        have FF7 : FF H7 (.node c []) (.ref t2) [l0] := FF6.keep k7 fun b hb z => nlhh (by rw [← List.mem_singleton.mp hb, List.mem_singleton.mp z])
        have R7 : RepR H H7 al hh fs (hs ++ [(.ref t2, .node c [], [l0])]) := R6.put k7 (by rw [hh7, List.map_append]; rfl) FF7 (fun a ha z => (R.same S23).new n0 (by rw [← List.mem_singleton.mp ha]; exact z)) (by simp [Fp.as]) (fun a ha => by rw [List.mem_singleton.mp ha]; exact nl)
        have hr7 : RS.run ⟨0, [], []⟩ (l.take (i + 1)) = some (rsOf c fs (hs ++ [(.ref t2, .node c [], [l0])])) := by
          rw [RS.run_next hrun hc', hstep]
          simp [rsOf, Fp.t]
        have S07 : Same H H7 := by subst e7; exact Same.upd_own (S3.trans S36) nh'
        exact ⟨al, hh, fs, _, c, _, _, _, _, rfl, S07, R7, hr7, RS.step_inv ((RS.run_next hrun hc').symm.trans hr7), Nat.le_trans (RS.step_tot hinv ((RS.run_next hrun hc').symm.trans hr7)) (by omega), fun z => absurd z (by omega), fun _ => hc'⟩
      | false =>
        have hraise : (rsOf prev fs hs).step c = none → ∀ x, mg "NoText" = some x → ∀ H', Same H H' → E x none H' := fun hn x hx H' S => k2 (by unfold parse; rw [RS.run_stop hrun hc' hn]) x hx H' S
        walk_at "rd"
        rw [sign_op]
        have Rf : RepR H H3 al hh fs hs := R.same S23
        by_cases h40 : c = 40
        · subst h40
          by_cases hi0 : i = 0
          · subst hi0
            have hp := hp0 rfl
            subst hp
            walk_at "rd"
            exact fun x hx => hraise (by simp [RS.step, rsOf, isL]) x hx _ S3
          · have hprev := hp1 (by omega)
            have hix : atI (txS l).cps.toList ((i : Int) - 1) = some prev := by
              have e : (i : Int) - 1 = ((i - 1 : Nat) : Int) := by omega
              rw [e]
              exact atI_nat (by simpa using hprev)
            walk_at "rd"
            refine iteB (decide_eq_true (by omega)) ?_
            walk_at "rd"
            refine ⟨_, _, prev, rfl, rfl, ?_, hix, ?_⟩
            · rw [txS_len]
              exact Nat.le_trans hl (by decide)
            walk_at "rd"
            rw [letter_in]
            cases hLp : isL prev with
            | false =>
              walk_at "rd"
              exact fun x hx => hraise (RS.step40 hLp) x hx _ S3
            | true =>
              obtain ⟨ts0, ets⟩ := hinv hLp
              obtain ⟨hs0, q, rfl⟩ : ∃ hs0 q, hs = hs0 ++ [q] := by
                rcases snoc_cases hs with rfl | ⟨a, b, e⟩
                · have z : ([] : List Tr) = ts0 ++ [.node prev []] := ets
                  simp at z
                · exact ⟨a, b, e⟩
              have eq1 : q.t = .node prev [] ∧ hs0.map Fp.t = ts0 := by
                have z : (hs0 ++ [q]).map Fp.t = ts0 ++ [.node prev []] := ets
                rw [List.map_append] at z
                obtain ⟨z1, z2⟩ := List.append_inj' z rfl
                exact ⟨by simpa using z2, z1⟩
              obtain ⟨a, u, ev, hau, hu⟩ := Rf.hp q (by simp)
              have Rh3 : H3 hh = some (.lst (hs0.map Fp.v ++ [.ref a])) := by rw [Rf.he, List.map_append, ← ev]; rfl
              walk_at "rd"
              rw [List.dropLast_concat]
              generalize e4 : upd H3 hh _ = H4
              have k4 : Keep [hh] H3 H4 := by subst e4; exact (Keep.refl _ _).upd (by simp) Rh3
              have hh4 : H4 hh = some (.lst (hs0.map Fp.v)) := by subst e4; exact upd_same
              have S4 : Same H H4 := by subst e4; exact Same.upd_own S3 nh'
              have R4 := Rf.pop k4 hh4
              have ha4 := k4.tup _ _ hau
              have hal4 := R4.ab
              rw [eq1.1, Tr.W_leaf] at ha4
              walk_at "rd"
              refine ⟨(by walk_at "sz"), fun t1 n1 => ?_⟩
              generalize e5 : upd H4 t1 _ = H5
              obtain ⟨S45, ht5⟩ := newF n1 e5
              have hal5 := S45 _ _ hal4
              walk_at "rd"
              refine ⟨_, _, _, rfl, rfl, hal5, ?_, ?_⟩
              · rw [List.length_map]
                have z : fs.length ≤ i := by
                  have z2 := sum_ge (fun f : Op => 1 + Tr.sizes (f.ps.map Fp.t)) (fun f => Nat.le_add_right _ _) fs
                  simp only [RS.tot, rsOf, List.map_map] at htot
                  exact Nat.le_trans z2 (Nat.le_trans (Nat.le_add_right _ _) htot)
                exact Nat.lt_of_le_of_lt (show _ ≤ 90000 by omega) (by decide)
              generalize e6 : upd H5 al _ = H6
              have k6 : Keep [al] H5 H6 := by subst e6; exact (Keep.refl _ _).upd (by simp) hal5
              have hal6 : H6 al = some (.lst (fs.map (fun f => V.ref f.tup) ++ [.ref t1])) := by subst e6; exact upd_same
              walk_at "rd"
              refine ⟨(by walk_at "sz"), fun h2 n2 => ?_⟩
              generalize e7 : upd H6 h2 _ = H7
              obtain ⟨S67, hh7⟩ := newF n2 e7
              have n2al : h2 ≠ al := fun z => by rw [z, hal6] at n2; cases n2
              have n25 : H5 h2 = none := by subst e6; rw [upd_ne n2al] at n2; exact n2
              have S5 : Same H H5 := S4.trans S45
              have n20 : H h2 = none := S5.free n25
              have k7 : Keep [al] H5 H7 := k6.trans (Same.keep S67)
              have S7 : Same H H7 := by
                refine Same.trans ?_ S67
                subst e6
                exact Same.upd_own S5 na'
              have R7 : RepR H H7 al h2 (fs ++ [⟨t1, prev, hh, hs0⟩]) [] := (R4.same S45).opened k7 ht5 (by rw [S67 _ _ hal6, List.map_append]; rfl) hh7 n25 n20
              have hr7 : RS.run ⟨0, [], []⟩ (l.take (i + 1)) = some (rsOf 40 (fs ++ [⟨t1, prev, hh, hs0⟩]) []) := by
                rw [RS.run_next hrun hc', RS.step40_ok hLp]
                simp [rsOf]
              exact ⟨al, h2, _, [], 40, _, _, _, _, rfl, S7, R7, hr7, RS.step_inv ((RS.run_next hrun hc').symm.trans hr7), Nat.le_trans (RS.step_tot hinv ((RS.run_next hrun hc').symm.trans hr7)) (by omega), fun z => absurd z (by omega), fun _ => hc'⟩
        · rw [decide_eq_false h40]
          walk_at "rd"
          rw [sign_cl]
          by_cases h41 : c = 41
          · subst h41
            walk_at "rd"
            rcases snoc_cases fs with rfl | ⟨fs0, ⟨t, lc, ml, ms⟩, rfl⟩
            · walk_at "rd"
              exact fun x hx => hraise (RS.step41_none rfl) x hx _ S3
            · rw [List.map_append]
              refine ifNe (by simp) ?_
              have hop := Rf.op ⟨t, lc, ml, ms⟩ (by simp)
              have Ra3 : H3 al = some (.lst (fs0.map (fun f => V.ref f.tup) ++ [.ref t])) := by rw [Rf.ab, List.map_append]; rfl
              walk_at "rd"
              rw [List.dropLast_concat]
              generalize e4 : upd H3 al _ = H4
              have k4 : Keep [al] H3 H4 := by subst e4; exact (Keep.refl _ _).upd (by simp) Ra3
              have hal4 : H4 al = some (.lst (fs0.map fun f => V.ref f.tup)) := by subst e4; exact upd_same
              have S4 : Same H H4 := by subst e4; exact Same.upd_own S3 na'
              obtain ⟨hop4, hh4, hF4⟩ := Rf.away k4
              obtain ⟨ht4, hml4, hms4⟩ := hop4 ⟨t, lc, ml, ms⟩ (by simp)
              dsimp only at ht4 hml4 hms4
              have etot : RS.tot (rsOf prev (fs0 ++ [⟨t, lc, ml, ms⟩]) hs) = RS.tot (rsOf prev fs0 ms) + 1 + Tr.sizes (hs.map Fp.t) := by
                simp only [RS.tot, rsOf, List.map_append, List.map_cons, List.map_nil, List.sum_append, List.sum_cons, List.sum_nil]
                omega
              rw [etot] at htot
              have nml : H ml = none := R.fr ml (by simp [fpR, fpO])
              walk_at "rd"
              refine ⟨lc, hh, hs, rfl, hh4, hF4, by omega, fun hne hsr H5 v l' S45 nl hFF => ?_, fun hbad x hx H5 S5 => ?_⟩
              · have hml5 := S45 _ _ hml4
                refine ⟨_, _, _, rfl, rfl, hml5, ?_, ?_⟩
                · rw [List.length_map]
                  have z := Tr.sizes_len (ms.map Fp.t)
                  rw [List.length_map] at z
                  simp only [RS.tot, rsOf] at htot
                  exact Nat.lt_of_le_of_lt (show _ ≤ 90000 by omega) (by decide)
                generalize e6 : upd H5 ml _ = H6
                have k6 : Keep [ml] H5 H6 := by subst e6; exact (Keep.refl _ _).upd (by simp) hml5
                have hml6 : H6 ml = some (.lst (ms.map Fp.v ++ [v])) := by subst e6; exact upd_same
                have S6 : Same H H6 := by subst e6; exact Same.upd_own (S4.trans S45) nml
                have k36 : Keep [al, ml] H3 H6 := (k4.mono (by simp)).trans ((Same.keep S45).trans (k6.mono (by simp)))
                have nlml : l' ≠ ml := fun z => by rw [z, hml4] at nl; cases nl
                have namL : al ≠ ml := fun z => by
                  have q := Rf.nd
                  simp [fpR, fpO, z] at q
                have hal6 : H6 al = some (.lst (fs0.map fun f => V.ref f.tup)) := by subst e6; rw [upd_ne namL]; exact S45 _ _ hal4
                have nl3 : H3 l' = none := by
                  cases q : H3 l' with
                  | none => rfl
                  | some o =>
                    by_cases hla : l' = al
                    · rw [hla, hal4] at nl
                      cases nl
                    · have := k4.but l' o (by simpa using hla) q
                      rw [nl] at this
                      cases this
                have nml' : ml ∉ hs.flatMap Fp.as := fun hm => by
                  have q := Rf.nd
                  rw [show fpR al hh (fs0 ++ [⟨t, lc, ml, ms⟩]) hs = (al :: (fpO fs0 ++ (ml :: ms.flatMap Fp.as))) ++ (hh :: hs.flatMap Fp.as) by simp [fpR, fpO, List.flatMap_append]] at q
                  exact (List.nodup_append.mp q).2.2 ml (by simp) ml (List.mem_cons_of_mem _ hm) rfl
                have hFF6 : FF H6 (.node lc (hs.map Fp.t)) v (l' :: hs.flatMap Fp.as) := hFF.keep k6 fun b hb z => by
                  rw [List.mem_singleton.mp z] at hb
                  rcases List.mem_cons.mp hb with e | hb
                  · exact nlml e.symm
                  · exact nml' hb
                have R6 : RepR H H6 al ml fs0 (ms ++ [(v, .node lc (hs.map Fp.t), l' :: hs.flatMap Fp.as)]) := Rf.closed k36 hal6 (by rw [hml6, List.map_append]; rfl) hFF6 nl3 (S3.free nl3)
                have hne' : hs.map Fp.t ≠ [] := by simpa using hne
                have hr6 : RS.run ⟨0, [], []⟩ (l.take (i + 1)) = some (rsOf 41 fs0 (ms ++ [(v, .node lc (hs.map Fp.t), l' :: hs.flatMap Fp.as)])) := by
                  rw [RS.run_next hrun hc']
                  have e : rsOf prev (fs0 ++ [⟨t, lc, ml, ms⟩]) hs = ⟨prev, fs0.map (fun f => (f.c, f.ps.map Fp.t)) ++ [(lc, ms.map Fp.t)], hs.map Fp.t⟩ := by simp [rsOf]
                  rw [e, RS.step41, if_pos ⟨hne', hsr⟩]
                  simp [rsOf, Fp.t]
                walk_at "rd"
                have hst := (RS.run_next hrun hc').symm.trans hr6
                exact ⟨al, ml, fs0, _, 41, _, _, _, _, rfl, S6, R6, hr6, RS.step_inv hst, Nat.le_trans (RS.step_tot hinv hst) (by omega), fun z => absurd z (by omega), fun _ => hc'⟩
              · refine hraise ?_ x hx _ (S4.trans S5)
                have e : rsOf prev (fs0 ++ [⟨t, lc, ml, ms⟩]) hs = ⟨prev, fs0.map (fun f => (f.c, f.ps.map Fp.t)) ++ [(lc, ms.map Fp.t)], hs.map Fp.t⟩ := by simp [rsOf]
                rw [e, RS.step41, if_neg]
                rintro ⟨z1, z2⟩
                exact hbad ⟨by simpa using z1, z2⟩
          · rw [decide_eq_false h41]
            walk_at "rd"
            exact fun x hx => hraise (RS.step_other hL h40 h41) x hx _ S3
    · rintro σ H2 ⟨al, hh, fs, hs, prev, x3, x4, x5, x6, rfl, S2, R, hrun, hinv, htot, hp0, hp1⟩
      have esz : (txS l).cps.size = l.length := by simp
      rw [esz, List.take_length] at hrun
      have Ra := R.ab
      have Rh := R.he
      walk_at "rd"
      rcases snoc_cases fs with rfl | ⟨fs0, f0, rfl⟩
      · walk_at "rd"
        match hs, R with
        | [], R =>
          walk_at "rd"
          exact fun x hx => k2 (by unfold parse; rw [hrun]; rfl) x hx _ S2
        | p :: q :: r, R =>
          refine iteB ?_ ?_
          · show (!decide (V.int (((p :: q :: r).map Fp.v).length : Int) = V.int 1)) = true
            rw [decide_eq_false]
            · rfl
            · intro z
              have z2 := V.int.inj z
              simp at z2
              omega
          · walk_at "rd"
            exact fun x hx => k2 (by unfold parse; rw [hrun]; rfl) x hx _ S2
        | [p], R =>
          obtain ⟨a, u, ev, ha, hu⟩ := R.hp p (by simp)
          obtain ⟨pv, pt, pa⟩ := p
          obtain rfl : pv = .ref a := ev
          walk_at "rd"
          refine k1 pt (by unfold parse; rw [hrun]; rfl) _ _ _ S2 hu (fun b hb => R.fr b ?_) ?_
          · simp [fpR, fpO]
            exact .inr (.inr hb)
          · have q := R.nd
            simp only [fpR, fpO, List.flatMap_nil, List.nil_append, List.flatMap_cons, List.append_nil] at q
            exact (List.nodup_cons.mp (List.nodup_cons.mp q).2).2
      · rw [List.map_append]
        refine ifNe (by simp) ?_
        walk_at "rd"
        refine fun x hx => k2 ?_ x hx _ S2
        unfold parse
        rw [hrun]
        have e : ((fs0 ++ [f0]).map fun f : Op => (f.c, f.ps.map Fp.t)) ≠ [] := by simp
        unfold rsOf
        cases q : (fs0 ++ [f0]).map fun f : Op => (f.c, f.ps.map Fp.t) with
        | nil => exact absurd q e
        | cons y ys => rfl
end
end Hy
set_option Elab.async false
set_option linter.all false
set_option maxRecDepth 100000
set_option maxHeartbeats 4000000
namespace Hy
open PySem L2
local macro_rules | `(tactic| walk_at "hp") => `(tactic| first
  | assumption | exact upd_same
  | (refine (upd_ne ?_).trans ?_ <;> first | assumption | (exact Ne.symm (by assumption)) | walk_at "ne" | walk_at "hp")
  | (refine (by assumption : Same _ _) _ _ ?_; assumption))
local macro_rules | `(tactic| walk_at "ne") => `(tactic| first
  | assumption | (exact Ne.symm (by assumption))
  | exact ne_of_none (by assumption) (by assumption) | exact Ne.symm (ne_of_none (by assumption) (by assumption)))
local macro_rules | `(tactic| walk_at "sz") => `(tactic| first | assumption | (show 0 ≤ sizeLine; decide) | (show 1 ≤ sizeLine; decide) | (show 2 ≤ sizeLine; decide) | (show 3 ≤ sizeLine; decide))
local macro_rules | `(tactic| walk_at "ar") => `(tactic| first
  | ((with_reducible show (0 : Int) < _); first | decide | omega)
  | ((with_reducible show CMul _ _); first | exact Or.inr (And.intro (by decide) (by decide)) | exact Or.inl (And.intro (by decide) (by decide)) | (refine Or.inl (And.intro ?_ ?_) <;> omega) | (refine Or.inr (And.intro ?_ ?_) <;> omega))
  | ((with_reducible show CPow _ _); exact And.intro (by decide) (And.intro (by decide) (by decide)))
  | ((with_reducible show CDiv _ _); first | exact And.intro (by decide) (by decide) | (refine And.intro ?_ ?_ <;> omega)))
/- one step of a reading -/
local macro_rules | `(tactic| walk_at "r1") => `(tactic| first
  | refine ⟨_, rfl, ?_⟩
  | refine iteB (by rfl) ?_ | refine iteC (by rfl) ?_
  | refine ⟨_, _, rfl, rfl, ?_⟩
  | refine ⟨rfl, ?_⟩
  | refine ⟨⟨_, rfl⟩, ?_⟩
  | refine ⟨_, _, _, _, true, rfl, .ty _, .base (.str _), kit_ty (by decide +kernel), ?_⟩
  | refine ⟨_, _, _, _, false, rfl, .ty _, .base (.str _), kit_ty (by decide +kernel), ?_⟩
  | refine ⟨_, _, _, _, true, rfl, .ty _, .base (.tup (by walk_at "hp")), kit_ty (by decide +kernel), ?_⟩
  | refine ⟨_, _, _, _, false, rfl, .ty _, .base (.tup (by walk_at "hp")), kit_ty (by decide +kernel), ?_⟩
  | refine ⟨_, _, _, _, true, rfl, .ty _, .base (.lst (by walk_at "hp")), kit_ty (by decide +kernel), ?_⟩
  | refine ⟨_, _, _, _, false, rfl, .ty _, .base (.lst (by walk_at "hp")), kit_ty (by decide +kernel), ?_⟩
  | refine ⟨_, _, rfl, ⟨by walk_at "sz", rfl⟩, ?_⟩
  | refine ⟨_, _, _, _, rfl, rfl, SqT.of (by walk_at "hp"), by rfl, ?_⟩
  | refine ⟨_, _, _, _, rfl, rfl, SqL.of (by walk_at "hp"), by rfl, ?_⟩
  | refine ⟨.inl ⟨rfl, _, SqL.of (by walk_at "hp")⟩, ?_⟩
  | refine ⟨_, _, _, rfl, rfl, (by walk_at "hp"), snoc_get, ?_⟩
  | refine ⟨_, _, _, _, rfl, rfl, (by walk_at "hp"), by rfl, ?_⟩
  | refine ⟨_, _, rfl, SqL.of (by walk_at "hp"), ?_⟩
  | refine ⟨_, _, rfl, SqT.of (by walk_at "hp"), by rfl, ?_⟩
  | refine ⟨_, (_ : List V), rfl, ?_⟩
  | refine ⟨_, _, rfl, .inl ⟨_, (by assumption), rfl⟩, ?_⟩
  | refine ⟨_, _, rfl, .inl ⟨_, SqL.of (by walk_at "hp"), rfl⟩, ?_⟩
  | refine ⟨_, _, rfl, .inr ⟨_, SqT.of (by walk_at "hp"), rfl⟩, ?_⟩
  | refine Or.inl ⟨(_ : Int), rfl, ?_⟩ | refine Or.inr ⟨(_ : Bool), rfl, ?_⟩
  | refine And.intro (by walk_at "ar") ?_)
local macro_rules | `(tactic| walk_at "rd") => `(tactic| repeat walk_at "r1")

section
variable {P : Program} {w : World} {K : PySem.W.Frag} {mg : Str → Option Value} {base : Heap}
abbrev s__law_cell : Stmt := top 15
theorem sc__law_cell : FnScope ["script", "k"] ["script", "k"] (defScope s__law_cell) := ⟨rfl, rfl, rfl, by decide +kernel, rfl, by decide +kernel, by decide +kernel⟩
abbrev s__law_store : Stmt := top 16
theorem sc__law_store : FnScope ["cell", "great"] ["cell"] (defScope s__law_store) := ⟨rfl, rfl, rfl, by decide +kernel, rfl, by decide +kernel, by decide +kernel⟩
abbrev s__law_take : Stmt := top 17
theorem sc__law_take : FnScope ["store", "many", "told", "one"] ["store", "many"] (defScope s__law_take) := ⟨rfl, rfl, rfl, by decide +kernel, rfl, by decide +kernel, by decide +kernel⟩

def sp__law_cell : Sp := fun vs H Q _ => ∃ (a : Addr) (ns : List Int) (k : Nat), vs = [.ref a, .int (k : Int)] ∧ SqL K H a (ns.map V.int) ∧ k < 1000 ∧ ∀ z : Int, Q (.int z) H
theorem ok__law_cell (D : Df K mg "_law_cell" s__law_cell ["script", "k"]) (T : Txt K mg) : G' P w K mg base "_law_cell" 1 ["script", "k"] (sp__law_cell (K := K)) := by
  refine D.ok fun f fd F => F.okX sc__law_cell (fun vs H Q E h => ?_) (fun cdv A outer s H vs Q E hr h => ?_)
  · obtain ⟨a, ns, k, rfl, _⟩ := h
    rfl
  · obtain ⟨a, ns, k, rfl, hs, hk, q⟩ := h
    refine ⟨_, (pss_cons (ps_if (pt_cmpR op_lt (pv 1) (pe_callB (call_lenK K) (by rfl) T.n_len PySem.boot_len (pa_cons (pv 0) pa_nil)) (nomark _)) (pss_one (ps_ret (pe_ix (ix_listK K) (pv 0) (pv 1) (fun _ _ => rfl)))) pss_nil)
  (pss_one (ps_ret (pe_op op_add (pe_op op_add (pe_op op_mul (pe_op op_mul pe_int (pv 1)) (pv 1)) (pe_op op_mul pe_int (pv 1))) pe_int)))), ?_⟩
    walk_at "rd"
    rw [List.length_map]
    by_cases h : k < ns.length
    · refine iteB (decide_eq_true (by omega)) ?_
      walk_at "rd"
      refine ⟨_, _, _, _, rfl, rfl, hs, atI_nat (by rw [List.getElem?_map, List.getElem?_eq_getElem h]; rfl), ?_⟩
      exact q _
    · refine iteC (decide_eq_false (by omega)) ?_
      walk_at "rd"
      exact q _
def sp__law_store : Sp := fun vs H Q _ => ∃ c : Int, vs = [.int c] ∧ ∀ (H' : Hp) (p : Addr) (g x : Int), Same H H' → H p = none → H' p = some (.lst [.int g, .int x, .int 1]) → Q (.ref p) H'
theorem ok__law_store (D : Df K mg "_law_store" s__law_store ["cell"]) (T : Txt K mg) : G' P w K mg base "_law_store" 1 ["cell"] sp__law_store := by
  refine D.ok fun f fd F => F.okX sc__law_store (fun vs H Q E h => ?_) (fun cdv A outer s H vs Q E hr h => ?_)
  · obtain ⟨c, rfl, _⟩ := h
    rfl
  · obtain ⟨c, rfl, q⟩ := h
    refine ⟨_, (pss_cons (ps_set (i := 1) sc__law_store.nd rfl (by first | exact Or.inl rfl | exact Or.inr rfl) pe_int)
  (pss_cons (ps_if (pt_cmpR op_ge (pv 0) (pe_op op_pow pe_int pe_int) (nomark _)) (pss_one (ps_set (i := 1) sc__law_store.nd rfl (by first | exact Or.inl rfl | exact Or.inr rfl) (pv 0))) pss_nil)
  (pss_one (ps_ret (pe_lst (pa_cons (pv 1) (pa_cons (pe_op op_mod (pv 0) pe_int) (pa_cons pe_int pa_nil)))))))), ?_⟩
    walk_at "rd"
    have fin : ∀ (g : Int) (p : Addr), H p = none → Q (.ref p) (upd H p (.lst [.int g, .int (c % 2147483629), .int 1])) := fun g p np => q _ p _ _ (same_new np) np upd_same
    by_cases h : c ≥ 1000000000000000000
    · refine iteB (decide_eq_true (by first | exact h | omega)) ?_
      walk_at "rd"
      exact ⟨(by walk_at "sz"), fun p np => fin _ p np⟩
    · refine iteC (decide_eq_false (by first | exact h | omega)) ?_
      walk_at "rd"
      exact ⟨(by walk_at "sz"), fun p np => fin _ p np⟩
/-- the store of draws -/
def StoreAt (H : Hp) (s : Addr) : Prop := ∃ g x n : Int, H s = some (.lst [.int g, .int x, .int n])
def sp__law_take : Sp := fun vs H Q _ => ∃ (s : Addr) (m : Int), vs = [.ref s, .int m] ∧ StoreAt H s ∧ 1 ≤ m ∧ m ≤ 1000000 ∧ ∀ (H' : Hp) (r : Int), Keep [s] H H' → StoreAt H' s → 0 ≤ r → r < m → Q (.int r) H'
theorem ok__law_take (D : Df K mg "_law_take" s__law_take ["store", "many"]) (T : Txt K mg) : G' P w K mg base "_law_take" 1 ["store", "many"] sp__law_take := by
  refine D.ok fun f fd F => F.okX sc__law_take (fun vs H Q E h => ?_) (fun cdv A outer s H vs Q E hr h => ?_)
  · obtain ⟨s, m, rfl, _⟩ := h
    rfl
  · obtain ⟨st, m, rfl, ⟨g, x, n, hst⟩, h1, h2, q⟩ := h
    refine ⟨_, (pss_cons (ps_if (pt_cmpR op_gt (pe_ix (ix_listK K) (pv 0) pe_int (fun _ _ => rfl)) pe_int (nomark _)) (pss_cons (ps_set (i := 2) sc__law_take.nd rfl (by first | exact Or.inl rfl | exact Or.inr rfl) (pe_op op_mod (pe_ix (ix_listK K) (pv 0) pe_int (fun _ _ => rfl)) (pv 1)))
  (pss_cons (ps_asg (pe_op op_fdiv (pe_ix (ix_listK K) (pv 0) pe_int (fun _ _ => rfl)) (pv 1)) (pg_sub (pv 0) pe_int set_list))
  (pss_one (ps_ret (pv 2))))) pss_nil)
  (pss_cons (ps_asg (pe_op op_add (pe_ix (ix_listK K) (pv 0) pe_int (fun _ _ => rfl)) pe_int) (pg_sub (pv 0) pe_int set_list))
  (pss_cons (ps_set (i := 3) sc__law_take.nd rfl (by first | exact Or.inl rfl | exact Or.inr rfl) (pe_op op_mod (pe_op op_mul (pe_op op_add (pe_ix (ix_listK K) (pv 0) pe_int (fun _ _ => rfl)) (pe_op op_mul pe_int (pe_ix (ix_listK K) (pv 0) pe_int (fun _ _ => rfl)))) pe_int) pe_int))
  (pss_cons (ps_set (i := 3) sc__law_take.nd rfl (by first | exact Or.inl rfl | exact Or.inr rfl) (pe_op op_mod (pe_op op_mul (pv 3) (pv 3)) pe_int))
  (pss_cons (ps_set (i := 3) sc__law_take.nd rfl (by first | exact Or.inl rfl | exact Or.inr rfl) (pe_op op_mod (pe_op op_mul (pe_op op_add (pv 3) (pe_op op_mul pe_int (pe_ix (ix_listK K) (pv 0) pe_int (fun _ _ => rfl)))) pe_int) pe_int))
  (pss_one (ps_ret (pe_op op_mod (pe_op op_fdiv (pv 3) pe_int) (pv 1))))))))), ?_⟩
    walk_at "rd"
    by_cases h : g > 0
    · refine iteB (decide_eq_true (by omega)) ?_
      walk_at "rd"
      exact q _ _ ((Keep.refl _ _).upd (by simp) hst) ⟨_, _, _, upd_same⟩ (Int.emod_nonneg _ (by omega)) (Int.emod_lt_of_pos _ (by omega))
    · refine iteC (decide_eq_false (by omega)) ?_
      walk_at "rd"
      exact q _ _ ((Keep.refl _ _).upd (by simp) hst) ⟨_, _, _, upd_same⟩ (Int.emod_nonneg _ (by omega)) (Int.emod_lt_of_pos _ (by omega))
end
end Hy
set_option Elab.async false
set_option linter.all false
set_option maxRecDepth 100000
set_option maxHeartbeats 4000000
namespace Hy
open PySem L2
local macro_rules | `(tactic| walk_at "hp") => `(tactic| first
  | assumption | exact upd_same
  | (refine (upd_ne ?_).trans ?_ <;> first | assumption | (exact Ne.symm (by assumption)) | walk_at "ne" | walk_at "hp")
  | (refine (by assumption : Same _ _) _ _ ?_; assumption))
local macro_rules | `(tactic| walk_at "ne") => `(tactic| first
  | assumption | (exact Ne.symm (by assumption))
  | exact ne_of_none (by assumption) (by assumption) | exact Ne.symm (ne_of_none (by assumption) (by assumption)))
local macro_rules | `(tactic| walk_at "sz") => `(tactic| first | assumption | (show 0 ≤ sizeLine; decide) | (show 1 ≤ sizeLine; decide) | (show 2 ≤ sizeLine; decide) | (show 3 ≤ sizeLine; decide))
local macro_rules | `(tactic| walk_at "ar") => `(tactic| first
  | ((with_reducible show (0 : Int) < _); first | decide | omega)
  | ((with_reducible show CMul _ _); first | exact Or.inr (And.intro (by decide) (by decide)) | exact Or.inl (And.intro (by decide) (by decide)) | (refine Or.inl (And.intro ?_ ?_) <;> omega) | (refine Or.inr (And.intro ?_ ?_) <;> omega))
  | ((with_reducible show CPow _ _); exact And.intro (by decide) (And.intro (by decide) (by decide)))
  | ((with_reducible show CDiv _ _); first | exact And.intro (by decide) (by decide) | (refine And.intro ?_ ?_ <;> omega)))
/- one step of a reading -/
local macro_rules | `(tactic| walk_at "r1") => `(tactic| first
  | refine ⟨_, rfl, ?_⟩
  | refine iteB (by rfl) ?_ | refine iteC (by rfl) ?_
  | refine ⟨_, _, rfl, rfl, ?_⟩
  | refine ⟨rfl, ?_⟩
  | refine ⟨⟨_, rfl⟩, ?_⟩
  | refine ⟨_, _, _, _, true, rfl, .ty _, .base (.str _), kit_ty (by decide +kernel), ?_⟩
  | refine ⟨_, _, _, _, false, rfl, .ty _, .base (.str _), kit_ty (by decide +kernel), ?_⟩
  | refine ⟨_, _, _, _, true, rfl, .ty _, .base (.tup (by walk_at "hp")), kit_ty (by decide +kernel), ?_⟩
  | refine ⟨_, _, _, _, false, rfl, .ty _, .base (.tup (by walk_at "hp")), kit_ty (by decide +kernel), ?_⟩
  | refine ⟨_, _, _, _, true, rfl, .ty _, .base (.lst (by walk_at "hp")), kit_ty (by decide +kernel), ?_⟩
  | refine ⟨_, _, _, _, false, rfl, .ty _, .base (.lst (by walk_at "hp")), kit_ty (by decide +kernel), ?_⟩
  | refine ⟨_, _, rfl, ⟨by walk_at "sz", rfl⟩, ?_⟩
  | refine ⟨_, _, _, _, rfl, rfl, SqT.of (by walk_at "hp"), by rfl, ?_⟩
  | refine ⟨_, _, _, _, rfl, rfl, SqL.of (by walk_at "hp"), by rfl, ?_⟩
  | refine ⟨.inl ⟨rfl, _, SqL.of (by walk_at "hp")⟩, ?_⟩
  | refine ⟨_, _, _, rfl, rfl, (by walk_at "hp"), snoc_get, ?_⟩
  | refine ⟨_, _, _, _, rfl, rfl, (by walk_at "hp"), by rfl, ?_⟩
  | refine ⟨_, _, rfl, SqL.of (by walk_at "hp"), ?_⟩
  | refine ⟨_, _, rfl, SqT.of (by walk_at "hp"), by rfl, ?_⟩
  | refine ⟨_, (_ : List V), rfl, ?_⟩
  | refine ⟨_, _, rfl, .inl ⟨_, (by assumption), rfl⟩, ?_⟩
  | refine ⟨_, _, rfl, .inl ⟨_, SqL.of (by walk_at "hp"), rfl⟩, ?_⟩
  | refine ⟨_, _, rfl, .inr ⟨_, SqT.of (by walk_at "hp"), rfl⟩, ?_⟩
  | refine Or.inl ⟨(_ : Int), rfl, ?_⟩ | refine Or.inr ⟨(_ : Bool), rfl, ?_⟩
  | refine And.intro (by walk_at "ar") ?_)
local macro_rules | `(tactic| walk_at "rd") => `(tactic| repeat walk_at "r1")

/-! data of trees, to be sorted -/
mutual
theorem alike_tr : ∀ a b : Tr, PySem.W.alike a.toD b.toD = true
  | .node c ts, .node d us => by simp [Tr.toD, PySem.W.alike, PySem.W.alikeAll, alike_trs ts us]
theorem alike_trs : ∀ a b : List Tr, PySem.W.alikeAll (Tr.toDs a) (Tr.toDs b) = true
  | [], _ => by simp [Tr.toDs, PySem.W.alikeAll]
  | _ :: _, [] => by simp [Tr.toDs, PySem.W.alikeAll]
  | x :: a, y :: b => by simp [Tr.toDs, PySem.W.alikeAll, alike_tr x y, alike_trs a b]
end
def ffD (t : Tr) : PyData := .tuple [.str (txS t.W), t.toD]
theorem alike_ff (a b : Tr) : PySem.W.alike (ffD a) (ffD b) = true := by simp [ffD, PySem.W.alike, PySem.W.alikeAll, alike_tr]
theorem le_ff {a b : Tr} {x y : V} (h : PySem.W.dataLe false (fun p : V × PyData => p.2) (x, ffD a) (y, ffD b) = true) : leW a b = true := by
  have h' : (!PySem.W.dataLt (ffD b) (ffD a)) = true := h
  unfold ffD at h'
  rw [PySem.W.dataLt_pair (by simp [PySem.W.alike]) (alike_tr _ _)] at h'
  unfold leW
  by_cases e : PyData.eqv (.str (txS b.W)) (.str (txS a.W)) = true
  · have e' : txS b.W = txS a.W := by simpa [PyData.eqv] using e
    have e2 : b.W = a.W := by simpa using congrArg (fun s : Str => s.cps.toList) e'
    rw [e2]
    exact decide_eq_true (List.le_refl _)
  · rw [if_neg e, PySem.W.dataLt_str] at h'
    have h2 : ¬ (b.W < a.W) := by simpa using h'
    exact decide_eq_true (List.not_lt.mp h2)
theorem ffD_depth (t : Tr) : (ffD t).depth = 2 * t.dep + 1 := by
  simp only [ffD, PyData.depth, PyData.depthAll, Tr.toD_depth]
  omega
section
variable {P : Program} {w : World} {K : PySem.W.Frag} {mg : Str → Option Value} {base : Heap}
abbrev s__law_formed : Stmt := top 19
theorem sc__law_formed : FnScope ["tree", "children", "child", "inner", "more", "writing"] ["tree"] (defScope s__law_formed) := ⟨rfl, rfl, rfl, by decide +kernel, rfl, by decide +kernel, by decide +kernel⟩

def LetS (zl : List Nat) : Prop := zl ≠ [] ∧ zl.length ≤ 26 ∧ ∀ c ∈ zl, isL c = true
def LETL : List Nat := [97, 98, 99, 100, 101, 102, 103, 104, 105, 106, 107, 108, 109, 110, 111, 112, 113, 114, 115, 116, 117, 118, 119, 120, 121, 122]
theorem letL_ok : LetS LETL := ⟨by decide, by decide, by decide⟩
def sp__law_formed (n : Nat) : Sp := fun vs H Q _ => ∃ v t as, vs = [v] ∧ TF H t v as ∧ t.ok = true ∧ t.size ≤ 30000 ∧ t.dep ≤ n ∧ t.dep ≤ 90 ∧
  ∀ (H' : Hp) (v' : V) (as' : List Addr), Same H H' → FF H' t.form v' as' → (∀ a ∈ as', H a = none) → Q v' H'
theorem ok__law_formed (D : Df K mg "_law_formed" s__law_formed ["tree"]) (T : Txt K mg) : ∀ n, G' P w K mg base "_law_formed" (n + 1) ["tree"] (sp__law_formed n)
  | 0 => by
    refine D.ok fun f fd F => F.okX sc__law_formed (fun vs H Q E h => ?_) (fun cdv A outer s H vs Q E hr h => ?_)
    · obtain ⟨v, t, as, rfl, _⟩ := h
      rfl
    · obtain ⟨v, t, as, rfl, _, _, _, hd, _⟩ := h
      cases t
      simp [Tr.dep] at hd
  | n + 1 => by
    have G__law_formed := ok__law_formed D T n
    refine D.ok fun f fd F => F.okX sc__law_formed (fun vs H Q E h => ?_) (fun cdv A outer s H vs Q E hr h => ?_)
    · obtain ⟨v, t, as, rfl, _⟩ := h
      rfl
    · obtain ⟨v, t, as, rfl, ht, hok, hsz, hd, hd2, k⟩ := h
      obtain ⟨a, l, ps, ha, hl, hp, et, rfl, has⟩ := ht.out
      refine ⟨_, (pss_cons (ps_set (i := 1) sc__law_formed.nd rfl (by first | exact Or.inl rfl | exact Or.inr rfl) (pe_callB (cr_sortedDK K hr) (by rfl) T.n_sorted (by decide +kernel) (pa_cons (pe_lc (own := [("child", 2)]) rfl sc__law_formed.nd (pi_listK K (pe_ix (ix_tupK K) (pv 0) pe_int (fun _ _ => rfl))) (blkOk_by (own := [("child", 2)]) (N := ["tree", "children", "child", "inner", "more", "writing"]) (sc := defScope s__law_formed) (by decide +kernel)) (fun _ _ _ _ _ => (pg_name (i := 2) sc__law_formed.nd rfl (by first | exact Or.inl rfl | exact Or.inr rfl))) (fun _ _ _ _ _ => pts_nil) (fun _ _ _ _ _ => (pe_cl G__law_formed (hr.mono (by omega)) passF (pa_cons (pv 2) pa_nil)))) pa_nil)))
  (pss_cons (ps_set (i := 3) sc__law_formed.nd rfl (by first | exact Or.inl rfl | exact Or.inr rfl) (pe_join pe_str (pe_lc (own := [("more", 4), ("child", 2)]) (g := (gTup K 2 (gCons (gName 4) (gCons (gName 2) gNil)))) rfl sc__law_formed.nd (pi_listK K (pv 1)) (blkOk_by (own := [("more", 4), ("child", 2)]) (N := ["tree", "children", "child", "inner", "more", "writing"]) (sc := defScope s__law_formed) (by decide +kernel)) (fun _ _ _ _ _ => (pg_tup (by rfl) (pgs_cons (pg_name (i := 4) sc__law_formed.nd rfl (by first | exact Or.inl rfl | exact Or.inr rfl)) (pgs_cons (pg_name (i := 2) sc__law_formed.nd rfl (by first | exact Or.inl rfl | exact Or.inr rfl)) pgs_nil)))) (fun _ _ _ _ _ => pts_nil) (fun _ _ _ _ _ => (pv 4)))))
  (pss_cons (ps_set (i := 5) sc__law_formed.nd rfl (by first | exact Or.inl rfl | exact Or.inr rfl) (pe_op op_add_str (pe_ix (ix_tupK K) (pv 0) pe_int (fun _ _ => rfl)) (pe_ix (ix_listK K) (pe_lst (pa_cons pe_str (pa_cons (pe_op op_add_str (pe_op op_add_str pe_str (pv 3)) pe_str) pa_nil))) (pe_callTy call_int1 (by rfl) T.n_int (by decide +kernel) (pa_cons (pe_cmpR op_ne (pv 3) pe_str (nomark _)) pa_nil)) (fun _ _ => rfl))))
  (pss_one (ps_ret (pe_tup (pa_cons (pv 5) (pa_cons (pe_tup (pa_cons (pe_ix (ix_tupK K) (pv 0) pe_int (fun _ _ => rfl)) (pa_cons (pe_lc (own := [("more", 4), ("child", 2)]) (g := (gTup K 2 (gCons (gName 4) (gCons (gName 2) gNil)))) rfl sc__law_formed.nd (pi_listK K (pv 1)) (blkOk_by (own := [("more", 4), ("child", 2)]) (N := ["tree", "children", "child", "inner", "more", "writing"]) (sc := defScope s__law_formed) (by decide +kernel)) (fun _ _ _ _ _ => (pg_tup (by rfl) (pgs_cons (pg_name (i := 4) sc__law_formed.nd rfl (by first | exact Or.inl rfl | exact Or.inr rfl)) (pgs_cons (pg_name (i := 2) sc__law_formed.nd rfl (by first | exact Or.inl rfl | exact Or.inr rfl)) pgs_nil)))) (fun _ _ _ _ _ => pts_nil) (fun _ _ _ _ _ => (pv 2))) pa_nil))) pa_nil)))))))), ?_⟩
      walk_at "rd"
      have hpl := Tr.sizes_len (ps.map (·.2.1))
      rw [List.length_map, ← et] at hpl
      have hsz' : 1 + Tr.sizes t.ts ≤ 30000 := by
        rw [t.eta, Tr.size] at hsz
        exact hsz
      have hok' : isL t.c = true ∧ Tr.oks t.ts = true := by
        rw [t.eta, Tr.ok, Bool.and_eq_true] at hok
        exact hok
      have hdep' : 1 + Tr.deps t.ts = t.dep := by
        cases t
        rfl
      refine ⟨⟨_, SqL.of hl⟩, fun D0 nD => lc_list (xs := ps.map (·.1)) (fun i H' => Same H H' ∧ ∃ us : List Fp, H' D0 = some (.lst (us.map Fp.v)) ∧ us.map Fp.t = (ps.take i).map (fun p => p.2.1.form) ∧ ∀ u ∈ us, FF H' u.t u.v u.as ∧ D0 ∉ u.as ∧ ∀ a ∈ u.as, H a = none)
        ⟨same_new nD, [], upd_same, by simp, fun u hu => by cases hu⟩ (fun i H' _ h => SqL.of (h.1 _ _ hl)) ?_ ?_⟩
      · rintro i x H2 hx ⟨S2, us, hD, hus, huF⟩
        rw [List.getElem?_map] at hx
        obtain ⟨⟨qv, q, qa⟩, hi, rfl⟩ := Option.map_eq_some_iff.mp hx
        have hqm := List.mem_of_getElem? hi
        have hqt : q ∈ t.ts := by rw [et]; exact List.mem_map.mpr ⟨_, hqm, rfl⟩
        have hqd := Tr.deps_mem hqt
        have hqs := Tr.sizes_mem hqt
        have hul : us.length = (ps.take i).length := by
          have z := congrArg List.length hus
          rw [List.length_map, List.length_map] at z
          exact z
        walk_at "rd"
        refine ⟨_, q, qa, rfl, (hp _ hqm).same S2, Tr.oks_iff.mp hok'.2 q hqt, by omega, by omega, by omega, fun H3 v' as' S3 hF hfr => ?_⟩
        refine ⟨_, S3 _ _ hD, ?_, Same.upd_own (S2.trans S3) nD, us ++ [(v', q.form, as')], by rw [upd_same, List.map_append]; rfl, ?_, fun u hu => ?_⟩
        · rw [List.length_map, hul, List.length_take]
          exact Nat.lt_of_le_of_lt (Nat.le_trans (Nat.min_le_right _ _) (show ps.length ≤ 100000 by omega)) (by decide)
        · rw [List.map_append, hus, take_snoc hi, List.map_append]
          rfl
        · have kk : Keep [D0] H3 (upd H3 D0 (.lst (us.map Fp.v ++ [v']))) := (Keep.refl _ _).upd (by simp) (S3 _ _ hD)
          have nD2 : D0 ∉ as' := fun z => by
            have q := hfr D0 z
            rw [hD] at q
            cases q
          rcases List.mem_append.mp hu with hu | hu
          · obtain ⟨u1, u2, u3⟩ := huF u hu
            exact ⟨(u1.same S3).keep kk fun b hb z => u2 (by rw [← List.mem_singleton.mp z]; exact hb), u2, u3⟩
          · obtain rfl := List.mem_singleton.mp hu
            exact ⟨hF.keep kk fun b hb z => nD2 (by rw [← List.mem_singleton.mp z]; exact hb), nD2, fun a ha => S2.free (hfr a ha)⟩
      · rintro H2 ⟨S2, us, hD, hus, huF⟩
        rw [List.length_map, List.take_length] at hus
        have hff : us.map Fp.t = Tr.forms t.ts := by
          rw [hus, Tr.forms_map, et, List.map_map]
          rfl
        have hul : us.length = ps.length := by
          have z := congrArg List.length hus
          rw [List.length_map, List.length_map] at z
          exact z
        have htold : Tr.tolds (Tr.forms t.ts) := Tr.forms_told _ hok'.2
        walk_at "rd"
        refine ⟨D0, us.map fun u => (u.v, ffD u.t), rfl, SqL.of (by rw [hD, List.map_map]; rfl), ?_, ?_, ?_, fun p np => ?_⟩
        · intro q hq
          obtain ⟨u, hu, rfl⟩ := List.mem_map.mp hq
          refine ⟨(huF u hu).1.dp, ?_⟩
          have z : u.t ∈ Tr.forms t.ts := by rw [← hff]; exact List.mem_map_of_mem hu
          have z2 := Tr.deps_mem z
          rw [Tr.forms_deps] at z2
          rw [ffD_depth]
          omega
        · intro a ha b hb
          simp only [List.map_map, List.mem_map] at ha hb
          obtain ⟨_, _, rfl⟩ := ha
          obtain ⟨_, _, rfl⟩ := hb
          exact alike_ff _ _
        · refine .inl fun a ha => ?_
          simp only [List.map_map, List.mem_map] at ha
          obtain ⟨_, _, rfl⟩ := ha
          exact ⟨_, _, rfl⟩
        rw [← PySem.W.sort_maps (r := fun u w : Fp => PySem.W.dataLe false (fun p : V × PyData => p.2) (u.v, ffD u.t) (w.v, ffD w.t)) _ (fun _ _ _ _ => rfl)]
        have hpw := PySem.W.sort_pairwise (le := fun u w : Fp => PySem.W.dataLe false (fun p : V × PyData => p.2) (u.v, ffD u.t) (w.v, ffD w.t)) (dataLe_total fun u : Fp => ffD u.t) us
        have hqp : (us.mergeSort fun u w : Fp => PySem.W.dataLe false (fun p : V × PyData => p.2) (u.v, ffD u.t) (w.v, ffD w.t)).Perm us := List.mergeSort_perm _ _
        generalize us.mergeSort _ = qs at hpw hqp ⊢
        have hsr : SrtW (qs.map Fp.t) := List.pairwise_map.mpr (hpw.imp fun h => le_ff h)
        have heq : qs.map Fp.t = sortT (Tr.forms t.ts) := by
          have pm := hqp.map Fp.t
          rw [hff] at pm
          exact srt_uniq hsr (sortT_srt _) (pm.trans (sortT_perm _).symm) (Tr.tolds_iff.mpr fun t ht => Tr.tolds_iff.mp htold t (pm.mem_iff.mp ht))
        have hform : Tr.node t.c (qs.map Fp.t) = t.form := by
          rw [heq]
          cases t
          rfl
        have hql : qs.length ≤ 100000 := by rw [hqp.length_eq]; omega
        rw [List.map_map]
        generalize e3 : upd H2 p _ = H3
        obtain ⟨S23, hp3'⟩ := newF np e3
        have hp3 : H3 p = some (.lst (qs.map Fp.v)) := hp3'
        have S3 : Same H H3 := S2.trans S23
        have hqF : ∀ q ∈ qs, FF H3 q.t q.v q.as := fun q hq => (huF q (hqp.mem_iff.mp hq)).1.same S23
        have hW : (((qs.map Fp.t).map Tr.W).flatten).length ≤ 90000 := by
          rw [← Tr.Ws_flat]
          refine Nat.le_trans (Tr.Ws_len _) ?_
          rw [heq, Tr.sizes_perm (sortT_perm _), Tr.forms_sizes]
          omega
        walk_at "rd"
        refine lc_more (a := 4) (b := 2) (qs := qs) (show 4 < 6 by decide) (show 2 < 6 by decide) (by decide) hp3 hqF hql fun D1 H4 S34 nD1 hD1 => ?_
        have eW : (qs.map fun q => tx q.t.W) = (((qs.map Fp.t).map Tr.W).map txS).map V.str := by rw [List.map_map, List.map_map, List.map_map]; rfl
        rw [eW] at hD1
        walk_at "rd"
        refine ⟨txS [], D1, (((qs.map Fp.t).map Tr.W).map txS), rfl, rfl, .inl (SqL.of hD1), ?_, ?_⟩
        · have e : ((((qs.map Fp.t).map Tr.W).map txS).map (·.length)).sum = (((qs.map Fp.t).map Tr.W).flatten).length := by
            rw [List.map_map, List.length_flatten]
            congr 1
          rw [e]
          show _ + _ * 0 ≤ 16777216
          omega
        rw [join_nil]
        generalize hwl : ((qs.map Fp.t).map Tr.W).flatten = wl at hW ⊢
        have S34' : Same H2 H4 := S23.trans S34
        have ha4 : H4 a = some (.tup [.str ⟨#[t.c]⟩, .ref l]) := (S2.trans S34') _ _ ha
        have e40 : PySem.Str.ofString "(" = txS [40] := by decide +kernel
        have e41 : PySem.Str.ofString ")" = txS [41] := by decide +kernel
        have e00 : PySem.Str.ofString "" = txS [] := by decide +kernel
        rw [e40, e41, e00]
        walk_at "rd"
        refine ⟨?_, ?_⟩
        · show (txS [40]).length + _ ≤ _
          rw [txS_len, txS_len]
          exact Nat.le_trans (show _ ≤ 400000 by show 1 + _ ≤ _; omega) (by decide)
        rw [txS_app]
        walk_at "rd"
        refine ⟨?_, ?_⟩
        · rw [txS_len, txS_len]
          exact Nat.le_trans (show _ ≤ 400000 by rw [List.length_append]; show 1 + _ + 1 ≤ _; omega) (by decide)
        rw [txS_app]
        walk_at "rd"
        refine ⟨(by walk_at "sz"), fun p4 n4 => ?_⟩
        generalize e5 : upd H4 p4 _ = H5
        obtain ⟨S45, hp5⟩ := newF n4 e5
        have ha5 := S45 _ _ ha4
        have hp35 : H5 p = some (.lst (qs.map Fp.v)) := S45 _ _ (S34 _ _ hp3)
        have S35 : Same H3 H5 := S34.trans S45
        have S5 : Same H H5 := S3.trans S35
        have hWt : t.form.W = if qs = [] then [t.c] else [t.c] ++ ([40] ++ wl ++ [41]) := by
          rw [← hform, ← hwl]
          by_cases hq : qs = []
          · rw [if_pos hq, hq]
            exact Tr.W_leaf _
          · rw [if_neg hq, Tr.W_node _ (by simpa using hq), Tr.Ws_flat]
            simp
        have hwle : wl = [] ↔ qs = [] := by
          rw [← hwl]
          constructor
          · intro h
            cases qs with
            | nil => rfl
            | cons q r =>
              have z := Tr.W_len1 q.t
              rw [List.map_cons, List.map_cons, List.flatten_cons, List.append_eq_nil_iff] at h
              rw [show Fp.t q = q.t from rfl] at h
              rw [h.1] at z
              simp at z
          · intro h
            rw [h]
            rfl
        /- the last part -/
        have fin : ∀ (z : List Nat), z = t.form.W → ∀ (D : Addr) (H6 : Hp) (us' : List Fp), Same H5 H6 → H5 D = none → H6 D = some (.lst (us'.map Fp.v)) → us'.map Fp.t = qs.map Fp.t → us'.map Fp.as = qs.map Fp.as → (∀ u ∈ us', TF H5 u.t u.v u.as) →
            ∀ t2, H6 t2 = none → ∀ t3, upd H6 t2 (.tup [.str ⟨#[t.c]⟩, .ref D]) t3 = none → Q (.ref t3) (upd (upd H6 t2 (.tup [.str ⟨#[t.c]⟩, .ref D])) t3 (.tup [tx z, .ref t2])) := by
          intro z hz D H6 us' S56 nD6 hD6 e1 e2 hu' t2 n2 t3 n3
          have n23 : t3 ≠ t2 := fun q => by rw [q, upd_same] at n3; cases n3
          have Sa : Same H6 (upd (upd H6 t2 (.tup [.str ⟨#[t.c]⟩, .ref D])) t3 (.tup [tx z, .ref t2])) := Same.upd_new (same_new n2) n3
          refine k _ _ (D :: qs.flatMap Fp.as) ((S5.trans S56).trans Sa) ⟨t3, .ref t2, rfl, by rw [upd_same, hz], ?_⟩ ?_
          · rw [← hform]
            refine .mk t2 D us' (by rw [upd_ne n23.symm, upd_same]; rfl) (Sa _ _ hD6) (fun u hu => ((hu' u hu).same S56).same Sa) e1.symm rfl ?_
            rw [List.flatMap_def, List.flatMap_def]
            show D :: (qs.map Fp.as).flatten = D :: (us'.map Fp.as).flatten
            rw [e2]
          · intro b hb
            rcases List.mem_cons.mp hb with rfl | hb
            · exact S5.free nD6
            · obtain ⟨q, hq, hb⟩ := List.mem_flatMap.mp hb
              exact (huF q (hqp.mem_iff.mp hq)).2.2 b hb
        have hqF5 : ∀ q ∈ qs, FF H5 q.t q.v q.as := fun q hq => (hqF q hq).same S35
        walk_at "rd"
        by_cases hq : qs = []
        · have hw0 : wl = [] := hwle.mpr hq
          subst hw0
          walk_at "rd"
          refine ⟨by show 1 + 0 ≤ sizeLine; decide, ?_⟩
          have e1 : (⟨#[t.c]⟩ : Str) ++ txS [] = txS [t.c] := txS_app [t.c] []
          rw [e1]
          walk_at "rd"
          refine lc_child (a := 4) (b := 2) (qs := qs) (show 4 < 6 by decide) (show 2 < 6 by decide) (by decide) hp35 hqF5 hql fun D H6 us' S56 nD6 hD6 e1 e2 hu' => ?_
          refine ⟨(by walk_at "sz"), fun t2 n2 => ⟨(by walk_at "sz"), fun t3 n3 => ?_⟩⟩
          exact fin _ (by rw [hWt, if_pos hq]) D H6 us' S56 nD6 hD6 e1 e2 hu' t2 n2 t3 n3
        · have hw0 : wl ≠ [] := fun h => hq (hwle.mp h)
          have ed : decide (V.str (txS wl) = V.str (txS [])) = false := decide_eq_false fun z => hw0 (tx_inj z)
          rw [ed]
          walk_at "rd"
          refine ⟨?_, ?_⟩
          · show (txS [t.c]).length + _ ≤ _
            rw [txS_len, txS_len]
            exact Nat.le_trans (show _ ≤ 400000 by rw [List.length_append, List.length_append]; show 1 + (1 + _ + 1) ≤ _; omega) (by decide)
          have e1 : (⟨#[t.c]⟩ : Str) ++ txS ([40] ++ wl ++ [41]) = txS ([t.c] ++ ([40] ++ wl ++ [41])) := txS_app [t.c] _
          rw [e1]
          walk_at "rd"
          refine lc_child (a := 4) (b := 2) (qs := qs) (show 4 < 6 by decide) (show 2 < 6 by decide) (by decide) hp35 hqF5 hql fun D H6 us' S56 nD6 hD6 e1 e2 hu' => ?_
          refine ⟨(by walk_at "sz"), fun t2 n2 => ⟨(by walk_at "sz"), fun t3 n3 => ?_⟩⟩
          exact fin _ (by rw [hWt, if_neg hq]) D H6 us' S56 nD6 hD6 e1 e2 hu' t2 n2 t3 n3
end
end Hy
set_option Elab.async false
set_option linter.all false
set_option maxRecDepth 100000
set_option maxHeartbeats 4000000
namespace Hy
open PySem L2
local macro_rules | `(tactic| walk_at "hp") => `(tactic| first
  | assumption | exact upd_same
  | (refine (upd_ne ?_).trans ?_ <;> first | assumption | (exact Ne.symm (by assumption)) | walk_at "ne" | walk_at "hp")
  | (refine (by assumption : Same _ _) _ _ ?_; assumption))
local macro_rules | `(tactic| walk_at "ne") => `(tactic| first
  | assumption | (exact Ne.symm (by assumption))
  | exact ne_of_none (by assumption) (by assumption) | exact Ne.symm (ne_of_none (by assumption) (by assumption)))
local macro_rules | `(tactic| walk_at "sz") => `(tactic| first | assumption | (show 0 ≤ sizeLine; decide) | (show 1 ≤ sizeLine; decide) | (show 2 ≤ sizeLine; decide) | (show 3 ≤ sizeLine; decide))
local macro_rules | `(tactic| walk_at "ar") => `(tactic| first
  | ((with_reducible show (0 : Int) < _); first | decide | omega)
  | ((with_reducible show CMul _ _); first | exact Or.inr (And.intro (by decide) (by decide)) | exact Or.inl (And.intro (by decide) (by decide)) | (refine Or.inl (And.intro ?_ ?_) <;> omega) | (refine Or.inr (And.intro ?_ ?_) <;> omega))
  | ((with_reducible show CPow _ _); exact And.intro (by decide) (And.intro (by decide) (by decide)))
  | ((with_reducible show CDiv _ _); first | exact And.intro (by decide) (by decide) | (refine And.intro ?_ ?_ <;> omega)))
/- one step of a reading -/
local macro_rules | `(tactic| walk_at "r1") => `(tactic| first
  | refine ⟨_, rfl, ?_⟩
  | refine iteB (by rfl) ?_ | refine iteC (by rfl) ?_
  | refine ⟨_, _, rfl, rfl, ?_⟩
  | refine ⟨rfl, ?_⟩
  | refine ⟨⟨_, rfl⟩, ?_⟩
  | refine ⟨_, _, _, _, true, rfl, .ty _, .base (.str _), kit_ty (by decide +kernel), ?_⟩
  | refine ⟨_, _, _, _, false, rfl, .ty _, .base (.str _), kit_ty (by decide +kernel), ?_⟩
  | refine ⟨_, _, _, _, true, rfl, .ty _, .base (.tup (by walk_at "hp")), kit_ty (by decide +kernel), ?_⟩
  | refine ⟨_, _, _, _, false, rfl, .ty _, .base (.tup (by walk_at "hp")), kit_ty (by decide +kernel), ?_⟩
  | refine ⟨_, _, _, _, true, rfl, .ty _, .base (.lst (by walk_at "hp")), kit_ty (by decide +kernel), ?_⟩
  | refine ⟨_, _, _, _, false, rfl, .ty _, .base (.lst (by walk_at "hp")), kit_ty (by decide +kernel), ?_⟩
  | refine ⟨_, _, rfl, ⟨by walk_at "sz", rfl⟩, ?_⟩
  | refine ⟨_, _, _, _, rfl, rfl, SqT.of (by walk_at "hp"), by rfl, ?_⟩
  | refine ⟨_, _, _, _, rfl, rfl, SqL.of (by walk_at "hp"), by rfl, ?_⟩
  | refine ⟨.inl ⟨rfl, _, SqL.of (by walk_at "hp")⟩, ?_⟩
  | refine ⟨_, _, _, rfl, rfl, (by walk_at "hp"), snoc_get, ?_⟩
  | refine ⟨_, _, _, _, rfl, rfl, (by walk_at "hp"), by rfl, ?_⟩
  | refine ⟨_, _, rfl, SqL.of (by walk_at "hp"), ?_⟩
  | refine ⟨_, _, rfl, SqT.of (by walk_at "hp"), by rfl, ?_⟩
  | refine ⟨_, (_ : List V), rfl, ?_⟩
  | refine ⟨_, _, rfl, .inl ⟨_, (by assumption), rfl⟩, ?_⟩
  | refine ⟨_, _, rfl, .inl ⟨_, SqL.of (by walk_at "hp"), rfl⟩, ?_⟩
  | refine ⟨_, _, rfl, .inr ⟨_, SqT.of (by walk_at "hp"), rfl⟩, ?_⟩
  | refine Or.inl ⟨(_ : Int), rfl, ?_⟩ | refine Or.inr ⟨(_ : Bool), rfl, ?_⟩
  | refine And.intro (by walk_at "ar") ?_)
local macro_rules | `(tactic| walk_at "rd") => `(tactic| repeat walk_at "r1")

def Bn : Nat → Nat
  | 0 => 0
  | n + 1 => 1 + 3 * Bn n
theorem let_at {zl : List Nat} (h : LetS zl) {r : Int} (h0 : 0 ≤ r) (h1 : r < zl.length) : ∃ c, atI (txS zl).cps.toList r = some c ∧ isL c = true := by
  have hlt : r.toNat < zl.length := by omega
  refine ⟨zl[r.toNat], ?_, h.2.2 _ (List.getElem_mem hlt)⟩
  have e : ((r.toNat : Nat) : Int) = r := by omega
  have q := atI_nat (xs := (txS zl).cps.toList) (j := r.toNat) (v := zl[r.toNat]) (by simpa using List.getElem?_eq_getElem hlt)
  rw [e] at q
  exact q
theorem store_ne {H H' : Hp} {A : List Addr} {s p : Addr} (h : StoreAt H s) (n : H p = none) : s ≠ p := by
  obtain ⟨a, b, c, e⟩ := h
  exact ne_of_none e n
theorem StoreAt.upd {H : Hp} {s p : Addr} {o : HO} (h : StoreAt H s) (n : s ≠ p) : StoreAt (upd H p o) s := by
  obtain ⟨a, b, c, e⟩ := h
  exact ⟨a, b, c, by rw [upd_ne n]; exact e⟩
theorem StoreAt.same {H H' : Hp} {s : Addr} (h : StoreAt H s) (S : Same H H') : StoreAt H' s := by
  obtain ⟨a, b, c, e⟩ := h
  exact ⟨a, b, c, S _ _ e⟩
theorem StoreAt.out {H : Hp} {s : Addr} {as : List Addr} (h : StoreAt H s) (f : ∀ a ∈ as, H a = none) : s ∉ as := fun m => by
  obtain ⟨a, b, c, e⟩ := h
  rw [f s m] at e
  cases e
theorem sizes_bound {n b : Nat} : ∀ {ts : List Tr}, (∀ t ∈ ts, t.size ≤ b) → ts.length ≤ n → Tr.sizes ts ≤ n * b
  | [], _, _ => Nat.zero_le _
  | t :: ts, h, hl => by
    cases n with
    | zero => simp at hl
    | succ n =>
      have h1 := h t List.mem_cons_self
      have h2 := sizes_bound (n := n) (fun u hu => h u (List.mem_cons_of_mem _ hu)) (by simpa using hl)
      simp only [Tr.sizes, Nat.succ_mul]
      omega
section
variable {P : Program} {w : World} {K : PySem.W.Frag} {mg : Str → Option Value} {base : Heap}
abbrev s__law_tree : Stmt := top 18
theorem sc__law_tree : FnScope ["store", "letters", "deep", "children", "k"] ["store", "letters", "deep"] (defScope s__law_tree) := ⟨rfl, rfl, rfl, by decide +kernel, rfl, by decide +kernel, by decide +kernel⟩

def sp__law_tree (n : Nat) : Sp := fun vs H Q _ => ∃ (s : Addr) (zl : List Nat) (d : Nat), vs = [.ref s, tx zl, .int (d : Int)] ∧ StoreAt H s ∧ LetS zl ∧ 1 ≤ d ∧ d ≤ n ∧ d ≤ 4 ∧
  ∀ (H' : Hp) (v : V) (t : Tr) (as : List Addr), Keep [s] H H' → StoreAt H' s → TF H' t v as → t.ok = true → t.dep ≤ d → t.size ≤ Bn d → (∀ a ∈ as, H a = none) → Q v H'
theorem ok__law_tree (D : Df K mg "_law_tree" s__law_tree ["store", "letters", "deep"]) (T : Txt K mg) (G__law_take : G' P w K mg base "_law_take" 1 ["store", "many"] sp__law_take) (G__law_formed : G' P w K mg base "_law_formed" 5 ["tree"] (sp__law_formed 4)) :
    ∀ n, G' P w K mg base "_law_tree" (n + 6) ["store", "letters", "deep"] (sp__law_tree n)
  | 0 => by
    refine D.ok fun f fd F => F.okX sc__law_tree (fun vs H Q E h => ?_) (fun cdv A outer s H vs Q E hr h => ?_)
    · obtain ⟨s, zl, d, rfl, _⟩ := h
      rfl
    · obtain ⟨s, zl, d, rfl, _, _, h1, h2, _⟩ := h
      omega
  | n + 1 => by
    have G__law_tree := ok__law_tree D T G__law_take G__law_formed n
    refine D.ok fun f fd F => F.okX sc__law_tree (fun vs H Q E h => ?_) (fun cdv A outer s H vs Q E hr h => ?_)
    · obtain ⟨s, zl, d, rfl, _⟩ := h
      rfl
    · obtain ⟨st, zl, d, rfl, hst, hzl, h1, h2, h4, k⟩ := h
      refine ⟨_, (pss_cons (ps_set (i := 3) sc__law_tree.nd rfl (by first | exact Or.inl rfl | exact Or.inr rfl) (pe_lst pa_nil))
  (pss_cons (ps_for (passes_of rfl) rfl (pi_range1 (by rfl) T.n_range (pa_cons (pe_op op_mul (pe_ix (ix_listK K) (pe_lst (pa_cons pe_int (pa_cons pe_int (pa_cons pe_int (pa_cons pe_int (pa_cons pe_int (pa_cons pe_int pa_nil))))))) (pe_cl G__law_take (hr.mono (by omega)) passF (pa_cons (pv 0) (pa_cons pe_int pa_nil))) (fun _ _ => rfl)) (pe_callTy call_int1 (by rfl) T.n_int (by decide +kernel) (pa_cons (pe_cmpR op_gt (pv 2) pe_int (nomark _)) pa_nil))) pa_nil)) (pg_name (i := 4) sc__law_tree.nd rfl (by first | exact Or.inl rfl | exact Or.inr rfl)) (pss_one (ps_if (PW.pt (pw_and (pt_cmp (pc_neNilK K hr (pv 3))) (pw_and1 (pt_cmpR op_eq (pe_cl G__law_take (hr.mono (by omega)) passF (pa_cons (pv 0) (pa_cons pe_int pa_nil))) pe_int (nomark _))))) (pss_one (ps_expr (cbm K (pe_bm PySem.F.plainAttrs_list PySem.F.slot_list_append PySem.F.type_list_append mt_append (pv 3) (pa_cons (pe_ix (ix_tupK K) (pe_cl G__law_formed (hr.mono (by omega)) passF (pa_cons (pe_ix (ix_listK K) (pv 3) (pe_un un_neg pe_int) (fun _ _ => rfl)) pa_nil)) pe_int (fun _ _ => rfl)) pa_nil))))) (pss_one (ps_expr (cbm K (pe_bm PySem.F.plainAttrs_list PySem.F.slot_list_append PySem.F.type_list_append mt_append (pv 3) (pa_cons (pe_cl G__law_tree (hr.mono (by omega)) passF (pa_cons (pv 0) (pa_cons (pv 1) (pa_cons (pe_op op_sub (pv 2) pe_int) pa_nil)))) pa_nil))))))))
  (pss_one (ps_ret (pe_tup (pa_cons (pe_ix ix_str (pv 1) (pe_cl G__law_take (hr.mono (by omega)) passF (pa_cons (pv 0) (pa_cons (pe_callB (call_lenK K) (by rfl) T.n_len PySem.boot_len (pa_cons (pv 1) pa_nil)) pa_nil))) (fun _ _ => rfl)) (pa_cons (pv 3) pa_nil))))))), ?_⟩
      walk_at "rd"
      refine ⟨(by walk_at "sz"), fun cl nc => ?_⟩
      generalize e0 : upd H cl _ = H0
      obtain ⟨S0, hc0⟩ := newF nc e0
      walk_at "rd"
      refine ⟨by show 6 ≤ sizeLine; decide, fun p6 n6 => ?_⟩
      generalize e1 : upd H0 p6 _ = H1
      obtain ⟨S1, hp6⟩ := newF n6 e1
      have S01 := S0.trans S1
      walk_at "rd"
      refine ⟨st, 6, rfl, hst.same S01, by decide, by decide, fun H2 r K2 hst2 h0r hr6 => ?_⟩
      have nstc : st ≠ cl := store_ne (H' := H) (A := []) hst nc
      have nst6 : st ≠ p6 := store_ne (H' := H) (A := []) hst (S0.free n6)
      have hp62 := K2.but _ _ (by simpa using Ne.symm nst6) hp6
      have hc2 : H2 cl = some (.lst []) := K2.but _ _ (by simpa using Ne.symm nstc) (S1 _ _ hc0)
      obtain ⟨m, hm3, hmat⟩ : ∃ m : Nat, m ≤ 3 ∧ atI [V.int 0, V.int 1, V.int 2, V.int 3, V.int 1, V.int 2] r = some (V.int (m : Int)) := by
        rcases (show r = 0 ∨ r = 1 ∨ r = 2 ∨ r = 3 ∨ r = 4 ∨ r = 5 by omega) with rfl | rfl | rfl | rfl | rfl | rfl
        · exact ⟨0, by decide, rfl⟩
        · exact ⟨1, by decide, rfl⟩
        · exact ⟨2, by decide, rfl⟩
        · exact ⟨3, by decide, rfl⟩
        · exact ⟨1, by decide, rfl⟩
        · exact ⟨2, by decide, rfl⟩
      refine ⟨p6, _, r, _, rfl, rfl, SqL.of hp62, hmat, ?_⟩
      walk_at "rd"
      obtain ⟨M, hM, hM3, hMd⟩ : ∃ M : Nat, ((m : Int) * (if decide (1 < (d : Int)) = true then 1 else 0)) = (M : Int) ∧ M ≤ 3 ∧ (d = 1 → M = 0) := by
        by_cases hd : 1 < d
        · exact ⟨m, by rw [if_pos (decide_eq_true (by omega))]; omega, hm3, by omega⟩
        · exact ⟨0, by rw [if_neg (by simp; omega)]; omega, by omega, fun _ => rfl⟩
      rw [hM]
      refine ⟨by omega, by omega, ?_⟩
      rw [Int.toNat_natCast]
      have K02 : Keep [st] H H2 := (Same.keep S01).trans K2
      refine for_range (lo := 0) (n := M) (fun i σ H' => ∃ (x4 : Option V) (ps : List Fp), σ = [some (.ref st), some (tx zl), some (.int (d : Int)), some (.ref cl), x4] ∧ Keep [st] H H' ∧ StoreAt H' st ∧ H' cl = some (.lst (ps.map Fp.v)) ∧ ps.length ≤ i ∧
          ∀ p ∈ ps, TF H' p.t p.v p.as ∧ p.t.ok = true ∧ p.t.dep ≤ d - 1 ∧ p.t.size ≤ Bn (d - 1) ∧ cl ∉ p.as ∧ ∀ a ∈ p.as, H a = none)
        ⟨none, [], rfl, K02, hst2, hc2, Nat.le_refl _, fun p hp => (by cases hp)⟩ ?_ ?_
      · rintro i σ H3 hi ⟨x4, ps, rfl, K3, hst3, hc3, hpl, hps⟩
        have hd1 : 1 < d := by
          rcases Nat.lt_or_ge 1 d with z | z
          · exact z
          · have := hMd (by omega)
            omega
        have nC : cl ∉ [st] := by simpa using Ne.symm nstc
        /- a part more -/
        have fin : ∀ (H4 : Hp) (v : V) (t : Tr) (as : List Addr) (x4 : Option V), Keep [st] H3 H4 → StoreAt H4 st → TF H4 t v as → t.ok = true → t.dep ≤ d - 1 → t.size ≤ Bn (d - 1) → (∀ a ∈ as, H3 a = none) →
            ∃ acc, H4 cl = some (.lst acc) ∧ acc.length < sizeLine ∧ ∃ (x4' : Option V) (ps : List Fp), [some (V.ref st), some (tx zl), some (.int (d : Int)), some (.ref cl), x4] = [some (V.ref st), some (tx zl), some (.int (d : Int)), some (.ref cl), x4'] ∧ Keep [st] H (upd H4 cl (.lst (acc ++ [v]))) ∧
              StoreAt (upd H4 cl (.lst (acc ++ [v]))) st ∧ (upd H4 cl (.lst (acc ++ [v]))) cl = some (.lst (ps.map Fp.v)) ∧ ps.length ≤ i + 1 ∧ ∀ p ∈ ps, TF (upd H4 cl (.lst (acc ++ [v]))) p.t p.v p.as ∧ p.t.ok = true ∧ p.t.dep ≤ d - 1 ∧ p.t.size ≤ Bn (d - 1) ∧ cl ∉ p.as ∧ ∀ a ∈ p.as, H a = none := by
          intro H4 v t as x4 K4 hst4 ht h1 h2 h3 hf
          have hc4 := K4.but _ _ nC hc3
          have kk : Keep [cl] H4 (upd H4 cl (.lst (ps.map Fp.v ++ [v]))) := (Keep.refl _ _).upd (by simp) hc4
          have nca : cl ∉ as := fun z => by
            rw [hf cl z] at hc3
            cases hc3
          have hfH : ∀ a ∈ as, H a = none := fun a ha => by
            cases q : H a with
            | none => rfl
            | some o =>
              by_cases z : a = st
              · obtain ⟨b1, b2, b3, b4⟩ := hst3
                have := hf a ha
                rw [z, b4] at this
                cases this
              · have := K3.but a o (by simpa using z) q
                rw [hf a ha] at this
                cases this
          refine ⟨_, hc4, ?_, x4, ps ++ [(v, t, as)], rfl, (K3.trans K4).own nc, hst4.upd nstc, by rw [upd_same, List.map_append]; rfl, by rw [List.length_append]; exact Nat.add_le_add_right hpl 1, fun p hp => ?_⟩
          · rw [List.length_map]
            exact Nat.lt_of_le_of_lt (show _ ≤ 3 by omega) (by decide)
          · rcases List.mem_append.mp hp with hp | hp
            · obtain ⟨a1, a2, a3, a4, a5, a6⟩ := hps p hp
              exact ⟨(a1.keep K4 fun b hb z => hst.out a6 (by rw [← List.mem_singleton.mp z]; exact hb)).keep kk fun b hb z => a5 (by rw [← List.mem_singleton.mp z]; exact hb), a2, a3, a4, a5, a6⟩
            · obtain rfl := List.mem_singleton.mp hp
              exact ⟨ht.keep kk fun b hb z => nca (by rw [← List.mem_singleton.mp z]; exact hb), h1, h2, h3, nca, hfH⟩
        walk_at "rd"
        rcases snoc_cases ps with rfl | ⟨qs, ⟨qv, qt, qa⟩, rfl⟩
        · walk_at "rd"
          refine ⟨st, zl, d - 1, by show [V.ref st, tx zl, V.int ((d : Int) - 1)] = _; rw [show ((d : Int) - 1) = ((d - 1 : Nat) : Int) by omega], hst3, hzl, by omega, by omega, by omega, fun H5 v t as K5 hst5 ht hok hdep hsz hf => ?_⟩
          obtain ⟨acc, e1, e2, rest⟩ := fin H5 v t as (some (.int (0 + (i : Int)))) (K5) hst5 ht hok hdep hsz hf
          exact ⟨_, _, _, rfl, rfl, e1, e2, rest⟩
        · have hc3' := hc3
          rw [List.map_append] at hc3' ⊢
          obtain ⟨a1, a2, a3, a4, a5, a6⟩ := hps (qv, qt, qa) (by simp)
          refine ifNe (by simp) ?_
          walk_at "rd"
          refine ⟨st, 3, rfl, hst3, by decide, by decide, fun H4 r K4 hst4 h0 h3 => ?_⟩
          have hc4 := K4.but _ _ nC hc3'
          have a14 := a1.keep K4 fun b hb z => hst.out a6 (by rw [← List.mem_singleton.mp z]; exact hb)
          have hfr : ∀ as : List Addr, (∀ a ∈ as, H4 a = none) → ∀ a ∈ as, H3 a = none := fun as hf a ha => by
            cases q : H3 a with
            | none => rfl
            | some o =>
              by_cases z : a = st
              · obtain ⟨b1, b2, b3, b4⟩ := hst4
                have := hf a ha
                rw [z, b4] at this
                cases this
              · have := K4.but a o (by simpa using z) q
                rw [hf a ha] at this
                cases this
          walk_at "rd"
          by_cases hr : r = 0
          · subst hr
            walk_at "rd"
            refine ⟨_, _, _, _, rfl, rfl, SqL.of hc4, atI_end, ?_⟩
            have hdep4 : qt.dep ≤ d - 1 := a3
            have hB : Bn (d - 1) ≤ 13 := by
              rcases (show d = 2 ∨ d = 3 ∨ d = 4 by omega) with rfl | rfl | rfl <;> decide
            have hsz4 : qt.size ≤ Bn (d - 1) := a4
            walk_at "rd"
            refine ⟨_, qt, qa, rfl, a14, a2, by omega, by omega, by omega, fun H5 v' as' S5 ⟨a, u, ev, ha, hu⟩ hf => ?_⟩
            subst ev
            walk_at "rd"
            obtain ⟨acc, e1, e2, rest⟩ := fin H5 u qt.form as' (some (.int (0 + (i : Int)))) (K4.trans (Same.keep S5)) (hst4.same S5) hu (by rw [Tr.form_ok]; exact a2) (by rw [Tr.form_dep]; exact a3) (by rw [Tr.form_size]; exact a4) (hfr _ hf)
            exact ⟨_, _, _, rfl, rfl, e1, e2, rest⟩
          · refine iteC (decide_eq_false fun z => hr (V.int.inj z)) ?_
            walk_at "rd"
            refine ⟨st, zl, d - 1, by show [V.ref st, tx zl, V.int ((d : Int) - 1)] = _; rw [show ((d : Int) - 1) = ((d - 1 : Nat) : Int) by omega], hst4, hzl, by omega, by omega, by omega, fun H5 v t as K5 hst5 ht hok hdep hsz hf => ?_⟩
            obtain ⟨acc, e1, e2, rest⟩ := fin H5 v t as (some (.int (0 + (i : Int)))) (K4.trans K5) hst5 ht hok hdep hsz (hfr _ hf)
            exact ⟨_, _, _, rfl, rfl, e1, e2, rest⟩
      · rintro σ H3 ⟨x4, ps, rfl, K3, hst3, hc3, hpl, hps⟩
        have hzlen : zl.length ≤ sizeLine := Nat.le_trans hzl.2.1 (by decide)
        have nC : cl ∉ [st] := by simpa using Ne.symm nstc
        walk_at "rd"
        have hz1 : 1 ≤ zl.length := by
          cases zl with
          | nil => exact absurd rfl hzl.1
          | cons a b => simp
        have hz2 := hzl.2.1
        refine ⟨st, zl.length, rfl, hst3, by omega, by omega, fun H4 r K4 hst4 h0 h1 => ?_⟩
        obtain ⟨c, hc, hcl⟩ := let_at hzl h0 h1
        have hc4 := K4.but _ _ nC hc3
        refine ⟨_, _, c, rfl, rfl, by rw [txS_len]; exact hzlen, hc, ?_⟩
        walk_at "rd"
        refine ⟨(by walk_at "sz"), fun tp nt => ?_⟩
        generalize e5 : upd H4 tp _ = H5
        obtain ⟨S5, htp⟩ := newF nt e5
        have hB : Bn d = 1 + 3 * Bn (d - 1) := by
          cases d with
          | zero => omega
          | succ d => rfl
        refine k H5 _ (.node c (ps.map Fp.t)) (cl :: ps.flatMap Fp.as) ((K3.trans K4).trans (Same.keep S5)) (hst4.same S5) (.mk tp cl ps htp (S5 _ _ hc4) (fun p hp => ?_) rfl rfl rfl) ?_ ?_ ?_ ?_
        · obtain ⟨a1, a2, a3, a4, a5, a6⟩ := hps p hp
          exact (a1.keep K4 fun b hb z => hst.out a6 (by rw [← List.mem_singleton.mp z]; exact hb)).same S5
        · rw [Tr.ok, hcl, Bool.true_and]
          refine Tr.oks_iff.mpr fun t ht => ?_
          obtain ⟨p, hp, rfl⟩ := List.mem_map.mp ht
          exact (hps p hp).2.1
        · have z : Tr.deps (ps.map Fp.t) ≤ d - 1 := Tr.deps_le fun t ht => by
            obtain ⟨p, hp, rfl⟩ := List.mem_map.mp ht
            exact (hps p hp).2.2.1
          rw [Tr.dep]
          omega
        · have z : Tr.sizes (ps.map Fp.t) ≤ 3 * Bn (d - 1) := sizes_bound (fun t ht => by
            obtain ⟨p, hp, rfl⟩ := List.mem_map.mp ht
            exact (hps p hp).2.2.2.1) (by rw [List.length_map]; omega)
          rw [Tr.size, hB]
          omega
        · intro a ha
          rcases List.mem_cons.mp ha with rfl | ha
          · exact nc
          · obtain ⟨p, hp, ha⟩ := List.mem_flatMap.mp ha
            exact (hps p hp).2.2.2.2.2 a ha
end
end Hy
set_option Elab.async false
set_option linter.all false
set_option maxRecDepth 100000
set_option maxHeartbeats 4000000
namespace Hy
open PySem L2
local macro_rules | `(tactic| walk_at "hp") => `(tactic| first
  | assumption | exact upd_same
  | (refine (upd_ne ?_).trans ?_ <;> first | assumption | (exact Ne.symm (by assumption)) | walk_at "ne" | walk_at "hp")
  | (refine (by assumption : Same _ _) _ _ ?_; assumption))
local macro_rules | `(tactic| walk_at "ne") => `(tactic| first
  | assumption | (exact Ne.symm (by assumption))
  | exact ne_of_none (by assumption) (by assumption) | exact Ne.symm (ne_of_none (by assumption) (by assumption)))
local macro_rules | `(tactic| walk_at "sz") => `(tactic| first | assumption | (show 0 ≤ sizeLine; decide) | (show 1 ≤ sizeLine; decide) | (show 2 ≤ sizeLine; decide) | (show 3 ≤ sizeLine; decide))
local macro_rules | `(tactic| walk_at "ar") => `(tactic| first
  | ((with_reducible show (0 : Int) < _); first | decide | omega)
  | ((with_reducible show CMul _ _); first | exact Or.inr (And.intro (by decide) (by decide)) | exact Or.inl (And.intro (by decide) (by decide)) | (refine Or.inl (And.intro ?_ ?_) <;> omega) | (refine Or.inr (And.intro ?_ ?_) <;> omega))
  | ((with_reducible show CPow _ _); exact And.intro (by decide) (And.intro (by decide) (by decide)))
  | ((with_reducible show CDiv _ _); first | exact And.intro (by decide) (by decide) | (refine And.intro ?_ ?_ <;> omega)))
/- one step of a reading -/
local macro_rules | `(tactic| walk_at "r1") => `(tactic| first
  | refine ⟨_, rfl, ?_⟩
  | refine iteB (by rfl) ?_ | refine iteC (by rfl) ?_
  | refine ⟨_, _, rfl, rfl, ?_⟩
  | refine ⟨rfl, ?_⟩
  | refine ⟨⟨_, rfl⟩, ?_⟩
  | refine ⟨_, _, _, _, true, rfl, .ty _, .base (.str _), kit_ty (by decide +kernel), ?_⟩
  | refine ⟨_, _, _, _, false, rfl, .ty _, .base (.str _), kit_ty (by decide +kernel), ?_⟩
  | refine ⟨_, _, _, _, true, rfl, .ty _, .base (.tup (by walk_at "hp")), kit_ty (by decide +kernel), ?_⟩
  | refine ⟨_, _, _, _, false, rfl, .ty _, .base (.tup (by walk_at "hp")), kit_ty (by decide +kernel), ?_⟩
  | refine ⟨_, _, _, _, true, rfl, .ty _, .base (.lst (by walk_at "hp")), kit_ty (by decide +kernel), ?_⟩
  | refine ⟨_, _, _, _, false, rfl, .ty _, .base (.lst (by walk_at "hp")), kit_ty (by decide +kernel), ?_⟩
  | refine ⟨_, _, rfl, ⟨by walk_at "sz", rfl⟩, ?_⟩
  | refine ⟨_, _, _, _, rfl, rfl, SqT.of (by walk_at "hp"), by rfl, ?_⟩
  | refine ⟨_, _, _, _, rfl, rfl, SqL.of (by walk_at "hp"), by rfl, ?_⟩
  | refine ⟨.inl ⟨rfl, _, SqL.of (by walk_at "hp")⟩, ?_⟩
  | refine ⟨_, _, _, rfl, rfl, (by walk_at "hp"), snoc_get, ?_⟩
  | refine ⟨_, _, _, _, rfl, rfl, (by walk_at "hp"), by rfl, ?_⟩
  | refine ⟨_, _, rfl, SqL.of (by walk_at "hp"), ?_⟩
  | refine ⟨_, _, rfl, SqT.of (by walk_at "hp"), by rfl, ?_⟩
  | refine ⟨_, (_ : List V), rfl, ?_⟩
  | refine ⟨_, _, rfl, .inl ⟨_, (by assumption), rfl⟩, ?_⟩
  | refine ⟨_, _, rfl, .inl ⟨_, SqL.of (by walk_at "hp"), rfl⟩, ?_⟩
  | refine ⟨_, _, rfl, .inr ⟨_, SqT.of (by walk_at "hp"), rfl⟩, ?_⟩
  | refine Or.inl ⟨(_ : Int), rfl, ?_⟩ | refine Or.inr ⟨(_ : Bool), rfl, ?_⟩
  | refine And.intro (by walk_at "ar") ?_)
local macro_rules | `(tactic| walk_at "rd") => `(tactic| repeat walk_at "r1")

theorem ix_seqK {X : Cx} (K : PySem.W.Frag) (h : X.K = K := by rfl) : IxR X (rIx K) := h ▸ ix_seq
/-- the same thing, laid twice: texts, lists, tuples -/
def SameD : Nat → Hp → V → V → Prop
  | 0, _, _, _ => False
  | n + 1, H, f, d => (∃ s : Str, f = .str s ∧ d = .str s) ∨ ∃ (a b : Addr) (xs ys : List V), f = .ref a ∧ d = .ref b ∧ ((H a = some (.lst xs) ∧ H b = some (.lst ys)) ∨ (H a = some (.tup xs) ∧ H b = some (.tup ys))) ∧
      xs.length = ys.length ∧ ys.length ≤ 100000 ∧ ∀ (i : Nat) (x y : V), xs[i]? = some x → ys[i]? = some y → SameD n H x y
theorem SameD.same : ∀ {n : Nat} {H H' : Hp} {f d : V}, Same H H' → SameD n H f d → SameD n H' f d
  | 0, _, _, _, _, _, h => h
  | n + 1, _, _, _, _, S, h => by
    rcases h with h | ⟨a, b, xs, ys, rfl, rfl, h, e1, e2, h3⟩
    · exact .inl h
    · exact .inr ⟨a, b, xs, ys, rfl, rfl, h.imp (fun q => ⟨S _ _ q.1, S _ _ q.2⟩) (fun q => ⟨S _ _ q.1, S _ _ q.2⟩), e1, e2, fun i x y hx hy => (h3 i x y hx hy).same S⟩
theorem SameD.tree {H : Hp} : ∀ {n : Nat} {t : Tr} {v v' : V} {as as' : List Addr}, TF H t v as → TF H t v' as' → t.size ≤ 100000 → t.dep ≤ n → SameD (2 * n) H v v'
  | 0, t, _, _, _, _, _, _, _, h => by
    cases t
    simp [Tr.dep] at h
  | n + 1, t, v, v', as, as', h, h', hs, hd => by
    obtain ⟨a, l, ps, ha, hl, hp, et, rfl, _⟩ := h.out
    obtain ⟨b, m, qs, hb, hm, hq, et', rfl, _⟩ := h'.out
    have hlen : ps.length = qs.length := by
      have z := congrArg List.length (et.symm.trans et')
      rw [List.length_map, List.length_map] at z
      exact z
    have hsz : 1 + Tr.sizes t.ts ≤ 100000 := by
      rw [t.eta, Tr.size] at hs
      exact hs
    have hdep : 1 + Tr.deps t.ts = t.dep := by
      cases t
      rfl
    have hpl := Tr.sizes_len (qs.map (·.2.1))
    rw [List.length_map, ← et'] at hpl
    refine .inr ⟨a, b, _, _, rfl, rfl, .inr ⟨ha, hb⟩, rfl, by show 2 ≤ 100000; decide, fun i x y hx hy => ?_⟩
    match i, hx, hy with
    | 0, hx, hy =>
      obtain rfl := Option.some.inj hx
      obtain rfl := Option.some.inj hy
      exact .inl ⟨_, rfl, rfl⟩
    | 1, hx, hy =>
      obtain rfl := Option.some.inj hx
      obtain rfl := Option.some.inj hy
      refine .inr ⟨l, m, _, _, rfl, rfl, .inl ⟨hl, hm⟩, by rw [List.length_map, List.length_map, hlen], by rw [List.length_map]; omega, fun j x y hx hy => ?_⟩
      rw [List.getElem?_map] at hx hy
      obtain ⟨⟨pv, pt, pa⟩, hpi, rfl⟩ := Option.map_eq_some_iff.mp hx
      obtain ⟨⟨qv, qt, qa⟩, hqi, rfl⟩ := Option.map_eq_some_iff.mp hy
      have e : pt = qt := by
        have z1 : (t.ts)[j]? = some pt := by rw [et, List.getElem?_map, hpi]; rfl
        have z2 : (t.ts)[j]? = some qt := by rw [et', List.getElem?_map, hqi]; rfl
        rw [z1] at z2
        exact Option.some.inj z2
      subst e
      have hm1 : pt ∈ t.ts := by rw [et]; exact List.mem_map.mpr ⟨_, List.mem_of_getElem? hpi, rfl⟩
      have := Tr.sizes_mem hm1
      have := Tr.deps_mem hm1
      have z1 : pt.size ≤ 100000 := by omega
      have z2 : pt.dep ≤ n := by omega
      exact SameD.tree (hp _ (List.mem_of_getElem? hpi)) (hq _ (List.mem_of_getElem? hqi)) z1 z2
    | i + 2, hx, hy => simp at hx
theorem TF.len {H : Hp} {t : Tr} {v : V} {as : List Addr} (h : TF H t v as) : as.length = t.size := by
  induction h with
  | @mk t v as a l ps ha hl hp ht hv has ih =>
    subst has
    have e : t.size = 1 + Tr.sizes t.ts := by cases t; rfl
    rw [e, ht, List.length_cons]
    clear hl ht e
    induction ps with
    | nil => rfl
    | cons p ps ihp =>
      have z := ih p List.mem_cons_self
      have z2 := ihp (fun q hq => hp q (List.mem_cons_of_mem _ hq)) (fun q hq => ih q (List.mem_cons_of_mem _ hq))
      simp only [List.flatMap_cons, List.length_append, List.map_cons, Tr.sizes]
      omega
section
variable {P : Program} {w : World} {K : PySem.W.Frag} {mg : Str → Option Value} {base : Heap}
abbrev s__law_same : Stmt := top 20
theorem sc__law_same : FnScope ["found", "due", "k", "key"] ["found", "due"] (defScope s__law_same) := ⟨rfl, rfl, rfl, by decide +kernel, rfl, by decide +kernel, by decide +kernel⟩
abbrev s_law : Stmt := top 25
theorem sc_law : FnScope ["script", "at", "store", "tree", "text", "due", "word", "found"] ["script"] (defScope s_law) := ⟨rfl, rfl, rfl, by decide +kernel, rfl, by decide +kernel, by decide +kernel⟩

theorem rIx_two {K : PySem.W.Frag} {H : Hp} {a : Addr} {xs : List V} {Q : VK} {j : Int} {i : Nat} {x : V} (h : H a = some (.lst xs) ∨ H a = some (.tup xs)) (hj : j = (i : Int)) (hx : xs[i]? = some x) (q : Q x H) : rIx K (.ref a) (.int j) H Q := by
  subst hj
  rcases h with h | h
  · exact .inl ⟨a, xs, _, x, rfl, rfl, SqL.of h, atI_nat hx, q⟩
  · exact .inr (.inl ⟨a, xs, _, x, rfl, rfl, SqT.of h, atI_nat hx, q⟩)
theorem kA_list {K : PySem.W.Frag} : PySem.W.kitAny K (.type "list") [.type "list", .type "tuple"] = some true := kitAny_cons (b := true) (kit_ty (by decide +kernel)) (fun z => nomatch z) (fun _ => rfl)
theorem kA_tuple {K : PySem.W.Frag} : PySem.W.kitAny K (.type "tuple") [.type "list", .type "tuple"] = some true := kitAny_cons (b := false) (kit_ty (by decide +kernel)) (fun _ => kitAny_cons (b := true) (kit_ty (by decide +kernel)) (fun z => nomatch z) (fun _ => rfl)) (fun z => nomatch z)
theorem kA_str {K : PySem.W.Frag} : PySem.W.kitAny K (.type "str") [.type "list", .type "tuple"] = some false := kitAny_cons (b := false) (kit_ty (by decide +kernel)) (fun _ => kitAny_cons (b := false) (kit_ty (by decide +kernel)) (fun _ => kitAny_nil) (fun z => nomatch z)) (fun z => nomatch z)
def sp__law_same (n : Nat) : Sp := fun vs H Q _ => ∃ f d, vs = [f, d] ∧ SameD n H f d ∧ ∀ H' : Hp, Same H H' → Q (.bl true) H'
theorem ok__law_same (D : Df K mg "_law_same" s__law_same ["found", "due"]) (T : Txt K mg) : ∀ n, G' P w K mg base "_law_same" (n + 1) ["found", "due"] (sp__law_same n) := by
  intro n
  induction n with
  | zero =>
    refine D.ok fun f fd F => F.okX sc__law_same (fun vs H Q E h => ?_) (fun cdv A outer s H vs Q E hr h => ?_)
    · obtain ⟨f, d, rfl, _⟩ := h
      rfl
    · obtain ⟨f, d, rfl, h, k⟩ := h
      exact h.elim
  | succ n G__law_same =>
    refine D.ok fun f fd F => F.okX sc__law_same (fun vs H Q E h => ?_) (fun cdv A outer s H vs Q E hr h => ?_)
    · obtain ⟨f, d, rfl, _⟩ := h
      rfl
    · obtain ⟨f, d, rfl, h, k⟩ := h
      refine ⟨_, (pss_cons (ps_if (pt_val (pe_callB (call_isiTK K) (by rfl) T.n_isinstance (by decide +kernel) (pa_cons (pv 1) (pa_cons (pe_tup (pa_cons (pe_ty (n := "list") T.n_list (by decide +kernel)) (pa_cons (pe_ty (n := "tuple") T.n_tuple (by decide +kernel)) pa_nil))) pa_nil)))) (pss_cons (ps_if (PW.pt (pw_or (pt_cmpR op_ne (pe_callB (call_isiK K) (by rfl) T.n_isinstance (by decide +kernel) (pa_cons (pv 0) (pa_cons (pe_ty (n := "tuple") T.n_tuple (by decide +kernel)) pa_nil))) (pe_callB (call_isiK K) (by rfl) T.n_isinstance (by decide +kernel) (pa_cons (pv 1) (pa_cons (pe_ty (n := "tuple") T.n_tuple (by decide +kernel)) pa_nil))) (nomark _)) (pw_or1 (pt_cmpR op_ne (pe_callB (call_isiK K) (by rfl) T.n_isinstance (by decide +kernel) (pa_cons (pv 0) (pa_cons (pe_ty (n := "list") T.n_list (by decide +kernel)) pa_nil))) (pe_callB (call_isiK K) (by rfl) T.n_isinstance (by decide +kernel) (pa_cons (pv 1) (pa_cons (pe_ty (n := "list") T.n_list (by decide +kernel)) pa_nil))) (nomark _))))) (pss_one (ps_ret pe_bl)) pss_nil)
  (pss_cons (ps_if (pt_cmpR op_ne (pe_callB (call_lenK K) (by rfl) T.n_len PySem.boot_len (pa_cons (pv 0) pa_nil)) (pe_callB (call_lenK K) (by rfl) T.n_len PySem.boot_len (pa_cons (pv 1) pa_nil)) (nomark _)) (pss_one (ps_ret pe_bl)) pss_nil)
  (pss_one (ps_ret (pe_cmp (pc_eqNilK K hr (pe_lc (own := [("k", 2)]) rfl sc__law_same.nd (pi_range1 (by rfl) T.n_range (pa_cons (pe_callB (call_lenK K) (by rfl) T.n_len PySem.boot_len (pa_cons (pv 1) pa_nil)) pa_nil)) (blkOk_by (own := [("k", 2)]) (N := ["found", "due", "k", "key"]) (sc := defScope s__law_same) (by decide +kernel)) (fun _ _ _ _ _ => (pg_name (i := 2) sc__law_same.nd rfl (by first | exact Or.inl rfl | exact Or.inr rfl))) (fun _ _ _ _ _ => (pts_one (pt_not (pt_val (pe_cl G__law_same (hr.mono (by omega)) passF (pa_cons (pe_ix (ix_seqK K) (pv 0) (pv 2) (fun _ _ => rfl)) (pa_cons (pe_ix (ix_seqK K) (pv 1) (pv 2) (fun _ _ => rfl)) pa_nil))))))) (fun _ _ _ _ _ => (pv 2))))))))) pss_nil)
  (pss_cons (ps_if (pt_val (pe_callB (call_isiK K) (by rfl) T.n_isinstance (by decide +kernel) (pa_cons (pv 1) (pa_cons (pe_ty (n := "str") T.n_str (by decide +kernel)) pa_nil)))) (pss_one (ps_ret (pe_and (pe_callB (call_isiK K) (by rfl) T.n_isinstance (by decide +kernel) (pa_cons (pv 0) (pa_cons (pe_ty (n := "str") T.n_str (by decide +kernel)) pa_nil))) (pe_one (pe_cmpR op_eq (pv 0) (pv 1) (nomark _)))))) pss_nil)
  (pss_cons (ps_if (pt_val (pe_callB (call_isiK K) (by rfl) T.n_isinstance (by decide +kernel) (pa_cons (pv 1) (pa_cons (pe_ty (n := "dict") T.n_dict (by decide +kernel)) pa_nil)))) (pss_cons (ps_if (PW.pt (pw_or (pt_not (pt_val (pe_callB (call_isiK K) (by rfl) T.n_isinstance (by decide +kernel) (pa_cons (pv 0) (pa_cons (pe_ty (n := "dict") T.n_dict (by decide +kernel)) pa_nil))))) (pw_or1 (pt_cmpR (op_nePK K hr) (pe_callB (cr_sortedDK K hr) (by rfl) T.n_sorted (by decide +kernel) (pa_cons (pv 0) pa_nil)) (pe_callB (cr_sortedDK K hr) (by rfl) T.n_sorted (by decide +kernel) (pa_cons (pv 1) pa_nil)) (nomark _))))) (pss_one (ps_ret pe_bl)) pss_nil)
  (pss_one (ps_ret (pe_cmp (pc_eqNilK K hr (pe_lc (own := [("key", 3)]) rfl sc__law_same.nd (pi_listK K (pv 1)) (blkOk_by (own := [("key", 3)]) (N := ["found", "due", "k", "key"]) (sc := defScope s__law_same) (by decide +kernel)) (fun _ _ _ _ _ => (pg_name (i := 3) sc__law_same.nd rfl (by first | exact Or.inl rfl | exact Or.inr rfl))) (fun _ _ _ _ _ => (pts_one (pt_not (pt_val (pe_cl G__law_same (hr.mono (by omega)) passF (pa_cons (pe_ix (ix_seqK K) (pv 0) (pv 3) (fun _ _ => rfl)) (pa_cons (pe_ix (ix_seqK K) (pv 1) (pv 3) (fun _ _ => rfl)) pa_nil))))))) (fun _ _ _ _ _ => (pv 3)))))))) pss_nil)
  (pss_one (ps_ret (pe_and (pe_callB (call_isiK K) (by rfl) T.n_isinstance (by decide +kernel) (pa_cons (pv 0) (pa_cons (pe_ty (n := "int") T.n_int (by decide +kernel)) pa_nil))) (pe_and (pe_not (pe_callB (call_isiK K) (by rfl) T.n_isinstance (by decide +kernel) (pa_cons (pv 0) (pa_cons (pe_ty (n := "bool") T.n_bool (by decide +kernel)) pa_nil)))) (pe_one (pe_cmpR op_eq (pv 0) (pv 1) (nomark _)))))))))), ?_⟩
      rcases h with ⟨s, rfl, rfl⟩ | ⟨a, b, xs, ys, rfl, rfl, h, e1, e2, h3⟩
      · walk_at "rd"
        refine ⟨(by walk_at "sz"), fun p np => ?_⟩
        generalize ep : upd H p _ = H1
        obtain ⟨S1, hp1⟩ := newF np ep
        refine ⟨_, p, _, _, _, _, rfl, hp1, .cons (.ty _) (.cons (.ty _) .nil), .base (.str _), kA_str, ?_⟩
        walk_at "rd"
        show Q (V.bl (decide (V.str s = V.str s))) H1
        rw [decide_eq_true (rfl : V.str s = V.str s)]
        exact k _ S1
      · have hxy : (H a = some (.lst xs) ∨ H a = some (.tup xs)) ∧ (H b = some (.lst ys) ∨ H b = some (.tup ys)) := h.elim (fun q => ⟨.inl q.1, .inl q.2⟩) (fun q => ⟨.inr q.1, .inr q.2⟩)
        walk_at "rd"
        refine ⟨(by walk_at "sz"), fun p np => ?_⟩
        generalize ep : upd H p _ = H1
        obtain ⟨S1, hp1⟩ := newF np ep
        rcases h with ⟨ha, hb⟩ | ⟨ha, hb⟩
        · have ha1 := S1 _ _ ha
          have hb1 := S1 _ _ hb
          refine ⟨_, p, _, _, _, _, rfl, hp1, .cons (.ty _) (.cons (.ty _) .nil), .base (.lst hb1), kA_list, ?_⟩
          walk_at "rd"
          refine iteC (by rw [e1]; simp) ?_
          walk_at "rd"
          refine ⟨by omega, by omega, ?_⟩
          rw [Int.toNat_natCast]
          refine fun D1 nD => lc_range (lo := 0) (n := ys.length) (fun i H' => Same H H' ∧ H' D1 = some (.lst [])) ⟨S1.trans (same_new nD), upd_same⟩ ?_ ?_
          · rintro i H2 hi ⟨S2, hD2⟩
            have hix : i < xs.length := by omega
            walk_at "rd"
            refine rIx_two (xs := xs) (i := i) (x := xs[i]) (hxy.1.imp (S2 _ _) (S2 _ _)) (by omega) (List.getElem?_eq_getElem hix) ?_
            walk_at "rd"
            refine rIx_two (xs := ys) (i := i) (x := ys[i]) (hxy.2.imp (S2 _ _) (S2 _ _)) (by omega) (List.getElem?_eq_getElem hi) ?_
            refine ⟨_, _, rfl, (h3 i _ _ (List.getElem?_eq_getElem hix) (List.getElem?_eq_getElem hi)).same S2, fun H3 S3 => ?_⟩
            walk_at "rd"
            exact ⟨S2.trans S3, S3 _ _ hD2⟩
          · rintro H2 ⟨S2, hD2⟩
            walk_at "rd"
            exact k _ S2
        · have ha1 := S1 _ _ ha
          have hb1 := S1 _ _ hb
          refine ⟨_, p, _, _, _, _, rfl, hp1, .cons (.ty _) (.cons (.ty _) .nil), .base (.tup hb1), kA_tuple, ?_⟩
          walk_at "rd"
          refine iteC (by rw [e1]; simp) ?_
          walk_at "rd"
          refine ⟨by omega, by omega, ?_⟩
          rw [Int.toNat_natCast]
          refine fun D1 nD => lc_range (lo := 0) (n := ys.length) (fun i H' => Same H H' ∧ H' D1 = some (.lst [])) ⟨S1.trans (same_new nD), upd_same⟩ ?_ ?_
          · rintro i H2 hi ⟨S2, hD2⟩
            have hix : i < xs.length := by omega
            walk_at "rd"
            refine rIx_two (xs := xs) (i := i) (x := xs[i]) (hxy.1.imp (S2 _ _) (S2 _ _)) (by omega) (List.getElem?_eq_getElem hix) ?_
            walk_at "rd"
            refine rIx_two (xs := ys) (i := i) (x := ys[i]) (hxy.2.imp (S2 _ _) (S2 _ _)) (by omega) (List.getElem?_eq_getElem hi) ?_
            refine ⟨_, _, rfl, (h3 i _ _ (List.getElem?_eq_getElem hix) (List.getElem?_eq_getElem hi)).same S2, fun H3 S3 => ?_⟩
            walk_at "rd"
            exact ⟨S2.trans S3, S3 _ _ hD2⟩
          · rintro H2 ⟨S2, hD2⟩
            walk_at "rd"
            exact k _ S2
def DeepP (st : Addr) (H : Hp) (q : Addr) (i : Nat) (Hx : Hp) (qs : List Fp) : Prop := Keep [st] H Hx ∧ StoreAt Hx st ∧ Hx q = some (.lst (qs.map Fp.v)) ∧ (∀ p ∈ qs, TF Hx p.t p.v p.as ∧ p.t.ok = true ∧ p.t.dep ≤ 1 + i ∧ q ∉ p.as ∧ ∀ a ∈ p.as, H a = none) ∧ Tr.sizes (qs.map Fp.t) ≤ 2 + 2 * i ∧ H q = none ∧ q ≠ st
theorem DeepP.keep {st : Addr} {H : Hp} {q : Addr} {i : Nat} {Hx Hy : Hp} {qs : List Fp} (h : DeepP st H q i Hx qs) (h0 : StoreAt H st) (k : Keep [st] Hx Hy) (s : StoreAt Hy st) : DeepP st H q i Hy qs := by
  obtain ⟨a1, a2, a3, a4, a5, a6, a7⟩ := h
  exact ⟨a1.trans k, s, k.but _ _ (by simpa using a7) a3, fun p hp => ⟨(a4 p hp).1.keep k fun b hb z => h0.out (a4 p hp).2.2.2.2 (by rw [← List.mem_singleton.mp z]; exact hb), (a4 p hp).2⟩, a5, a6, a7⟩
theorem DeepP.rev {st : Addr} {H : Hp} {q : Addr} {i : Nat} {Hx : Hp} {qs : List Fp} (h : DeepP st H q i Hx qs) : DeepP st H q i (upd Hx q (.lst (qs.map Fp.v).reverse)) qs.reverse := by
  obtain ⟨a1, a2, a3, a4, a5, a6, a7⟩ := h
  have kk : Keep [q] Hx (upd Hx q (.lst (qs.map Fp.v).reverse)) := (Keep.refl _ _).upd (by simp) a3
  refine ⟨a1.own a6, a2.upd (Ne.symm a7), by rw [upd_same, List.map_reverse], fun p hp => ?_, by rw [List.map_reverse, Tr.sizes_perm (List.reverse_perm _)]; exact a5, a6, a7⟩
  obtain ⟨b1, b2⟩ := a4 p (List.mem_reverse.mp hp)
  exact ⟨b1.keep kk fun b hb z => b2.2.2.1 (by rw [← List.mem_singleton.mp z]; exact hb), b2⟩
end
end Hy
set_option Elab.async false
set_option linter.all false
set_option maxRecDepth 100000
set_option maxHeartbeats 4000000
namespace Hy
open PySem L2
local macro_rules | `(tactic| walk_at "hp") => `(tactic| first
  | assumption | exact upd_same
  | (refine (upd_ne ?_).trans ?_ <;> first | assumption | (exact Ne.symm (by assumption)) | walk_at "ne" | walk_at "hp")
  | (refine (by assumption : Same _ _) _ _ ?_; assumption))
local macro_rules | `(tactic| walk_at "ne") => `(tactic| first
  | assumption | (exact Ne.symm (by assumption))
  | exact ne_of_none (by assumption) (by assumption) | exact Ne.symm (ne_of_none (by assumption) (by assumption)))
local macro_rules | `(tactic| walk_at "sz") => `(tactic| first | assumption | (show 0 ≤ sizeLine; decide) | (show 1 ≤ sizeLine; decide) | (show 2 ≤ sizeLine; decide) | (show 3 ≤ sizeLine; decide))
local macro_rules | `(tactic| walk_at "ar") => `(tactic| first
  | ((with_reducible show (0 : Int) < _); first | decide | omega)
  | ((with_reducible show CMul _ _); first | exact Or.inr (And.intro (by decide) (by decide)) | exact Or.inl (And.intro (by decide) (by decide)) | (refine Or.inl (And.intro ?_ ?_) <;> omega) | (refine Or.inr (And.intro ?_ ?_) <;> omega))
  | ((with_reducible show CPow _ _); exact And.intro (by decide) (And.intro (by decide) (by decide)))
  | ((with_reducible show CDiv _ _); first | exact And.intro (by decide) (by decide) | (refine And.intro ?_ ?_ <;> omega)))
/- one step of a reading -/
local macro_rules | `(tactic| walk_at "r1") => `(tactic| first
  | refine ⟨_, rfl, ?_⟩
  | refine iteB (by rfl) ?_ | refine iteC (by rfl) ?_
  | refine ⟨_, _, rfl, rfl, ?_⟩
  | refine ⟨rfl, ?_⟩
  | refine ⟨⟨_, rfl⟩, ?_⟩
  | refine ⟨_, _, _, _, true, rfl, .ty _, .base (.str _), kit_ty (by decide +kernel), ?_⟩
  | refine ⟨_, _, _, _, false, rfl, .ty _, .base (.str _), kit_ty (by decide +kernel), ?_⟩
  | refine ⟨_, _, _, _, true, rfl, .ty _, .base (.tup (by walk_at "hp")), kit_ty (by decide +kernel), ?_⟩
  | refine ⟨_, _, _, _, false, rfl, .ty _, .base (.tup (by walk_at "hp")), kit_ty (by decide +kernel), ?_⟩
  | refine ⟨_, _, _, _, true, rfl, .ty _, .base (.lst (by walk_at "hp")), kit_ty (by decide +kernel), ?_⟩
  | refine ⟨_, _, _, _, false, rfl, .ty _, .base (.lst (by walk_at "hp")), kit_ty (by decide +kernel), ?_⟩
  | refine ⟨_, _, rfl, ⟨by walk_at "sz", rfl⟩, ?_⟩
  | refine ⟨_, _, _, _, rfl, rfl, SqT.of (by walk_at "hp"), by rfl, ?_⟩
  | refine ⟨_, _, _, _, rfl, rfl, SqL.of (by walk_at "hp"), by rfl, ?_⟩
  | refine ⟨.inl ⟨rfl, _, SqL.of (by walk_at "hp")⟩, ?_⟩
  | refine ⟨_, _, _, rfl, rfl, (by walk_at "hp"), snoc_get, ?_⟩
  | refine ⟨_, _, _, _, rfl, rfl, (by walk_at "hp"), by rfl, ?_⟩
  | refine ⟨_, _, rfl, SqL.of (by walk_at "hp"), ?_⟩
  | refine ⟨_, _, rfl, SqT.of (by walk_at "hp"), by rfl, ?_⟩
  | refine ⟨_, (_ : List V), rfl, ?_⟩
  | refine ⟨_, _, rfl, .inl ⟨_, (by assumption), rfl⟩, ?_⟩
  | refine ⟨_, _, rfl, .inl ⟨_, SqL.of (by walk_at "hp"), rfl⟩, ?_⟩
  | refine ⟨_, _, rfl, .inr ⟨_, SqT.of (by walk_at "hp"), rfl⟩, ?_⟩
  | refine Or.inl ⟨(_ : Int), rfl, ?_⟩ | refine Or.inr ⟨(_ : Bool), rfl, ?_⟩
  | refine And.intro (by walk_at "ar") ?_)
local macro_rules | `(tactic| walk_at "rd") => `(tactic| repeat walk_at "r1")

theorem RS.step_L {s : RS} {c : Nat} (h : isL c = true) : s.step c = some ⟨c, s.ab, s.here ++ [.node c []]⟩ := by
  unfold RS.step
  rw [if_pos h]
theorem atI_neg1 {α : Type} {xs : List α} {y : α} : atI (xs ++ [y]) (-1) = some y := atI_end
section
variable {P : Program} {w : World} {K : PySem.W.Frag} {mg : Str → Option Value} {base : Heap}
abbrev s__law_read : Stmt := top 21
theorem sc__law_read : FnScope ["text", "parts", "open_at", "at", "sign", "begin", "inner", "written", "more", "child", "letter", "writing"] ["text"] (defScope s__law_read) := ⟨rfl, rfl, rfl, by decide +kernel, rfl, by decide +kernel, by decide +kernel⟩
abbrev s__law_spoilt : Stmt := top 22
theorem sc__law_spoilt : FnScope ["store", "text", "kind", "at", "sign"] ["store", "text"] (defScope s__law_spoilt) := ⟨rfl, rfl, rfl, by decide +kernel, rfl, by decide +kernel, by decide +kernel⟩

def sp__law_read : Sp := fun vs H Q E => ∃ l : List Nat, vs = [tx l] ∧ l.length ≤ 90000 ∧ (∀ t, parse l = some t → ∀ (H' : Hp) (v : V) (as : List Addr), Same H H' → TF H' t v as → Q v H') ∧ (parse l = none → ∀ H' : Hp, Same H H' → Q .non H')
theorem ok__law_read (D : Df K mg "_law_read" s__law_read ["text"]) (T : Txt K mg) : G' P w K mg base "_law_read" 1 ["text"] sp__law_read := by
  refine D.ok fun f fd F => F.okX sc__law_read (fun vs H Q E h => ?_) (fun cdv A outer s H vs Q E hr h => ?_)
  · obtain ⟨l, rfl, _⟩ := h
    rfl
  · obtain ⟨l, rfl, hl, k1, k2⟩ := h
    refine ⟨_, (pss_cons (ps_set (i := 1) sc__law_read.nd rfl (by first | exact Or.inl rfl | exact Or.inr rfl) (pe_lst pa_nil))
  (pss_cons (ps_set (i := 2) sc__law_read.nd rfl (by first | exact Or.inl rfl | exact Or.inr rfl) (pe_lst pa_nil))
  (pss_cons (ps_for (passes_of rfl) rfl (pi_range1 (by rfl) T.n_range (pa_cons (pe_callB (call_lenK K) (by rfl) T.n_len PySem.boot_len (pa_cons (pv 0) pa_nil)) pa_nil)) (pg_name (i := 3) sc__law_read.nd rfl (by first | exact Or.inl rfl | exact Or.inr rfl)) (pss_cons (ps_set (i := 4) sc__law_read.nd rfl (by first | exact Or.inl rfl | exact Or.inr rfl) (pe_ix ix_str (pv 0) (pv 3) (fun _ _ => rfl)))
  (pss_one (ps_if (pt_cmpR op_in_sign (pv 4) pe_str (by rfl)) (pss_one (ps_expr (cbm K (pe_bm PySem.F.plainAttrs_list PySem.F.slot_list_append PySem.F.type_list_append mt_append (pv 1) (pa_cons (pe_tup (pa_cons (pv 4) (pa_cons (pe_tup (pa_cons (pv 4) (pa_cons (pe_lst pa_nil) pa_nil))) pa_nil))) pa_nil))))) (pss_one (ps_if (PW.pt (pw_and (pt_cmpR op_eq (pv 4) pe_str (nomark _)) (pw_and (pt_cmpR op_gt (pv 3) pe_int (nomark _)) (pw_and1 (pt_cmpR op_in_sign (pe_ix ix_str (pv 0) (pe_op op_sub (pv 3) pe_int) (fun _ _ => rfl)) pe_str (by rfl)))))) (pss_one (ps_expr (cbm K (pe_bm PySem.F.plainAttrs_list PySem.F.slot_list_append PySem.F.type_list_append mt_append (pv 2) (pa_cons (pe_callB (call_lenK K) (by rfl) T.n_len PySem.boot_len (pa_cons (pv 1) pa_nil)) pa_nil))))) (pss_one (ps_if (PW.pt (pw_and (pt_cmpR op_eq (pv 4) pe_str (nomark _)) (pw_and1 (pt_cmp (pc_neNilK K hr (pv 2)))))) (pss_cons (ps_set (i := 5) sc__law_read.nd rfl (by first | exact Or.inl rfl | exact Or.inr rfl) (cbm0 K (pe_bm0 PySem.F.plainAttrs_list PySem.F.slot_list_pop PySem.F.type_list_pop mt_pop (pv 2))))
  (pss_cons (ps_set (i := 6) sc__law_read.nd rfl (by first | exact Or.inl rfl | exact Or.inr rfl) (pe_slice (sl_listK K) (pv 1) (po_some (pv 5)) po_none))
  (pss_cons (ps_setLc (i := 7) (own := [("more", 8), ("child", 9)]) (g := (gTup K 2 (gCons (gName 8) (gCons (gName 9) gNil)))) rfl sc__law_read.nd rfl rfl (sw_true rfl rfl rfl (by decide +kernel)) (pi_listK K (pv 6)) (blkOk_by (own := [("more", 8), ("child", 9)]) (N := ["text", "parts", "open_at", "at", "sign", "begin", "inner", "written", "more", "child", "letter", "writing"]) (sc := defScope s__law_read) (by decide +kernel)) (fun _ _ _ _ _ => (pg_tup (by rfl) (pgs_cons (pg_name (i := 8) sc__law_read.nd rfl (by first | exact Or.inl rfl | exact Or.inr rfl)) (pgs_cons (pg_name (i := 9) sc__law_read.nd rfl (by first | exact Or.inl rfl | exact Or.inr rfl)) pgs_nil)))) (fun _ _ _ _ _ => pts_nil) (fun _ _ _ _ _ => (pv 8)))
  (pss_cons (ps_if (PW.pt (pw_or (pt_cmp (pc_eqNilK K hr (pv 6))) (pw_or1 (pt_cmpR (op_nePK K hr) (pv 7) (pe_callB (cr_sortedDK K hr) (by rfl) T.n_sorted (by decide +kernel) (pa_cons (pv 7) pa_nil)) (nomark _))))) (pss_one (ps_ret pe_non)) pss_nil)
  (pss_cons (ps_set (i := 10) sc__law_read.nd rfl (by first | exact Or.inl rfl | exact Or.inr rfl) (pe_ix (ix_tupK K) (pe_ix (ix_listK K) (pv 1) (pe_op op_sub (pv 5) pe_int) (fun _ _ => rfl)) pe_int (fun _ _ => rfl)))
  (pss_cons (ps_set (i := 11) sc__law_read.nd rfl (by first | exact Or.inl rfl | exact Or.inr rfl) (pe_op op_add_str (pe_op op_add_str (pe_op op_add_str (pv 10) pe_str) (pe_join pe_str (pv 7))) pe_str))
  (pss_one (ps_set (i := 1) sc__law_read.nd rfl (by first | exact Or.inl rfl | exact Or.inr rfl) (pe_op op_cat (pe_slice (sl_listK K) (pv 1) po_none (po_some (pe_op op_sub (pv 5) pe_int))) (pe_lst (pa_cons (pe_tup (pa_cons (pv 11) (pa_cons (pe_tup (pa_cons (pv 10) (pa_cons (pe_lc (own := [("more", 8), ("child", 9)]) (g := (gTup K 2 (gCons (gName 8) (gCons (gName 9) gNil)))) rfl sc__law_read.nd (pi_listK K (pv 6)) (blkOk_by (own := [("more", 8), ("child", 9)]) (N := ["text", "parts", "open_at", "at", "sign", "begin", "inner", "written", "more", "child", "letter", "writing"]) (sc := defScope s__law_read) (by decide +kernel)) (fun _ _ _ _ _ => (pg_tup (by rfl) (pgs_cons (pg_name (i := 8) sc__law_read.nd rfl (by first | exact Or.inl rfl | exact Or.inr rfl)) (pgs_cons (pg_name (i := 9) sc__law_read.nd rfl (by first | exact Or.inl rfl | exact Or.inr rfl)) pgs_nil)))) (fun _ _ _ _ _ => pts_nil) (fun _ _ _ _ _ => (pv 9))) pa_nil))) pa_nil))) pa_nil))))))))))) (pss_one (ps_ret pe_non))))))))))
  (pss_cons (ps_if (PW.pt (pw_or (pt_cmpR op_ne (pe_callB (call_lenK K) (by rfl) T.n_len PySem.boot_len (pa_cons (pv 1) pa_nil)) pe_int (nomark _)) (pw_or1 (pt_cmp (pc_neNilK K hr (pv 2)))))) (pss_one (ps_ret pe_non)) pss_nil)
  (pss_one (ps_ret (pe_ix (ix_tupK K) (pe_ix (ix_listK K) (pv 1) pe_int (fun _ _ => rfl)) pe_int (fun _ _ => rfl)))))))), ?_⟩
    have hll : (txS l).length ≤ sizeLine := by rw [txS_len]; exact Nat.le_trans hl (by decide)
    walk_at "rd"
    refine ⟨(by walk_at "sz"), fun pp np => ?_⟩
    generalize e0 : upd H pp _ = H0
    obtain ⟨S0, hp0⟩ := newF np e0
    walk_at "rd"
    refine ⟨(by walk_at "sz"), fun oo no0 => ?_⟩
    generalize e1 : upd H0 oo _ = H1
    obtain ⟨S1, ho1⟩ := newF no0 e1
    have no : H oo = none := S0.free no0
    have npo : pp ≠ oo := ne_of_none hp0 no0
    have hp1 := S1 _ _ hp0
    walk_at "rd"
    have el : ((⟨l.toArray⟩ : Str).length : Int) = (l.length : Int) := by rw [show (⟨l.toArray⟩ : Str).length = l.length from txS_len l]
    rw [el]
    refine ⟨by omega, by omega, ?_⟩
    rw [Int.toNat_natCast]
    refine for_range (lo := 0) (n := l.length) (fun i σ H' => ∃ (pp oo : Addr) (fps : List Fp) (s : RS) (x3 x4 x5 x6 x7 x8 x9 x10 x11 : Option V), σ = [some (tx l), some (.ref pp), some (.ref oo), x3, x4, x5, x6, x7, x8, x9, x10, x11] ∧ Same H H' ∧ H pp = none ∧ H oo = none ∧ pp ≠ oo ∧
        H' pp = some (.lst (fps.map Fp.v)) ∧ H' oo = some (.lst ((begs s.ab).map fun b : Nat => V.int (b : Int))) ∧ (∀ p ∈ fps, FF H' p.t p.v p.as ∧ pp ∉ p.as ∧ oo ∉ p.as) ∧ fps.map Fp.t = flatA s.ab ++ s.here ∧
        RS.run ⟨0, [], []⟩ (l.take i) = some s ∧ s.Inv ∧ s.tot ≤ i ∧ (i = 0 → s.prev = 0) ∧ (0 < i → l[i - 1]? = some s.prev))
      ⟨pp, oo, [], ⟨0, [], []⟩, none, none, none, none, none, none, none, none, none, rfl, S0.trans S1, np, no, npo, hp1, ho1, fun p hp => (by cases hp), rfl, rfl, RS.inv0, Nat.le_refl _, fun _ => rfl, fun h => absurd h (by decide)⟩ ?_ ?_
    · rintro i σ H2 hi ⟨pp, oo, fps, s, x3, x4, x5, x6, x7, x8, x9, x10, x11, rfl, S2, np, no, npo, hp2, ho2, hF, hfl, hrun, hinv, htot, hq0, hq1⟩
      clear hp1 ho1 e0 e1 S0 S1 hp0 no0
      obtain ⟨c, hc⟩ : ∃ c, l[i]? = some c := ⟨l[i], List.getElem?_eq_getElem hi⟩
      have hat : atI (txS l).cps.toList (0 + (i : Int)) = some c := by rw [Int.zero_add]; exact atI_nat (by simpa using hc)
      have hfn : fps.length ≤ 90000 := by
        have z := congrArg List.length hfl
        rw [List.length_map, List.length_append] at z
        have z2 := flat_tot s.ab
        have z3 := Tr.sizes_len s.here
        unfold RS.tot at htot
        omega
      have bad : s.step c = none → ∀ H', Same H H' → Q .non H' := fun hn H' S => k2 (by unfold parse; rw [RS.run_stop hrun hc hn]) H' S
      walk_at "rd"
      refine ⟨_, _, c, rfl, rfl, hll, hat, ?_⟩
      walk_at "rd"
      rw [letter_in]
      cases hL : isL c with
      | true =>
        walk_at "rd"
        refine ⟨(by walk_at "sz"), fun l0 n0 => ?_⟩
        generalize e4 : upd H2 l0 _ = H4
        obtain ⟨S34, hl4⟩ := newF n0 e4
        walk_at "rd"
        refine ⟨(by walk_at "sz"), fun t1 n1 => ?_⟩
        generalize e5 : upd H4 t1 _ = H5
        obtain ⟨S45, ht5⟩ := newF n1 e5
        walk_at "rd"
        refine ⟨(by walk_at "sz"), fun t2 n2 => ?_⟩
        generalize e6 : upd H5 t2 _ = H6
        obtain ⟨S56, ht6⟩ := newF n2 e6
        have S36 : Same H2 H6 := S34.trans (S45.trans S56)
        have hp6 := S36 _ _ hp2
        walk_at "rd"
        refine ⟨_, _, _, rfl, rfl, hp6, by rw [List.length_map]; exact Nat.lt_of_le_of_lt hfn (by decide), ?_⟩
        generalize e7 : upd H6 pp _ = H7
        have k7 : Keep [pp] H6 H7 := by subst e7; exact (Keep.refl _ _).upd (by simp) hp6
        have hp7 : H7 pp = some (.lst (fps.map Fp.v ++ [.ref t2])) := by subst e7; exact upd_same
        have nlp : l0 ≠ pp := (ne_of_none hp2 n0).symm
        have nlo : l0 ≠ oo := (ne_of_none ho2 n0).symm
        have FF6 : FF H6 (.node c []) (.ref t2) [l0] := ⟨t2, .ref t1, rfl, by rw [ht6, Tr.W_leaf], .mk t1 l0 [] (S56 _ _ ht5) (S56 _ _ (S45 _ _ hl4)) (fun p hp => by cases hp) rfl rfl rfl⟩
        have FF7 : FF H7 (.node c []) (.ref t2) [l0] := FF6.keep k7 fun b hb z => nlp (by rw [← List.mem_singleton.mp hb, List.mem_singleton.mp z])
        have hr7 : RS.run ⟨0, [], []⟩ (l.take (i + 1)) = some ⟨c, s.ab, s.here ++ [.node c []]⟩ := by rw [RS.run_next hrun hc, RS.step_L hL]
        have hst := (RS.run_next hrun hc).symm.trans hr7
        have S07 : Same H H7 := by subst e7; exact Same.upd_own (S2.trans S36) np
        refine ⟨pp, oo, fps ++ [(.ref t2, .node c [], [l0])], ⟨c, s.ab, s.here ++ [.node c []]⟩, _, _, _, _, _, _, _, _, _, rfl, S07, np, no, npo, by rw [hp7, List.map_append]; rfl, k7.but _ _ (by simpa using Ne.symm npo) (S36 _ _ ho2), fun p hp => ?_, ?_, hr7, RS.step_inv hst, Nat.le_trans (RS.step_tot hinv hst) (by omega), fun z => absurd z (by omega), fun _ => hc⟩
        · rcases List.mem_append.mp hp with hp | hp
          · obtain ⟨z1, z2, z3⟩ := hF p hp
            exact ⟨(z1.same S36).keep k7 fun b hb z => z2 (by rw [← List.mem_singleton.mp z]; exact hb), z2, z3⟩
          · obtain rfl := List.mem_singleton.mp hp
            exact ⟨FF7, by simpa [Fp.as] using Ne.symm nlp, by simpa [Fp.as] using Ne.symm nlo⟩
        · rw [List.map_append, hfl, List.append_assoc]
          rfl
      | false =>
        walk_at "rd"
        rw [sign_op]
        by_cases h40 : c = 40
        · subst h40
          by_cases hi0 : i = 0
          · subst hi0
            walk_at "rd"
            exact bad (by unfold RS.step; rw [if_neg (by decide), if_neg (fun z => absurd z.2 (by rw [hq0 rfl]; decide)), if_neg (by decide)]) _ S2
          · have hprev := hq1 (by omega)
            have hix : atI (txS l).cps.toList (0 + (i : Int) - 1) = some s.prev := by
              rw [show 0 + (i : Int) - 1 = ((i - 1 : Nat) : Int) by omega]
              exact atI_nat (by simpa using hprev)
            refine iteB (decide_eq_true rfl) ?_
            walk_at "rd"
            refine iteB (decide_eq_true (by omega)) ?_
            walk_at "rd"
            refine ⟨_, _, s.prev, rfl, rfl, hll, hix, ?_⟩
            walk_at "rd"
            rw [letter_in]
            cases hLp : isL s.prev with
            | false =>
              walk_at "rd"
              exact bad (RS.step40 hLp) _ S2
            | true =>
              obtain ⟨ts0, ets⟩ := hinv hLp
              walk_at "rd"
              refine ⟨_, _, _, rfl, rfl, ho2, ?_, ?_⟩
              · have z1 := sum_ge (fun p : Nat × List Tr => 1 + Tr.sizes p.2) (fun _ => by omega) s.ab
                have z2 : (begs s.ab).length = s.ab.length := by simp [begs]
                unfold RS.tot at htot
                rw [List.length_map, z2]
                exact Nat.lt_of_le_of_lt (show _ ≤ 90000 by omega) (by decide)
              generalize e7 : upd H2 oo _ = H7
              have k7 : Keep [oo] H2 H7 := by subst e7; exact (Keep.refl _ _).upd (by simp) ho2
              have ho7 : H7 oo = some (.lst ((begs s.ab).map (fun b : Nat => V.int (b : Int)) ++ [.int ((fps.map Fp.v).length : Int)])) := by subst e7; exact upd_same
              have hr7 : RS.run ⟨0, [], []⟩ (l.take (i + 1)) = some ⟨40, s.ab ++ [(s.prev, s.here.dropLast)], []⟩ := by rw [RS.run_next hrun hc, RS.step40_ok hLp]
              have hst := (RS.run_next hrun hc).symm.trans hr7
              have S07 : Same H H7 := by subst e7; exact Same.upd_own S2 no
              have hfl7 : fps.map Fp.t = flatA (s.ab ++ [(s.prev, s.here.dropLast)]) := by rw [flatA_snoc, hfl, ets, List.dropLast_concat]
              refine ⟨pp, oo, fps, ⟨40, s.ab ++ [(s.prev, s.here.dropLast)], []⟩, _, _, _, _, _, _, _, _, _, rfl, S07, np, no, npo, k7.but _ _ (by simpa using npo) hp2, ?_, fun p hp => ?_, by rw [hfl7, List.append_nil], hr7, RS.step_inv hst, Nat.le_trans (RS.step_tot hinv hst) (by omega), fun z => absurd z (by omega), fun _ => hc⟩
              · rw [ho7, begs_snoc, List.map_append, ← hfl7, List.length_map, List.length_map]
                rfl
              · obtain ⟨z1, z2, z3⟩ := hF p hp
                exact ⟨z1.keep k7 fun b hb z => z3 (by rw [← List.mem_singleton.mp z]; exact hb), z2, z3⟩
        · refine iteC (decide_eq_false h40) ?_
          walk_at "rd"
          rw [sign_cl]
          by_cases h41 : c = 41
          · subst h41
            refine iteB (decide_eq_true rfl) ?_
            rcases snoc_cases s.ab with hab | ⟨ab0, ⟨lc, more⟩, hab⟩
            · rw [hab] at ho2
              walk_at "rd"
              exact bad (RS.step41_none hab) _ S2
            · obtain ⟨prev, ab, here⟩ := s
              dsimp only at hab hfl hrun hinv htot hq0 hq1 bad ho2
              subst hab
              rw [begs_snoc, List.map_append] at ho2
              rw [flatA_snoc] at hfl
              walk_at "rd"
              refine ifNe (by simp) ?_
              obtain ⟨prl, hs, rfl, hprl, hhs⟩ := List.map_eq_append_iff.mp hfl
              obtain ⟨pre, lf, rfl, hpre, hlf⟩ := List.map_eq_append_iff.mp (hprl.trans (List.append_assoc _ _ _).symm)
              obtain ⟨⟨lv, lt, las⟩, rfl, elt⟩ : ∃ q : Fp, lf = [q] ∧ q.t = .node lc [] := by
                match lf, hlf with
                | [q], hlf => exact ⟨q, rfl, by simpa using hlf⟩
                | [], hlf => simp at hlf
                | _ :: _ :: _, hlf => simp at hlf
              have hbl : (flatA (ab0 ++ [(lc, more)])).length = pre.length + 1 := by
                have z := congrArg List.length hpre
                rw [List.length_map, List.length_append] at z
                rw [flatA_snoc, List.length_append, List.length_append, List.length_singleton]
                omega
              rw [hbl] at ho2
              walk_at "rd"
              generalize e3 : upd H2 oo _ = H3
              have k3 : Keep [oo] H2 H3 := by subst e3; exact (Keep.refl _ _).upd (by simp) ho2
              have ho3 : H3 oo = some (.lst ((begs ab0).map fun b : Nat => V.int (b : Int))) := by subst e3; rw [upd_same, List.dropLast_concat]
              have S03 : Same H H3 := by subst e3; exact Same.upd_own S2 no
              have hp3 := k3.but _ _ (by simpa using npo) hp2
              have hF3 : ∀ p ∈ pre ++ [((lv, lt, las) : Fp)] ++ hs, FF H3 p.t p.v p.as ∧ pp ∉ p.as ∧ oo ∉ p.as := fun p hp => by
                obtain ⟨z1, z2, z3⟩ := hF p hp
                exact ⟨z1.keep k3 fun b hb z => z3 (by rw [← List.mem_singleton.mp z]; exact hb), z2, z3⟩
              refine fun ip nip => ?_
              generalize e4 : upd H3 ip _ = H4
              obtain ⟨S34, hip⟩ := newF nip e4
              have ecut : cutV ((pre ++ [((lv, lt, las) : Fp)] ++ hs).map Fp.v) (some ((pre.length + 1 : Nat) : Int)) none = hs.map Fp.v := by
                rw [cut_drop rfl (by simp), List.map_append, List.drop_left' (by simp)]
              have hip4 : H4 ip = some (.lst (hs.map Fp.v)) := by rw [hip, ← ecut]
              have hhn : hs.length ≤ 90000 := by
                rw [List.length_append] at hfn
                omega
              have hF4 : ∀ p ∈ hs, FF H4 p.t p.v p.as := fun p hp => (hF3 p (List.mem_append_right _ hp)).1.same S34
              have hsz : Tr.sizes (hs.map Fp.t) ≤ 90000 := by
                rw [hhs]
                unfold RS.tot at htot
                dsimp only at htot
                omega
              have hW := Tr.Ws_len (hs.map Fp.t)
              rw [Tr.Ws_flat] at hW
              walk_at "rd"
              refine lc_more (a := 8) (b := 9) (qs := hs) (show 8 < 12 by decide) (show 9 < 12 by decide) (by decide) hip4 hF4 (by omega) fun D1 H5 S45 nD1 hD1 => ?_
              have eW : (hs.map fun q => tx q.t.W) = ((hs.map Fp.t).map Tr.W).map tx := by rw [List.map_map, List.map_map]; rfl
              rw [eW] at hD1
              have hip5 := S45 _ _ hip4
              have S05 : Same H H5 := (S03.trans S34).trans S45
              walk_at "rd"
              by_cases he : hs = []
              · refine iteB (by subst he; rfl) ?_
                walk_at "rd"
                exact bad (by rw [RS.step41, if_neg (fun z => z.1 (by rw [← hhs, he]; rfl))]) _ S05
              refine iteC (by cases hs with | nil => exact absurd rfl he | cons => rfl) ?_
              walk_at "rd"
              refine ⟨D1, (((hs.map Fp.t).map Tr.W).map fun l => (tx l, PyData.str (txS l))), rfl, SqL.of (by rw [fst_strs]; exact hD1), ?_, ?_, ?_, fun p np6 => ?_⟩
              · intro q hq
                obtain ⟨l, _, rfl⟩ := List.mem_map.mp hq
                exact ⟨.str _, by simp [PyData.depth]⟩
              · intro a ha b hb
                simp only [List.mem_map] at ha hb
                obtain ⟨_, ⟨_, _, rfl⟩, rfl⟩ := ha
                obtain ⟨_, ⟨_, _, rfl⟩, rfl⟩ := hb
                simp [PySem.W.alike]
              · refine .inr fun a ha => ?_
                simp only [List.mem_map] at ha
                obtain ⟨_, ⟨_, _, rfl⟩, rfl⟩ := ha
                exact ⟨(fun z => nomatch z), (fun _ z => nomatch z)⟩
              rw [srt_strs]
              generalize e6 : upd H5 p _ = H6
              obtain ⟨S56, hp6⟩ := newF np6 e6
              have hD6 := S56 _ _ hD1
              have hip6 := S56 _ _ hip5
              walk_at "rd"
              refine ⟨_, _, dp_strs hD6, dp_strs hp6, plain_strs _, plain_strs _, ?_, ?_⟩
              · simp only [PyData.depth, depth_strs]
                decide
              have ev : PyData.eqv (.list (((hs.map Fp.t).map Tr.W).map fun l => PyData.str (txS l))) (.list ((sortL ((hs.map Fp.t).map Tr.W)).map fun l => PyData.str (txS l))) = decide ((hs.map Fp.t).map Tr.W = sortL ((hs.map Fp.t).map Tr.W)) := by
                rw [← eqv_strs]
                rfl
              rw [ev]
              have S06 : Same H H6 := S05.trans S56
              by_cases hsr : SrtW (hs.map Fp.t)
              rotate_left
              · rw [decide_eq_false (fun z => hsr ((srtW_iff _).mpr ((sortL_iff _).mp z.symm)))]
                walk_at "rd"
                exact bad (by rw [RS.step41, if_neg (fun z => hsr (by rw [hhs]; exact z.2))]) _ S06
              rw [decide_eq_true ((sortL_iff _).mpr ((srtW_iff _).mp hsr)).symm]
              have S36 : Same H3 H6 := (S34.trans S45).trans S56
              have zlf : FF H3 lt lv las := (hF3 (lv, lt, las) (by simp)).1
              obtain ⟨la, lu, rfl, hla, hlu⟩ := zlf
              have hla6 : H6 la = some (.tup [tx [lc], lu]) := by
                have z := S36 _ _ hla
                rw [show lt = Tr.node lc [] from elt, Tr.W_leaf] at z
                exact z
              have hpp6 := S36 _ _ hp3
              have hat1 : atI ((pre ++ [((V.ref la, lt, las) : Fp)] ++ hs).map Fp.v) (((pre.length + 1 : Nat) : Int) - 1) = some (V.ref la) := by
                rw [show ((pre.length + 1 : Nat) : Int) - 1 = ((pre.length : Nat) : Int) by omega]
                exact atI_nat (by simp)
              walk_at "rd"
              refine ⟨pp, _, _, .ref la, rfl, rfl, SqL.of hpp6, hat1, ?_⟩
              walk_at "rd"
              have hne : hs.map Fp.t ≠ [] := by simpa using he
              have hw : (Tr.node lc (hs.map Fp.t)).W = lc :: 40 :: (((hs.map Fp.t).map Tr.W).flatten ++ [41]) := by rw [Tr.W_node lc hne, Tr.Ws_flat]
              have e40 : (⟨#[lc]⟩ : Str) ++ PySem.Str.ofString "(" = txS [lc, 40] := txS_app [lc] [40]
              have e41 : PySem.Str.ofString ")" = txS [41] := rfl
              refine ⟨by show 1 + 1 ≤ sizeLine; decide, ?_⟩
              walk_at "rd"
              refine ⟨txS [], D1, ((hs.map Fp.t).map Tr.W).map txS, rfl, rfl, .inl (SqL.of (by rw [txs_strs]; exact hD6)), ?_, ?_⟩
              · have e : ((((hs.map Fp.t).map Tr.W).map txS).map (·.length)).sum = (((hs.map Fp.t).map Tr.W).flatten).length := by
                  rw [List.map_map, List.length_flatten]
                  congr 1
                rw [e]
                show _ + _ * 0 ≤ 16777216
                omega
              rw [join_nil]
              refine ⟨_, _, rfl, rfl, ?_, ?_⟩
              · rw [show ((⟨#[lc]⟩ : Str) ++ PySem.Str.ofString "(") = txS [lc, 40] from e40, txS_len, txS_len]
                exact Nat.le_trans (show _ ≤ 400000 by show 2 + _ ≤ _; omega) (by decide)
              rw [show ((⟨#[lc]⟩ : Str) ++ PySem.Str.ofString "(") = txS [lc, 40] from e40, txS_app]
              walk_at "rd"
              refine ⟨?_, ?_⟩
              · rw [txS_len, e41, txS_len]
                exact Nat.le_trans (show _ ≤ 400000 by rw [List.length_append]; show 2 + _ + 1 ≤ _; omega) (by decide)
              rw [e41, txS_app]
              walk_at "rd"
              refine fun ip2 nip2 => ?_
              generalize e7 : upd H6 ip2 _ = H7
              obtain ⟨S67, hip7⟩ := newF nip2 e7
              have ecut2 : cutV ((pre ++ [((V.ref la, lt, las) : Fp)] ++ hs).map Fp.v) none (some (((pre.length + 1 : Nat) : Int) - 1)) = pre.map Fp.v := by
                rw [cut_take (n := pre.length) (by omega) (by simp), List.append_assoc, List.map_append, List.take_left' (by simp)]
              have hip7' : H7 ip2 = some (.lst (pre.map Fp.v)) := by rw [hip7, ← ecut2]
              have hip67 := S67 _ _ hip6
              have S37 : Same H3 H7 := S36.trans S67
              walk_at "rd"
              refine lc_child (a := 8) (b := 9) (qs := hs) (show 8 < 12 by decide) (show 9 < 12 by decide) (by decide) hip67 (fun q hq => ((hF3 q (List.mem_append_right _ hq)).1.same S37)) (by omega) fun D H8 us S78 nD hD8 eu1 eu2 hu => ?_
              refine ⟨(by walk_at "sz"), fun t2 n2 => ?_⟩
              generalize e9 : upd H8 t2 _ = H9
              obtain ⟨S89, ht9⟩ := newF n2 e9
              refine ⟨(by walk_at "sz"), fun t3 n3 => ?_⟩
              generalize e10 : upd H9 t3 _ = H10
              obtain ⟨S910, ht10⟩ := newF n3 e10
              refine ⟨(by walk_at "sz"), fun c4 n4 => ?_⟩
              generalize e11 : upd H10 c4 _ = H11
              obtain ⟨S1011, hc11⟩ := newF n4 e11
              have S711 : Same H7 H11 := ((S78.trans S89).trans S910).trans S1011
              have S311 : Same H3 H11 := S37.trans S711
              have hip11 := S711 _ _ hip7'
              refine ⟨ip2, c4, _, _, rfl, rfl, hip11, hc11, ?_, fun q nq => ?_⟩
              · rw [List.length_map, List.length_singleton]
                simp only [List.length_append] at hfn
                exact Nat.le_trans (show _ ≤ 100000 by omega) (by decide)
              generalize e12 : upd H11 q _ = H12
              obtain ⟨S1112, hq12⟩ := newF nq e12
              have S312 : Same H3 H12 := S311.trans S1112
              have S012 : Same H H12 := S03.trans S312
              have hr12 : RS.run ⟨0, [], []⟩ (l.take (i + 1)) = some ⟨41, ab0, more ++ [.node lc here]⟩ := by
                rw [RS.run_next hrun hc, RS.step41, if_pos ⟨by rw [← hhs]; exact hne, by rw [← hhs]; exact hsr⟩]
              have hst := (RS.run_next hrun hc).symm.trans hr12
              have n3D : H3 D = none := S37.free nD
              have nDo : oo ≠ D := ne_of_none ho3 n3D
              have tF : TF H12 (.node lc (hs.map Fp.t)) (.ref t2) (D :: us.flatMap Fp.as) := by
                rw [← eu1]
                exact .mk t2 D us (((S910.trans S1011).trans S1112) _ _ ht9) ((((S89.trans S910).trans S1011).trans S1112) _ _ hD8) (fun u hu' => (hu u hu').same (S711.trans S1112)) rfl rfl rfl
              have eas : us.flatMap Fp.as = hs.flatMap Fp.as := by rw [List.flatMap_def, eu2, ← List.flatMap_def]
              refine ⟨q, oo, pre ++ [(.ref t3, .node lc (hs.map Fp.t), D :: us.flatMap Fp.as)], ⟨41, ab0, more ++ [.node lc here]⟩, _, _, _, _, _, _, _, _, _, rfl, S012, S03.free (S311.free nq), no, (ne_of_none (S311 _ _ ho3) nq).symm, by rw [hq12, List.map_append]; rfl, S312 _ _ ho3, fun p hp => ?_, ?_, hr12, RS.step_inv hst, Nat.le_trans (RS.step_tot hinv hst) (by omega), fun z => absurd z (by omega), fun _ => hc⟩
              · have nn : ∀ {as : List Addr}, (∀ a ∈ as, ∃ xs, H11 a = some (.lst xs)) → q ∉ as := fun h z => by
                  obtain ⟨xs, e⟩ := h q z
                  rw [nq] at e
                  cases e
                rcases List.mem_append.mp hp with hp | hp
                · obtain ⟨z1, z2, z3⟩ := hF3 p (List.mem_append_left _ (List.mem_append_left _ hp))
                  exact ⟨z1.same S312, nn (z1.same S311).live, z3⟩
                · obtain rfl := List.mem_singleton.mp hp
                  refine ⟨⟨t3, .ref t2, rfl, ?_, tF⟩, ?_, ?_⟩
                  · rw [(S1011.trans S1112) _ _ ht10, hw]
                    rfl
                  · intro z
                    rcases List.mem_cons.mp z with z | z
                    · rw [z] at nq
                      rw [(((S89.trans S910).trans S1011)) _ _ hD8] at nq
                      cases nq
                    · rw [eas] at z
                      obtain ⟨p, hp', z⟩ := List.mem_flatMap.mp z
                      exact nn (((hF3 p (List.mem_append_right _ hp')).1.same S311).live) z
                  · intro z
                    rcases List.mem_cons.mp z with z | z
                    · exact nDo z
                    · rw [eas] at z
                      obtain ⟨p, hp', z⟩ := List.mem_flatMap.mp z
                      exact (hF3 p (List.mem_append_right _ hp')).2.2 z
              · rw [List.map_append, hpre, List.append_assoc, ← hhs]
                rfl
          · refine iteC (decide_eq_false h41) ?_
            walk_at "rd"
            exact bad (RS.step_other hL h40 h41) _ S2
    · rintro σ H2 ⟨pp, oo, fps, s, x3, x4, x5, x6, x7, x8, x9, x10, x11, rfl, S2, np, no, npo, hp2, ho2, hF, hfl, hrun, hinv, htot, hq0, hq1⟩
      rw [List.take_length] at hrun
      obtain ⟨prev, ab, here⟩ := s
      dsimp only at hfl hrun ho2
      have hnone : ¬ (ab = [] ∧ ∃ t, here = [t]) → parse l = none := fun h => by
        unfold parse
        rw [hrun]
        split
        · rename_i z
          cases z
          exact absurd ⟨rfl, _, rfl⟩ h
        · rfl
      rcases snoc_cases ab with rfl | ⟨ab, q, rfl⟩
      · match here, hfl, hrun, hnone with
        | [], hfl, hrun, hnone =>
          have z : fps = [] := by simpa [flatA] using hfl
          subst z
          walk_at "rd"
          exact k2 (hnone (by rintro ⟨_, t, z⟩; cases z)) _ S2
        | [t], hfl, hrun, hnone =>
          obtain ⟨⟨fv, ft, fa⟩, rfl, z2⟩ : ∃ q : Fp, fps = [q] ∧ q.t = t := by
            match fps, hfl with
            | [q], hfl => exact ⟨q, rfl, by simpa [flatA] using hfl⟩
            | [], hfl => simp [flatA] at hfl
            | _ :: _ :: _, hfl => simp [flatA] at hfl
          obtain ⟨⟨a1, u1, rfl, ha1, hu1⟩, _, _⟩ := hF _ List.mem_cons_self
          have hpt : parse l = some t := by unfold parse; rw [hrun]
          walk_at "rd"
          exact k1 t hpt _ _ _ S2 (z2 ▸ hu1)
        | t :: u :: r, hfl, hrun, hnone =>
          have z : 2 ≤ fps.length := by
            have := congrArg List.length hfl
            simp [flatA] at this
            omega
          have hne : ¬ (V.int ((fps.map Fp.v).length : Int) = V.int 1) := fun q => by
            have := V.int.inj q
            rw [List.length_map] at this
            omega
          walk_at "rd"
          refine iteB (by rw [decide_eq_false hne]; rfl) ?_
          walk_at "rd"
          exact k2 (hnone (by rintro ⟨_, t, z⟩; cases z)) _ S2
      · rw [begs_snoc, List.map_append] at ho2
        have bad := k2 (hnone (by rintro ⟨z, _⟩; simp at z)) _ S2
        walk_at "rd"
        by_cases hne : V.int ((fps.map Fp.v).length : Int) = V.int 1
        · refine iteC (by rw [decide_eq_true hne]; rfl) ?_
          walk_at "rd"
          refine ifNe (by simp) ?_
          walk_at "rd"
          exact bad
        · refine iteB (by rw [decide_eq_false hne]; rfl) ?_
          walk_at "rd"
          exact bad
end
end Hy
set_option Elab.async false
set_option linter.all false
set_option maxRecDepth 100000
set_option maxHeartbeats 4000000
namespace Hy
open PySem L2
local macro_rules | `(tactic| walk_at "hp") => `(tactic| first
  | assumption | exact upd_same
  | (refine (upd_ne ?_).trans ?_ <;> first | assumption | (exact Ne.symm (by assumption)) | walk_at "ne" | walk_at "hp")
  | (refine (by assumption : Same _ _) _ _ ?_; assumption))
local macro_rules | `(tactic| walk_at "ne") => `(tactic| first
  | assumption | (exact Ne.symm (by assumption))
  | exact ne_of_none (by assumption) (by assumption) | exact Ne.symm (ne_of_none (by assumption) (by assumption)))
local macro_rules | `(tactic| walk_at "sz") => `(tactic| first | assumption | (show 0 ≤ sizeLine; decide) | (show 1 ≤ sizeLine; decide) | (show 2 ≤ sizeLine; decide) | (show 3 ≤ sizeLine; decide))
local macro_rules | `(tactic| walk_at "ar") => `(tactic| first
  | ((with_reducible show (0 : Int) < _); first | decide | omega)
  | ((with_reducible show CMul _ _); first | exact Or.inr (And.intro (by decide) (by decide)) | exact Or.inl (And.intro (by decide) (by decide)) | (refine Or.inl (And.intro ?_ ?_) <;> omega) | (refine Or.inr (And.intro ?_ ?_) <;> omega))
  | ((with_reducible show CPow _ _); exact And.intro (by decide) (And.intro (by decide) (by decide)))
  | ((with_reducible show CDiv _ _); first | exact And.intro (by decide) (by decide) | (refine And.intro ?_ ?_ <;> omega)))
/- one step of a reading -/
local macro_rules | `(tactic| walk_at "r1") => `(tactic| first
  | refine ⟨_, rfl, ?_⟩
  | refine iteB (by rfl) ?_ | refine iteC (by rfl) ?_
  | refine ⟨_, _, rfl, rfl, ?_⟩
  | refine ⟨rfl, ?_⟩
  | refine ⟨⟨_, rfl⟩, ?_⟩
  | refine ⟨_, _, _, _, true, rfl, .ty _, .base (.str _), kit_ty (by decide +kernel), ?_⟩
  | refine ⟨_, _, _, _, false, rfl, .ty _, .base (.str _), kit_ty (by decide +kernel), ?_⟩
  | refine ⟨_, _, _, _, true, rfl, .ty _, .base (.tup (by walk_at "hp")), kit_ty (by decide +kernel), ?_⟩
  | refine ⟨_, _, _, _, false, rfl, .ty _, .base (.tup (by walk_at "hp")), kit_ty (by decide +kernel), ?_⟩
  | refine ⟨_, _, _, _, true, rfl, .ty _, .base (.lst (by walk_at "hp")), kit_ty (by decide +kernel), ?_⟩
  | refine ⟨_, _, _, _, false, rfl, .ty _, .base (.lst (by walk_at "hp")), kit_ty (by decide +kernel), ?_⟩
  | refine ⟨_, _, rfl, ⟨by walk_at "sz", rfl⟩, ?_⟩
  | refine ⟨_, _, _, _, rfl, rfl, SqT.of (by walk_at "hp"), by rfl, ?_⟩
  | refine ⟨_, _, _, _, rfl, rfl, SqL.of (by walk_at "hp"), by rfl, ?_⟩
  | refine ⟨.inl ⟨rfl, _, SqL.of (by walk_at "hp")⟩, ?_⟩
  | refine ⟨_, _, _, rfl, rfl, (by walk_at "hp"), snoc_get, ?_⟩
  | refine ⟨_, _, _, _, rfl, rfl, (by walk_at "hp"), by rfl, ?_⟩
  | refine ⟨_, _, rfl, SqL.of (by walk_at "hp"), ?_⟩
  | refine ⟨_, _, rfl, SqT.of (by walk_at "hp"), by rfl, ?_⟩
  | refine ⟨_, (_ : List V), rfl, ?_⟩
  | refine ⟨_, _, rfl, .inl ⟨_, (by assumption), rfl⟩, ?_⟩
  | refine ⟨_, _, rfl, .inl ⟨_, SqL.of (by walk_at "hp"), rfl⟩, ?_⟩
  | refine ⟨_, _, rfl, .inr ⟨_, SqT.of (by walk_at "hp"), rfl⟩, ?_⟩
  | refine Or.inl ⟨(_ : Int), rfl, ?_⟩ | refine Or.inr ⟨(_ : Bool), rfl, ?_⟩
  | refine And.intro (by walk_at "ar") ?_)
local macro_rules | `(tactic| walk_at "rd") => `(tactic| repeat walk_at "r1")

/-- the error classes, as _law_said asks for them -/
structure TxE (K : PySem.W.Frag) (mg : Str → Option Value) (eH eT eL eF eM eN eX eA eR : Addr) : Prop where
  m_HeapError : mg "HeapError" = some (.ref eH)
  c_NoTree : GV mg "NoTree" (.ref eT)
  c_NoLetter : GV mg "NoLetter" (.ref eL)
  c_NoFit : GV mg "NoFit" (.ref eF)
  c_TooMany : GV mg "TooMany" (.ref eM)
  c_NoNumber : GV mg "NoNumber" (.ref eN)
  m_NoText : mg "NoText" = some (.ref eX)
  c_NoText : GV mg "NoText" (.ref eX)
  c_NoName : GV mg "NoName" (.ref eA)
  c_NoRow : GV mg "NoRow" (.ref eR)
  n_ValueError : mg "ValueError" = none
  exC : ExcC K eX
  exm : PySem.W.exmOne K (.ref eX) (.ref eH) = some true
  any : PySem.W.kitAny K (.ref eX) [.ref eF, .ref eL, .ref eA, .ref eN, .ref eR, .ref eT, .ref eM] = some false
  one : PySem.W.kitOne K (.ref eX) (.ref eX) = some true
  val : PySem.W.kitOne K (.ref eX) (.type "ValueError") = some true
section
variable {P : Program} {w : World} {K : PySem.W.Frag} {mg : Str → Option Value} {base : Heap} {eH eT eL eF eM eN eX eA eR : Addr}
abbrev s__law_said : Stmt := top 24
theorem sc__law_said : FnScope ["text", "found", "caught", "e"] ["text"] (defScope s__law_said) := ⟨rfl, rfl, rfl, by decide +kernel, rfl, by decide +kernel, by decide +kernel⟩
abbrev s__law_odd : Stmt := top 23
theorem sc__law_odd : FnScope ["store", "some", "long", "things"] ["store"] (defScope s__law_odd) := ⟨rfl, rfl, rfl, by decide +kernel, rfl, by decide +kernel, by decide +kernel⟩

/-- a thing that is no text -/
def NoTx (K : PySem.W.Frag) (H : Hp) (v : V) : Prop := ∃ u, TyX K H v u ∧ PySem.W.kitOne K u (.type "str") = some false
def TWO (H : Hp) (v : V) (a b : V) : Prop := ∃ p, v = .ref p ∧ H p = some (.tup [a, b])
def sp__law_said : Sp := fun vs H Q E => ∃ v, vs = [v] ∧
  ((∃ l : List Nat, v = tx l ∧ l.length ≤ 90000 ∧ (∀ t, parse l = some t → ∀ (H' : Hp) (r v' : V) (as : List Addr), Same H H' → TF H' t v' as → TWO H' r (.str "told") v' → Q r H') ∧ (parse l = none → ∀ (H' : Hp) (r : V), Same H H' → TWO H' r (.str "none") .non → Q r H')) ∨
    (NoTx K H v ∧ ∀ (H' : Hp) (r : V), Same H H' → TWO H' r (.str "none") .non → Q r H'))
theorem ok__law_said (D : Df K mg "_law_said" s__law_said ["text"]) (T : Txt K mg) (TE : TxE K mg eH eT eL eF eM eN eX eA eR) (G_read_tree : G' P w K mg base "read_tree" 2 ["text"] (sp_read_tree (K := K) (mg := mg))) : G' P w K mg base "_law_said" 3 ["text"] (sp__law_said (K := K)) := by
  refine D.ok fun f fd F => F.okX sc__law_said (fun vs H Q E h => ?_) (fun cdv A outer s H vs Q E hr h => ?_)
  · obtain ⟨v, rfl, _⟩ := h
    rfl
  · refine ⟨_, (pss_cons (ps_set (i := 1) sc__law_said.nd rfl (by first | exact Or.inl rfl | exact Or.inr rfl) pe_non)
  (pss_cons (ps_set (i := 2) sc__law_said.nd rfl (by first | exact Or.inl rfl | exact Or.inr rfl) pe_non)
  (pss_cons (ps_try_ad (i := 3) rfl rfl sc__law_said.nd rfl rfl ⟨by rfl, by decide, .inl TE.m_HeapError⟩ rfl (fun W pn xe tk _ => (pss_one (ps_set (i := 1) sc__law_said.nd rfl (by first | exact Or.inl rfl | exact Or.inr rfl) (pe_clS G_read_tree (hr.mono (by omega)) tk (pa_cons (pv 0) pa_nil))))) (fun a oe cls pn => (pss_one (ps_set (i := 2) sc__law_said.nd rfl (by first | exact Or.inl rfl | exact Or.inr rfl) (pv 3)))))
  (pss_cons (ps_if (pt_cmpR op_isN (pv 2) pe_non (nomark _)) (pss_one (ps_ret (pe_tup (pa_cons pe_str (pa_cons (pv 1) pa_nil))))) pss_nil)
  (pss_cons (ps_if (pt_val (pe_callB (call_isXTK K) (by rfl) T.n_isinstance (by decide +kernel) (pa_cons (pv 2) (pa_cons (pe_tup (pa_cons (pe_gv TE.c_NoFit) (pa_cons (pe_gv TE.c_NoLetter) (pa_cons (pe_gv TE.c_NoName) (pa_cons (pe_gv TE.c_NoNumber) (pa_cons (pe_gv TE.c_NoRow) (pa_cons (pe_gv TE.c_NoTree) (pa_cons (pe_gv TE.c_TooMany) pa_nil)))))))) pa_nil)))) (pss_one (ps_ret (pe_tup (pa_cons pe_str (pa_cons pe_non pa_nil))))) pss_nil)
  (pss_one (ps_ret (pe_tup (pa_cons (pe_ix (ix_listK K) (pe_lst (pa_cons pe_str (pa_cons pe_str pa_nil))) (pe_callTy call_int1 (by rfl) T.n_int (by decide +kernel) (pa_cons (pe_and (pe_callB (call_isXK K) (by rfl) T.n_isinstance (by decide +kernel) (pa_cons (pv 2) (pa_cons (pe_gv TE.c_NoText) pa_nil))) (pe_one (pe_callB (call_isXK K) (by rfl) T.n_isinstance (by decide +kernel) (pa_cons (pv 2) (pa_cons (pe_ty (n := "ValueError") TE.n_ValueError (by decide +kernel)) pa_nil))))) pa_nil)) (fun _ _ => rfl)) (pa_cons pe_non pa_nil)))))))))), ?_⟩
    obtain ⟨v, rfl, h⟩ := h
    walk_at "rd"
    rcases h with ⟨l, rfl, hl, k1, k2⟩ | ⟨⟨u, ty, ku⟩, k2⟩
    · refine .inl ⟨l, rfl, hl, fun t ht H' v' as S hT hfr hnd => ?_, fun hn x hx H' S => ?_⟩
      · walk_at "rd"
        refine ⟨(by walk_at "sz"), fun p np => ?_⟩
        exact k1 t ht _ _ v' as (S.trans (same_new np)) (hT.same (same_new np)) ⟨p, rfl, upd_same⟩
      · have k3 := k2 hn
        cases hx.symm.trans TE.m_NoText
        refine ⟨TE.exm, rfl, fun a na => ?_⟩
        have nH : H a = none := S.free na
        walk_at "rd"
        generalize e1 : upd H' a _ = H1
        obtain ⟨S1, hA⟩ := newF na e1
        walk_at "rd"
        refine ⟨by show 7 ≤ sizeLine; decide, fun p np => ?_⟩
        generalize e2 : upd H1 p _ = H2
        obtain ⟨S2, hp⟩ := newF np e2
        have hA2 := S2 _ _ hA
        refine ⟨a, eX, p, _, _, _, rfl, hp, .cons (.own _) (.cons (.own _) (.cons (.own _) (.cons (.own _) (.cons (.own _) (.cons (.own _) (.cons (.own _) .nil)))))), hA2, TE.exC, TE.any, ?_⟩
        walk_at "rd"
        refine ⟨(by walk_at "sz"), fun p3 np3 => ?_⟩
        generalize e3 : upd H2 p3 _ = H3
        obtain ⟨S3, hp3⟩ := newF np3 e3
        have hA3 := S3 _ _ hA2
        walk_at "rd"
        refine ⟨a, eX, _, _, _, rfl, .own _, hA3, TE.exC, TE.one, ?_⟩
        walk_at "rd"
        refine ⟨a, eX, _, _, _, rfl, .ty _, hA3, TE.exC, TE.val, ?_⟩
        walk_at "rd"
        refine ⟨(by walk_at "sz"), fun p4 np4 => ?_⟩
        exact k3 _ _ ((((S.trans S1).trans S2).trans S3).trans (same_new np4)) ⟨p4, rfl, upd_same⟩
    · refine .inr ⟨v, u, rfl, ty, ku, fun x hx => ?_⟩
      cases hx.symm.trans TE.m_NoText
      have k3 := k2
      refine ⟨TE.exm, rfl, fun a na => ?_⟩
      have nH : H a = none := na
      walk_at "rd"
      generalize e1 : upd H a _ = H1
      obtain ⟨S1, hA⟩ := newF na e1
      walk_at "rd"
      refine ⟨by show 7 ≤ sizeLine; decide, fun p np => ?_⟩
      generalize e2 : upd H1 p _ = H2
      obtain ⟨S2, hp⟩ := newF np e2
      have hA2 := S2 _ _ hA
      refine ⟨a, eX, p, _, _, _, rfl, hp, .cons (.own _) (.cons (.own _) (.cons (.own _) (.cons (.own _) (.cons (.own _) (.cons (.own _) (.cons (.own _) .nil)))))), hA2, TE.exC, TE.any, ?_⟩
      walk_at "rd"
      refine ⟨(by walk_at "sz"), fun p3 np3 => ?_⟩
      generalize e3 : upd H2 p3 _ = H3
      obtain ⟨S3, hp3⟩ := newF np3 e3
      have hA3 := S3 _ _ hA2
      walk_at "rd"
      refine ⟨a, eX, _, _, _, rfl, .own _, hA3, TE.exC, TE.one, ?_⟩
      walk_at "rd"
      refine ⟨a, eX, _, _, _, rfl, .ty _, hA3, TE.exC, TE.val, ?_⟩
      walk_at "rd"
      refine ⟨(by walk_at "sz"), fun p4 np4 => ?_⟩
      exact k3 _ _ (((S1.trans S2).trans S3).trans (same_new np4)) ⟨p4, rfl, upd_same⟩
end
end Hy
set_option Elab.async false
set_option linter.all false
set_option maxRecDepth 100000
set_option maxHeartbeats 4000000
namespace Hy
open PySem L2
local macro_rules | `(tactic| walk_at "hp") => `(tactic| first
  | assumption | exact upd_same
  | (refine (upd_ne ?_).trans ?_ <;> first | assumption | (exact Ne.symm (by assumption)) | walk_at "ne" | walk_at "hp")
  | (refine (by assumption : Same _ _) _ _ ?_; assumption))
local macro_rules | `(tactic| walk_at "ne") => `(tactic| first
  | assumption | (exact Ne.symm (by assumption))
  | exact ne_of_none (by assumption) (by assumption) | exact Ne.symm (ne_of_none (by assumption) (by assumption)))
local macro_rules | `(tactic| walk_at "sz") => `(tactic| first | assumption | (show 0 ≤ sizeLine; decide) | (show 1 ≤ sizeLine; decide) | (show 2 ≤ sizeLine; decide) | (show 3 ≤ sizeLine; decide))
local macro_rules | `(tactic| walk_at "ar") => `(tactic| first
  | ((with_reducible show (0 : Int) < _); first | decide | omega)
  | ((with_reducible show CMul _ _); first | exact Or.inr (And.intro (by decide) (by decide)) | exact Or.inl (And.intro (by decide) (by decide)) | (refine Or.inl (And.intro ?_ ?_) <;> omega) | (refine Or.inr (And.intro ?_ ?_) <;> omega))
  | ((with_reducible show CPow _ _); exact And.intro (by decide) (And.intro (by decide) (by decide)))
  | ((with_reducible show CDiv _ _); first | exact And.intro (by decide) (by decide) | (refine And.intro ?_ ?_ <;> omega)))
/- one step of a reading -/
local macro_rules | `(tactic| walk_at "r1") => `(tactic| first
  | refine ⟨_, rfl, ?_⟩
  | refine iteB (by rfl) ?_ | refine iteC (by rfl) ?_
  | refine ⟨_, _, rfl, rfl, ?_⟩
  | refine ⟨rfl, ?_⟩
  | refine ⟨⟨_, rfl⟩, ?_⟩
  | refine ⟨_, _, _, _, true, rfl, .ty _, .base (.str _), kit_ty (by decide +kernel), ?_⟩
  | refine ⟨_, _, _, _, false, rfl, .ty _, .base (.str _), kit_ty (by decide +kernel), ?_⟩
  | refine ⟨_, _, _, _, true, rfl, .ty _, .base (.tup (by walk_at "hp")), kit_ty (by decide +kernel), ?_⟩
  | refine ⟨_, _, _, _, false, rfl, .ty _, .base (.tup (by walk_at "hp")), kit_ty (by decide +kernel), ?_⟩
  | refine ⟨_, _, _, _, true, rfl, .ty _, .base (.lst (by walk_at "hp")), kit_ty (by decide +kernel), ?_⟩
  | refine ⟨_, _, _, _, false, rfl, .ty _, .base (.lst (by walk_at "hp")), kit_ty (by decide +kernel), ?_⟩
  | refine ⟨_, _, rfl, ⟨by walk_at "sz", rfl⟩, ?_⟩
  | refine ⟨_, _, _, _, rfl, rfl, SqT.of (by walk_at "hp"), by rfl, ?_⟩
  | refine ⟨_, _, _, _, rfl, rfl, SqL.of (by walk_at "hp"), by rfl, ?_⟩
  | refine ⟨.inl ⟨rfl, _, SqL.of (by walk_at "hp")⟩, ?_⟩
  | refine ⟨_, _, _, rfl, rfl, (by walk_at "hp"), snoc_get, ?_⟩
  | refine ⟨_, _, _, _, rfl, rfl, (by walk_at "hp"), by rfl, ?_⟩
  | refine ⟨_, _, rfl, SqL.of (by walk_at "hp"), ?_⟩
  | refine ⟨_, _, rfl, SqT.of (by walk_at "hp"), by rfl, ?_⟩
  | refine ⟨_, (_ : List V), rfl, ?_⟩
  | refine ⟨_, _, rfl, .inl ⟨_, (by assumption), rfl⟩, ?_⟩
  | refine ⟨_, _, rfl, .inl ⟨_, SqL.of (by walk_at "hp"), rfl⟩, ?_⟩
  | refine ⟨_, _, rfl, .inr ⟨_, SqT.of (by walk_at "hp"), rfl⟩, ?_⟩
  | refine Or.inl ⟨(_ : Int), rfl, ?_⟩ | refine Or.inr ⟨(_ : Bool), rfl, ?_⟩
  | refine And.intro (by walk_at "ar") ?_)
local macro_rules | `(tactic| walk_at "rd") => `(tactic| repeat walk_at "r1")

theorem len_app (a b : Str) : (a ++ b).length = a.length + b.length := by
  show (Str.append a b).length = _
  unfold Str.append
  exact Array.size_append
theorem str_at {s : Str} {r : Int} (h0 : 0 ≤ r) (h1 : r < s.length) : ∃ c, atI s.cps.toList r = some c := by
  have hlt : r.toNat < s.cps.toList.length := by
    have e : s.cps.toList.length = s.length := by simp [Str.length]
    omega
  refine ⟨s.cps.toList[r.toNat], ?_⟩
  have e : ((r.toNat : Nat) : Int) = r := by omega
  have q := atI_nat (xs := s.cps.toList) (j := r.toNat) (v := s.cps.toList[r.toNat]) (List.getElem?_eq_getElem hlt)
  rw [e] at q
  exact q
theorem lst_at {xs : List V} {r : Int} (h0 : 0 ≤ r) (h1 : r < xs.length) : ∃ v, atI xs r = some v ∧ v ∈ xs := by
  have hlt : r.toNat < xs.length := by omega
  have e : ((r.toNat : Nat) : Int) = r := by omega
  have q := atI_nat (xs := xs) (j := r.toNat) (v := xs[r.toNat]) (List.getElem?_eq_getElem hlt)
  rw [e] at q
  exact ⟨_, q, List.getElem_mem hlt⟩
theorem cutS_len2 (z : Str) (lo hi : Option Int) : (cutS z lo hi).length = min (HT.sIx z.length z.length hi - HT.sIx z.length 0 lo) (z.length - HT.sIx z.length 0 lo) := by
  show (((z.cps.toList.drop (HT.sIx z.length 0 lo)).take (HT.sIx z.length z.length hi - HT.sIx z.length 0 lo)).toArray).size = _
  rw [List.size_toArray, List.length_take, List.length_drop, Array.length_toList]
  rfl
theorem cut_to (z : Str) (m : Nat) : (cutS z none (some (m : Int))).length ≤ m := by
  rw [cutS_len2, HT.sIx_none, HT.sIx_nat]
  omega
theorem cut_mid (z : Str) (m k : Nat) : (cutS z (some (m : Int)) (some ((m : Int) + (k : Int)))).length ≤ k := by
  rw [show ((m : Int) + (k : Int)) = ((m + k : Nat) : Int) by omega, cutS_len2, HT.sIx_nat, HT.sIx_nat]
  omega
theorem cut_from (z : Str) (m : Nat) : (cutS z (some (m : Int)) none).length ≤ z.length - m := by
  rw [cutS_len2, HT.sIx_none, HT.sIx_nat]
  omega
theorem cut_from2 (z : Str) (m k : Nat) : (cutS z (some ((m : Int) + (k : Int))) none).length ≤ z.length - (m + k) := by
  rw [show ((m : Int) + (k : Int)) = ((m + k : Nat) : Int) by omega]
  exact cut_from z _
theorem big {n : Nat} (h : n ≤ 4000) : n ≤ sizeLine := Nat.le_trans h (by decide)
section
variable {P : Program} {w : World} {K : PySem.W.Frag} {mg : Str → Option Value} {base : Heap}
def sp__law_spoilt : Sp := fun vs H Q _ => ∃ (st : Addr) (x : Str), vs = [.ref st, .str x] ∧ StoreAt H st ∧ x.length ≤ 120 ∧ ∀ (H' : Hp) (y : Str), Keep [st] H H' → StoreAt H' st → y.length ≤ 244 → Q (.str y) H'
theorem ok__law_spoilt (D : Df K mg "_law_spoilt" s__law_spoilt ["store", "text"]) (T : Txt K mg) (G__law_take : G' P w K mg base "_law_take" 1 ["store", "many"] sp__law_take) : G' P w K mg base "_law_spoilt" 2 ["store", "text"] sp__law_spoilt := by
  refine D.ok fun f fd F => F.okX sc__law_spoilt (fun vs H Q E h => ?_) (fun cdv A outer s H vs Q E hr h => ?_)
  · obtain ⟨st, x, rfl, _⟩ := h
    rfl
  · refine ⟨_, (pss_cons (ps_set (i := 2) sc__law_spoilt.nd rfl (by first | exact Or.inl rfl | exact Or.inr rfl) (pe_cl G__law_take (hr.mono (by omega)) passF (pa_cons (pv 0) (pa_cons pe_int pa_nil))))
  (pss_cons (ps_set (i := 3) sc__law_spoilt.nd rfl (by first | exact Or.inl rfl | exact Or.inr rfl) (pe_cl G__law_take (hr.mono (by omega)) passF (pa_cons (pv 0) (pa_cons (pe_op op_add (pe_callB (call_lenK K) (by rfl) T.n_len PySem.boot_len (pa_cons (pv 1) pa_nil)) pe_int) pa_nil))))
  (pss_cons (ps_set (i := 4) sc__law_spoilt.nd rfl (by first | exact Or.inl rfl | exact Or.inr rfl) (pe_ix ix_str pe_str (pe_cl G__law_take (hr.mono (by omega)) passF (pa_cons (pv 0) (pa_cons pe_int pa_nil))) (fun _ _ => rfl)))
  (pss_cons (ps_if (pt_cmpR op_eq (pv 2) pe_int (nomark _)) (pss_one (ps_ret (pe_op op_add_str (pe_slice sl_str (pv 1) po_none (po_some (pv 3))) (pe_slice sl_str (pv 1) (po_some (pe_op op_add (pv 3) pe_int)) po_none)))) pss_nil)
  (pss_cons (ps_if (pt_cmpR op_eq (pv 2) pe_int (nomark _)) (pss_one (ps_ret (pe_op op_add_str (pe_op op_add_str (pe_slice sl_str (pv 1) po_none (po_some (pv 3))) (pv 4)) (pe_slice sl_str (pv 1) (po_some (pv 3)) po_none)))) pss_nil)
  (pss_cons (ps_if (pt_cmpR op_eq (pv 2) pe_int (nomark _)) (pss_one (ps_ret (pe_op op_add_str (pe_op op_add_str (pe_slice sl_str (pv 1) po_none (po_some (pv 3))) (pv 4)) (pe_slice sl_str (pv 1) (po_some (pe_op op_add (pv 3) pe_int)) po_none)))) pss_nil)
  (pss_cons (ps_if (pt_cmpR op_eq (pv 2) pe_int (nomark _)) (pss_one (ps_ret (pe_op op_add_str (pe_op op_add_str (pe_slice sl_str (pv 1) po_none (po_some (pv 3))) (pe_revS (pe_slice sl_str (pv 1) (po_some (pv 3)) (po_some (pe_op op_add (pv 3) pe_int))))) (pe_slice sl_str (pv 1) (po_some (pe_op op_add (pv 3) pe_int)) po_none)))) pss_nil)
  (pss_cons (ps_if (pt_cmpR op_eq (pv 2) pe_int (nomark _)) (pss_one (ps_ret (pe_op op_add_str (pe_op op_add_str (pe_slice sl_str (pv 1) po_none (po_some (pv 3))) (pe_slice sl_str (pv 1) (po_some (pv 3)) (po_some (pe_op op_add (pv 3) pe_int)))) (pe_slice sl_str (pv 1) (po_some (pv 3)) po_none)))) pss_nil)
  (pss_cons (ps_if (pt_cmpR op_eq (pv 2) pe_int (nomark _)) (pss_one (ps_ret (pe_op op_add_str (pv 1) (pe_ix (ix_listK K) (pe_lst (pa_cons pe_str (pa_cons pe_str (pa_cons pe_str (pa_cons pe_str (pa_cons pe_str (pa_cons pe_str pa_nil))))))) (pe_cl G__law_take (hr.mono (by omega)) passF (pa_cons (pv 0) (pa_cons pe_int pa_nil))) (fun _ _ => rfl))))) pss_nil)
  (pss_cons (ps_if (pt_cmpR op_eq (pv 2) pe_int (nomark _)) (pss_one (ps_ret (pe_op op_add_str (pe_ix (ix_listK K) (pe_lst (pa_cons pe_str (pa_cons pe_str (pa_cons pe_str (pa_cons pe_str (pa_cons pe_str pa_nil)))))) (pe_cl G__law_take (hr.mono (by omega)) passF (pa_cons (pv 0) (pa_cons pe_int pa_nil))) (fun _ _ => rfl)) (pv 1)))) pss_nil)
  (pss_cons (ps_if (pt_cmpR op_eq (pv 2) pe_int (nomark _)) (pss_one (ps_ret (pe_op op_add_str (pv 1) (pv 1)))) pss_nil)
  (pss_one (ps_ret (pv 1)))))))))))))), ?_⟩
    obtain ⟨st, x, rfl, hst, hx, k⟩ := h
    have hxl : x.length ≤ sizeLine := big (by omega)
    have cl : ∀ lo hi, (cutS x lo hi).length ≤ 120 := fun lo hi => Nat.le_trans (cutS_length x lo hi) hx
    walk_at "rd"
    refine ⟨st, 9, rfl, hst, by decide, by decide, fun H1 r1 K1 hst1 h10 h11 => ?_⟩
    walk_at "rd"
    refine ⟨st, (x.length : Int) + 1, rfl, hst1, by omega, by omega, fun H2 r2 K2 hst2 h20 h21 => ?_⟩
    walk_at "rd"
    refine ⟨st, 14, rfl, hst2, by decide, by decide, fun H3 r3 K3 hst3 h30 h31 => ?_⟩
    have K03 := (K1.trans K2).trans K3
    obtain ⟨c, hc⟩ := str_at (s := PySem.Str.ofString "abz(()) A1,.w\t") h30 (by exact h31)
    refine ⟨_, _, c, rfl, rfl, big (by decide), hc, ?_⟩
    have l1 : (⟨#[c]⟩ : Str).length = 1 := rfl
    obtain ⟨m, rfl⟩ : ∃ m : Nat, r2 = (m : Int) := ⟨r2.toNat, by omega⟩
    have hm : m ≤ x.length := by omega
    rcases (show r1 = 0 ∨ r1 = 1 ∨ r1 = 2 ∨ r1 = 3 ∨ r1 = 4 ∨ r1 = 5 ∨ r1 = 6 ∨ r1 = 7 ∨ r1 = 8 by omega) with rfl | rfl | rfl | rfl | rfl | rfl | rfl | rfl | rfl
    · walk_at "rd"
      refine ⟨hxl, ?_⟩
      generalize e1 : cutS x _ _ = a1
      have l1' : a1.length ≤ 120 := e1 ▸ cl _ _
      walk_at "rd"
      refine ⟨hxl, ?_⟩
      generalize e2 : cutS x _ _ = a2
      have l2' : a2.length ≤ 120 := e2 ▸ cl _ _
      walk_at "rd"
      refine ⟨big (by first | omega | (simp only [len_app, l1]; omega)), ?_⟩
      exact k _ _ K03 hst3 (by simp only [len_app, l1]; omega)
    · walk_at "rd"
      refine ⟨hxl, ?_⟩
      generalize e1 : cutS x _ _ = a1
      have l1' : a1.length ≤ 120 := e1 ▸ cl _ _
      walk_at "rd"
      refine ⟨big (by first | omega | (simp only [len_app, l1]; omega)), ?_⟩
      walk_at "rd"
      refine ⟨hxl, ?_⟩
      generalize e2 : cutS x _ _ = a2
      have l2' : a2.length ≤ 120 := e2 ▸ cl _ _
      walk_at "rd"
      refine ⟨big (by first | omega | (simp only [len_app, l1]; omega)), ?_⟩
      exact k _ _ K03 hst3 (by simp only [len_app, l1]; omega)
    · walk_at "rd"
      refine ⟨hxl, ?_⟩
      generalize e1 : cutS x _ _ = a1
      have l1' : a1.length ≤ 120 := e1 ▸ cl _ _
      walk_at "rd"
      refine ⟨big (by first | omega | (simp only [len_app, l1]; omega)), ?_⟩
      walk_at "rd"
      refine ⟨hxl, ?_⟩
      generalize e2 : cutS x _ _ = a2
      have l2' : a2.length ≤ 120 := e2 ▸ cl _ _
      walk_at "rd"
      refine ⟨big (by first | omega | (simp only [len_app, l1]; omega)), ?_⟩
      exact k _ _ K03 hst3 (by simp only [len_app, l1]; omega)
    · walk_at "rd"
      refine ⟨hxl, ?_⟩
      generalize e1 : cutS x _ _ = a1
      have l1' : a1.length ≤ m := e1 ▸ cut_to x m
      walk_at "rd"
      refine ⟨hxl, ?_⟩
      generalize e2 : cutS x _ _ = a2
      have l2' : a2.length ≤ 2 := e2 ▸ cut_mid x m 2
      walk_at "rd"
      refine ⟨big (by omega), fun y hy => ?_⟩
      walk_at "rd"
      refine ⟨big (by first | omega | (simp only [len_app, l1]; omega)), ?_⟩
      walk_at "rd"
      refine ⟨hxl, ?_⟩
      generalize e3 : cutS x _ _ = a3
      have l3' : a3.length ≤ x.length - (m + 2) := e3 ▸ cut_from2 x m 2
      walk_at "rd"
      refine ⟨big (by first | omega | (simp only [len_app, l1]; omega)), ?_⟩
      exact k _ _ K03 hst3 (by simp only [len_app, l1]; omega)
    · walk_at "rd"
      refine ⟨hxl, ?_⟩
      generalize e1 : cutS x _ _ = a1
      have l1' : a1.length ≤ m := e1 ▸ cut_to x m
      walk_at "rd"
      refine ⟨hxl, ?_⟩
      generalize e2 : cutS x _ _ = a2
      have l2' : a2.length ≤ 4 := e2 ▸ cut_mid x m 4
      walk_at "rd"
      refine ⟨big (by first | omega | (simp only [len_app, l1]; omega)), ?_⟩
      walk_at "rd"
      refine ⟨hxl, ?_⟩
      generalize e3 : cutS x _ _ = a3
      have l3' : a3.length ≤ x.length - m := e3 ▸ cut_from x m
      walk_at "rd"
      refine ⟨big (by first | omega | (simp only [len_app, l1]; omega)), ?_⟩
      exact k _ _ K03 hst3 (by simp only [len_app, l1]; omega)
    · walk_at "rd"
      refine ⟨by show 6 ≤ sizeLine; decide, fun p np => ?_⟩
      generalize e4 : upd H3 p _ = H4
      obtain ⟨S4, hp4⟩ := newF np e4
      have hst4 := hst3.same S4
      walk_at "rd"
      refine ⟨st, 6, rfl, hst4, by decide, by decide, fun H5 r5 K5 hst5 h50 h51 => ?_⟩
      have nps : p ≠ st := fun z => by
        obtain ⟨a1, a2, a3, a4⟩ := hst3
        rw [z, a4] at np
        cases np
      have hp5 := K5.but _ _ (by simpa using nps) hp4
      have K05 := (K03.trans (Same.keep S4)).trans K5
      obtain ⟨v, hv, hm⟩ := lst_at (xs := [V.str (PySem.Str.ofString "a"), V.str (PySem.Str.ofString ")"), V.str (PySem.Str.ofString "()"), V.str (PySem.Str.ofString " "), V.str (PySem.Str.ofString "("), V.str (PySem.Str.ofString "\n")]) h50 h51
      refine ⟨p, _, _, v, rfl, rfl, SqL.of hp5, hv, ?_⟩
      obtain ⟨s2, rfl, hs2⟩ : ∃ s2 : Str, v = .str s2 ∧ s2.length ≤ 2 := by
        simp only [List.mem_cons, List.not_mem_nil, or_false] at hm
        rcases hm with rfl | rfl | rfl | rfl | rfl | rfl <;> exact ⟨_, rfl, by decide⟩
      walk_at "rd"
      refine ⟨big (by first | omega | (simp only [len_app, l1]; omega)), ?_⟩
      exact k _ _ K05 hst5 (by simp only [len_app, l1]; omega)
    · walk_at "rd"
      refine ⟨by show 5 ≤ sizeLine; decide, fun p np => ?_⟩
      generalize e4 : upd H3 p _ = H4
      obtain ⟨S4, hp4⟩ := newF np e4
      have hst4 := hst3.same S4
      walk_at "rd"
      refine ⟨st, 5, rfl, hst4, by decide, by decide, fun H5 r5 K5 hst5 h50 h51 => ?_⟩
      have nps : p ≠ st := fun z => by
        obtain ⟨a1, a2, a3, a4⟩ := hst3
        rw [z, a4] at np
        cases np
      have hp5 := K5.but _ _ (by simpa using nps) hp4
      have K05 := (K03.trans (Same.keep S4)).trans K5
      obtain ⟨v, hv, hm⟩ := lst_at (xs := [V.str (PySem.Str.ofString "a"), V.str (PySem.Str.ofString "("), V.str (PySem.Str.ofString " "), V.str (PySem.Str.ofString "()"), V.str (PySem.Str.ofString "b(")]) h50 h51
      refine ⟨p, _, _, v, rfl, rfl, SqL.of hp5, hv, ?_⟩
      obtain ⟨s2, rfl, hs2⟩ : ∃ s2 : Str, v = .str s2 ∧ s2.length ≤ 2 := by
        simp only [List.mem_cons, List.not_mem_nil, or_false] at hm
        rcases hm with rfl | rfl | rfl | rfl | rfl <;> exact ⟨_, rfl, by decide⟩
      walk_at "rd"
      refine ⟨big (by first | omega | (simp only [len_app, l1]; omega)), ?_⟩
      exact k _ _ K05 hst5 (by simp only [len_app, l1]; omega)
    · walk_at "rd"
      refine ⟨big (by first | omega | (simp only [len_app, l1]; omega)), ?_⟩
      exact k _ _ K03 hst3 (by simp only [len_app, l1]; omega)
    · walk_at "rd"
      exact k _ x K03 hst3 (by omega)
end
end Hy
set_option Elab.async false
set_option linter.all false
set_option maxRecDepth 100000
set_option maxHeartbeats 4000000
namespace Hy
open PySem L2
local macro_rules | `(tactic| walk_at "hp") => `(tactic| first
  | assumption | exact upd_same
  | (refine (upd_ne ?_).trans ?_ <;> first | assumption | (exact Ne.symm (by assumption)) | walk_at "ne" | walk_at "hp")
  | (refine (by assumption : Same _ _) _ _ ?_; assumption))
local macro_rules | `(tactic| walk_at "ne") => `(tactic| first
  | assumption | (exact Ne.symm (by assumption))
  | exact ne_of_none (by assumption) (by assumption) | exact Ne.symm (ne_of_none (by assumption) (by assumption)))
local macro_rules | `(tactic| walk_at "sz") => `(tactic| first | assumption | (show 0 ≤ sizeLine; decide) | (show 1 ≤ sizeLine; decide) | (show 2 ≤ sizeLine; decide) | (show 3 ≤ sizeLine; decide))
local macro_rules | `(tactic| walk_at "ar") => `(tactic| first
  | ((with_reducible show (0 : Int) < _); first | decide | omega)
  | ((with_reducible show CMul _ _); first | exact Or.inr (And.intro (by decide) (by decide)) | exact Or.inl (And.intro (by decide) (by decide)) | (refine Or.inl (And.intro ?_ ?_) <;> omega) | (refine Or.inr (And.intro ?_ ?_) <;> omega))
  | ((with_reducible show CPow _ _); exact And.intro (by decide) (And.intro (by decide) (by decide)))
  | ((with_reducible show CDiv _ _); first | exact And.intro (by decide) (by decide) | (refine And.intro ?_ ?_ <;> omega)))
/- one step of a reading -/
local macro_rules | `(tactic| walk_at "r1") => `(tactic| first
  | refine ⟨_, rfl, ?_⟩
  | refine iteB (by rfl) ?_ | refine iteC (by rfl) ?_
  | refine ⟨_, _, rfl, rfl, ?_⟩
  | refine ⟨rfl, ?_⟩
  | refine ⟨⟨_, rfl⟩, ?_⟩
  | refine ⟨_, _, _, _, true, rfl, .ty _, .base (.str _), kit_ty (by decide +kernel), ?_⟩
  | refine ⟨_, _, _, _, false, rfl, .ty _, .base (.str _), kit_ty (by decide +kernel), ?_⟩
  | refine ⟨_, _, _, _, true, rfl, .ty _, .base (.tup (by walk_at "hp")), kit_ty (by decide +kernel), ?_⟩
  | refine ⟨_, _, _, _, false, rfl, .ty _, .base (.tup (by walk_at "hp")), kit_ty (by decide +kernel), ?_⟩
  | refine ⟨_, _, _, _, true, rfl, .ty _, .base (.lst (by walk_at "hp")), kit_ty (by decide +kernel), ?_⟩
  | refine ⟨_, _, _, _, false, rfl, .ty _, .base (.lst (by walk_at "hp")), kit_ty (by decide +kernel), ?_⟩
  | refine ⟨_, _, rfl, ⟨by walk_at "sz", rfl⟩, ?_⟩
  | refine ⟨_, _, _, _, rfl, rfl, SqT.of (by walk_at "hp"), by rfl, ?_⟩
  | refine ⟨_, _, _, _, rfl, rfl, SqL.of (by walk_at "hp"), by rfl, ?_⟩
  | refine ⟨.inl ⟨rfl, _, SqL.of (by walk_at "hp")⟩, ?_⟩
  | refine ⟨_, _, _, rfl, rfl, (by walk_at "hp"), snoc_get, ?_⟩
  | refine ⟨_, _, _, _, rfl, rfl, (by walk_at "hp"), by rfl, ?_⟩
  | refine ⟨_, _, rfl, SqL.of (by walk_at "hp"), ?_⟩
  | refine ⟨_, _, rfl, SqT.of (by walk_at "hp"), by rfl, ?_⟩
  | refine ⟨_, (_ : List V), rfl, ?_⟩
  | refine ⟨_, _, rfl, .inl ⟨_, (by assumption), rfl⟩, ?_⟩
  | refine ⟨_, _, rfl, .inl ⟨_, SqL.of (by walk_at "hp"), rfl⟩, ?_⟩
  | refine ⟨_, _, rfl, .inr ⟨_, SqT.of (by walk_at "hp"), rfl⟩, ?_⟩
  | refine Or.inl ⟨(_ : Int), rfl, ?_⟩ | refine Or.inr ⟨(_ : Bool), rfl, ?_⟩
  | refine And.intro (by walk_at "ar") ?_)
local macro_rules | `(tactic| walk_at "rd") => `(tactic| repeat walk_at "r1")

/-- a text that is short, or no writing -/
def OkTx (v : V) : Prop := ∃ l : List Nat, v = tx l ∧ l.length ≤ 90000 ∧ (l.length ≤ 244 ∨ parse l = none)
theorem okTx_str {s : Str} (h : s.length ≤ 244) : OkTx (.str s) := by
  have e : s = ⟨s.cps.toList.toArray⟩ := by simp
  have hl : s.cps.toList.length ≤ 244 := by simpa [Str.length] using h
  exact ⟨s.cps.toList, congrArg V.str e, by omega, .inl hl⟩
theorem okTx_tx {l : List Nat} (h : l.length ≤ 244) : OkTx (tx l) := ⟨l, rfl, by omega, .inl h⟩
def OdS : List V := ["", " ", "a", "A", "ab", "a()", "a(b)", "(a)", "a(b", "a b", "a(c b)", "a(cb)", "a(bc)", "a(b,c)", "aa(a)"].map fun s => V.str (PySem.Str.ofString s)
def OdT : List V := ["a(a(a(a)))", "a((b))", "a(b)(c)", "a(b(c)b)", "a(bb(c))", "a)("].map fun s => V.str (PySem.Str.ofString s)
def OdU : List V := ["a(b))", "1", "a(\n)", "a[b]", "a(b())"].map fun s => V.str (PySem.Str.ofString s)
def OdL : List V := [tx (List.replicate 90 [97, 40]).flatten, tx ((List.replicate 90 [97, 40]).flatten ++ [97]), tx (List.replicate 2500 [41]).flatten, tx (List.replicate 1400 [97, 98]).flatten, tx (List.replicate 90 [40]).flatten]
theorem len_rep (n : Nat) (l : List Nat) : (List.replicate n l).flatten.length = n * l.length := by rw [List.length_flatten, List.map_replicate, List.sum_replicate_nat]
theorem odL_ok : ∀ v ∈ OdL, OkTx v := by
  intro v hv
  unfold OdL at hv
  simp only [List.mem_cons, List.not_mem_nil, or_false] at hv
  rcases hv with rfl | rfl | rfl | rfl | rfl
  · exact okTx_tx (by rw [len_rep]; decide)
  · exact okTx_tx (by rw [List.length_append, len_rep]; decide)
  · refine ⟨_, rfl, by rw [len_rep]; decide, .inr ?_⟩
    rw [show (List.replicate 2500 [41]).flatten = 41 :: (List.replicate 2499 [41]).flatten from rfl]
    exact parse_first rfl
  · refine ⟨_, rfl, by rw [len_rep]; decide, .inr (parse_letters (fun c hc => ?_) (by rw [len_rep]; decide))⟩
    obtain ⟨l, hl, hc⟩ := List.mem_flatten.mp hc
    rw [List.eq_of_mem_replicate hl] at hc
    simp only [List.mem_cons, List.not_mem_nil, or_false] at hc
    rcases hc with rfl | rfl <;> rfl
  · exact okTx_tx (by rw [len_rep]; decide)
theorem od_strs (ss : List String) (h : ∀ s ∈ ss, (PySem.Str.ofString s).length ≤ 244) : ∀ v ∈ ss.map (fun s => V.str (PySem.Str.ofString s)), OkTx v := fun v hv => by
  obtain ⟨s, hs, rfl⟩ := List.mem_map.mp hv
  exact okTx_str (h s hs)
section
variable {P : Program} {w : World} {K : PySem.W.Frag} {mg : Str → Option Value} {base : Heap}
def sp__law_odd : Sp := fun vs H Q _ => ∃ st : Addr, vs = [.ref st] ∧ StoreAt H st ∧ ∀ (H' : Hp) (v : V), Keep [st] H H' → StoreAt H' st → (OkTx v ∨ NoTx K H' v) → Q v H'
theorem ok__law_odd (D : Df K mg "_law_odd" s__law_odd ["store"]) (T : Txt K mg) (G__law_take : G' P w K mg base "_law_take" 1 ["store", "many"] sp__law_take) : G' P w K mg base "_law_odd" 2 ["store"] (sp__law_odd (K := K)) := by
  refine D.ok fun f fd F => F.okX sc__law_odd (fun vs H Q E h => ?_) (fun cdv A outer s H vs Q E hr h => ?_)
  · obtain ⟨st, rfl, _⟩ := h
    rfl
  · refine ⟨_, (pss_cons (ps_set (i := 1) sc__law_odd.nd rfl (by first | exact Or.inl rfl | exact Or.inr rfl) (pe_lst (pa_cons pe_str (pa_cons pe_str (pa_cons pe_str (pa_cons pe_str (pa_cons pe_str (pa_cons pe_str (pa_cons pe_str (pa_cons pe_str (pa_cons pe_str (pa_cons pe_str (pa_cons pe_str (pa_cons pe_str (pa_cons pe_str (pa_cons pe_str (pa_cons pe_str pa_nil)))))))))))))))))
  (pss_cons (ps_set (i := 1) sc__law_odd.nd rfl (by first | exact Or.inl rfl | exact Or.inr rfl) (pe_op op_cat (pv 1) (pe_lst (pa_cons pe_str (pa_cons pe_str (pa_cons pe_str (pa_cons pe_str (pa_cons pe_str (pa_cons pe_str pa_nil)))))))))
  (pss_cons (ps_set (i := 1) sc__law_odd.nd rfl (by first | exact Or.inl rfl | exact Or.inr rfl) (pe_op op_cat (pv 1) (pe_lst (pa_cons pe_str (pa_cons pe_str (pa_cons pe_str (pa_cons pe_str (pa_cons pe_str pa_nil))))))))
  (pss_cons (ps_set (i := 2) sc__law_odd.nd rfl (by first | exact Or.inl rfl | exact Or.inr rfl) (pe_ix (ix_listK K) (pe_lst (pa_cons (pe_op op_mul_str pe_str pe_int) (pa_cons (pe_op op_add_str (pe_op op_mul_str pe_str pe_int) pe_str) (pa_cons (pe_op op_mul_str pe_str pe_int) (pa_cons (pe_op op_mul_str pe_str pe_int) (pa_cons (pe_op op_mul_str pe_str pe_int) pa_nil)))))) (pe_cl G__law_take (hr.mono (by omega)) passF (pa_cons (pv 0) (pa_cons pe_int pa_nil))) (fun _ _ => rfl)))
  (pss_cons (ps_set (i := 3) sc__law_odd.nd rfl (by first | exact Or.inl rfl | exact Or.inr rfl) (pe_lst (pa_cons pe_non (pa_cons pe_int (pa_cons pe_bl (pa_cons (pe_lst (pa_cons pe_str pa_nil)) (pa_cons (pe_tup (pa_cons pe_str (pa_cons (pe_lst pa_nil) pa_nil))) (pa_cons pe_dnewK (pa_cons pe_int pa_nil)))))))))
  (pss_one (ps_ret (pe_ix (ix_listK K) (pe_op op_cat (pe_op op_cat (pv 1) (pe_lst (pa_cons (pv 2) (pa_cons (pe_op op_add_str (pe_op op_add_str (pe_op op_mul_str pe_str pe_int) pe_str) (pe_op op_mul_str pe_str pe_int)) pa_nil)))) (pv 3)) (pe_cl G__law_take (hr.mono (by omega)) passF (pa_cons (pv 0) (pa_cons pe_int pa_nil))) (fun _ _ => rfl))))))))), ?_⟩
    obtain ⟨st, rfl, hst, k⟩ := h
    walk_at "rd"
    refine ⟨by show 15 ≤ sizeLine; decide, fun p1 n1 => ?_⟩
    generalize e1 : upd H p1 _ = H1
    obtain ⟨S1, h1⟩ := newF n1 e1
    change H1 p1 = some (.lst OdS) at h1
    walk_at "rd"
    refine ⟨by show 6 ≤ sizeLine; decide, fun p2 n2 => ?_⟩
    generalize e2 : upd H1 p2 _ = H2
    obtain ⟨S2, h2⟩ := newF n2 e2
    change H2 p2 = some (.lst OdT) at h2
    have h12 := S2 _ _ h1
    refine ⟨p1, p2, _, _, rfl, rfl, h12, h2, by show 21 ≤ sizeLine; decide, fun p3 n3 => ?_⟩
    generalize e3 : upd H2 p3 _ = H3
    obtain ⟨S3, h3⟩ := newF n3 e3
    walk_at "rd"
    refine ⟨by show 5 ≤ sizeLine; decide, fun p4 n4 => ?_⟩
    generalize e4 : upd H3 p4 _ = H4
    obtain ⟨S4, h4⟩ := newF n4 e4
    change H4 p4 = some (.lst OdU) at h4
    have h34 := S4 _ _ h3
    refine ⟨p3, p4, _, _, rfl, rfl, h34, h4, by show 26 ≤ sizeLine; decide, fun p5 n5 => ?_⟩
    generalize e5 : upd H4 p5 _ = H5
    obtain ⟨S5, h5⟩ := newF n5 e5
    have ea : PySem.Str.ofString "a(" = txS [97, 40] := by decide +kernel
    have eb : PySem.Str.ofString "a" = txS [97] := by decide +kernel
    have ec : PySem.Str.ofString ")" = txS [41] := by decide +kernel
    have ed : PySem.Str.ofString "ab" = txS [97, 98] := by decide +kernel
    have ee : PySem.Str.ofString "(" = txS [40] := by decide +kernel
    rw [ea, eb, ec, ed, ee]
    walk_at "rd"
    refine ⟨by decide, by decide, by decide, by decide, ?_⟩
    walk_at "rd"
    refine ⟨by decide, by decide, by decide, by decide, ?_⟩
    walk_at "rd"
    refine ⟨by rw [txS_len, txS_len, List.length_flatten, List.map_replicate, List.sum_replicate_nat]; decide, ?_⟩
    rw [txS_app]
    walk_at "rd"
    refine ⟨by decide, by decide, by decide, by decide, ?_⟩
    walk_at "rd"
    refine ⟨by decide, by decide, by decide, by decide, ?_⟩
    walk_at "rd"
    refine ⟨by decide, by decide, by decide, by decide, ?_⟩
    walk_at "rd"
    refine ⟨by show 5 ≤ sizeLine; decide, fun p6 n6 => ?_⟩
    generalize e6 : upd H5 p6 _ = H6
    obtain ⟨S6, h6⟩ := newF n6 e6
    change H6 p6 = some (.lst OdL) at h6
    have S06 := ((((S1.trans S2).trans S3).trans S4).trans S5).trans S6
    have hst6 := hst.same S06
    walk_at "rd"
    refine ⟨st, 5, rfl, hst6, by decide, by decide, fun H7 r7 K7 hst7 h70 h71 => ?_⟩
    have nst : ∀ {X Y : Hp} {p : Addr}, StoreAt X st → X p = none → p ∉ [st] := fun a b => by
      have := store_ne (H' := H) (A := []) a b
      simpa using Ne.symm this
    have h67 : H7 p6 = some (.lst OdL) := K7.but _ _ (nst (Y := H) (hst.same ((((S1.trans S2).trans S3).trans S4).trans S5)) n6) h6
    have h57 := K7.but _ _ (nst (Y := H) (hst.same (((S1.trans S2).trans S3).trans S4)) n5) (S6 _ _ h5)
    obtain ⟨lg, hlg, mlg⟩ := lst_at (xs := OdL) h70 h71
    refine ⟨p6, _, _, lg, rfl, rfl, SqL.of h67, hlg, ?_⟩
    walk_at "rd"
    refine ⟨(by walk_at "sz"), fun q1 m1 => ?_⟩
    generalize f1 : upd H7 q1 _ = J1
    obtain ⟨T1, g1⟩ := newF m1 f1
    walk_at "rd"
    refine ⟨(by walk_at "sz"), fun q2 m2 => ?_⟩
    generalize f2 : upd J1 q2 _ = J2
    obtain ⟨T2, g2⟩ := newF m2 f2
    walk_at "rd"
    refine ⟨(by walk_at "sz"), fun q3 m3 => ?_⟩
    generalize f3 : upd J2 q3 _ = J3
    obtain ⟨T3, g3⟩ := newF m3 f3
    walk_at "rd"
    refine fun q4 m4 => ?_
    generalize f4 : upd J3 q4 _ = J4
    obtain ⟨T4, g4⟩ := newF m4 f4
    walk_at "rd"
    refine ⟨by show 7 ≤ sizeLine; decide, fun q5 m5 => ?_⟩
    generalize f5 : upd J4 q5 _ = J5
    obtain ⟨T5, g5⟩ := newF m5 f5
    walk_at "rd"
    refine ⟨by decide, by decide, by decide, by decide, ?_⟩
    walk_at "rd"
    refine ⟨by rw [txS_len, txS_len, len_rep]; decide, ?_⟩
    rw [txS_app]
    walk_at "rd"
    refine ⟨by decide, by decide, by decide, by decide, ?_⟩
    walk_at "rd"
    refine ⟨by rw [txS_len, txS_len, List.length_append, len_rep, len_rep]; decide, ?_⟩
    rw [txS_app]
    walk_at "rd"
    refine ⟨(by walk_at "sz"), fun q6 m6 => ?_⟩
    generalize f6 : upd J5 q6 _ = J6
    obtain ⟨T6, g6⟩ := newF m6 f6
    have T76 := ((((T1.trans T2).trans T3).trans T4).trans T5).trans T6
    have g56 := T6 _ _ g5
    refine ⟨p5, q6, _, _, rfl, rfl, T76 _ _ h57, g6, by show 28 ≤ sizeLine; decide, fun q7 m7 => ?_⟩
    generalize f7 : upd J6 q7 _ = J7
    obtain ⟨T7, g7⟩ := newF m7 f7
    refine ⟨_, rfl, ?_⟩
    refine ⟨q7, q5, _, _, rfl, rfl, g7, T7 _ _ g56, by show 35 ≤ sizeLine; decide, fun q8 m8 => ?_⟩
    generalize f8 : upd J7 q8 _ = J8
    obtain ⟨T8, g8⟩ := newF m8 f8
    have T78 := (T76.trans T7).trans T8
    have hst8 := hst7.same T78
    walk_at "rd"
    refine ⟨st, 35, rfl, hst8, by decide, by decide, fun H9 r9 K9 hst9 h90 h91 => ?_⟩
    have h89 := K9.but _ _ (nst (Y := H) (hst7.same (T76.trans T7)) m8) g8
    obtain ⟨v, hv, mv⟩ := lst_at (xs := ((OdS ++ OdT) ++ OdU) ++ [lg, tx ((List.replicate 20 [97, 40]).flatten ++ [97] ++ (List.replicate 20 [41]).flatten)] ++ [V.non, V.int 0, V.bl true, V.ref q1, V.ref q3, V.ref q4, V.int 7]) h90 (show r9 < ((35 : Nat) : Int) from h91)
    refine ⟨q8, _, _, v, rfl, rfl, SqL.of h89, hv, ?_⟩
    refine k _ v (((Same.keep S06).trans K7).trans ((Same.keep T78).trans K9)) hst9 ?_
    have T28 : Same J1 J8 := (((((T2.trans T3).trans T4).trans T5).trans T6).trans T7).trans T8
    have T38 : Same J3 J8 := ((((T4.trans T5).trans T6).trans T7).trans T8)
    have w1 := K9.but _ _ (nst (Y := H) hst7 m1) (T28 _ _ g1)
    have w3 := K9.but _ _ (nst (Y := H) (hst7.same (T1.trans T2)) m3) (T38 _ _ g3)
    have w4 := K9.but _ _ (nst (Y := H) (hst7.same ((T1.trans T2).trans T3)) m4) (((((T5).trans T6).trans T7).trans T8) _ _ g4)
    simp only [List.mem_append, List.mem_cons, List.not_mem_nil, or_false] at mv
    rcases mv with (((mv | mv) | mv) | (rfl | rfl)) | (rfl | rfl | rfl | rfl | rfl | rfl | rfl)
    · exact .inl (od_strs _ (by decide +kernel) v mv)
    · exact .inl (od_strs _ (by decide +kernel) v mv)
    · exact .inl (od_strs _ (by decide +kernel) v mv)
    · exact .inl (odL_ok _ mlg)
    · exact .inl (okTx_tx (by rw [List.length_append, List.length_append, len_rep, len_rep]; decide))
    · exact .inr ⟨_, .base .non, kit_ty (by decide +kernel)⟩
    · exact .inr ⟨_, .base (.int _), kit_ty (by decide +kernel)⟩
    · exact .inr ⟨_, .base (.bl _), kit_ty (by decide +kernel)⟩
    · exact .inr ⟨_, .base (.lst w1), kit_ty (by decide +kernel)⟩
    · exact .inr ⟨_, .base (.tup w3), kit_ty (by decide +kernel)⟩
    · exact .inr ⟨_, .base (.dK w4), kit_ty (by decide +kernel)⟩
    · exact .inr ⟨_, .base (.int _), kit_ty (by decide +kernel)⟩
end
end Hy
set_option Elab.async false
set_option linter.all false
set_option maxRecDepth 100000
set_option maxHeartbeats 4000000
namespace Hy
open PySem L2
local macro_rules | `(tactic| walk_at "hp") => `(tactic| first
  | assumption | exact upd_same
  | (refine (upd_ne ?_).trans ?_ <;> first | assumption | (exact Ne.symm (by assumption)) | walk_at "ne" | walk_at "hp")
  | (refine (by assumption : Same _ _) _ _ ?_; assumption))
local macro_rules | `(tactic| walk_at "ne") => `(tactic| first
  | assumption | (exact Ne.symm (by assumption))
  | exact ne_of_none (by assumption) (by assumption) | exact Ne.symm (ne_of_none (by assumption) (by assumption)))
local macro_rules | `(tactic| walk_at "sz") => `(tactic| first | assumption | (show 0 ≤ sizeLine; decide) | (show 1 ≤ sizeLine; decide) | (show 2 ≤ sizeLine; decide) | (show 3 ≤ sizeLine; decide))
local macro_rules | `(tactic| walk_at "ar") => `(tactic| first
  | ((with_reducible show (0 : Int) < _); first | decide | omega)
  | ((with_reducible show CMul _ _); first | exact Or.inr (And.intro (by decide) (by decide)) | exact Or.inl (And.intro (by decide) (by decide)) | (refine Or.inl (And.intro ?_ ?_) <;> omega) | (refine Or.inr (And.intro ?_ ?_) <;> omega))
  | ((with_reducible show CPow _ _); exact And.intro (by decide) (And.intro (by decide) (by decide)))
  | ((with_reducible show CDiv _ _); first | exact And.intro (by decide) (by decide) | (refine And.intro ?_ ?_ <;> omega)))
/- one step of a reading -/
local macro_rules | `(tactic| walk_at "r1") => `(tactic| first
  | refine ⟨_, rfl, ?_⟩
  | refine iteB (by rfl) ?_ | refine iteC (by rfl) ?_
  | refine ⟨_, _, rfl, rfl, ?_⟩
  | refine ⟨rfl, ?_⟩
  | refine ⟨⟨_, rfl⟩, ?_⟩
  | refine ⟨_, _, _, _, true, rfl, .ty _, .base (.str _), kit_ty (by decide +kernel), ?_⟩
  | refine ⟨_, _, _, _, false, rfl, .ty _, .base (.str _), kit_ty (by decide +kernel), ?_⟩
  | refine ⟨_, _, _, _, true, rfl, .ty _, .base (.tup (by walk_at "hp")), kit_ty (by decide +kernel), ?_⟩
  | refine ⟨_, _, _, _, false, rfl, .ty _, .base (.tup (by walk_at "hp")), kit_ty (by decide +kernel), ?_⟩
  | refine ⟨_, _, _, _, true, rfl, .ty _, .base (.lst (by walk_at "hp")), kit_ty (by decide +kernel), ?_⟩
  | refine ⟨_, _, _, _, false, rfl, .ty _, .base (.lst (by walk_at "hp")), kit_ty (by decide +kernel), ?_⟩
  | refine ⟨_, _, rfl, ⟨by walk_at "sz", rfl⟩, ?_⟩
  | refine ⟨_, _, _, _, rfl, rfl, SqT.of (by walk_at "hp"), by rfl, ?_⟩
  | refine ⟨_, _, _, _, rfl, rfl, SqL.of (by walk_at "hp"), by rfl, ?_⟩
  | refine ⟨.inl ⟨rfl, _, SqL.of (by walk_at "hp")⟩, ?_⟩
  | refine ⟨_, _, _, rfl, rfl, (by walk_at "hp"), snoc_get, ?_⟩
  | refine ⟨_, _, _, _, rfl, rfl, (by walk_at "hp"), by rfl, ?_⟩
  | refine ⟨_, _, rfl, SqL.of (by walk_at "hp"), ?_⟩
  | refine ⟨_, _, rfl, SqT.of (by walk_at "hp"), by rfl, ?_⟩
  | refine ⟨_, (_ : List V), rfl, ?_⟩
  | refine ⟨_, _, rfl, .inl ⟨_, (by assumption), rfl⟩, ?_⟩
  | refine ⟨_, _, rfl, .inl ⟨_, SqL.of (by walk_at "hp"), rfl⟩, ?_⟩
  | refine ⟨_, _, rfl, .inr ⟨_, SqT.of (by walk_at "hp"), rfl⟩, ?_⟩
  | refine Or.inl ⟨(_ : Int), rfl, ?_⟩ | refine Or.inr ⟨(_ : Bool), rfl, ?_⟩
  | refine And.intro (by walk_at "ar") ?_)
local macro_rules | `(tactic| walk_at "rd") => `(tactic| repeat walk_at "r1")

mutual
theorem Tr.size_W : ∀ t : Tr, t.size ≤ t.W.length
  | .node c [] => by simp [Tr.size, Tr.sizes, Tr.W]
  | .node c (t :: ts) => by
    have h := Tr.sizes_W (t :: ts)
    rw [Tr.W_node c (by simp), Tr.size]
    simp only [List.length_cons, List.length_append, List.length_nil]
    omega
theorem Tr.sizes_W : ∀ ts : List Tr, Tr.sizes ts ≤ (Tr.Ws ts).length
  | [] => Nat.zero_le _
  | t :: ts => by
    have := Tr.size_W t
    have := Tr.sizes_W ts
    rw [Tr.sizes, Tr.Ws, List.length_append]
    omega
end
theorem joinL {J T : St → Hp → Prop} {G : Prop} (main : (∀ σ H, J σ H → T σ H) → G) (tail : ∀ σ H, J σ H → T σ H) : G := main tail
theorem Same.keepNew {H H1 H2 : Hp} {A : List Addr} (s : Same H H1) (n : ∀ a ∈ A, H a = none) (k : Keep A H1 H2) : Same H H2 := fun b o e => k.but b o (fun z => by rw [n b z] at e; cases e) (s b o e)
theorem kitOne_self {K : PySem.W.Frag} {X : Addr} : PySem.W.kitOne K (.ref X) (.ref X) = some true := by
  unfold PySem.W.kitOne
  exact if_pos (beq_self_eq_true _)
theorem kitOne_no {K : PySem.W.Frag} {X C : Addr} (hs : PySem.W.subIn K (.ref X) (.ref X) = some true) (hd : PySem.W.hasDictIn K C = true) (ht : PySem.W.typeIn K (.ref C) = some (.type "type"))
    (h : PySem.W.subIn K (.ref X) (.ref C) = some false) : PySem.W.kitOne K (.ref X) (.ref C) = some false := by
  have ne : ¬ ((Value.ref X == Value.ref C) = true) := fun e => by
    have e2 : X = C := Value.ref.inj (beq_iff_eq.mp e)
    subst e2
    rw [hs] at h
    cases h
  obtain ⟨cd, hc, _⟩ := PySem.W.any_some hd
  unfold PySem.W.kitOne PySem.W.kitCls
  rw [if_neg ne]
  dsimp only
  rw [if_pos (by rw [hc, ht]; rfl)]
  exact h
theorem kitOne_ty {K : PySem.W.Frag} {X : Addr} {T : String} {b : Bool} (hm : PySem.W.kitMeta T = true) (h : PySem.W.subIn K (.ref X) (.type T) = some b) : PySem.W.kitOne K (.ref X) (.type T) = some b := by
  have ne : ¬ ((Value.ref X == Value.type T) = true) := fun e => by
    have z : Value.ref X = Value.type T := beq_iff_eq.mp e
    cases z
  unfold PySem.W.kitOne PySem.W.kitCls
  rw [if_neg ne]
  dsimp only
  rw [if_pos hm]
  exact h
section
variable {P : Program} {w : World} {K : PySem.W.Frag} {mg : Str → Option Value} {base : Heap}
def sp_law : Sp := fun vs H Q _ => ∃ (a : Addr) (ns : List Int), vs = [.ref a] ∧ SqL K H a (ns.map V.int) ∧ ns.length ≤ 63 ∧ ∀ H', Q (.bl true) H'
theorem ok_law (T : Txt K mg) (G__law_cell : G' P w K mg base "_law_cell" 1 ["script", "k"] (sp__law_cell (K := K))) (G__law_store : G' P w K mg base "_law_store" 1 ["cell"] sp__law_store) (G__law_take : G' P w K mg base "_law_take" 1 ["store", "many"] sp__law_take) (G__law_tree : G' P w K mg base "_law_tree" 10 ["store", "letters", "deep"] (sp__law_tree 4))
    (G__law_formed : G' P w K mg base "_law_formed" 5 ["tree"] (sp__law_formed 4)) (G__law_same : G' P w K mg base "_law_same" 165 ["found", "due"] (sp__law_same 164)) (G__law_read : G' P w K mg base "_law_read" 1 ["text"] sp__law_read) (G__law_spoilt : G' P w K mg base "_law_spoilt" 2 ["store", "text"] sp__law_spoilt)
    (G__law_odd : G' P w K mg base "_law_odd" 2 ["store"] (sp__law_odd (K := K))) (G__law_said : G' P w K mg base "_law_said" 3 ["text"] (sp__law_said (K := K))) : ∀ (f : Addr) (fd : FuncData), Fun K "law" "law" s_law f fd → FnOk P w K mg base (L2.CX P w) 166 f fd ["script"] (sp_law (K := K)) := by
  refine fun f fd F => F.okX sc_law (fun vs H Q E h => ?_) (fun cdv A outer s H vs Q E hr h => ?_)
  · obtain ⟨a, ns, rfl, _⟩ := h
    rfl
  · obtain ⟨a, ns, rfl, hS, hl, k⟩ := h
    refine ⟨_, (pss_cons (ps_for (passes_of rfl) rfl (pi_range1 (by rfl) T.n_range (pa_cons (pe_callB (call_min2 rfl) (by rfl) T.n_min (by decide +kernel) (pa_cons (pe_callB (call_max2 rfl) (by rfl) T.n_max (by decide +kernel) (pa_cons (pe_callB (call_lenK K) (by rfl) T.n_len PySem.boot_len (pa_cons (pv 0) pa_nil)) (pa_cons pe_int pa_nil))) (pa_cons pe_int pa_nil))) pa_nil)) (pg_name (i := 1) sc_law.nd rfl (by first | exact Or.inl rfl | exact Or.inr rfl)) (pss_cons (ps_set (i := 2) sc_law.nd rfl (by first | exact Or.inl rfl | exact Or.inr rfl) (pe_cl G__law_store (hr.mono (by omega)) passF (pa_cons (pe_cl G__law_cell (hr.mono (by omega)) passF (pa_cons (pv 0) (pa_cons (pv 1) pa_nil))) pa_nil)))
  (pss_cons (ps_set (i := 3) sc_law.nd rfl (by first | exact Or.inl rfl | exact Or.inr rfl) (pe_cl G__law_tree (hr.mono (by omega)) passF (pa_cons (pv 2) (pa_cons (pe_ix (ix_listK K) (pe_lst (pa_cons pe_str (pa_cons pe_str (pa_cons pe_str pa_nil)))) (pe_cl G__law_take (hr.mono (by omega)) passF (pa_cons (pv 2) (pa_cons pe_int pa_nil))) (fun _ _ => rfl)) (pa_cons (pe_op op_add pe_int (pe_cl G__law_take (hr.mono (by omega)) passF (pa_cons (pv 2) (pa_cons pe_int pa_nil)))) pa_nil)))))
  (pss_cons (ps_set (i := 4) sc_law.nd rfl (by first | exact Or.inl rfl | exact Or.inr rfl) (pe_cl G__law_spoilt (hr.mono (by omega)) passF (pa_cons (pv 2) (pa_cons (pe_ix (ix_tupK K) (pe_cl G__law_formed (hr.mono (by omega)) passF (pa_cons (pv 3) pa_nil)) pe_int (fun _ _ => rfl)) pa_nil))))
  (pss_cons (ps_if (pt_cmpR op_eq (pe_cl G__law_take (hr.mono (by omega)) passF (pa_cons (pv 2) (pa_cons pe_int pa_nil))) pe_int (nomark _)) (pss_one (ps_set (i := 4) sc_law.nd rfl (by first | exact Or.inl rfl | exact Or.inr rfl) (pe_cl G__law_odd (hr.mono (by omega)) passF (pa_cons (pv 2) pa_nil)))) pss_nil)
  (pss_cons (ps_set (i := 5) sc_law.nd rfl (by first | exact Or.inl rfl | exact Or.inr rfl) pe_non)
  (pss_cons (ps_if (pt_val (pe_callB (call_isiK K) (by rfl) T.n_isinstance (by decide +kernel) (pa_cons (pv 4) (pa_cons (pe_ty (n := "str") T.n_str (by decide +kernel)) pa_nil)))) (pss_one (ps_set (i := 5) sc_law.nd rfl (by first | exact Or.inl rfl | exact Or.inr rfl) (pe_cl G__law_read (hr.mono (by omega)) passF (pa_cons (pv 4) pa_nil)))) pss_nil)
  (pss_cons (ps_asg (pe_cl G__law_said (hr.mono (by omega)) passF (pa_cons (pv 4) pa_nil)) (pg_tup (by rfl) (pgs_cons (pg_name (i := 6) sc_law.nd rfl (by first | exact Or.inl rfl | exact Or.inr rfl)) (pgs_cons (pg_name (i := 7) sc_law.nd rfl (by first | exact Or.inl rfl | exact Or.inr rfl)) pgs_nil))))
  (pss_one (ps_if (PW.pt (pw_or (pt_cmpR op_ne (pv 6) (pe_ix (ix_listK K) (pe_lst (pa_cons pe_str (pa_cons pe_str pa_nil))) (pe_callTy call_int1 (by rfl) T.n_int (by decide +kernel) (pa_cons (pe_cmpR op_isN (pv 5) pe_non (nomark _)) pa_nil)) (fun _ _ => rfl)) (nomark _)) (pw_or1 (PW.pt (pw_and (pt_cmpR op_notN (pv 5) pe_non (nomark _)) (pw_and1 (pt_not (pt_val (pe_cl G__law_same (hr.mono (by omega)) passF (pa_cons (pv 7) (pa_cons (pv 5) pa_nil))))))))))) (pss_one (ps_ret pe_bl)) pss_nil))))))))))
  (pss_one (ps_ret pe_bl))), ?_⟩
    have sS : ∀ H', Same H H' → SqL K H' a (ns.map V.int) := fun H' S => hS.imp (fun q => q.imp (fun e => S _ _ e) (fun ⟨o, e⟩ => ⟨o, S _ _ e⟩)) id
    walk_at "rd"
    refine ⟨_, _, rfl, ?_⟩
    walk_at "rd"
    refine ⟨_, _, rfl, ?_⟩
    walk_at "rd"
    refine ⟨?_, ?_, ?_⟩
    · split <;> split <;> omega
    · split <;> split <;> omega
    generalize hN : (if (20 : Int) < _ then _ else _ : Int).toNat = N
    have hN20 : N ≤ 20 := by
      rw [← hN]
      split <;> split <;> omega
    clear hN
    refine for_range (lo := 0) (n := N) (fun i σ H' => ∃ x1 x2 x3 x4 x5 x6 x7 : Option V, σ = [some (.ref a), x1, x2, x3, x4, x5, x6, x7] ∧ Same H H')
      ⟨_, _, _, _, _, _, _, rfl, Same.refl _⟩ ?_ ?_
    · rintro i σ H0 hi ⟨x1, x2, x3, x4, x5, x6, x7, rfl, S0⟩
      walk_at "rd"
      refine ⟨a, ns, i, by show [V.ref a, V.int (0 + (i : Int))] = _; rw [Int.zero_add], sS _ S0, by omega, fun z => ?_⟩
      refine ⟨z, rfl, fun H1 st g0 g1 S1 nst hst => ?_⟩
      have hst1 : StoreAt H1 st := ⟨_, _, _, hst⟩
      have nst0 : ∀ b ∈ [st], H0 b = none := fun b hb => by rw [List.mem_singleton.mp hb]; exact nst
      have kS : ∀ H', Keep [st] H1 H' → Same H0 H' := fun H' KK => Same.keepNew S1 nst0 KK
      walk_at "rd"
      refine ⟨(by walk_at "sz"), fun p2 np2 => ?_⟩
      generalize e2 : upd H1 p2 _ = H2
      obtain ⟨S2, hp2⟩ := newF np2 e2
      have hst2 := hst1.same S2
      walk_at "rd"
      refine ⟨st, 3, rfl, hst2, by decide, by decide, fun H3 r3 K3 hst3 h30 h31 => ?_⟩
      have np2s : p2 ∉ [st] := by
        have := store_ne (H' := H) (A := []) hst1 np2
        simpa using Ne.symm this
      have hp3 := K3.but _ _ np2s hp2
      obtain ⟨lv, hlv, mlv⟩ := lst_at (xs := [V.str (PySem.Str.ofString "a"), V.str (PySem.Str.ofString "ab"), V.str (PySem.Str.ofString "abz")]) h30 h31
      refine ⟨p2, _, _, lv, rfl, rfl, SqL.of hp3, hlv, ?_⟩
      obtain ⟨zl, rfl, hzl⟩ : ∃ zl : List Nat, lv = tx zl ∧ LetS zl := by
        simp only [List.mem_cons, List.not_mem_nil, or_false] at mlv
        rcases mlv with rfl | rfl | rfl
        · exact ⟨[97], rfl, by decide, by decide, by decide⟩
        · exact ⟨[97, 98], rfl, by decide, by decide, by decide⟩
        · exact ⟨[97, 98, 122], rfl, by decide, by decide, by decide⟩
      have K13 : Keep [st] H1 H3 := (Same.keep S2).trans K3
      walk_at "rd"
      refine ⟨st, 4, rfl, hst3, by decide, by decide, fun H4 r4 K4 hst4 h40 h41 => ?_⟩
      walk_at "rd"
      obtain ⟨r4, rfl⟩ : ∃ m : Nat, r4 = (m : Int) := ⟨r4.toNat, by omega⟩
      refine ⟨st, zl, 1 + r4, by show [V.ref st, tx zl, V.int (1 + (r4 : Int))] = _; rw [show ((1 : Int) + (r4 : Int)) = ((1 + r4 : Nat) : Int) by omega], hst4, hzl, by omega, by omega, by omega, fun H5 v t as K5 hst5 ht hok hdep hsz hf => ?_⟩
      have hsz40 : t.size ≤ 40 := by
        refine Nat.le_trans hsz ?_
        rcases (show r4 = 0 ∨ r4 = 1 ∨ r4 = 2 ∨ r4 = 3 by omega) with rfl | rfl | rfl | rfl <;> decide
      have K15 := (K13.trans K4).trans K5
      walk_at "rd"
      refine ⟨v, t, as, rfl, ht, hok, by omega, by omega, by omega, fun H6 v6 as6 S6 hF hfr6 => ?_⟩
      obtain ⟨a6, u6, rfl, ha6, hu6⟩ := hF
      have hst6 := hst5.same S6
      walk_at "rd"
      have hWl := Tr.W_len t.form
      rw [Tr.form_size] at hWl
      refine ⟨st, txS t.form.W, rfl, hst6, by rw [txS_len]; omega, fun H7 y K7 hst7 hy => ?_⟩
      have K17 := (K15.trans (Same.keep S6)).trans K7
      walk_at "rd"
      refine ⟨st, 3, rfl, hst7, by decide, by decide, fun H8 r8 K8 hst8 h80 h81 => ?_⟩
      have K18 := K17.trans K8
      walk_at "rd"
      refine joinL (T := ?T) (J := fun σ H' => ∃ v tv, σ = [some (.ref a), some (.int (0 + (i : Int))), some (.ref st), some tv, some v, x5, x6, x7] ∧ Same H0 H' ∧ (OkTx v ∨ NoTx K H' v)) (fun tl => ?main) ?tail
      case main =>
        by_cases h0 : r8 = 0
        · subst h0
          refine iteB (by decide) ?_
          iterate 1 walk_at "r1"
          refine ⟨st, rfl, hst8, fun H9 v9 K9 hst9 h9 => ?_⟩
          exact tl _ _ ⟨v9, _, rfl, kS _ (K18.trans K9), h9⟩
        · refine iteC (decide_eq_false fun z => h0 (V.int.inj z)) ?_
          exact tl _ _ ⟨_, _, rfl, kS _ K18, .inl (okTx_str hy)⟩
      case tail =>
        rintro σ H9 ⟨v9, tv, rfl, S9, h9⟩
        rcases h9 with ⟨l, rfl, hl9, hor⟩ | hno
        · cases hpl : parse l with
          | some t =>
            have hl3 : l.length ≤ 244 := hor.resolve_right (by rw [hpl]; exact fun z => nomatch z)
            have hW := parse_inv hpl
            have hd := Tr.dep_W t
            have hz := Tr.size_W t
            rw [hW] at hd hz
            walk_at "rd"
            refine ⟨hl9, fun t1 e1 H10 v10 as10 S10 h10 => ?_, fun e => by rw [hpl] at e; cases e⟩
            obtain rfl : t = t1 := Option.some.inj (hpl.symm.trans e1)
            walk_at "rd"
            refine .inl ⟨l, rfl, hl9, fun t1 e1 H11 r11 v11 as11 S11 h11 tw => ?_, fun e => by rw [hpl] at e; cases e⟩
            obtain rfl : t = t1 := Option.some.inj (hpl.symm.trans e1)
            obtain ⟨p11, rfl, hp11⟩ := tw
            have h1011 := h10.same S11
            obtain ⟨a10, _, _, _, _, _, _, rfl, _⟩ := h10.out
            walk_at "rd"
            refine ⟨(by walk_at "sz"), fun p12 np12 => ?_⟩
            generalize e12 : upd H11 p12 _ = H12
            obtain ⟨S12, hp12⟩ := newF np12 e12
            walk_at "rd"
            refine ⟨_, _, rfl, SameD.tree (h11.same S12) (h1011.same S12) (by omega) (n := 82) (by omega), fun H13 S13 => ?_⟩
            walk_at "rd"
            exact ⟨_, _, _, _, _, _, _, rfl, S0.trans ((((S9.trans S10).trans S11).trans S12).trans S13)⟩
          | none =>
            walk_at "rd"
            refine ⟨hl9, fun t1 e1 => (by rw [hpl] at e1; cases e1), fun _ H10 S10 => ?_⟩
            walk_at "rd"
            refine .inl ⟨l, rfl, hl9, fun t1 e1 => (by rw [hpl] at e1; cases e1), fun _ H11 r11 S11 tw => ?_⟩
            obtain ⟨p11, rfl, hp11⟩ := tw
            walk_at "rd"
            refine ⟨(by walk_at "sz"), fun p12 np12 => ?_⟩
            generalize e12 : upd H11 p12 _ = H12
            obtain ⟨S12, hp12⟩ := newF np12 e12
            walk_at "rd"
            exact ⟨_, _, _, _, _, _, _, rfl, S0.trans (((S9.trans S10).trans S11).trans S12)⟩
        · obtain ⟨u, ty, ku⟩ := hno
          walk_at "rd"
          refine ⟨_, _, _, _, false, rfl, .ty _, ty, ku, ?_⟩
          walk_at "rd"
          refine .inr ⟨⟨u, ty, ku⟩, fun H11 r11 S11 tw => ?_⟩
          obtain ⟨p11, rfl, hp11⟩ := tw
          walk_at "rd"
          refine ⟨(by walk_at "sz"), fun p12 np12 => ?_⟩
          generalize e12 : upd H11 p12 _ = H12
          obtain ⟨S12, hp12⟩ := newF np12 e12
          walk_at "rd"
          exact ⟨_, _, _, _, _, _, _, rfl, S0.trans ((S9.trans S11).trans S12)⟩
    · rintro σ H0 ⟨x1, x2, x3, x4, x5, x6, x7, rfl, S0⟩
      walk_at "rd"
      exact k _
end
end Hy
set_option maxRecDepth 100000
set_option maxHeartbeats 4000000
namespace Hy
open PySem L2
section
variable {P : Program} {w : World} {K : PySem.W.Frag} {mg : Str → Option Value} {base : Heap}
structure TxF (K : PySem.W.Frag) (mg : Str → Option Value) : Prop where
  T : Txt K mg
  d_closed_part : Df K mg "closed_part" s_closed_part ["letter", "children"]
  d_read_tree : Df K mg "read_tree" s_read_tree ["text"]
  d__law_cell : Df K mg "_law_cell" s__law_cell ["script", "k"]
  d__law_store : Df K mg "_law_store" s__law_store ["cell"]
  d__law_take : Df K mg "_law_take" s__law_take ["store", "many"]
  d__law_tree : Df K mg "_law_tree" s__law_tree ["store", "letters", "deep"]
  d__law_formed : Df K mg "_law_formed" s__law_formed ["tree"]
  d__law_same : Df K mg "_law_same" s__law_same ["found", "due"]
  d__law_read : Df K mg "_law_read" s__law_read ["text"]
  d__law_spoilt : Df K mg "_law_spoilt" s__law_spoilt ["store", "text"]
  d__law_odd : Df K mg "_law_odd" s__law_odd ["store"]
  d__law_said : Df K mg "_law_said" s__law_said ["text"]
  te : ∃ eH eT eL eF eM eN eX eA eR : Addr, TxE K mg eH eT eL eF eM eN eX eA eR
theorem law_ok (Z : TxF K mg) : ∀ (f : Addr) (fd : FuncData), Fun K "law" "law" s_law f fd → FnOk P w K mg base (L2.CX P w) 166 f fd ["script"] (sp_law (K := K)) := by
  have T := Z.T
  have G_closed_part := ok_closed_part (P := P) (w := w) (base := base) Z.d_closed_part T
  have G_read_tree := ok_read_tree Z.d_read_tree T G_closed_part
  have G_take := ok__law_take (P := P) (w := w) (base := base) Z.d__law_take T
  obtain ⟨eH, eT, eL, eF, eM, eN, eX, eA, eR, TE⟩ := Z.te
  exact ok_law T (ok__law_cell Z.d__law_cell T) (ok__law_store Z.d__law_store T) G_take (ok__law_tree Z.d__law_tree T G_take (ok__law_formed Z.d__law_formed T 4) 4) (ok__law_formed Z.d__law_formed T 4)
    (ok__law_same Z.d__law_same T 164) (ok__law_read Z.d__law_read T) (ok__law_spoilt Z.d__law_spoilt T G_take) (ok__law_odd Z.d__law_odd T G_take) (ok__law_said Z.d__law_said T TE G_read_tree)
theorem cx_no (w : World) (H : Hp) (s : Shared) (e : Value) (s2 : Shared) (h : L2.CX P w [] H s (fun _ _ _ => False) e s2) : False := by
  obtain ⟨_, _, _, _, _, _, _, _, _, _, _, _, z⟩ := h
  exact z
end
theorem all_mk {l : PySem.W.OpenLaw} {w : World} {K : PySem.W.Frag} {h : Heap} {mg : Str → Option Value} {fa f0 f1 f2 f3 f4 f5 f6 f7 f8 f9 f10 f11 f12 C0 C1 C2 C3 C4 C5 C6 C7 C8 : Addr} (X : K.In h) (G : h.Ns mainGlobals mg) (hfa : mg "law" = some (.ref fa))
    {od0 an0 od1 an1 od2 an2 od3 an3 od4 an4 od5 an5 od6 an6 od7 an7 od8 an8 od9 an9 od10 an10 od11 an11 od12 an12 : Option Addr} {sl0 sl1 sl2 sl3 sl4 sl5 sl6 sl7 sl8 sl9 sl10 sl11 sl12 : Array (Option Value)} {oc0 kV0 dc0 pm0 cd0 ct0 oc1 kV1 dc1 pm1 cd1 ct1 oc2 kV2 dc2 pm2 cd2 ct2 oc3 kV3 dc3 pm3 cd3 ct3 oc4 kV4 dc4 pm4 cd4 ct4 oc5 kV5 dc5 pm5 cd5 ct5 oc6 kV6 dc6 pm6 cd6 ct6 oc7 kV7 dc7 pm7 cd7 ct7 oc8 kV8 dc8 pm8 cd8 ct8 oc9 kV9 dc9 pm9 cd9 ct9 oc10 kV10 dc10 pm10 cd10 ct10 oc11 kV11 dc11 pm11 cd11 ct11 oc12 kV12 dc12 pm12 cd12 ct12 : Value}
    (a0 : PySem.W.nsIn K mainGlobals "closed_part" = some (some (.ref f0)))
    (l0 : K.lookup f0 = some ⟨oc0, od0, .func (PySem.W.fnOf "closed_part" "closed_part" (defArgs s_closed_part) (defBody s_closed_part) (defScope s_closed_part) .none kV0 dc0 pm0 an0 cd0 ct0), sl0⟩)
    (c0 : PySem.W.codeIn K cd0 "closed_part" = true) (k0 : PySem.W.keepIn K (.ref f0) = true)
    (a1 : PySem.W.nsIn K mainGlobals "read_tree" = some (some (.ref f1)))
    (l1 : K.lookup f1 = some ⟨oc1, od1, .func (PySem.W.fnOf "read_tree" "read_tree" (defArgs s_read_tree) (defBody s_read_tree) (defScope s_read_tree) .none kV1 dc1 pm1 an1 cd1 ct1), sl1⟩)
    (c1 : PySem.W.codeIn K cd1 "read_tree" = true) (k1 : PySem.W.keepIn K (.ref f1) = true)
    (a2 : PySem.W.nsIn K mainGlobals "_law_cell" = some (some (.ref f2)))
    (l2 : K.lookup f2 = some ⟨oc2, od2, .func (PySem.W.fnOf "_law_cell" "_law_cell" (defArgs s__law_cell) (defBody s__law_cell) (defScope s__law_cell) .none kV2 dc2 pm2 an2 cd2 ct2), sl2⟩)
    (c2 : PySem.W.codeIn K cd2 "_law_cell" = true) (k2 : PySem.W.keepIn K (.ref f2) = true)
    (a3 : PySem.W.nsIn K mainGlobals "_law_store" = some (some (.ref f3)))
    (l3 : K.lookup f3 = some ⟨oc3, od3, .func (PySem.W.fnOf "_law_store" "_law_store" (defArgs s__law_store) (defBody s__law_store) (defScope s__law_store) .none kV3 dc3 pm3 an3 cd3 ct3), sl3⟩)
    (c3 : PySem.W.codeIn K cd3 "_law_store" = true) (k3 : PySem.W.keepIn K (.ref f3) = true)
    (a4 : PySem.W.nsIn K mainGlobals "_law_take" = some (some (.ref f4)))
    (l4 : K.lookup f4 = some ⟨oc4, od4, .func (PySem.W.fnOf "_law_take" "_law_take" (defArgs s__law_take) (defBody s__law_take) (defScope s__law_take) .none kV4 dc4 pm4 an4 cd4 ct4), sl4⟩)
    (c4 : PySem.W.codeIn K cd4 "_law_take" = true) (k4 : PySem.W.keepIn K (.ref f4) = true)
    (a5 : PySem.W.nsIn K mainGlobals "_law_tree" = some (some (.ref f5)))
    (l5 : K.lookup f5 = some ⟨oc5, od5, .func (PySem.W.fnOf "_law_tree" "_law_tree" (defArgs s__law_tree) (defBody s__law_tree) (defScope s__law_tree) .none kV5 dc5 pm5 an5 cd5 ct5), sl5⟩)
    (c5 : PySem.W.codeIn K cd5 "_law_tree" = true) (k5 : PySem.W.keepIn K (.ref f5) = true)
    (a6 : PySem.W.nsIn K mainGlobals "_law_formed" = some (some (.ref f6)))
    (l6 : K.lookup f6 = some ⟨oc6, od6, .func (PySem.W.fnOf "_law_formed" "_law_formed" (defArgs s__law_formed) (defBody s__law_formed) (defScope s__law_formed) .none kV6 dc6 pm6 an6 cd6 ct6), sl6⟩)
    (c6 : PySem.W.codeIn K cd6 "_law_formed" = true) (k6 : PySem.W.keepIn K (.ref f6) = true)
    (a7 : PySem.W.nsIn K mainGlobals "_law_same" = some (some (.ref f7)))
    (l7 : K.lookup f7 = some ⟨oc7, od7, .func (PySem.W.fnOf "_law_same" "_law_same" (defArgs s__law_same) (defBody s__law_same) (defScope s__law_same) .none kV7 dc7 pm7 an7 cd7 ct7), sl7⟩)
    (c7 : PySem.W.codeIn K cd7 "_law_same" = true) (k7 : PySem.W.keepIn K (.ref f7) = true)
    (a8 : PySem.W.nsIn K mainGlobals "_law_read" = some (some (.ref f8)))
    (l8 : K.lookup f8 = some ⟨oc8, od8, .func (PySem.W.fnOf "_law_read" "_law_read" (defArgs s__law_read) (defBody s__law_read) (defScope s__law_read) .none kV8 dc8 pm8 an8 cd8 ct8), sl8⟩)
    (c8 : PySem.W.codeIn K cd8 "_law_read" = true) (k8 : PySem.W.keepIn K (.ref f8) = true)
    (a9 : PySem.W.nsIn K mainGlobals "_law_spoilt" = some (some (.ref f9)))
    (l9 : K.lookup f9 = some ⟨oc9, od9, .func (PySem.W.fnOf "_law_spoilt" "_law_spoilt" (defArgs s__law_spoilt) (defBody s__law_spoilt) (defScope s__law_spoilt) .none kV9 dc9 pm9 an9 cd9 ct9), sl9⟩)
    (c9 : PySem.W.codeIn K cd9 "_law_spoilt" = true) (k9 : PySem.W.keepIn K (.ref f9) = true)
    (a10 : PySem.W.nsIn K mainGlobals "_law_odd" = some (some (.ref f10)))
    (l10 : K.lookup f10 = some ⟨oc10, od10, .func (PySem.W.fnOf "_law_odd" "_law_odd" (defArgs s__law_odd) (defBody s__law_odd) (defScope s__law_odd) .none kV10 dc10 pm10 an10 cd10 ct10), sl10⟩)
    (c10 : PySem.W.codeIn K cd10 "_law_odd" = true) (k10 : PySem.W.keepIn K (.ref f10) = true)
    (a11 : PySem.W.nsIn K mainGlobals "_law_said" = some (some (.ref f11)))
    (l11 : K.lookup f11 = some ⟨oc11, od11, .func (PySem.W.fnOf "_law_said" "_law_said" (defArgs s__law_said) (defBody s__law_said) (defScope s__law_said) .none kV11 dc11 pm11 an11 cd11 ct11), sl11⟩)
    (c11 : PySem.W.codeIn K cd11 "_law_said" = true) (k11 : PySem.W.keepIn K (.ref f11) = true)
    (a12 : PySem.W.nsIn K mainGlobals "law" = some (some (.ref f12)))
    (l12 : K.lookup f12 = some ⟨oc12, od12, .func (PySem.W.fnOf "law" "law" (defArgs s_law) (defBody s_law) (defScope s_law) .none kV12 dc12 pm12 an12 cd12 ct12), sl12⟩)
    (c12 : PySem.W.codeIn K cd12 "law" = true) (k12 : PySem.W.keepIn K (.ref f12) = true)
    (b0 : PySem.W.nsIn K mainGlobals "HeapError" = some (some (.ref C0))) (x0 : PySem.W.excIn K C0 [.type "ValueError", .type "Exception", .type "BaseException", .type "object"] "ValueError.__new__" = true) (p0 : PySem.W.keepIn K (.ref C0) = true)
    (s0 : PySem.W.subIn K (.ref C0) (.type "BaseException") = some true) (t0 : PySem.W.typeIn K (.ref C0) = some (.type "type"))
    (b1 : PySem.W.nsIn K mainGlobals "NoTree" = some (some (.ref C1))) (x1 : PySem.W.excIn K C1 [.type "ValueError", .type "Exception", .type "BaseException", .type "object"] "ValueError.__new__" = true) (p1 : PySem.W.keepIn K (.ref C1) = true)
    (s1 : PySem.W.subIn K (.ref C1) (.type "BaseException") = some true) (t1 : PySem.W.typeIn K (.ref C1) = some (.type "type"))
    (b2 : PySem.W.nsIn K mainGlobals "NoLetter" = some (some (.ref C2))) (x2 : PySem.W.excIn K C2 [.type "ValueError", .type "Exception", .type "BaseException", .type "object"] "ValueError.__new__" = true) (p2 : PySem.W.keepIn K (.ref C2) = true)
    (s2 : PySem.W.subIn K (.ref C2) (.type "BaseException") = some true) (t2 : PySem.W.typeIn K (.ref C2) = some (.type "type"))
    (b3 : PySem.W.nsIn K mainGlobals "NoFit" = some (some (.ref C3))) (x3 : PySem.W.excIn K C3 [.type "ValueError", .type "Exception", .type "BaseException", .type "object"] "ValueError.__new__" = true) (p3 : PySem.W.keepIn K (.ref C3) = true)
    (s3 : PySem.W.subIn K (.ref C3) (.type "BaseException") = some true) (t3 : PySem.W.typeIn K (.ref C3) = some (.type "type"))
    (b4 : PySem.W.nsIn K mainGlobals "TooMany" = some (some (.ref C4))) (x4 : PySem.W.excIn K C4 [.type "ValueError", .type "Exception", .type "BaseException", .type "object"] "ValueError.__new__" = true) (p4 : PySem.W.keepIn K (.ref C4) = true)
    (s4 : PySem.W.subIn K (.ref C4) (.type "BaseException") = some true) (t4 : PySem.W.typeIn K (.ref C4) = some (.type "type"))
    (b5 : PySem.W.nsIn K mainGlobals "NoNumber" = some (some (.ref C5))) (x5 : PySem.W.excIn K C5 [.type "ValueError", .type "Exception", .type "BaseException", .type "object"] "ValueError.__new__" = true) (p5 : PySem.W.keepIn K (.ref C5) = true)
    (s5 : PySem.W.subIn K (.ref C5) (.type "BaseException") = some true) (t5 : PySem.W.typeIn K (.ref C5) = some (.type "type"))
    (b6 : PySem.W.nsIn K mainGlobals "NoText" = some (some (.ref C6))) (x6 : PySem.W.excIn K C6 [.type "ValueError", .type "Exception", .type "BaseException", .type "object"] "ValueError.__new__" = true) (p6 : PySem.W.keepIn K (.ref C6) = true)
    (s6 : PySem.W.subIn K (.ref C6) (.type "BaseException") = some true) (t6 : PySem.W.typeIn K (.ref C6) = some (.type "type"))
    (b7 : PySem.W.nsIn K mainGlobals "NoName" = some (some (.ref C7))) (x7 : PySem.W.excIn K C7 [.type "ValueError", .type "Exception", .type "BaseException", .type "object"] "ValueError.__new__" = true) (p7 : PySem.W.keepIn K (.ref C7) = true)
    (s7 : PySem.W.subIn K (.ref C7) (.type "BaseException") = some true) (t7 : PySem.W.typeIn K (.ref C7) = some (.type "type"))
    (b8 : PySem.W.nsIn K mainGlobals "NoRow" = some (some (.ref C8))) (x8 : PySem.W.excIn K C8 [.type "ValueError", .type "Exception", .type "BaseException", .type "object"] "ValueError.__new__" = true) (p8 : PySem.W.keepIn K (.ref C8) = true)
    (s8 : PySem.W.subIn K (.ref C8) (.type "BaseException") = some true) (t8 : PySem.W.typeIn K (.ref C8) = some (.type "type"))
    (z0 : PySem.W.nsIn K mainGlobals "enumerate" = some none)
    (z1 : PySem.W.nsIn K mainGlobals "range" = some none)
    (z2 : PySem.W.nsIn K mainGlobals "sorted" = some none)
    (z3 : PySem.W.nsIn K mainGlobals "isinstance" = some none)
    (z4 : PySem.W.nsIn K mainGlobals "str" = some none)
    (z5 : PySem.W.nsIn K mainGlobals "dict" = some none)
    (z6 : PySem.W.nsIn K mainGlobals "len" = some none)
    (z7 : PySem.W.nsIn K mainGlobals "list" = some none)
    (z8 : PySem.W.nsIn K mainGlobals "tuple" = some none)
    (z9 : PySem.W.nsIn K mainGlobals "int" = some none)
    (z10 : PySem.W.nsIn K mainGlobals "min" = some none)
    (z11 : PySem.W.nsIn K mainGlobals "bool" = some none)
    (z12 : PySem.W.nsIn K mainGlobals "max" = some none)
    {q0 : Tok} (yy0 : PySem.W.nsIn K mainGlobals "LETTERS" = some (some (.str "abcdefghijklmnopqrstuvwxyz" q0)))
    (u0 : PySem.W.findIn K (.ref C6) "__getattribute__" = some (some (.builtin "BaseException.__getattribute__")))
    (u1 : PySem.W.findIn K (.ref C6) "__getattr__" = some none)
    (u2 : PySem.W.hasDictIn K C6 = true)
    (u3 : PySem.W.findIn K (.ref C6) "__class__" = some (some (.builtin "object.__class__")))
    (u4 : PySem.W.specialIn K (.builtin "object.__class__") "__get__" = some (some (.builtin "getset_descriptor.__get__")))
    (u5 : PySem.W.takesIn K (.builtin "object.__class__") = some true)
    (u6 : PySem.W.mroIn K C6 (.type "object") = some true)
    (u7 : PySem.W.subIn K (.ref C6) (.ref C0) = some true)
    (u8 : PySem.W.hasDictIn K C0 = true)
    (u9 : PySem.W.subIn K (.ref C6) (.ref C6) = some true)
    (v0 : PySem.W.subIn K (.ref C6) (.type "ValueError") = some true)
    (v1 : PySem.W.nsIn K mainGlobals "ValueError" = some none)
    (d0 : PySem.W.hasDictIn K C3 = true)
    (w0 : PySem.W.subIn K (.ref C6) (.ref C3) = some false)
    (d1 : PySem.W.hasDictIn K C2 = true)
    (w1 : PySem.W.subIn K (.ref C6) (.ref C2) = some false)
    (d2 : PySem.W.hasDictIn K C7 = true)
    (w2 : PySem.W.subIn K (.ref C6) (.ref C7) = some false)
    (d3 : PySem.W.hasDictIn K C5 = true)
    (w3 : PySem.W.subIn K (.ref C6) (.ref C5) = some false)
    (d4 : PySem.W.hasDictIn K C8 = true)
    (w4 : PySem.W.subIn K (.ref C6) (.ref C8) = some false)
    (d5 : PySem.W.hasDictIn K C1 = true)
    (w5 : PySem.W.subIn K (.ref C6) (.ref C1) = some false)
    (d6 : PySem.W.hasDictIn K C4 = true)
    (w6 : PySem.W.subIn K (.ref C6) (.ref C4) = some false)
    : ∃ fd : FuncData, (∀ (s : Shared) (v : Value), BindsTo s fd ⟨[v], []⟩ [("script", v)]) ∧ ∀ base : Heap, K.In base → base.Ns mainGlobals mg → FnOk l.prog w K mg base (L2.CX l.prog w) 166 fa fd ["script"] (sp_law (K := K)) := by
  have e := hfa.symm.trans (PySem.W.mg_of X G a12)
  cases e
  have T : Txt K mg := ⟨PySem.W.mg_none_of X G z0, PySem.W.mg_none_of X G z1, PySem.W.mg_none_of X G z2, PySem.W.mg_none_of X G z3, PySem.W.mg_none_of X G z4, PySem.W.mg_none_of X G z5, PySem.W.mg_none_of X G z6, PySem.W.mg_none_of X G z7, PySem.W.mg_none_of X G z8, PySem.W.mg_none_of X G z9, PySem.W.mg_none_of X G z10, PySem.W.mg_none_of X G z11, PySem.W.mg_none_of X G z12, ⟨_, PySem.W.mg_of X G yy0, ⟨_, rfl⟩⟩, ⟨_, PySem.W.mg_of X G b0, x0, p0, s0, t0⟩, ⟨_, PySem.W.mg_of X G b1, x1, p1, s1, t1⟩, ⟨_, PySem.W.mg_of X G b2, x2, p2, s2, t2⟩, ⟨_, PySem.W.mg_of X G b3, x3, p3, s3, t3⟩, ⟨_, PySem.W.mg_of X G b4, x4, p4, s4, t4⟩, ⟨_, PySem.W.mg_of X G b5, x5, p5, s5, t5⟩, ⟨_, PySem.W.mg_of X G b6, x6, p6, s6, t6⟩, ⟨_, PySem.W.mg_of X G b7, x7, p7, s7, t7⟩, ⟨_, PySem.W.mg_of X G b8, x8, p8, s8, t8⟩⟩
  have F0 := fun_mk (st := s_closed_part) l0 c0 k0
  have B0 := F0.binds (ps := ["letter", "children"]) fun _ _ _ _ _ _ us hl => match us, hl with | [_, _], _ => rfl
  have F1 := fun_mk (st := s_read_tree) l1 c1 k1
  have B1 := F1.binds (ps := ["text"]) fun _ _ _ _ _ _ us hl => match us, hl with | [_], _ => rfl
  have F2 := fun_mk (st := s__law_cell) l2 c2 k2
  have B2 := F2.binds (ps := ["script", "k"]) fun _ _ _ _ _ _ us hl => match us, hl with | [_, _], _ => rfl
  have F3 := fun_mk (st := s__law_store) l3 c3 k3
  have B3 := F3.binds (ps := ["cell"]) fun _ _ _ _ _ _ us hl => match us, hl with | [_], _ => rfl
  have F4 := fun_mk (st := s__law_take) l4 c4 k4
  have B4 := F4.binds (ps := ["store", "many"]) fun _ _ _ _ _ _ us hl => match us, hl with | [_, _], _ => rfl
  have F5 := fun_mk (st := s__law_tree) l5 c5 k5
  have B5 := F5.binds (ps := ["store", "letters", "deep"]) fun _ _ _ _ _ _ us hl => match us, hl with | [_, _, _], _ => rfl
  have F6 := fun_mk (st := s__law_formed) l6 c6 k6
  have B6 := F6.binds (ps := ["tree"]) fun _ _ _ _ _ _ us hl => match us, hl with | [_], _ => rfl
  have F7 := fun_mk (st := s__law_same) l7 c7 k7
  have B7 := F7.binds (ps := ["found", "due"]) fun _ _ _ _ _ _ us hl => match us, hl with | [_, _], _ => rfl
  have F8 := fun_mk (st := s__law_read) l8 c8 k8
  have B8 := F8.binds (ps := ["text"]) fun _ _ _ _ _ _ us hl => match us, hl with | [_], _ => rfl
  have F9 := fun_mk (st := s__law_spoilt) l9 c9 k9
  have B9 := F9.binds (ps := ["store", "text"]) fun _ _ _ _ _ _ us hl => match us, hl with | [_, _], _ => rfl
  have F10 := fun_mk (st := s__law_odd) l10 c10 k10
  have B10 := F10.binds (ps := ["store"]) fun _ _ _ _ _ _ us hl => match us, hl with | [_], _ => rfl
  have F11 := fun_mk (st := s__law_said) l11 c11 k11
  have B11 := F11.binds (ps := ["text"]) fun _ _ _ _ _ _ us hl => match us, hl with | [_], _ => rfl
  have Z : TxF K mg := ⟨T, ⟨_, _, F0, PySem.W.mg_of X G a0, B0⟩, ⟨_, _, F1, PySem.W.mg_of X G a1, B1⟩, ⟨_, _, F2, PySem.W.mg_of X G a2, B2⟩, ⟨_, _, F3, PySem.W.mg_of X G a3, B3⟩, ⟨_, _, F4, PySem.W.mg_of X G a4, B4⟩, ⟨_, _, F5, PySem.W.mg_of X G a5, B5⟩, ⟨_, _, F6, PySem.W.mg_of X G a6, B6⟩, ⟨_, _, F7, PySem.W.mg_of X G a7, B7⟩, ⟨_, _, F8, PySem.W.mg_of X G a8, B8⟩, ⟨_, _, F9, PySem.W.mg_of X G a9, B9⟩, ⟨_, _, F10, PySem.W.mg_of X G a10, B10⟩, ⟨_, _, F11, PySem.W.mg_of X G a11, B11⟩, ⟨_, _, _, _, _, _, _, _, _, ⟨PySem.W.mg_of X G b0, ⟨_, PySem.W.mg_of X G b1, rfl⟩, ⟨_, PySem.W.mg_of X G b2, rfl⟩, ⟨_, PySem.W.mg_of X G b3, rfl⟩, ⟨_, PySem.W.mg_of X G b4, rfl⟩, ⟨_, PySem.W.mg_of X G b5, rfl⟩, PySem.W.mg_of X G b6, ⟨_, PySem.W.mg_of X G b6, rfl⟩, ⟨_, PySem.W.mg_of X G b7, rfl⟩, ⟨_, PySem.W.mg_of X G b8, rfl⟩, PySem.W.mg_none_of X G v1, ⟨u0, u1, s6, u2, u3, u4, u5, u6⟩, PySem.W.exm_ref s0 u8 t0 u7, (kitAny_cons (b := false) (kitOne_no u9 d0 t3 w0) (fun _ => (kitAny_cons (b := false) (kitOne_no u9 d1 t2 w1) (fun _ => (kitAny_cons (b := false) (kitOne_no u9 d2 t7 w2) (fun _ => (kitAny_cons (b := false) (kitOne_no u9 d3 t5 w3) (fun _ => (kitAny_cons (b := false) (kitOne_no u9 d4 t8 w4) (fun _ => (kitAny_cons (b := false) (kitOne_no u9 d5 t1 w5) (fun _ => (kitAny_cons (b := false) (kitOne_no u9 d6 t4 w6) (fun _ => kitAny_nil) (fun z => nomatch z))) (fun z => nomatch z))) (fun z => nomatch z))) (fun z => nomatch z))) (fun z => nomatch z))) (fun z => nomatch z))) (fun z => nomatch z)), kitOne_self, kitOne_ty (by decide +kernel) v0⟩⟩⟩
  exact ⟨PySem.W.fnOf "law" "law" (defArgs s_law) (defBody s_law) (defScope s_law) .none kV12 dc12 pm12 an12 cd12 ct12, fun s v => .of_eq rfl, fun base _ _ => law_ok Z _ _ (fun_mk (st := s_law) l12 c12 k12)⟩
theorem walk {l : PySem.W.OpenLaw} {q : Program} {loose : List Str} {XP : (Str → Option Value) → Heap → Prop} {YP : World → Heap → Prop} {d : DefRec} {K : Params → PySem.W.Frag} (hn : l.most = some 63) (hdf : d.params.defaults = [])
    (hY : ∀ (w : World) (h : Heap), YP w h → (K w.params).In h)
    (F : ∀ (w : World) (mg : Str → Option Value) (fa : Addr) (h : Heap), (K w.params).In h → h.Ns mainGlobals mg → mg d.name = some (.ref fa) →
      ∃ fd : FuncData, (∀ (s : Shared) (u : Value), BindsTo s fd ⟨[u], []⟩ [("script", u)]) ∧ ∀ base : Heap, (K w.params).In base → base.Ns mainGlobals mg → FnOk l.prog w (K w.params) mg base (L2.CX l.prog w) 166 fa fd ["script"] (sp_law (K := K w.params))) :
    PySem.W.WalkO q loose XP YP l.row.toRowW d [] (fun f vs => PySem.call f vs) :=
  L2.walk_of (n := 63) (k := 166) (x := "script") (CX := fun w => L2.CX l.prog w) (sp := fun w => sp_law (K := K w.params)) hn (by decide) hdf ⟨rfl, by decide, by decide⟩ hY F (fun _ _ a ns hl _ hS => ⟨a, ns, rfl, hS, hl, fun _ => rfl⟩) fun w H s e s2 => cx_no w H s e s2
end Hy
open PySem PySem.W PyProof.Rows in
set_option maxRecDepth 100000 in
set_option maxHeartbeats 0 in
theorem PySem.Challenge.cw_heaptrees_k76_texts_of_no_tree_holds : PySem.Challenge.rw_heaptrees_k76_texts_of_no_tree.Holds := by
  w_on; o_law; k_head; (case hw => w_witness2)
  k_fill
  refine Hy.walk (l := PySem.Challenge.rw_heaptrees_k76_texts_of_no_tree) rfl rfl (fun w h Y => PySem.W.kIn_of Y) ?F
  case F =>
    intro w mg fa h KX G hmg
    refine' Hy.all_mk KX G hmg ?a0 ?l0 ?c0 ?k0 ?a1 ?l1 ?c1 ?k1 ?a2 ?l2 ?c2 ?k2 ?a3 ?l3 ?c3 ?k3 ?a4 ?l4 ?c4 ?k4 ?a5 ?l5 ?c5 ?k5 ?a6 ?l6 ?c6 ?k6 ?a7 ?l7 ?c7 ?k7 ?a8 ?l8 ?c8 ?k8 ?a9 ?l9 ?c9 ?k9 ?a10 ?l10 ?c10 ?k10 ?a11 ?l11 ?c11 ?k11 ?a12 ?l12 ?c12 ?k12 ?b0 ?x0 ?p0 ?s0 ?t0 ?b1 ?x1 ?p1 ?s1 ?t1 ?b2 ?x2 ?p2 ?s2 ?t2 ?b3 ?x3 ?p3 ?s3 ?t3 ?b4 ?x4 ?p4 ?s4 ?t4 ?b5 ?x5 ?p5 ?s5 ?t5 ?b6 ?x6 ?p6 ?s6 ?t6 ?b7 ?x7 ?p7 ?s7 ?t7 ?b8 ?x8 ?p8 ?s8 ?t8 ?z0 ?z1 ?z2 ?z3 ?z4 ?z5 ?z6 ?z7 ?z8 ?z9 ?z10 ?z11 ?z12 ?yy0 ?u0 ?u1 ?u2 ?u3 ?u4 ?u5 ?u6 ?u7 ?u8 ?u9 ?v0 ?v1 ?d0 ?w0 ?d1 ?w1 ?d2 ?w2 ?d3 ?w3 ?d4 ?w4 ?d5 ?w5 ?d6 ?w6
    (case a0 => k_is)
    (case l0 => k_is)
    (case c0 => k_is)
    (case k0 => k_is)
    (case a1 => k_is)
    (case l1 => k_is)
    (case c1 => k_is)
    (case k1 => k_is)
    (case a2 => k_is)
    (case l2 => k_is)
    (case c2 => k_is)
    (case k2 => k_is)
    (case a3 => k_is)
    (case l3 => k_is)
    (case c3 => k_is)
    (case k3 => k_is)
    (case a4 => k_is)
    (case l4 => k_is)
    (case c4 => k_is)
    (case k4 => k_is)
    (case a5 => k_is)
    (case l5 => k_is)
    (case c5 => k_is)
    (case k5 => k_is)
    (case a6 => k_is)
    (case l6 => k_is)
    (case c6 => k_is)
    (case k6 => k_is)
    (case a7 => k_is)
    (case l7 => k_is)
    (case c7 => k_is)
    (case k7 => k_is)
    (case a8 => k_is)
    (case l8 => k_is)
    (case c8 => k_is)
    (case k8 => k_is)
    (case a9 => k_is)
    (case l9 => k_is)
    (case c9 => k_is)
    (case k9 => k_is)
    (case a10 => k_is)
    (case l10 => k_is)
    (case c10 => k_is)
    (case k10 => k_is)
    (case a11 => k_is)
    (case l11 => k_is)
    (case c11 => k_is)
    (case k11 => k_is)
    (case a12 => k_is)
    (case l12 => k_is)
    (case c12 => k_is)
    (case k12 => k_is)
    (case b0 => k_is)
    (case x0 => k_exc)
    (case p0 => k_is)
    (case s0 => k_is)
    (case t0 => k_is)
    (case b1 => k_is)
    (case x1 => k_exc)
    (case p1 => k_is)
    (case s1 => k_is)
    (case t1 => k_is)
    (case b2 => k_is)
    (case x2 => k_exc)
    (case p2 => k_is)
    (case s2 => k_is)
    (case t2 => k_is)
    (case b3 => k_is)
    (case x3 => k_exc)
    (case p3 => k_is)
    (case s3 => k_is)
    (case t3 => k_is)
    (case b4 => k_is)
    (case x4 => k_exc)
    (case p4 => k_is)
    (case s4 => k_is)
    (case t4 => k_is)
    (case b5 => k_is)
    (case x5 => k_exc)
    (case p5 => k_is)
    (case s5 => k_is)
    (case t5 => k_is)
    (case b6 => k_is)
    (case x6 => k_exc)
    (case p6 => k_is)
    (case s6 => k_is)
    (case t6 => k_is)
    (case b7 => k_is)
    (case x7 => k_exc)
    (case p7 => k_is)
    (case s7 => k_is)
    (case t7 => k_is)
    (case b8 => k_is)
    (case x8 => k_exc)
    (case p8 => k_is)
    (case s8 => k_is)
    (case t8 => k_is)
    (case z0 => k_is)
    (case z1 => k_is)
    (case z2 => k_is)
    (case z3 => k_is)
    (case z4 => k_is)
    (case z5 => k_is)
    (case z6 => k_is)
    (case z7 => k_is)
    (case z8 => k_is)
    (case z9 => k_is)
    (case z10 => k_is)
    (case z11 => k_is)
    (case z12 => k_is)
    (case yy0 => k_is)
    (case u0 => k_is)
    (case u1 => k_is)
    (case u2 => k_is)
    (case u3 => k_is)
    (case u4 => k_is)
    (case u5 => k_is)
    (case u6 => k_is)
    (case u7 => k_is)
    (case u8 => k_is)
    (case u9 => k_is)
    (case v0 => k_is)
    (case v1 => k_is)
    (case d0 => k_is)
    (case w0 => k_is)
    (case d1 => k_is)
    (case w1 => k_is)
    (case d2 => k_is)
    (case w2 => k_is)
    (case d3 => k_is)
    (case w3 => k_is)
    (case d4 => k_is)
    (case w4 => k_is)
    (case d5 => k_is)
    (case w5 => k_is)
    (case d6 => k_is)
    (case w6 => k_is)
