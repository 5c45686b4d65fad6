import PyProof.Rows.All
import Wide.All
import OpenK.AllK
import Wide.FinOn
import PyProof.EqAt
import PyProof.EqKinds
import PyProof.EnumMake
import KE.KRevSl
import KE.DataEq
import KE.SortData
import KE.SortLaws
import HandS.ForMost
import HandS.ForExc
import HandS.IsInst
import HandS.TupAny
import HandS.Wide
import PySem.Challenge.RW_heaptrees_k75_trees_read_back
set_option Elab.async false
set_option linter.all false
set_option maxRecDepth 100000
set_option maxHeartbeats 4000000
namespace Hy
open PySem L2

/-! ### defs of the text, by name -/
structure Df (K : PySem.W.Frag) (mg : Str → Option Value) (x : Str) (st : Stmt) (ps : List Str) : Prop where
  ex : ∃ (f : Addr) (fd : FuncData), Fun K x x st f fd ∧ mg x = some (.ref f) ∧ Binds K fd ps []
structure Gd (P : Program) (w : World) (K : PySem.W.Frag) (mg : Str → Option Value) (base : Heap) (x : Str) (k : Nat) (ps : List Str) (sp : Sp) : Prop where
  ex : ∃ (f : Addr) (fd : FuncData), FnOk P w K mg base (L2.CX P w) k f fd ps sp ∧ mg x = some (.ref f) ∧ PySem.W.keepIn K (.ref f) = true ∧ Binds K fd ps []
section
variable {P : Program} {w : World} {K : PySem.W.Frag} {mg : Str → Option Value} {base : Heap} {x : Str} {st : Stmt} {ps : List Str} {k j : Nat} {sp sp' : Sp}
theorem Df.ok (D : Df K mg x st ps) (h : ∀ (f : Addr) (fd : FuncData), Fun K x x st f fd → FnOk P w K mg base (L2.CX P w) k f fd ps sp) : Gd P w K mg base x k ps sp := by
  obtain ⟨f, fd, F, m, b⟩ := D.ex
  exact ⟨f, fd, h f fd F, m, F.kp, b⟩
theorem Gd.mono (G : Gd P w K mg base x j ps sp) (h : j ≤ k) : Gd P w K mg base x k ps sp := by
  obtain ⟨f, fd, F, m, kp, b⟩ := G.ex
  exact ⟨f, fd, F.mono h, m, kp, b⟩
theorem Gd.imp (G : Gd P w K mg base x k ps sp) (h : ∀ vs H Q E, sp' vs H Q E → sp vs H Q E) : Gd P w K mg base x k ps sp' := by
  obtain ⟨f, fd, F, m, kp, b⟩ := G.ex
  exact ⟨f, fd, F.imp h, m, kp, b⟩
end
/-- an exception that can't be -/
theorem passF {X : Cx} : Passes (L2.CX X.prog X.w) X E0 := fun _ _ _ _ _ _ _ h => by
  obtain ⟨_, _, _, _, _, _, _, _, _, _, _, _, z⟩ := h
  exact z.elim
theorem passW {X : Cx} {W : WX} {E : XK} (tk : Takes X W) (h : ∀ cls d σ H, E cls d H → W cls d σ H) : Passes (L2.CX X.prog X.w) X E := passes_call tk h
section
variable {X : Cx} {x : Str} {k : Nat} {ps : List Str} {sp : Sp} {E : XK} {p pos : Pos} {e : Expr} {es : List Expr} {t : TA}
theorem pe_cl (G : Gd X.prog X.w X.K X.mg X.base x k ps sp) (hr : Room k X.A) (hx : Passes (L2.CX X.prog X.w) X E) (ha : PA X (e :: es) t) (hg : Gl X x := by rfl) (hdb : (x == ("__debug__" : Str)) = false := by decide)
    (he : starEach (e :: es) X.env = (false, eval e X.env) :: starEach es X.env := by rfl) (hpl : (backTo pos (starEach es X.env)).any (·.1) = false := by rfl) : PE X (.Call (.Name x p) (e :: es) [] pos) (tCall sp [] E t) := by
  obtain ⟨f, fd, F, m, kp, b⟩ := G.ex
  exact pe_call F hr hg m kp b .nil hx ha hdb he hpl
theorem pe_cl0 (G : Gd X.prog X.w X.K X.mg X.base x k ps sp) (hr : Room k X.A) (hx : Passes (L2.CX X.prog X.w) X E) (hg : Gl X x := by rfl) (hdb : (x == ("__debug__" : Str)) = false := by decide) : PE X (.Call (.Name x p) [] [] pos) (tCall sp [] E tNil) := by
  obtain ⟨f, fd, F, m, kp, b⟩ := G.ex
  exact pe_call0 F hr hg m kp b .nil hx hdb
end

/-! ### heaps: what stands, what is new -/
theorem Same.upd_new {H H' : Hp} {p : Addr} {o : HO} (s : Same H H') (n : H' p = none) : Same H (upd H' p o) := fun b u e => by
  rw [upd_ne (ne_of_none (s _ _ e) n)]
  exact s _ _ e
theorem same_new {H : Hp} {p : Addr} {o : HO} (n : H p = none) : Same H (upd H p o) := Same.upd_new (Same.refl H) n
/-- a list of ours (new behind H) is changed -/
theorem Same.upd_own {H H' : Hp} {p : Addr} {o : HO} (s : Same H H') (n : H p = none) : Same H (upd H' p o) := fun b u e => by
  rw [upd_ne (ne_of_none e n)]
  exact s _ _ e
/-- all but what stands at the addresses of A stands as it was; tuples always stand -/
structure Keep (A : List Addr) (H H' : Hp) : Prop where
  but : ∀ b o, b ∉ A → H b = some o → H' b = some o
  tup : ∀ b xs, H b = some (.tup xs) → H' b = some (.tup xs)
theorem Keep.refl (A : List Addr) (H : Hp) : Keep A H H := ⟨fun _ _ _ h => h, fun _ _ h => h⟩
theorem Keep.trans {A : List Addr} {H H1 H2 : Hp} (a : Keep A H H1) (b : Keep A H1 H2) : Keep A H H2 := ⟨fun c o n h => b.but c o n (a.but c o n h), fun c o h => b.tup c o (a.tup c o h)⟩
theorem Keep.mono {A B : List Addr} {H H' : Hp} (a : Keep A H H') (h : ∀ c ∈ A, c ∈ B) : Keep B H H' := ⟨fun c o n e => a.but c o (fun z => n (h c z)) e, a.tup⟩
theorem Same.keep {A : List Addr} {H H' : Hp} (s : Same H H') : Keep A H H' := ⟨fun _ _ _ h => s _ _ h, fun _ _ h => s _ _ h⟩
theorem Keep.same {H H' : Hp} (k : Keep [] H H') : Same H H' := fun b o e => k.but b o (by simp) e
theorem Keep.upd {A : List Addr} {H H' : Hp} {a : Addr} {xs : List V} {o : HO} (k : Keep A H H') (ha : a ∈ A) (e : H' a = some (.lst xs)) : Keep A H (upd H' a o) := by
  refine ⟨fun b u n h => ?_, fun b u h => ?_⟩
  · rw [upd_ne (fun z => n (by rw [z]; exact ha))]
    exact k.but b u n h
  · have q := k.tup b u h
    rw [upd_ne (ne_of q e (fun z => nomatch z))]
    exact q
theorem Keep.updNew {A : List Addr} {H H' : Hp} {a : Addr} {o : HO} (k : Keep A H H') (n : H' a = none) : Keep A H (L2.upd H' a o) := by
  refine ⟨fun b u z h => ?_, fun b u h => ?_⟩
  · rw [upd_ne (ne_of_none (k.but b u z h) n)]
    exact k.but b u z h
  · rw [upd_ne (ne_of_none (k.tup b u h) n)]
    exact k.tup b u h

theorem Keep.own {A : List Addr} {H H' : Hp} {a : Addr} {o : HO} (k : Keep A H H') (n : H a = none) : Keep A H (L2.upd H' a o) := by
  refine ⟨fun b u z h => ?_, fun b u h => ?_⟩
  · rw [upd_ne (ne_of_none h n)]
    exact k.but b u z h
  · rw [upd_ne (ne_of_none h n)]
    exact k.tup b u h
theorem Keep.some {A : List Addr} {H H' : Hp} (k : Keep A H H') {b : Addr} (n : H' b = none) (hA : b ∉ A) : H b = none := by
  cases q : H b with
  | none => rfl
  | some o =>
    rw [k.but b o hA q] at n
    cases n

/-! ### == and != of data of any depth -/
theorem dp_room {X : Cx} {k : Nat} (hr : Room k X.A) {n : Nat} (h : n ≤ 200) : X.A.units + n < cLine := by
  have := hr.un
  omega
def rEqP (K : PySem.W.Frag) : R2 := fun x y H Q => ∃ d e, Dp K H x d ∧ Dp K H y e ∧ d.plain = true ∧ e.plain = true ∧ min d.depth e.depth ≤ 200 ∧ Q (.bl (PyData.eqv d e)) H
def rNeP (K : PySem.W.Frag) : R2 := fun x y H Q => ∃ d e, Dp K H x d ∧ Dp K H y e ∧ d.plain = true ∧ e.plain = true ∧ min d.depth e.depth ≤ 200 ∧ Q (.bl (!PyData.eqv d e)) H
theorem op_eqP {X : Cx} {k : Nat} (hr : Room k X.A) : OpR X (compareOp .Eq) (rEqP X.K) := by
  intro pins s σ H x y v u Q I rx ry h
  obtain ⟨d, e, hd, he, pd, pe, hm, q⟩ := h
  obtain ⟨as, r1⟩ := Dp.reads I d x v hd rx
  obtain ⟨bs, r2⟩ := Dp.reads I e y u he ry
  exact PySem.SeqAt.eq_plain r1 r2 pd pe (dp_room hr hm) ⟨.bl _, H, I, rfl, q⟩
theorem op_neP {X : Cx} {k : Nat} (hr : Room k X.A) : OpR X (compareOp .NotEq) (rNeP X.K) := by
  intro pins s σ H x y v u Q I rx ry h
  obtain ⟨d, e, hd, he, pd, pe, hm, q⟩ := h
  obtain ⟨as, r1⟩ := Dp.reads I d x v hd rx
  obtain ⟨bs, r2⟩ := Dp.reads I e y u he ry
  exact PySem.SeqAt.ne_plain r1 r2 pd pe (dp_room hr hm) ⟨.bl _, H, I, rfl, q⟩

/-! ### xs[::-1] -/
def tRevL (K : PySem.W.Frag) (te : TE) : TE := fun σ H Q => te σ H fun x H1 => ∃ a xs, x = .ref a ∧ SqL K H1 a xs ∧ ∀ p, H1 p = none → Q (.ref p) (upd H1 p (.lst xs.reverse))
theorem vals_rev {xs : List V} {us : List Value} (r : Vals xs us) : Vals xs.reverse us.reverse := by
  induction r with
  | nil => exact .nil
  | cons h _ ih =>
    rw [List.reverse_cons, List.reverse_cons]
    exact ih.append (.cons h .nil)
theorem pe_rev {X : Cx} {e : Expr} {te : TE} {pos p2 p3 p4 : Pos} {j : Nat} (he : PE X e te) : PE X (.Subscript e (.Slice none none (some (.UnaryOp .USub (.Constant (.int 1) j p4) p3)) p2) pos) (tRevL X.K te) := by
  refine ⟨fun pins s σ H Q I h => ?_⟩
  refine PyProof.Rows.Subscript_ (thn (he.run pins s σ H _ I h) fun v s1 ⟨x, H1, I1, r1, a, xs, ex, hx, q1⟩ => ?_)
  subst ex
  cases r1
  refine wpAny_Slice ?_
  rw [evalPart_none]
  refine wpAny_pure ?_
  refine wpAny_pure ?_
  have hu : PE X (.UnaryOp .USub (.Constant (.int 1) j p4) p3) (tUn (fun x H Q => ∃ i, x = .int i ∧ Q (.int (-i)) H) (tC (.int 1))) := by exact pe_un un_neg pe_int
  have hp := (po_some hu).run pins s1 σ H1 (fun o H2 => o = some (-1) ∧ H2 = H1) I1
  refine thn (hp ?_) fun vk s2 ⟨o, H2, I2, pk, eo, eH⟩ => ?_
  · exact ⟨_, rfl, _, rfl, rfl, rfl⟩
  subst eo eH
  obtain ⟨its, r, ht, hz⟩ := I2.list hx
  have I4 : Inv X pins σ H2 { s2 with heap := s2.heap.push { cls := .type "slice", data := .fields #[.none, .none, vk] } } := I2.kept (t' := s2.toks) fun b ob q => Heap.get?_push_of_some _ q
  obtain ⟨its, r, ht, hz⟩ := I4.list hx
  show wpAny (model X.prog X.w) X.A (PyProof.Rows.subscriptTail e (.Slice none none (some (.UnaryOp .USub (.Constant (.int 1) j p4) p3)) p2) (.ref a) (.ref s2.heap.objs.size)) (EP X pins σ Q) X.xe { s2 with heap := s2.heap.push { cls := .type "slice", data := .fields #[.none, .none, vk] } }
  refine PyProof.Rows.tail_any (ops := [.ref a, .ref s2.heap.objs.size]) ht.isList.typeIs PySem.F.slot_list_getitem.lookup ?_ (by with_unfolding_all rfl)
  refine wpAny_getItem_list_slice ht.isList (Heap.IsSliceOf.new ..) .none .none pk (by decide) ?_ (by rw [List.size_toArray, ← r.length]; exact hz)
  rw [PySem.W.krv_pick]
  dsimp only
  refine ⟨.ref (s2.heap.push { cls := .type "slice", data := .fields #[.none, .none, vk] }).objs.size, _, I4.laid (t' := s2.toks) (o := .lst xs.reverse) (fun b ob q => Heap.get?_push_of_some _ q) (Nat.le_refl _) ?_, rfl, q1 _ (I4.hok.fresh (Nat.le_refl _))⟩
  exact ⟨by rw [List.length_reverse]; exact hz, its.reverse, 0, vals_rev r, Heap.get?_push_size _ rfl⟩

/-! ### enumerate(text) -/
def Ites (x : Str) : It := ⟨fun i _ => i < x.cps.size, fun i H v H' => ∃ T c, v = .ref T ∧ H T = none ∧ H' = upd H T (.tup [.int (i : Nat), .str ⟨#[c]⟩]) ∧ x.cps[i]? = some c, fun i _ => i = x.cps.size⟩
theorem turn_enumS {P : Program} {w : World} {K : PySem.W.Frag} {elts : List Expr} {kk : Nat} {tpos : Pos} (x : Str) (t : Tok) (e it : Addr) :
    Turn P w K (.Tuple elts kk tpos) (Ites x) [e, it] e (fun i h => (∃ old, IsEnum h e it ((i : Nat) : Int) old) ∧ h.IsStrIter it (strIterType x) x t i ∧ e ≠ it) where
  mem := by simp
  obj := fun i h st b hb => by
    obtain ⟨⟨old, he⟩, ⟨o, ho, hc, hd⟩, _⟩ := st
    have e' : b = e ∨ b = it := by simpa using hb
    rcases e' with z | z
    · rw [z]; exact ⟨_, he, fun v q => nomatch q⟩
    · rw [z]; exact ⟨o, ho, fun v q => by rw [hd] at q; cases q⟩
  keep := fun i h h' st k => let ⟨⟨old, he⟩, ⟨o, ho, r⟩, hne⟩ := st; ⟨⟨old, k e (by simp) _ he⟩, ⟨o, k it (by simp) _ ho, r⟩, hne⟩
  item := by
    intro X hP hw hK hc i pins s σ H E I hf st hg
    subst hP hw hK
    obtain ⟨⟨old, he⟩, hit, hne⟩ := st
    have hel : e < s.heap.objs.size := Heap.lt_size he
    have hil : it < s.heap.objs.size := by obtain ⟨_, q, _⟩ := hit; exact Heap.lt_size q
    have main : ∀ (ty : String), Draws X.prog X.w X.A.in1 it [it] x.cps.size (fun i v => ∃ c u, x.cps[i]? = some c ∧ v = .str ⟨#[c]⟩ u) (fun i h => h.IsStrIter it ty x t i) → s.heap.IsStrIter it ty x t i →
        wpAny (model X.prog X.w) X.A (pyNext (.ref e)) (fun r s1 => ∃ u, r = some u ∧
          wpAny (model X.prog X.w) X.A (letOwnedTupleGo (.Tuple elts kk tpos) (.ref e) u) (fun _ s2 => ∃ y H', Inv X pins σ H' s2 ∧ RelV y u ∧ (Ites x).yld i H y H' ∧ ((∃ old, IsEnum s2.heap e it ((i + 1 : Nat) : Int) old) ∧ s2.heap.IsStrIter it ty x t (i + 1) ∧ e ≠ it) ∧ ∀ b ∈ [e, it], H' b = none) E s1) E s := by
      intro ty D hit
      refine wpAny_pyNext_enum_itemD D he hit hg hne (by simp [hne]) fun u h' tk hP ho hit' hT hsz hk => ?_
      obtain ⟨c, tu, hcx, rfl⟩ := hP
      refine ⟨_, rfl, wpAny_letOwnedTupleGo_enum (s := { s with heap := h', toks := tk + 1 }) ho fun h'' he' sb => ?_⟩
      have hT2 : h''.get? s.heap.objs.size = some { cls := .type "tuple", data := .seq #[.int i tk, .str ⟨#[c]⟩ tu] } := (sb.2 _ (Nat.ne_of_gt hel)).trans hT
      have new : ObjOk X.prog X.w (upd H s.heap.objs.size (.tup [.int (i : Nat), .str ⟨#[c]⟩])) h'' s.heap.objs.size (.tup [.int (i : Nat), .str ⟨#[c]⟩]) :=
        ⟨by show 2 ≤ sizeLine; decide, [.int i tk, .str ⟨#[c]⟩ tu], .cons ⟨_, rfl⟩ (.cons ⟨_, rfl⟩ .nil), ⟨_, hT2, rfl, _, rfl⟩⟩
      have I1 : Inv X pins σ (upd H s.heap.objs.size (.tup [.int (i : Nat), .str ⟨#[c]⟩])) { s with heap := h'', toks := tk + 1 } :=
        I.turnedNew (ch := [e, it]) (fun b ob hb q => (sb.2 b (fun z => hb (by simp [z]))).trans (hk b ob (fun z => hb (by simp [z])) (fun z => hb (by simp [z])) q)) hf (Nat.le_refl _) new
      refine ⟨.ref s.heap.objs.size, _, I1, rfl, ⟨_, c, rfl, I.hok.fresh (Nat.le_refl _), rfl, hcx⟩, ⟨⟨.str ⟨#[c]⟩ tu, ?_⟩, ?_, hne⟩, fun b hb => ?_⟩
      · have e1 : ((i + 1 : Nat) : Int) = (i : Int) + 1 := by omega
        rw [e1]; exact he'
      · obtain ⟨oi, hoi, ri⟩ := hit'
        exact ⟨oi, (sb.2 it (Ne.symm hne)).trans hoi, ri⟩
      · have hb' : b < s.heap.objs.size := by
          have e' : b = e ∨ b = it := by simpa using hb
          rcases e' with z | z
          · rw [z]; exact hel
          · rw [z]; exact hil
        rw [upd_ne (Nat.ne_of_lt hb')]
        exact (hf b hb).1
    unfold strIterType at hit ⊢
    split at hit
    · rename_i ha
      rw [if_pos ha]
      exact main _ (Draws.strAscii (A := X.A.in1) (I.ok.hd hc) it x t) hit
    · rename_i ha
      rw [if_neg ha]
      exact main _ (Draws.strWide (A := X.A.in1) (I.ok.hd hc) it x t) hit
  done := by
    intro X hP hw hK hc i pins s σ H E I hf st hg
    subst hP hw hK
    obtain ⟨⟨old, he⟩, hit, hne⟩ := st
    have hg' : i = x.cps.size := hg
    obtain ⟨f0, f1, f2, f3, f4, f5⟩ := hf it (by simp)
    rw [hg'] at hit
    unfold strIterType at hit
    split at hit
    · exact wpAny_pyNext_enum_endD (Draws.strAscii (A := X.A.in1) (I.ok.hd hc) it x t) he hit fun h' eb => ⟨rfl, I.turned (t' := s.toks) (fun b o hb q => eb b o hb q) f0 f1 f3 f4 f5⟩
    · exact wpAny_pyNext_enum_endD (Draws.strWide (A := X.A.in1) (I.ok.hd hc) it x t) he hit fun h' eb => ⟨rfl, I.turned (t' := s.toks) (fun b o hb q => eb b o hb q) f0 f1 f3 f4 f5⟩
  self := fun A i s Q E st h => let ⟨⟨_, he⟩, _⟩ := st; wpAny_pyIter_enum he h
def iEnumS (ta : TA) : TI := fun σ H R => ta σ H fun vs H1 => ∃ x, vs = [.str x] ∧ R (Ites x) H1
theorem pi_enumS {X : Cx} {e : Expr} {ta : TA} {p pos tpos : Pos} {elts : List Expr} {kk : Nat} (hm : X.mg "enumerate" = none) (ha : PA X [e] ta) (hg : Gl X "enumerate" := by rfl) (hs : starEach [e] X.env = [(false, eval e X.env)] := by rfl) :
    PI X (.Tuple elts kk tpos) (.Call (.Name "enumerate" p) [e] [] pos) (iEnumS ta) := by
  refine ⟨fun pins s σ H R I h => ?_⟩
  refine PyProof.Rows.Call_ (ld_blt I hg hm PyProof.Rows.boot_enumerate (PyProof.Rows.callWith_type1 (thn (ha.run pos pins s σ H _ I h) fun us s1 ⟨vs, H1, I1, r1, q1⟩ => ?_) hs rfl))
  obtain ⟨x, ex, q⟩ := q1
  subst ex
  cases r1 with
  | cons r rr =>
    cases rr
    obtain ⟨t, rfl⟩ := r
    refine call_enumerate_str fun h' he hit hsz hk => wpAny_pyIter_enum he ?_
    have I2 : Inv X pins σ H1 { s1 with heap := h' } := I1.kept (t' := s1.toks) hk
    refine ⟨s1.heap.objs.size + 1, [s1.heap.objs.size + 1, s1.heap.objs.size], _, _, H1, rfl, I2, turn_enumS x t (s1.heap.objs.size + 1) s1.heap.objs.size, ⟨⟨.none, he⟩, hit, Nat.succ_ne_self _⟩, fun b hb => ?_, q⟩
    have e' : b = s1.heap.objs.size + 1 ∨ b = s1.heap.objs.size := by simpa using hb
    have hle : s1.heap.objs.size ≤ b := by
      rcases e' with z | z
      · rw [z]; exact Nat.le_add_right _ _
      · rw [z]; exact Nat.le_refl _
    exact I1.fpOk hle (I1.hok.fresh hle)
/-- its loop -/
theorem for_enumS {x : Str} {g : TG} {tb : TS} {D : Ends} {σ : St} {H : Hp} (Pv : Nat → St → Hp → Prop) (h0 : Pv 0 σ H)
    (hs : ∀ i c σ H T, x.cps[i]? = some c → Pv i σ H → H T = none → g (.ref T) σ (upd H T (.tup [.int (i : Nat), .str ⟨#[c]⟩])) fun σ2 H2 => tb { D with nx := Pv (i + 1), ct := Pv (i + 1), bk := D.nx } σ2 H2) (hd : ∀ σ H, Pv x.cps.size σ H → D.nx σ H) :
    ∃ W : Nat → Nat → St → Hp → Prop, (∃ m, W 0 m σ H) ∧ ∀ i m σ H, W i m σ H →
      ((Ites x).stop i H ∧ D.nx σ H) ∨ ((Ites x).go i H ∧ ∃ N : St → Hp → Prop, (∀ σ' H', N σ' H' → ∃ m', m' < m ∧ W (i + 1) m' σ' H') ∧ ∀ v H', (Ites x).yld i H v H' → g v σ H' fun σ2 H2 => tb { D with nx := N, ct := N, bk := D.nx } σ2 H2) := by
  refine ⟨fun i m σ H => m = x.cps.size - i ∧ i ≤ x.cps.size ∧ Pv i σ H, ⟨x.cps.size, by simp, Nat.zero_le _, h0⟩, ?_⟩
  rintro i m σ H ⟨rfl, hi, p⟩
  by_cases hlt : i < x.cps.size
  · refine .inr ⟨hlt, Pv (i + 1), fun σ' H' p' => ⟨x.cps.size - (i + 1), by omega, rfl, hlt, p'⟩, fun v H' y => ?_⟩
    obtain ⟨T, c, rfl, hT, rfl, hc⟩ := y
    exact hs i c σ H T hc p hT
  · have e : i = x.cps.size := by omega
    subst e
    exact .inl ⟨rfl, hd σ H p⟩

/-! ### xs.count(x), x in xs, sorted(xs), of data -/
def rCntD (K : PySem.W.Frag) : V → List V → Hp → VK → Prop := fun x xs H Q => ∃ (p : Addr) (y : V) (ds : List PyData) (d : PyData), x = .ref p ∧ xs = [y] ∧ Dp K H (.ref p) (.list ds) ∧ Dp K H y d ∧ PyData.plainAll ds = true ∧ d.plain = true ∧ min (PyData.depthAll ds) d.depth ≤ 190 ∧
  Q (.int ((ds.countP fun z => PyData.eqv z d : Nat) : Int)) H
theorem mt_countD {X : Cx} {k : Nat} (hr : Room k X.A) : MtR X "list.count" (rCntD X.K) := by
  intro pins s σ H x xs v us Q I rx rxs h
  obtain ⟨p, y, ds, d, rfl, rfl, hl, hy, pl, pd, hm, q⟩ := h
  cases rx
  obtain ⟨u, rfl, ru⟩ := rxs.one
  obtain ⟨as, r1⟩ := Dp.reads I _ _ _ hl (show RelV (.ref p) (.ref p) from rfl)
  obtain ⟨bs, r2⟩ := Dp.reads I d y u hy ru
  cases hl with
  | lst hs ha =>
    obtain ⟨its, rv, ⟨⟨cls, dd, data, sl⟩, n, ho, hc, hdn, hd⟩, hlen⟩ := I.list hs
    simp only at hc hd
    subst hc hd
    cases r1 with
    | list h1 h2 h3 h4 =>
      rw [ho] at h1
      cases h1
      cases h3
      have hu : X.A.units + 1 + min (PyData.depthAll ds) d.depth < cLine := by
        have := hr.un
        omega
      refine call_meets PySem.F.slot_list_count ⟨_, ho, rfl⟩ PySem.F.entry_list_count (PySem.F.args_list_count_2 _ _)
        (SeqAt.list_countAt p its.toArray n dd sl u (fun z => PyData.eqv (SeqAt.readOf s.heap z) d)) ⟨ho, SeqAt.items_plain h4 r2 pl pd hu, ?_⟩
      have ec : its.toArray.toList.countP (fun z => PyData.eqv (SeqAt.readOf s.heap z) d) = ds.countP fun z => PyData.eqv z d := by
        have e2 := SeqAt.readsAll_map_plain ds _ _ pl h4
        have e3 : ds.countP (fun z => PyData.eqv z d) = (its.toArray.toList.map (SeqAt.readOf s.heap)).countP fun z => PyData.eqv z d := by rw [e2]
        rw [e3, List.countP_map]
        rfl
      refine ⟨.int _, H, I.tok _, ⟨s.toks, ?_⟩, q⟩
      rw [ec]
def rInD' (K : PySem.W.Frag) : R2 := fun x y H Q => ∃ (ds : List PyData) (d : PyData), Dp K H y (.list ds) ∧ Dp K H x d ∧ PyData.plainAll ds = true ∧ d.plain = true ∧ min (PyData.depthAll ds) d.depth ≤ 190 ∧ Q (.bl (ds.any fun z => PyData.eqv z d)) H
theorem op_inL {X : Cx} {k : Nat} (hr : Room k X.A) : OpR X (compareOp .In) (rInD' X.K) := by
  intro pins s σ H x y v u Q I rx ry h
  obtain ⟨ds, d, hl, hy, pl, pd, hm, q⟩ := h
  obtain ⟨as, r1⟩ := Dp.reads I _ _ _ hl ry
  obtain ⟨bs, r2⟩ := Dp.reads I _ _ _ hy rx
  exact SeqAt.in_list_data r1 r2 pl pd (by have := hr.un; omega) ⟨.bl _, H, I, rfl, q⟩

/-- sorted(xs): alike data, each item with what it reads as -/
def rSortedD (K : PySem.W.Frag) : List V → Hp → VK → Prop := fun vs H Q => ∃ (a : Addr) (ps : List (V × PyData)), vs = [V.ref a] ∧ SqL K H a (ps.map (·.1)) ∧ (∀ p ∈ ps, Dp K H p.1 p.2 ∧ p.2.depth ≤ 190) ∧ PySem.W.AllAlike (ps.map (·.2)) ∧ PySem.W.Sortable (ps.map (·.2)) ∧
  ∀ p, H p = none → Q (.ref p) (upd H p (.lst ((ps.mergeSort (PySem.W.dataLe false (·.2))).map (·.1))))
theorem each_of {R : V → Value → Prop} : ∀ {ps : List (V × PyData)} {us : List Value}, Paired R (ps.map (·.1)) us → PySem.W.EachIs (fun (u : Value) (p : V × PyData) => R p.1 u ∧ p ∈ ps) us ps
  | [], [], _ => .nil
  | p :: ps, u :: us, h => by
    cases h with
    | cons a b => exact .cons ⟨a, List.mem_cons_self⟩ ((each_of b).mono fun _ _ z => ⟨z.1, List.mem_cons_of_mem _ z.2⟩)
theorem each_back : ∀ {ps : List (V × PyData)} {us : List Value}, PySem.W.EachIs (fun (u : Value) (p : V × PyData) => RelV p.1 u) us ps → Vals (ps.map (·.1)) us
  | [], [], _ => .nil
  | p :: ps, u :: us, h => by
    cases h with
    | cons a b => exact .cons a (each_back b)
theorem cr_sortedD {X : Cx} {k : Nat} (hr : Room k X.A) : CallR X (.builtin "sorted") (rSortedD X.K) := by
  intro pins s σ H vs us Q I r h
  obtain ⟨a, ps, rfl, hs, hd, hal, hk, q⟩ := h
  obtain ⟨its, rv, hl, hz⟩ := I.list hs
  rw [Vals.ref1 r]
  have e := each_of rv
  have er : PySem.W.EachIs (fun v b => ∃ as, Reads s.heap v b.2 as) its ps := e.mono fun u p ⟨h1, h2⟩ => Dp.reads I _ _ _ (hd p h2).1 h1
  have e' : PySem.W.EachIs (fun (u : Value) (p : V × PyData) => RelV p.1 u) its ps := e.mono fun u p z => z.1
  have hlen : ps.length ≤ sizeLine := by rw [List.length_map] at hz; exact hz
  refine PySem.W.sorted_data (enc := fun p : V × PyData => p.2) hl.isList e' er hal hk hlen (fun b hb => ?_) fun out ho eo => ?_
  · have := hr.un
    have := (hd b hb).2
    omega
  · obtain ⟨ep, he'⟩ := PyProof.Rows.sortedAll_at s.heap its out.toArray
    refine ⟨.ref _, upd H (s.heap.objs.size + 1) (.lst ((ps.mergeSort (PySem.W.dataLe false (·.2))).map (·.1))), I.laid (t' := s.toks) (fun _ _ => PyProof.Rows.sortedAll_old) (Nat.le_succ _) ⟨?_, out, ep, each_back eo, he'⟩, rfl, q _ (I.hok.fresh (Nat.le_succ _))⟩
    rw [List.length_map, List.length_mergeSort]
    exact hlen
/-! ### xs != [], xs == [] (the new list is not tracked) -/
def tNil' (f : Bool → Bool) (K : PySem.W.Frag) (te : TE) : TE := fun σ H Q => te σ H fun x H1 => ∃ a xs, x = .ref a ∧ SqL K H1 a xs ∧ Q (.bl (f xs.isEmpty)) H1
theorem rc_nil {s : Shared} {A : Around} {a b : Addr} {its : List Value} (h1 : s.heap.IsList a its.toArray) (h2 : s.heap.IsList b #[]) (hu : A.units < cLine) : SeqAt.RcAt A s (.ref a) (.ref b) its.isEmpty ∧ SeqAt.RcNeAt A s (.ref a) (.ref b) (!its.isEmpty) := by
  cases its with
  | nil =>
    refine ⟨?_, ?_⟩
    · have q := SeqAt.RcAt.lists (A := A) (s := s) (e := fun _ => true) h1 h2 rfl hu (fun j hj => absurd hj (Nat.not_lt_zero j))
      exact q
    · have q := SeqAt.RcNeAt.lists (A := A) (s := s) (e := fun _ => true) h1 h2 rfl hu (fun j hj => absurd hj (Nat.not_lt_zero j))
      exact q
  | cons x r =>
    have hz : ((x :: r).toArray.size != (#[] : Array Value).size) = true := by simp
    exact ⟨SeqAt.RcAt.lists_lengths h1 h2 hz hu, SeqAt.RcNeAt.lists_lengths h1 h2 hz hu⟩
theorem vals_emp {xs : List V} {us : List Value} (r : Vals xs us) : us.isEmpty = xs.isEmpty := by cases r <;> rfl
section
variable {X : Cx} {e : Expr} {te : TE} {pos p2 : Pos} {k : Nat}
theorem nil_run (f : Bool → Bool) {pins : List (Addr × Obj)} {s : Shared} {σ : St} {H : Hp} {Q : VK} (he : PE X e te) (hu : X.A.units < cLine) (I : Inv X pins σ H s) (h : tNil' f X.K te σ H Q) {op : CmpOp}
    (hop : ∀ (v u : Value) (s : Shared) (its : List Value) (a b : Addr), v = .ref a → u = .ref b → s.heap.IsList a its.toArray → s.heap.IsList b #[] → ∀ Q' E', Q' (.bool (f its.isEmpty)) s → wpAny (model X.prog X.w) X.A (compareOp op v u) Q' E' s) :
    wpAny (model X.prog X.w) X.A (eval e X.env) (fun v s₁ => wpAny (model X.prog X.w) X.A (eval (.List [] p2) X.env) (fun u s₂ => wpAny (model X.prog X.w) X.A (compareOp op v u) (EP X pins σ Q) X.xe s₂) X.xe s₁) X.xe s := by
  refine thn (he.run pins s σ H _ I h) fun v s1 ⟨x, H1, I1, r1, a, xs, ex, hx, q1⟩ => ?_
  subst ex
  obtain rfl : v = .ref a := r1
  refine wpAny_List_spliced (thn (pa_nil.run p2 pins s1 σ H1 (fun vs H2 => vs = [] ∧ H2 = H1) I1 ⟨rfl, rfl⟩) fun us s2 ⟨vs, H2, I2, r2, ev, eH⟩ => ?_)
  subst ev eH
  cases r2
  refine ⟨Nat.zero_le _, ?_⟩
  have I3 : Inv X pins σ H2 { s2 with heap := s2.heap.push { cls := .type "list", data := .seq #[] } } := I2.kept (t' := s2.toks) fun b u z => Heap.get?_push_of_some _ z
  obtain ⟨its, r, ht, hz⟩ := I3.list hx
  refine hop _ _ _ its a s2.heap.objs.size rfl rfl ht.isList ⟨_, Heap.get?_push_size _ rfl, rfl, _, rfl⟩ _ _ ⟨.bl _, H2, I3, rfl, ?_⟩
  rw [vals_emp r]
  exact q1
theorem pc_neNil (hr : Room k X.A) (he : PE X e te) : PC X .NotEq e (.List [] p2) (tNil' (fun b => !b) X.K te) :=
  ⟨fun pins s σ H Q I h => nil_run _ he hr.units0 I h fun v u s its a b e1 e2 h1 h2 Q' E' q => by subst e1 e2; exact (rc_nil h1 h2 hr.units0).2 _ _ _ _ q⟩
theorem pc_eqNil (hr : Room k X.A) (he : PE X e te) : PC X .Eq e (.List [] p2) (tNil' (fun b => b) X.K te) :=
  ⟨fun pins s σ H Q I h => nil_run _ he hr.units0 I h fun v u s its a b e1 e2 h1 h2 Q' E' q => by subst e1 e2; exact (rc_nil h1 h2 hr.units0).1 _ _ _ _ q⟩
end
end Hy
set_option Elab.async false
set_option linter.all false
set_option maxRecDepth 100000
set_option maxHeartbeats 4000000
namespace Hy
/-! trees, their writings, their told forms; reading back (plain Lean) -/
inductive Tr where
  | node (c : Nat) (ts : List Tr)
def Tr.c : Tr → Nat | .node c _ => c
def Tr.ts : Tr → List Tr | .node _ ts => ts
theorem Tr.eta (t : Tr) : t = .node t.c t.ts := by cases t; rfl
mutual
def Tr.size : Tr → Nat
  | .node _ ts => 1 + Tr.sizes ts
def Tr.sizes : List Tr → Nat
  | [] => 0
  | t :: ts => t.size + Tr.sizes ts
end
mutual
def Tr.dep : Tr → Nat
  | .node _ ts => 1 + Tr.deps ts
def Tr.deps : List Tr → Nat
  | [] => 0
  | t :: ts => max t.dep (Tr.deps ts)
end
/-- small letters, by their codes -/
def isL (c : Nat) : Bool := decide (97 ≤ c) && decide (c ≤ 122)
mutual
def Tr.ok : Tr → Bool
  | .node c ts => isL c && Tr.oks ts
def Tr.oks : List Tr → Bool
  | [] => true
  | t :: ts => t.ok && Tr.oks ts
end
mutual
def Tr.W : Tr → List Nat
  | .node c ts => if ts.isEmpty then [c] else c :: 40 :: (Tr.Ws ts ++ [41])
def Tr.Ws : List Tr → List Nat
  | [] => []
  | t :: ts => t.W ++ Tr.Ws ts
end
mutual
/-- all parts, each behind its children -/
def Tr.parts : Tr → List Tr
  | .node c ts => Tr.partss ts ++ [.node c ts]
def Tr.partss : List Tr → List Tr
  | [] => []
  | t :: ts => t.parts ++ Tr.partss ts
end
theorem Tr.size_pos (t : Tr) : 1 ≤ t.size := by cases t; simp only [Tr.size]; omega
theorem Tr.sizes_append : ∀ (a b : List Tr), Tr.sizes (a ++ b) = Tr.sizes a + Tr.sizes b
  | [], b => by simp [Tr.sizes]
  | t :: a, b => by simp only [List.cons_append, Tr.sizes, Tr.sizes_append a b]; omega
theorem Tr.partss_append : ∀ (a b : List Tr), Tr.partss (a ++ b) = Tr.partss a ++ Tr.partss b
  | [], b => by simp [Tr.partss]
  | t :: a, b => by simp only [List.cons_append, Tr.partss, Tr.partss_append a b, List.append_assoc]
theorem Tr.Ws_append : ∀ (a b : List Tr), Tr.Ws (a ++ b) = Tr.Ws a ++ Tr.Ws b
  | [], b => by simp [Tr.Ws]
  | t :: a, b => by simp only [List.cons_append, Tr.Ws, Tr.Ws_append a b, List.append_assoc]
theorem Tr.oks_append : ∀ (a b : List Tr), Tr.oks (a ++ b) = (Tr.oks a && Tr.oks b)
  | [], b => by simp [Tr.oks]
  | t :: a, b => by simp only [List.cons_append, Tr.oks, Tr.oks_append a b, Bool.and_assoc]
theorem Tr.sizes_perm {a b : List Tr} (h : a.Perm b) : Tr.sizes a = Tr.sizes b := by
  induction h with
  | nil => rfl
  | cons x _ ih => simp only [Tr.sizes, ih]
  | swap x y l => simp only [Tr.sizes]; omega
  | trans _ _ h1 h2 => exact h1.trans h2
theorem Tr.deps_perm {a b : List Tr} (h : a.Perm b) : Tr.deps a = Tr.deps b := by
  induction h with
  | nil => rfl
  | cons x _ ih => simp only [Tr.deps, ih]
  | swap x y l => simp only [Tr.deps]; omega
  | trans _ _ h1 h2 => exact h1.trans h2
theorem Tr.oks_iff : ∀ {a : List Tr}, Tr.oks a = true ↔ ∀ t ∈ a, t.ok = true
  | [] => by simp [Tr.oks]
  | t :: a => by simp only [Tr.oks, Bool.and_eq_true, List.mem_cons, forall_eq_or_imp, Tr.oks_iff (a := a)]
theorem Tr.sizes_mem : ∀ {a : List Tr} {t : Tr}, t ∈ a → t.size ≤ Tr.sizes a
  | x :: a, t, h => by
    rcases List.mem_cons.mp h with rfl | h
    · simp only [Tr.sizes]; omega
    · have := Tr.sizes_mem h
      simp only [Tr.sizes]; omega
theorem Tr.deps_mem : ∀ {a : List Tr} {t : Tr}, t ∈ a → t.dep ≤ Tr.deps a
  | x :: a, t, h => by
    rcases List.mem_cons.mp h with rfl | h
    · simp only [Tr.deps]; omega
    · have := Tr.deps_mem h
      simp only [Tr.deps]; omega
theorem Tr.deps_le : ∀ {a : List Tr} {n : Nat}, (∀ t ∈ a, t.dep ≤ n) → Tr.deps a ≤ n
  | [], n, _ => Nat.zero_le _
  | x :: a, n, h => by
    have h1 := h x List.mem_cons_self
    have h2 := Tr.deps_le fun t ht => h t (List.mem_cons_of_mem _ ht)
    simp only [Tr.deps]; omega
theorem Tr.sizes_len : ∀ (a : List Tr), a.length ≤ Tr.sizes a
  | [] => Nat.zero_le _
  | t :: a => by
    have := Tr.sizes_len a
    have := t.size_pos
    simp only [Tr.sizes, List.length_cons]; omega
mutual
theorem Tr.parts_len : ∀ t : Tr, t.parts.length = t.size
  | .node c ts => by simp only [Tr.parts, Tr.size, List.length_append, List.length_singleton, Tr.partss_len ts]; omega
theorem Tr.partss_len : ∀ ts : List Tr, (Tr.partss ts).length = Tr.sizes ts
  | [] => rfl
  | t :: ts => by simp only [Tr.partss, Tr.sizes, List.length_append, Tr.parts_len t, Tr.partss_len ts]
end
mutual
theorem Tr.parts_prop (P : Tr → Prop) (hP : ∀ c ts, P (.node c ts) → ∀ t ∈ ts, P t) : ∀ t : Tr, P t → ∀ q ∈ t.parts, P q
  | .node c ts, h, q, hq => by
    simp only [Tr.parts, List.mem_append, List.mem_singleton] at hq
    rcases hq with hq | rfl
    · exact Tr.partss_prop P hP ts (hP c ts h) q hq
    · exact h
theorem Tr.partss_prop (P : Tr → Prop) (hP : ∀ c ts, P (.node c ts) → ∀ t ∈ ts, P t) : ∀ ts : List Tr, (∀ t ∈ ts, P t) → ∀ q ∈ Tr.partss ts, P q
  | [], _, q, hq => by simp [Tr.partss] at hq
  | t :: ts, h, q, hq => by
    simp only [Tr.partss, List.mem_append] at hq
    rcases hq with hq | hq
    · exact Tr.parts_prop P hP t (h t List.mem_cons_self) q hq
    · exact Tr.partss_prop P hP ts (fun u hu => h u (List.mem_cons_of_mem _ hu)) q hq
end
mutual
theorem Tr.W_len : ∀ t : Tr, t.W.length ≤ 3 * t.size
  | .node c ts => by
    unfold Tr.W Tr.size
    have := Tr.Ws_len ts
    split
    · simp only [List.length_singleton]; omega
    · simp only [List.length_cons, List.length_append, List.length_nil]; omega
theorem Tr.Ws_len : ∀ ts : List Tr, (Tr.Ws ts).length ≤ 3 * Tr.sizes ts
  | [] => Nat.zero_le _
  | t :: ts => by
    have := Tr.W_len t
    have := Tr.Ws_len ts
    simp only [Tr.Ws, Tr.sizes, List.length_append]; omega
end
theorem Tr.W_leaf (c : Nat) : (Tr.node c []).W = [c] := by simp [Tr.W]
theorem Tr.W_node (c : Nat) {ts : List Tr} (h : ts ≠ []) : (Tr.node c ts).W = c :: 40 :: (Tr.Ws ts ++ [41]) := by
  unfold Tr.W
  rw [if_neg (by simpa using h)]
theorem Tr.Ws_flat : ∀ ts : List Tr, Tr.Ws ts = (ts.map Tr.W).flatten
  | [] => rfl
  | t :: ts => by simp only [Tr.Ws, List.map_cons, List.flatten_cons, Tr.Ws_flat ts]

/-! ### the order of writings -/
def leW (a b : Tr) : Bool := decide (a.W ≤ b.W)
theorem leW_total (a b : Tr) : (leW a b || leW b a) = true := by
  unfold leW
  rcases List.le_total (a.W) (b.W) with h | h <;> simp [h]
theorem leW_trans (a b c : Tr) (h1 : leW a b = true) (h2 : leW b c = true) : leW a c = true := by
  unfold leW at *
  exact decide_eq_true (List.le_trans (of_decide_eq_true h1) (of_decide_eq_true h2))
theorem leW_anti {a b : Tr} (h1 : leW a b = true) (h2 : leW b a = true) : a.W = b.W := List.le_antisymm (of_decide_eq_true h1) (of_decide_eq_true h2)
abbrev SrtW (ts : List Tr) : Prop := ts.Pairwise fun a b => leW a b = true
def sortT (ts : List Tr) : List Tr := ts.mergeSort leW
theorem sortT_srt (ts : List Tr) : SrtW (sortT ts) := List.pairwise_mergeSort leW_trans leW_total ts
theorem sortT_perm (ts : List Tr) : (sortT ts).Perm ts := List.mergeSort_perm ts leW

/-! ### reading -/
/-- the sign ahead, the open ones, those here -/
structure RS where
  prev : Nat
  ab : List (Nat × List Tr)
  here : List Tr
def RS.step (s : RS) (x : Nat) : Option RS :=
  if isL x = true then some ⟨x, s.ab, s.here ++ [.node x []]⟩
  else if x = 40 ∧ isL s.prev = true then some ⟨x, s.ab ++ [(s.prev, s.here.dropLast)], []⟩
  else if x = 41 then
    match s.ab.getLast? with
    | none => none
    | some (l, more) => if s.here ≠ [] ∧ SrtW s.here then some ⟨x, s.ab.dropLast, more ++ [.node l s.here]⟩ else none
  else none
def RS.run (s : RS) : List Nat → Option RS
  | [] => some s
  | x :: xs => (s.step x).bind fun s' => s'.run xs
theorem RS.run_append : ∀ (a b : List Nat) (s : RS), s.run (a ++ b) = (s.run a).bind fun s' => s'.run b
  | [], b, s => rfl
  | x :: a, b, s => by
    simp only [List.cons_append, RS.run]
    cases s.step x with
    | none => rfl
    | some s' => exact RS.run_append a b s'
mutual
/-- in told form, of small letters -/
def Tr.told : Tr → Prop
  | .node c ts => isL c = true ∧ SrtW ts ∧ Tr.tolds ts
def Tr.tolds : List Tr → Prop
  | [] => True
  | t :: ts => t.told ∧ Tr.tolds ts
end
theorem Tr.tolds_iff : ∀ {ts : List Tr}, Tr.tolds ts ↔ ∀ t ∈ ts, t.told
  | [] => by simp [Tr.tolds]
  | t :: ts => by simp only [Tr.tolds, List.mem_cons, forall_eq_or_imp, Tr.tolds_iff (ts := ts)]
theorem isL_40 : isL 40 = false := rfl
theorem isL_41 : isL 41 = false := rfl
mutual
theorem RS.run_W : ∀ (t : Tr) (s : RS), t.told → ∃ p, s.run t.W = some ⟨p, s.ab, s.here ++ [t]⟩
  | .node c ts, s, h => by
    obtain ⟨hc, hs, ht⟩ := h
    cases ts with
    | nil =>
      rw [Tr.W_leaf]
      simp only [RS.run, RS.step, if_pos hc, Option.bind_some]
      exact ⟨_, rfl⟩
    | cons t ts =>
      rw [Tr.W_node c (by simp)]
      obtain ⟨p, hp⟩ := RS.run_Ws (t :: ts) ⟨40, s.ab ++ [(c, s.here)], []⟩ ht
      simp only [RS.run, RS.step, if_pos hc, Option.bind_some]
      rw [if_neg (by rw [isL_40]; decide), if_pos (by simp [hc])]
      simp only [Option.bind_some, List.dropLast_concat]
      rw [RS.run_append, hp]
      simp only [Option.bind_some, List.nil_append, RS.run, RS.step, List.getLast?_concat, List.dropLast_concat]
      rw [if_neg (by rw [isL_41]; decide), if_neg (by rintro ⟨h, _⟩; exact absurd h (by decide)), if_pos trivial, if_pos ⟨by simp, hs⟩]
      exact ⟨_, rfl⟩
theorem RS.run_Ws : ∀ (ts : List Tr) (s : RS), Tr.tolds ts → ∃ p, s.run (Tr.Ws ts) = some ⟨p, s.ab, s.here ++ ts⟩
  | [], s, _ => ⟨s.prev, by simp [Tr.Ws, RS.run]⟩
  | t :: ts, s, h => by
    obtain ⟨p, hp⟩ := RS.run_W t s h.1
    obtain ⟨q, hq⟩ := RS.run_Ws ts ⟨p, s.ab, s.here ++ [t]⟩ h.2
    refine ⟨q, ?_⟩
    rw [Tr.Ws, RS.run_append, hp]
    simp only [Option.bind_some]
    rw [hq]
    simp
end
/-- trees in told form have unlike writings -/
theorem told_inj {t u : Tr} (ht : t.told) (hu : u.told) (h : t.W = u.W) : t = u := by
  obtain ⟨p, hp⟩ := RS.run_W t ⟨0, [], []⟩ ht
  obtain ⟨q, hq⟩ := RS.run_W u ⟨0, [], []⟩ hu
  rw [h, hq] at hp
  have e := congrArg RS.here (Option.some.inj hp)
  simpa using e.symm
mutual
def Tr.form : Tr → Tr
  | .node c ts => .node c (sortT (Tr.forms ts))
def Tr.forms : List Tr → List Tr
  | [] => []
  | t :: ts => t.form :: Tr.forms ts
end
theorem Tr.forms_map : ∀ ts : List Tr, Tr.forms ts = ts.map Tr.form
  | [] => rfl
  | t :: ts => by simp only [Tr.forms, List.map_cons, Tr.forms_map ts]
mutual
theorem Tr.form_told : ∀ t : Tr, t.ok = true → t.form.told
  | .node c ts, h => by
    simp only [Tr.ok, Bool.and_eq_true] at h
    refine ⟨h.1, sortT_srt _, Tr.tolds_iff.mpr fun t ht => ?_⟩
    exact Tr.tolds_iff.mp (Tr.forms_told ts h.2) t ((sortT_perm _).mem_iff.mp ht)
theorem Tr.forms_told : ∀ ts : List Tr, Tr.oks ts = true → Tr.tolds (Tr.forms ts)
  | [], _ => trivial
  | t :: ts, h => by
    simp only [Tr.oks, Bool.and_eq_true] at h
    exact ⟨Tr.form_told t h.1, Tr.forms_told ts h.2⟩
end
mutual
theorem Tr.form_size : ∀ t : Tr, t.form.size = t.size
  | .node c ts => by simp only [Tr.form, Tr.size, Tr.sizes_perm (sortT_perm _), Tr.forms_sizes ts]
theorem Tr.forms_sizes : ∀ ts : List Tr, Tr.sizes (Tr.forms ts) = Tr.sizes ts
  | [] => rfl
  | t :: ts => by simp only [Tr.forms, Tr.sizes, Tr.form_size t, Tr.forms_sizes ts]
end
mutual
theorem Tr.form_dep : ∀ t : Tr, t.form.dep = t.dep
  | .node c ts => by simp only [Tr.form, Tr.dep, Tr.deps_perm (sortT_perm _), Tr.forms_deps ts]
theorem Tr.forms_deps : ∀ ts : List Tr, Tr.deps (Tr.forms ts) = Tr.deps ts
  | [] => rfl
  | t :: ts => by simp only [Tr.forms, Tr.deps, Tr.form_dep t, Tr.forms_deps ts]
end
mutual
theorem Tr.form_ok : ∀ t : Tr, t.form.ok = t.ok
  | .node c ts => by
    have h : Tr.oks (sortT (Tr.forms ts)) = Tr.oks (Tr.forms ts) := by
      rw [Bool.eq_iff_iff, Tr.oks_iff, Tr.oks_iff]
      exact ⟨fun a t ht => a t ((sortT_perm _).mem_iff.mpr ht), fun a t ht => a t ((sortT_perm _).mem_iff.mp ht)⟩
    simp only [Tr.form, Tr.ok, h, Tr.forms_ok ts]
theorem Tr.forms_ok : ∀ ts : List Tr, Tr.oks (Tr.forms ts) = Tr.oks ts
  | [] => rfl
  | t :: ts => by simp only [Tr.forms, Tr.oks, Tr.form_ok t, Tr.forms_ok ts]
end
/-- the one sorted list of trees in told form -/
theorem srt_uniq {as bs : List Tr} (ha : SrtW as) (hb : SrtW bs) (h : as.Perm bs) (ht : Tr.tolds as) : as = bs := by
  refine h.eq_of_pairwise (le := fun a b => leW a b = true) (fun a b h1 h2 h3 h4 => ?_) ha hb
  have t1 := Tr.tolds_iff.mp ht a h1
  have t2 := Tr.tolds_iff.mp ht b (h.mem_iff.mpr h2)
  exact told_inj t1 t2 (leW_anti h3 h4)
/-! ### parts worked off by a stack -/
inductive Post : List Tr → List Tr → List Tr → Prop
  | nil (ss : List Tr) : Post ss [] ss
  | cons (ss ts : List Tr) (c : Nat) {l r : List Tr} : Post (ss ++ [.node c ts]) l r → Post (ss ++ ts) (.node c ts :: l) r
mutual
theorem Post.tree : ∀ (t : Tr) (ss l r : List Tr), Post (ss ++ [t]) l r → Post ss (t.parts ++ l) r
  | .node c ts, ss, l, r, h => by
    rw [Tr.parts, List.append_assoc]
    exact Post.trees ts ss _ r (.cons ss ts c h)
theorem Post.trees : ∀ (ts : List Tr) (ss l r : List Tr), Post (ss ++ ts) l r → Post ss (Tr.partss ts ++ l) r
  | [], ss, l, r, h => by simpa [Tr.partss] using h
  | t :: ts, ss, l, r, h => by
    rw [Tr.partss, List.append_assoc]
    refine Post.tree t ss _ r (Post.trees ts (ss ++ [t]) l r ?_)
    simpa using h
end
theorem Post.all (t : Tr) : Post [] t.parts [t] := by
  have h := Post.tree t [] [] [t] (.nil _)
  simpa using h
theorem Post.out {os : List Tr} {q : Tr} {l r : List Tr} (h : Post os (q :: l) r) : ∃ ss, os = ss ++ q.ts ∧ Post (ss ++ [q]) l r := by
  cases h with
  | cons ss ts c h => exact ⟨ss, rfl, h⟩
theorem Post.end_ {os r : List Tr} (h : Post os [] r) : os = r := by
  cases h with
  | nil => rfl
theorem Tr.W_len1 (t : Tr) : 1 ≤ t.W.length := by
  cases t with
  | node c ts =>
    unfold Tr.W
    split <;> simp
/-! ### what reading keeps -/
def RS.tot (s : RS) : Nat := (s.ab.map fun p => 1 + Tr.sizes p.2).sum + Tr.sizes s.here
def RS.Inv (s : RS) : Prop := isL s.prev = true → ∃ hs, s.here = hs ++ [.node s.prev []]
theorem RS.inv0 : RS.Inv ⟨0, [], []⟩ := fun h => absurd h (by decide)
theorem RS.step_inv {s s' : RS} {x : Nat} (h : s.step x = some s') : s'.Inv := by
  unfold RS.step at h
  split at h
  · cases h
    exact fun _ => ⟨s.here, rfl⟩
  · split at h
    · rename_i h1 h2
      cases h
      intro hx
      rw [h2.1] at hx
      exact absurd (show isL 40 = true from hx) (by decide)
    · split at h
      · rename_i h1 h2 h3
        split at h
        · cases h
        · split at h
          · cases h
            intro hx
            rw [show x = 41 from h3] at hx
            exact absurd (show isL 41 = true from hx) (by decide)
          · cases h
      · cases h
theorem RS.step_tot {s s' : RS} {x : Nat} (I : s.Inv) (h : s.step x = some s') : s'.tot ≤ s.tot + 1 := by
  unfold RS.step at h
  split at h
  · cases h
    simp only [RS.tot, Tr.sizes_append, Tr.sizes, Tr.size]
    omega
  · split at h
    · rename_i h1 h2
      cases h
      obtain ⟨hs, e⟩ := I h2.2
      simp only [RS.tot, e, List.dropLast_concat, List.map_append, List.map_cons, List.map_nil, List.sum_append, List.sum_cons, List.sum_nil, Tr.sizes_append, Tr.sizes, Tr.size]
      omega
    · split at h
      · split at h
        · cases h
        · rename_i l more hl
          split at h
          · cases h
            have e : s.ab = s.ab.dropLast ++ [(l, more)] := by
              have hne : s.ab ≠ [] := fun z => by rw [z] at hl; cases hl
              rw [List.getLast?_eq_some_getLast hne] at hl
              have q := List.dropLast_concat_getLast hne
              rw [Option.some.inj hl] at q
              exact q.symm
            have e2 : (s.ab.map fun p => 1 + Tr.sizes p.2).sum = (s.ab.dropLast.map fun p => 1 + Tr.sizes p.2).sum + (1 + Tr.sizes more) := by
              conv => lhs; rw [e]
              simp only [List.map_append, List.map_cons, List.map_nil, List.sum_append, List.sum_cons, List.sum_nil]
              omega
            simp only [RS.tot, Tr.sizes_append, Tr.sizes, Tr.size, e2]
            omega
          · cases h
      · cases h
def parse (l : List Nat) : Option Tr := match RS.run ⟨0, [], []⟩ l with
  | some ⟨_, [], [t]⟩ => some t
  | _ => none
theorem parse_W {t : Tr} (h : t.told) : parse t.W = some t := by
  obtain ⟨p, hp⟩ := RS.run_W t ⟨0, [], []⟩ h
  unfold parse
  rw [hp]
  rfl
theorem take_snoc {α : Type} {l : List α} {i : Nat} {x : α} (h : l[i]? = some x) : l.take (i + 1) = l.take i ++ [x] := by
  rw [List.take_succ, h]
  rfl
theorem RS.run_next {s0 s : RS} {l : List Nat} {i x : Nat} (h : s0.run (l.take i) = some s) (hx : l[i]? = some x) : s0.run (l.take (i + 1)) = s.step x := by
  rw [take_snoc hx, RS.run_append, h]
  simp only [Option.bind_some, RS.run]
  cases s.step x <;> rfl
theorem RS.run_stop {s0 s : RS} {l : List Nat} {i x : Nat} (h : s0.run (l.take i) = some s) (hx : l[i]? = some x) (hn : s.step x = none) : s0.run l = none := by
  have e : l = l.take (i + 1) ++ l.drop (i + 1) := (List.take_append_drop _ _).symm
  rw [e, RS.run_append, RS.run_next h hx, hn]
  rfl
end Hy
set_option Elab.async false
set_option linter.all false
set_option maxRecDepth 100000
set_option maxHeartbeats 4000000
namespace Hy
open PySem L2

/-! ### names of the module -/
/-- the module's name x holds v -/
def GV (mg : Str → Option Value) (x : Str) (v : V) : Prop := ∃ u, mg x = some u ∧ RelV v u
theorem pe_gv {X : Cx} {x : Str} {v : V} {pos : Pos} (h : GV X.mg x v) (hg : Gl X x := by rfl) (hd : (x == ("__debug__" : Str)) = false := by decide) : PE X (.Name x pos) (tC v) := by
  obtain ⟨u, m, r⟩ := h
  exact pe_glob hg m r hd
theorem pe_ty {X : Cx} {x : Str} {n : String} {pos : Pos} (hm : X.mg x = none) (hv : bootBuiltins x = some (.type n)) (hg : Gl X x := by rfl) (hn : x ≠ "__name__" := by decide) (hd : (x == ("__debug__" : Str)) = false := by decide) : PE X (.Name x pos) (tC (.ty n)) :=
  pe_bltn hg hm hv rfl hn hd
/-- an own error class -/
structure ExcF (K : PySem.W.Frag) (mg : Str → Option Value) (x : Str) : Prop where
  ex : ∃ C : Addr, mg x = some (.ref C) ∧ PySem.W.excIn K C [.type "ValueError", .type "Exception", .type "BaseException", .type "object"] "ValueError.__new__" = true ∧ PySem.W.keepIn K (.ref C) = true ∧
    PySem.W.subIn K (.ref C) (.type "BaseException") = some true ∧ PySem.W.typeIn K (.ref C) = some (.type "type")
theorem ps_rs {X : Cx} {W : WX} {x m : Str} {j : Nat} {p p2 pos pos' : Pos} (F : ExcF X.K X.mg x) (hc : X.calm = true) (tk : Takes X W) (hg : Gl X x := by rfl) (hdb : (x == ("__debug__" : Str)) = false := by decide) :
    PS X (.Raise (some (.Call (.Name x p) [.Constant (.str m) j p2] [] pos')) none pos) (fun _ σ H => ∀ c, X.mg x = some c → W c none σ H) := by
  obtain ⟨C, g, e, k, s1, t1⟩ := F.ex
  have h := ps_raise (pos := pos) hc tk (pmk_own (j := j) (p := p) (p2 := p2) (pos := pos') (m := m) PySem.F.excBase_ValueError e g k (raises_own s1 t1) hg hdb)
  exact ⟨fun pins s σ H D I q => h.run pins s σ H D I (q _ g)⟩

/-! ### xs[i] += e -/
def gtL (K : PySem.W.Frag) : V → V → Hp → VK → Prop := fun o i H Q => ∃ p xs j v, o = .ref p ∧ i = .int j ∧ SqL K H p xs ∧ atI xs j = some v ∧ Q v H
theorem pget_list {X : Cx} : PGet X (gtL X.K) := by
  intro pins s σ H o i ov iv Q I ro ri h
  obtain ⟨p, xs, j, v, rfl, rfl, hx, ha, q⟩ := h
  cases ro
  obtain ⟨t, rfl⟩ := ri
  obtain ⟨its, r, pl, hz⟩ := I.list hx
  obtain ⟨k, h1, h2, h3, h4, h5⟩ := atI_get ha
  obtain ⟨w, ew, rw'⟩ := r.get h2
  have hl := r.length
  have hn := line63
  have fin : EP X pins σ Q w s := ⟨v, H, I, rw', q⟩
  by_cases h0 : 0 ≤ j
  · have hj : j.toNat = k := by
      rw [seqIndex_of h0 h5] at h1
      exact Option.some.inj h1
    exact wpAny_getItem_list pl.isList h0 (by omega) (by rw [hj]; simpa using ew) fin
  · have hj : (j + (its.toArray.size : Int)).toNat = k := by
      rw [seqIndex_neg (by omega) h4] at h1
      rw [List.size_toArray, ← hl]
      exact Option.some.inj h1
    exact wpAny_getItem_list_neg pl.isList (by omega) (by rw [List.size_toArray] <;> omega) (by omega) (by rw [hj]; simpa using ew) fin
theorem ps_augI {X : Cx} {o i e : Expr} {to ti te : TE} {pos tpos : Pos} (ho : PE X o to) (hi : PE X i ti) (he : PE X e te)
    (ha : ∀ ov iv new, augStore i ov iv new = (do holding [new, ov, iv] (setItem ov iv new); release [new, ov, iv] []; pure .next) := by intros; rfl) :
    PS X (.AugAssign (.Subscript o i tpos) .Add e pos) (tAugS to ti te (gtL X.K) (ipI fun i j => i + j) rSetL) :=
  ps_augS ho hi pget_list he ip_add set_list ha

/-! ### trees on the heap: v reads as t, its lists (one a part) at as -/
abbrev Fp := V × Tr × List Addr
inductive TF (H : Hp) : Tr → V → List Addr → Prop
  | mk {t : Tr} {v : V} {as : List Addr} (a l : Addr) (ps : List Fp) (ha : H a = some (.tup [.str ⟨#[t.c]⟩, .ref l])) (hl : H l = some (.lst (ps.map (·.1)))) (hp : ∀ p ∈ ps, TF H p.2.1 p.1 p.2.2)
      (ht : t.ts = ps.map (·.2.1)) (hv : v = .ref a) (has : as = l :: ps.flatMap (·.2.2)) : TF H t v as
theorem TF.out {H : Hp} {t : Tr} {v : V} {as : List Addr} (h : TF H t v as) : ∃ (a l : Addr) (ps : List Fp), H a = some (.tup [.str ⟨#[t.c]⟩, .ref l]) ∧ H l = some (.lst (ps.map (·.1))) ∧ (∀ p ∈ ps, TF H p.2.1 p.1 p.2.2) ∧
    t.ts = ps.map (·.2.1) ∧ v = .ref a ∧ as = l :: ps.flatMap (·.2.2) := by
  cases h with
  | mk a l ps ha hl hp ht hv has => exact ⟨a, l, ps, ha, hl, hp, ht, hv, has⟩
theorem TF.stay {H H' : Hp} {t : Tr} {v : V} {as : List Addr} (h : TF H t v as) (ht : ∀ b xs, H b = some (.tup xs) → H' b = some (.tup xs)) (hl : ∀ b ∈ as, ∀ xs, H b = some (.lst xs) → H' b = some (.lst xs)) : TF H' t v as := by
  induction h with
  | mk a l ps ha hl' hp ht' hv has ih =>
    refine .mk a l ps (ht _ _ ha) (hl l (by rw [has]; simp) _ hl') (fun p hm => ih p hm fun b hb xs e => hl b ?_ xs e) ht' hv has
    rw [has]
    exact List.mem_cons_of_mem _ (List.mem_flatMap.mpr ⟨p, hm, hb⟩)
theorem TF.same {H H' : Hp} {t : Tr} {v : V} {as : List Addr} (h : TF H t v as) (s : Same H H') : TF H' t v as := h.stay (fun _ _ e => s _ _ e) fun _ _ _ e => s _ _ e
theorem TF.keep {A : List Addr} {H H' : Hp} {t : Tr} {v : V} {as : List Addr} (h : TF H t v as) (k : Keep A H H') (d : ∀ b ∈ as, b ∉ A) : TF H' t v as := h.stay k.tup fun b hb _ e => k.but b _ (d b hb) e
theorem TF.live {H : Hp} {t : Tr} {v : V} {as : List Addr} (h : TF H t v as) : ∀ b ∈ as, ∃ xs, H b = some (.lst xs) := by
  induction h with
  | mk a l ps ha hl hp ht hv has ih =>
    intro b hb
    rw [has] at hb
    rcases List.mem_cons.mp hb with rfl | hb
    · exact ⟨_, hl⟩
    · obtain ⟨p, hm, hb⟩ := List.mem_flatMap.mp hb
      exact ih p hm b hb
/-- what stands is no new place -/
theorem TF.ne {H : Hp} {t : Tr} {v : V} {as : List Addr} (h : TF H t v as) {p : Addr} (n : H p = none) : p ∉ as := fun hb => by
  obtain ⟨xs, e⟩ := h.live p hb
  rw [n] at e
  cases e
mutual
def Tr.toD : Tr → PyData
  | .node c ts => .tuple [.str ⟨#[c]⟩, .list (Tr.toDs ts)]
def Tr.toDs : List Tr → List PyData
  | [] => []
  | t :: ts => t.toD :: Tr.toDs ts
end
theorem Tr.toDs_map : ∀ ts : List Tr, Tr.toDs ts = ts.map Tr.toD
  | [] => rfl
  | t :: ts => by simp only [Tr.toDs, List.map_cons, Tr.toDs_map ts]
mutual
theorem Tr.toD_plain : ∀ t : Tr, t.toD.plain = true
  | .node c ts => by simp [Tr.toD, PyData.plain, PyData.plainAll, Tr.toDs_plain ts]
theorem Tr.toDs_plain : ∀ ts : List Tr, PyData.plainAll (Tr.toDs ts) = true
  | [] => rfl
  | t :: ts => by simp [Tr.toDs, PyData.plainAll, Tr.toD_plain t, Tr.toDs_plain ts]
end
mutual
theorem Tr.toD_depth : ∀ t : Tr, t.toD.depth = 2 * t.dep
  | .node c ts => by
    simp only [Tr.toD, PyData.depth, PyData.depthAll, Tr.dep, Tr.toDs_depth ts]
    omega
theorem Tr.toDs_depth : ∀ ts : List Tr, PyData.depthAll (Tr.toDs ts) = 2 * Tr.deps ts
  | [] => rfl
  | t :: ts => by
    simp only [Tr.toDs, PyData.depthAll, Tr.deps, Tr.toD_depth t, Tr.toDs_depth ts]
    omega
end
theorem dpAll_of {K : PySem.W.Frag} {H : Hp} {α : Type} (f : α → V) (g : α → PyData) : ∀ {ps : List α}, (∀ p ∈ ps, Dp K H (f p) (g p)) → DpAll K H (ps.map f) (ps.map g)
  | [], _ => .nil
  | p :: ps, h => .cons (h p List.mem_cons_self) (dpAll_of f g fun q hq => h q (List.mem_cons_of_mem _ hq))
theorem TF.dp {K : PySem.W.Frag} {H : Hp} {t : Tr} {v : V} {as : List Addr} (h : TF H t v as) : Dp K H v t.toD := by
  induction h with
  | @mk t v as a l ps ha hl hp ht hv has ih =>
    subst hv
    cases t with
    | node c ts =>
      have e : ts = ps.map (·.2.1) := ht
      rw [Tr.toD, Tr.toDs_map, e, List.map_map]
      exact .tup (SqT.of ha) (.cons (.str _) (.cons (.lst (SqL.of hl) (dpAll_of _ _ ih)) .nil))
/-- the text of some codes -/
abbrev txS (l : List Nat) : Str := ⟨l.toArray⟩
abbrev tx (l : List Nat) : V := .str ⟨l.toArray⟩
theorem tx_inj {a b : List Nat} (h : tx a = tx b) : a = b := by
  have e := V.str.inj h
  simpa using congrArg (fun s : Str => s.cps.toList) e
/-- a tree with its writing, in a pair -/
def FF (H : Hp) (t : Tr) (v : V) (as : List Addr) : Prop := ∃ a u, v = .ref a ∧ H a = some (.tup [tx t.W, u]) ∧ TF H t u as
theorem FF.stay {H H' : Hp} {t : Tr} {v : V} {as : List Addr} (h : FF H t v as) (ht : ∀ b xs, H b = some (.tup xs) → H' b = some (.tup xs)) (hl : ∀ b ∈ as, ∀ xs, H b = some (.lst xs) → H' b = some (.lst xs)) : FF H' t v as :=
  let ⟨a, u, e, ha, hu⟩ := h
  ⟨a, u, e, ht _ _ ha, hu.stay ht hl⟩
theorem FF.same {H H' : Hp} {t : Tr} {v : V} {as : List Addr} (h : FF H t v as) (s : Same H H') : FF H' t v as := h.stay (fun _ _ e => s _ _ e) fun _ _ _ e => s _ _ e
theorem FF.keep {A : List Addr} {H H' : Hp} {t : Tr} {v : V} {as : List Addr} (h : FF H t v as) (k : Keep A H H') (d : ∀ b ∈ as, b ∉ A) : FF H' t v as := h.stay k.tup fun b hb _ e => k.but b _ (d b hb) e
theorem FF.live {H : Hp} {t : Tr} {v : V} {as : List Addr} (h : FF H t v as) : ∀ b ∈ as, ∃ xs, H b = some (.lst xs) := let ⟨_, _, _, _, hu⟩ := h; hu.live
theorem FF.dp {K : PySem.W.Frag} {H : Hp} {t : Tr} {v : V} {as : List Addr} (h : FF H t v as) : Dp K H v (.tuple [.str (txS t.W), t.toD]) := by
  obtain ⟨a, u, rfl, ha, hu⟩ := h
  exact .tup (SqT.of ha) (.cons (.str _) (.cons hu.dp .nil))
/-! ### the rules with the written part told (in a comprehension's block too) -/
section
variable {X : Cx} {e o : Expr} {es : List Expr} {te to : TE} {t : TA} {k : Nat}
theorem ix_listK (K : PySem.W.Frag) (h : X.K = K := by rfl) : IxR X (rIxL K) := h ▸ ix_list
theorem ix_tupK (K : PySem.W.Frag) (h : X.K = K := by rfl) : IxR X (rIxT K) := h ▸ ix_tup
theorem sl_listK (K : PySem.W.Frag) (h : X.K = K := by rfl) : SlR X (rSlL K) := h ▸ sl_list
theorem sl_tupAK (K : PySem.W.Frag) (h : X.K = K := by rfl) : SlR X (rSlA K) := h ▸ sl_tupA
theorem op_catAK (K : PySem.W.Frag) (h : X.K = K := by rfl) : OpR X (binaryOp .Add) (rCatA K) := h ▸ op_catA
theorem op_in_seqK (K : PySem.W.Frag) (h : X.K = K := by rfl) : OpR X (compareOp .In) (rIn K false) := h ▸ op_in_seq
theorem op_notIn_seqK (K : PySem.W.Frag) (h : X.K = K := by rfl) : OpR X (compareOp .NotIn) (rIn K true) := h ▸ op_notIn_seq
theorem op_eqPK (K : PySem.W.Frag) (hr : Room k X.A) (h : X.K = K := by rfl) : OpR X (compareOp .Eq) (rEqP K) := h ▸ op_eqP hr
theorem op_nePK (K : PySem.W.Frag) (hr : Room k X.A) (h : X.K = K := by rfl) : OpR X (compareOp .NotEq) (rNeP K) := h ▸ op_neP hr
theorem op_inLK (K : PySem.W.Frag) (hr : Room k X.A) (h : X.K = K := by rfl) : OpR X (compareOp .In) (rInD' K) := h ▸ op_inL hr
theorem call_lenK (K : PySem.W.Frag) (h : X.K = K := by rfl) : CallR X (.builtin "len") (fun xs H Q => ∃ x n, xs = [x] ∧ LenV K x H n ∧ Q (.int n) H) := h ▸ call_len
theorem call_isiK (K : PySem.W.Frag) (h : X.K = K := by rfl) : CallR X (.builtin "isinstance") (rIsi K) := h ▸ call_isi
theorem call_isiTK (K : PySem.W.Frag) (h : X.K = K := by rfl) : CallR X (.builtin "isinstance") (rIsiT K) := h ▸ call_isiT
theorem cr_sortedDK (K : PySem.W.Frag) (hr : Room k X.A) (h : X.K = K := by rfl) : CallR X (.builtin "sorted") (rSortedD K) := h ▸ cr_sortedD hr
theorem cr_maxK (K : PySem.W.Frag) (hc : X.calm = true) (h : X.K = K := by rfl) : CallR X (.builtin "max") (rMax K) := h ▸ cr_max hc
theorem cr_minK (K : PySem.W.Frag) (hc : X.calm = true) (h : X.K = K := by rfl) : CallR X (.builtin "min") (rMin K) := h ▸ cr_min hc
theorem cr_sumK (K : PySem.W.Frag) (hc : X.calm = true) (h : X.K = K := by rfl) : CallR X (.builtin "sum") (rSum K) := h ▸ cr_sum hc
theorem call_list_ofK (K : PySem.W.Frag) (h : X.K = K := by rfl) : CallR X (.type "list") (fun xs H Q => ∃ p ys, xs = [.ref p] ∧ (SqL K H p ys ∨ SqT K H p ys) ∧ ∀ l, H l = none → Q (.ref l) (upd H l (.lst ys))) := h ▸ call_list_of
theorem call_tuple_ofK (K : PySem.W.Frag) (h : X.K = K := by rfl) : CallR X (.type "tuple") (fun xs H Q => ∃ p ys, xs = [.ref p] ∧ ((SqL K H p ys ∧ ∀ l, H l = none → Q (.ref l) (upd H l (.tup ys))) ∨ (SqT K H p ys ∧ Q (.ref p) H))) := h ▸ call_tuple_of
theorem mt_countDK (K : PySem.W.Frag) (hr : Room k X.A) (h : X.K = K := by rfl) : MtR X "list.count" (rCntD K) := h ▸ mt_countD hr
theorem cbm0 {T : String} {r : V → List V → Hp → VK → Prop} (K : PySem.W.Frag) (hp : PE X e (tBM0 X.K T r to)) (h : X.K = K := by rfl) : PE X e (tBM0 K T r to) := h ▸ hp
theorem cbm {T : String} {r : V → List V → Hp → VK → Prop} (K : PySem.W.Frag) (hp : PE X e (tBM X.K T r to t)) (h : X.K = K := by rfl) : PE X e (tBM K T r to t) := h ▸ hp
theorem pe_revK {pos p2 p3 p4 : Pos} {j : Nat} (K : PySem.W.Frag) (he : PE X e te) (h : X.K = K := by rfl) : PE X (.Subscript e (.Slice none none (some (.UnaryOp .USub (.Constant (.int 1) j p4) p3)) p2) pos) (tRevL K te) := h ▸ pe_rev he
theorem pc_neNilK {p2 : Pos} (K : PySem.W.Frag) (hr : Room k X.A) (he : PE X e te) (h : X.K = K := by rfl) : PC X .NotEq e (.List [] p2) (tNil' (fun b => !b) K te) := h ▸ pc_neNil hr he
theorem pc_eqNilK {p2 : Pos} (K : PySem.W.Frag) (hr : Room k X.A) (he : PE X e te) (h : X.K = K := by rfl) : PC X .Eq e (.List [] p2) (tNil' (fun b => b) K te) := h ▸ pc_eqNil hr he
theorem pi_listK {tg l : Expr} {tl : TE} (K : PySem.W.Frag) (hl : PE X l tl) (h : X.K = K := by rfl) : PI X tg l (iList K tl) := h ▸ pi_list hl
theorem pi_tupK {tg l : Expr} {tl : TE} (K : PySem.W.Frag) (hl : PE X l tl) (h : X.K = K := by rfl) : PI X tg l (iTup K tl) := h ▸ pi_tup hl
theorem pe_fldK {f : Str} {pos : Pos} (K : PySem.W.Frag) (he : PE X e te) (hb : attributeBase e f X.env (eval e X.env) = eval e X.env) (h : X.K = K := by rfl) : PE X (.Attribute e f pos) (tFld K te f) := h ▸ pe_fld he hb
end
/-! ### small things -/
theorem letter_in {c : Nat} : decide (c ∈ (PySem.Str.ofString "abcdefghijklmnopqrstuvwxyz").cps.toList) = isL c := by
  have e : (PySem.Str.ofString "abcdefghijklmnopqrstuvwxyz").cps.toList = [97, 98, 99, 100, 101, 102, 103, 104, 105, 106, 107, 108, 109, 110, 111, 112, 113, 114, 115, 116, 117, 118, 119, 120, 121, 122] := by decide +kernel
  rw [e]
  unfold isL
  rw [Bool.eq_iff_iff]
  simp only [List.mem_cons, List.not_mem_nil, or_false, decide_eq_true_eq, Bool.and_eq_true]
  omega
theorem snoc_cases {α : Type} (l : List α) : l = [] ∨ ∃ q x, l = q ++ [x] := by
  rcases List.eq_nil_or_concat l with h | ⟨q, x, h⟩
  · exact .inl h
  · exact .inr ⟨q, x, by rw [h, List.concat_eq_append]⟩
theorem snoc_get {α : Type} {xs : List α} {y : α} : (xs ++ [y])[(xs ++ [y]).length - 1]? = some y := by simp
theorem ifNe {α : Type} {xs : List α} {A B : Prop} (h : xs ≠ []) (a : A) : if (!xs.isEmpty) = true then A else B := by
  rw [if_pos (by cases xs with | nil => exact absurd rfl h | cons => rfl)]
  exact a
theorem ifNe1 {α : Type} {xs : List α} {y : α} {A B : Prop} (a : A) : if (!(xs ++ [y]).isEmpty) = true then A else B := ifNe (by simp) a
theorem newF {H H' : Hp} {p : Addr} {o : HO} (n : H p = none) (e : upd H p o = H') : Same H H' ∧ H' p = some o := by
  subst e
  exact ⟨same_new n, upd_same⟩
theorem ownF {H0 H H' : Hp} {p : Addr} {o : HO} (S : Same H0 H) (n : H0 p = none) (e : upd H p o = H') : Same H0 H' ∧ H' p = some o := by
  subst e
  exact ⟨Same.upd_own S n, upd_same⟩
theorem atI_end {α : Type} {xs : List α} {y : α} : atI (xs ++ [y]) (-1) = some y := by
  have e : ixN (xs ++ [y]).length (-1) = some xs.length := by
    unfold ixN
    rw [if_neg (by omega), if_pos (by rw [List.length_append, List.length_singleton]; omega), List.length_append, List.length_singleton]
    congr 1
    omega
  unfold atI
  rw [e]
  simp
theorem txS_app (a b : List Nat) : txS a ++ txS b = txS (a ++ b) := by
  show Str.append (txS a) (txS b) = _
  unfold Str.append
  simp
theorem joinL_nil : ∀ ws : List (List Nat), TL.joinL [] ws = ws.flatten
  | [] => rfl
  | [p] => by simp [TL.joinL]
  | p :: q :: r => by
    rw [TL.joinL, joinL_nil (q :: r)]
    simp
theorem join_nil (ws : List (List Nat)) : Txt.join (txS []) (ws.map txS) = txS ws.flatten := by
  rw [TL.join_eq]
  have h := TL.tl_join (txS []) (ws.map txS)
  rw [List.map_map] at h
  have e : ws.map (TL.tl ∘ txS) = ws := by
    have : (TL.tl ∘ txS) = id := funext fun l => by simp [TL.tl]
    rw [this, List.map_id]
  have e0 : TL.tl (txS []) = [] := rfl
  rw [e, e0, joinL_nil] at h
  have h2 : (Str.join (txS []) (ws.map txS)).cps = ws.flatten.toArray := by
    rw [← h]
  calc Str.join (txS []) (ws.map txS) = ⟨(Str.join (txS []) (ws.map txS)).cps⟩ := rfl
    _ = _ := by rw [h2]
theorem txS_len (l : List Nat) : (txS l).length = l.length := by
  show (txS l).cps.size = _
  simp
theorem str_one (c : Nat) : (⟨#[c]⟩ : Str) = txS [c] := rfl
theorem cut_take {xs : List V} {n : Nat} {i : Int} (h : i = (n : Int)) (hn : n ≤ xs.length) : cutV xs none (some i) = xs.take n := by
  subst h
  unfold cutV
  rw [HT.sIx_none, HT.sIx_nat, Nat.min_eq_left hn]
  simp
theorem cut_drop {xs : List V} {n : Nat} {i : Int} (h : i = (n : Int)) (hn : n ≤ xs.length) : cutV xs (some i) none = xs.drop n := by
  subst h
  unfold cutV
  rw [HT.sIx_none, HT.sIx_nat, Nat.min_eq_left hn]
  refine List.take_of_length_le ?_
  rw [List.length_drop]
  exact Nat.le_refl _
theorem iteB {c : Bool} {A B : Prop} (h : c = true) (a : A) : if c = true then A else B := by rw [if_pos h]; exact a
theorem iteC {c : Bool} {A B : Prop} (h : c = false) (b : B) : if c = true then A else B := by rw [if_neg (by rw [h]; decide)]; exact b
end Hy
set_option Elab.async false
set_option linter.all false
set_option maxRecDepth 100000
set_option maxHeartbeats 4000000
namespace Hy
open PySem L2
def top (i : Nat) : Stmt := PySem.Challenge.pw_heaptrees_k75_trees_read_back.main.body.getD i (.Pass ⟨0, 0, 0, 0⟩)
structure Txt (K : PySem.W.Frag) (mg : Str → Option Value) : Prop where
  n_sorted : mg "sorted" = none
  n_enumerate : mg "enumerate" = none
  n_range : mg "range" = none
  n_isinstance : mg "isinstance" = none
  n_str : mg "str" = none
  n_dict : mg "dict" = none
  n_tuple : mg "tuple" = none
  n_list : mg "list" = none
  n_len : mg "len" = none
  n_int : mg "int" = none
  n_min : mg "min" = none
  n_bool : mg "bool" = none
  n_max : mg "max" = none
  g_LETTERS : GV mg "LETTERS" (.str "abcdefghijklmnopqrstuvwxyz")
  x_HeapError : ExcF K mg "HeapError"
  x_NoTree : ExcF K mg "NoTree"
  x_NoText : ExcF K mg "NoText"

local macro_rules | `(tactic| walk_at "hp") => `(tactic| first
  | assumption | exact upd_same
  | (refine (upd_ne ?_).trans ?_ <;> first | assumption | (exact Ne.symm (by assumption)) | walk_at "ne" | walk_at "hp")
  | (refine (by assumption : Same _ _) _ _ ?_; assumption))
local macro_rules | `(tactic| walk_at "ne") => `(tactic| first
  | assumption | (exact Ne.symm (by assumption))
  | exact ne_of_none (by assumption) (by assumption) | exact Ne.symm (ne_of_none (by assumption) (by assumption)))
local macro_rules | `(tactic| walk_at "sz") => `(tactic| first | assumption | (show 0 ≤ sizeLine; decide) | (show 1 ≤ sizeLine; decide) | (show 2 ≤ sizeLine; decide) | (show 3 ≤ sizeLine; decide))
local macro_rules | `(tactic| walk_at "ar") => `(tactic| first
  | (with_reducible show (0 : Int) < _; first | decide | omega)
  | (with_reducible show CMul _ _; first | exact Or.inr (And.intro (by decide) (by decide)) | exact Or.inl (And.intro (by decide) (by decide)) | (refine Or.inl (And.intro ?_ ?_) <;> omega) | (refine Or.inr (And.intro ?_ ?_) <;> omega))
  | (with_reducible show CDiv _ _; first | exact And.intro (by decide) (by decide) | (refine And.intro ?_ ?_ <;> omega)))
/- one step of a reading -/
local macro_rules | `(tactic| walk_at "r1") => `(tactic| first
  | refine ⟨_, rfl, ?_⟩
  | refine iteB (by rfl) ?_ | refine iteC (by rfl) ?_
  | refine ⟨_, _, rfl, rfl, ?_⟩
  | refine ⟨rfl, ?_⟩
  | refine ⟨⟨_, rfl⟩, ?_⟩
  | refine ⟨_, _, _, _, true, rfl, .ty _, .base (.str _), kit_ty (by decide +kernel), ?_⟩
  | refine ⟨_, _, _, _, false, rfl, .ty _, .base (.str _), kit_ty (by decide +kernel), ?_⟩
  | refine ⟨_, _, _, _, true, rfl, .ty _, .base (.tup (by walk_at "hp")), kit_ty (by decide +kernel), ?_⟩
  | refine ⟨_, _, _, _, false, rfl, .ty _, .base (.tup (by walk_at "hp")), kit_ty (by decide +kernel), ?_⟩
  | refine ⟨_, _, _, _, true, rfl, .ty _, .base (.lst (by walk_at "hp")), kit_ty (by decide +kernel), ?_⟩
  | refine ⟨_, _, _, _, false, rfl, .ty _, .base (.lst (by walk_at "hp")), kit_ty (by decide +kernel), ?_⟩
  | refine ⟨_, _, rfl, ⟨by walk_at "sz", rfl⟩, ?_⟩
  | refine ⟨_, _, _, _, rfl, rfl, SqT.of (by walk_at "hp"), by rfl, ?_⟩
  | refine ⟨_, _, _, _, rfl, rfl, SqL.of (by walk_at "hp"), by rfl, ?_⟩
  | refine ⟨.inl ⟨rfl, _, SqL.of (by walk_at "hp")⟩, ?_⟩
  | refine ⟨_, _, _, rfl, rfl, (by walk_at "hp"), snoc_get, ?_⟩
  | refine ⟨_, _, _, _, rfl, rfl, (by walk_at "hp"), by rfl, ?_⟩
  | refine ⟨_, _, rfl, SqL.of (by walk_at "hp"), ?_⟩
  | refine ⟨_, _, rfl, SqT.of (by walk_at "hp"), by rfl, ?_⟩
  | refine ⟨_, (_ : List V), rfl, ?_⟩
  | refine ⟨_, _, rfl, .inl ⟨_, (by assumption), rfl⟩, ?_⟩
  | refine ⟨_, _, rfl, .inl ⟨_, SqL.of (by walk_at "hp"), rfl⟩, ?_⟩
  | refine ⟨_, _, rfl, .inr ⟨_, SqT.of (by walk_at "hp"), rfl⟩, ?_⟩
  | refine Or.inl ⟨(_ : Int), rfl, ?_⟩ | refine Or.inr ⟨(_ : Bool), rfl, ?_⟩
  | refine And.intro (by walk_at "ar") ?_)
local macro_rules | `(tactic| walk_at "rd") => `(tactic| repeat walk_at "r1")

section
variable {P : Program} {w : World} {K : PySem.W.Frag} {mg : Str → Option Value} {base : Heap}
abbrev G' (P : Program) (w : World) (K : PySem.W.Frag) (mg : Str → Option Value) (base : Heap) := Gd P w K mg base

/-! ### is_letter -/
abbrev s_is_letter : Stmt := top 6
theorem sc_is_letter : FnScope ["thing"] ["thing"] (defScope s_is_letter) := ⟨rfl, rfl, rfl, by decide +kernel, rfl, by decide +kernel, by decide +kernel⟩
abbrev s_is_part : Stmt := top 7
theorem sc_is_part : FnScope ["thing"] ["thing"] (defScope s_is_part) := ⟨rfl, rfl, rfl, by decide +kernel, rfl, by decide +kernel, by decide +kernel⟩
abbrev s_is_tree : Stmt := top 8
theorem sc_is_tree : FnScope ["thing", "waiting", "part"] ["thing"] (defScope s_is_tree) := ⟨rfl, rfl, rfl, by decide +kernel, rfl, by decide +kernel, by decide +kernel⟩
abbrev s_need_tree : Stmt := top 9
theorem sc_need_tree : FnScope ["thing"] ["thing"] (defScope s_need_tree) := ⟨rfl, rfl, rfl, by decide +kernel, rfl, by decide +kernel, by decide +kernel⟩
abbrev s_parts_in_order : Stmt := top 10
theorem sc_parts_in_order : FnScope ["tree", "found", "waiting"] ["tree"] (defScope s_parts_in_order) := ⟨rfl, rfl, rfl, by decide +kernel, rfl, by decide +kernel, by decide +kernel⟩

def sp_is_letter : Sp := fun vs H Q _ => ∃ c, vs = [.str ⟨#[c]⟩] ∧ Q (.bl (isL c)) H
theorem ok_is_letter (D : Df K mg "is_letter" s_is_letter ["thing"]) (T : Txt K mg) : G' P w K mg base "is_letter" 1 ["thing"] sp_is_letter := by
  refine D.ok fun f fd F => F.okX sc_is_letter (fun vs H Q E h => ?_) (fun cdv A outer s H vs Q E hr h => ?_)
  · obtain ⟨c, rfl, _⟩ := h
    rfl
  · obtain ⟨c, rfl, k⟩ := h
    refine ⟨_, (pss_one (ps_ret (pe_and (pe_callB (call_isiK K) (by rfl) T.n_isinstance (by decide +kernel) (pa_cons (pv 0) (pa_cons (pe_ty (n := "str") T.n_str (by decide +kernel)) pa_nil))) (pe_and (pe_cmpR op_eq (pe_callB (call_lenK K) (by rfl) T.n_len PySem.boot_len (pa_cons (pv 0) pa_nil)) pe_int (nomark _)) (pe_one (pe_cmpR op_in_sign (pv 0) (pe_gv T.g_LETTERS) (by rfl))))))), ?_⟩
    walk_at "rd"
    rw [letter_in]
    exact k

/-! ### is_part, is_tree, need_tree: of trees -/
def sp_is_part : Sp := fun vs H Q _ => ∃ v t as, vs = [v] ∧ TF H t v as ∧ isL t.c = true ∧ Q (.bl true) H
theorem ok_is_part (D : Df K mg "is_part" s_is_part ["thing"]) (T : Txt K mg) (G_is_letter : G' P w K mg base "is_letter" 1 ["thing"] sp_is_letter) : G' P w K mg base "is_part" 2 ["thing"] sp_is_part := by
  refine D.ok fun f fd F => F.okX sc_is_part (fun vs H Q E h => ?_) (fun cdv A outer s H vs Q E hr h => ?_)
  · obtain ⟨v, t, as, rfl, _⟩ := h
    rfl
  · obtain ⟨v, t, as, rfl, ht, hc, k⟩ := h
    obtain ⟨a, l, ps, ha, hl, hp, et, rfl, has⟩ := ht.out
    refine ⟨_, (pss_one (ps_ret (pe_and (pe_callB (call_isiK K) (by rfl) T.n_isinstance (by decide +kernel) (pa_cons (pv 0) (pa_cons (pe_ty (n := "tuple") T.n_tuple (by decide +kernel)) pa_nil))) (pe_and (pe_cmpR op_eq (pe_callB (call_lenK K) (by rfl) T.n_len PySem.boot_len (pa_cons (pv 0) pa_nil)) pe_int (nomark _)) (pe_and (pe_cl G_is_letter (hr.mono (by omega)) passF (pa_cons (pe_ix (ix_tupK K) (pv 0) pe_int (fun _ _ => rfl)) pa_nil)) (pe_one (pe_callB (call_isiK K) (by rfl) T.n_isinstance (by decide +kernel) (pa_cons (pe_ix (ix_tupK K) (pv 0) pe_int (fun _ _ => rfl)) (pa_cons (pe_ty (n := "list") T.n_list (by decide +kernel)) pa_nil))))))))), ?_⟩
    walk_at "rd"
    rw [hc]
    walk_at "rd"
    exact k
def sp_is_tree : Sp := fun vs H Q _ => ∃ v t as, vs = [v] ∧ TF H t v as ∧ t.ok = true ∧ t.size ≤ 100000 ∧ ∀ H', Same H H' → Q (.bl true) H'
theorem ok_is_tree (D : Df K mg "is_tree" s_is_tree ["thing"]) (T : Txt K mg) (G_is_part : G' P w K mg base "is_part" 2 ["thing"] sp_is_part) : G' P w K mg base "is_tree" 3 ["thing"] sp_is_tree := by
  refine D.ok fun f fd F => F.okX sc_is_tree (fun vs H Q E h => ?_) (fun cdv A outer s H vs Q E hr h => ?_)
  · obtain ⟨v, t, as, rfl, _⟩ := h
    rfl
  · obtain ⟨v, t, as, rfl, ht, hok, hsz, k⟩ := h
    refine ⟨_, (pss_cons (ps_set (i := 1) sc_is_tree.nd rfl (by first | exact Or.inl rfl | exact Or.inr rfl) (pe_lst (pa_cons (pv 0) pa_nil)))
  (pss_cons (ps_while (passes_of rfl) (pt_cmp (pc_neNilK K hr (pv 1))) (pss_cons (ps_set (i := 2) sc_is_tree.nd rfl (by first | exact Or.inl rfl | exact Or.inr rfl) (cbm0 K (pe_bm0 PySem.F.plainAttrs_list PySem.F.slot_list_pop PySem.F.type_list_pop mt_pop (pv 1))))
  (pss_cons (ps_if (pt_not (pt_val (pe_cl G_is_part (hr.mono (by omega)) passF (pa_cons (pv 2) pa_nil)))) (pss_one (ps_ret pe_bl)) pss_nil)
  (pss_one (ps_expr (cbm K (pe_bm PySem.F.plainAttrs_list PySem.F.slot_list_extend PySem.F.type_list_extend mt_extend (pv 1) (pa_cons (pe_ix (ix_tupK K) (pv 2) pe_int (fun _ _ => rfl)) pa_nil))))))))
  (pss_one (ps_ret pe_bl)))), ?_⟩
    walk_at "rd"
    refine ⟨(by walk_at "sz"), fun wl nw => ?_⟩
    refine ⟨fun m σ H' => ∃ (ps : List Fp) (pv : Option V), m = Tr.sizes (ps.map (·.2.1)) ∧ σ = [some v, some (.ref wl), pv] ∧ Same H H' ∧ H' wl = some (.lst (ps.map (·.1))) ∧ (∀ p ∈ ps, TF H p.2.1 p.1 p.2.2) ∧ Tr.oks (ps.map (·.2.1)) = true ∧ Tr.sizes (ps.map (·.2.1)) ≤ 100000,
      ⟨_, [(v, t, as)], none, rfl, rfl, same_new nw, upd_same, ?_, ?_, ?_⟩, ?_⟩
    · intro p hp
      obtain rfl := List.mem_singleton.mp hp
      exact ht
    · simp [Tr.oks, hok]
    · simpa [Tr.sizes] using hsz
    · rintro m σ H1 ⟨ps, pv, rfl, rfl, S1, hw, hps, hoks, hszs⟩
      walk_at "rd"
      rcases snoc_cases ps with rfl | ⟨qs, ⟨qv, qt, qa⟩, rfl⟩
      · walk_at "rd"
        exact k _ S1
      · simp only [List.map_append, List.map_cons, List.map_nil, Tr.oks_append, Tr.sizes_append, Tr.oks, Tr.sizes, Bool.and_true, Bool.and_eq_true] at hw hoks hszs ⊢
        have hq : TF H qt qv qa := hps (qv, qt, qa) (by simp)
        obtain ⟨a, l, us, ha, hl, hu, et, rfl, has⟩ := hq.out
        have hc : isL qt.c = true ∧ Tr.oks qt.ts = true := by
          have z := hoks.2
          rw [qt.eta, Tr.ok, Bool.and_eq_true] at z
          exact z
        have hz : qt.size = 1 + Tr.sizes qt.ts := by
          cases qt
          rfl
        refine ifNe1 ?_
        refine ⟨fun σ H' => ∃ (ps : List Fp) (pv : Option V), Tr.sizes (ps.map (·.2.1)) < Tr.sizes (qs.map (·.2.1)) + (qt.size + 0) ∧ σ = [some v, some (.ref wl), pv] ∧ Same H H' ∧ H' wl = some (.lst (ps.map (·.1))) ∧ (∀ p ∈ ps, TF H p.2.1 p.1 p.2.2) ∧ Tr.oks (ps.map (·.2.1)) = true ∧ Tr.sizes (ps.map (·.2.1)) ≤ 100000,
          fun σ' H' ⟨ps, pv, h1, h2⟩ => ⟨_, h1, ps, pv, rfl, h2⟩, ?_⟩
        walk_at "rd"
        rw [List.dropLast_concat]
        generalize e : upd H1 wl _ = H2
        obtain ⟨S2, hw2⟩ := ownF S1 nw e
        refine ⟨_, _, _, rfl, hq.same S2, hc.1, true, rfl, iteF ?_⟩
        walk_at "rd"
        have l1 := Tr.sizes_len (qs.map (·.2.1))
        have l2 := Tr.sizes_len (us.map (·.2.1))
        rw [List.length_map] at l1 l2
        rw [hz, et] at hszs
        refine ⟨_, _, _, _, rfl, rfl, hw2, S2 _ _ hl, ?_, ?_⟩
        · rw [List.length_map, List.length_map]
          exact Nat.le_trans (show _ ≤ 100000 by omega) (by decide)
        generalize e3 : upd H2 wl _ = H3
        obtain ⟨S3, hw3⟩ := ownF S2 nw e3
        refine ⟨qs ++ us, _, ?_, rfl, S3, by rw [hw3, List.map_append], fun p hp => ?_, ?_, ?_⟩
        · rw [List.map_append, Tr.sizes_append, hz, et]
          omega
        · rcases List.mem_append.mp hp with hp | hp
          · exact hps p (List.mem_append_left _ hp)
          · exact hu p hp
        · rw [List.map_append, Tr.oks_append, hoks.1, ← et, hc.2]
          rfl
        · rw [List.map_append, Tr.sizes_append]
          omega

def sp_need_tree : Sp := fun vs H Q _ => ∃ v t as, vs = [v] ∧ TF H t v as ∧ t.ok = true ∧ t.size ≤ 100000 ∧ ∀ H', Same H H' → Q .non H'
theorem ok_need_tree (D : Df K mg "need_tree" s_need_tree ["thing"]) (T : Txt K mg) (G_is_tree : G' P w K mg base "is_tree" 3 ["thing"] sp_is_tree) : G' P w K mg base "need_tree" 4 ["thing"] sp_need_tree := by
  refine D.ok fun f fd F => F.okX sc_need_tree (fun vs H Q E h => ?_) (fun cdv A outer s H vs Q E hr h => ?_)
  · obtain ⟨v, t, as, rfl, _⟩ := h
    rfl
  · obtain ⟨v, t, as, rfl, ht, hok, hsz, k⟩ := h
    refine ⟨_, (pss_one (ps_if (pt_not (pt_val (pe_cl G_is_tree (hr.mono (by omega)) passF (pa_cons (pv 0) pa_nil)))) (pss_one (ps_rs T.x_NoTree rfl (takes_of rfl rfl rfl rfl))) pss_nil)), ?_⟩
    walk_at "rd"
    refine ⟨_, _, _, rfl, ht, hok, hsz, fun H' S => ⟨true, rfl, iteF ?_⟩⟩
    exact k _ S

/-! ### parts_in_order: the parts themselves -/
/-- the values vs are the trees ts, at some lists -/
def TVs (H : Hp) (ts : List Tr) (vs : List V) : Prop := ∃ ps : List Fp, ts = ps.map (·.2.1) ∧ vs = ps.map (·.1) ∧ ∀ p ∈ ps, TF H p.2.1 p.1 p.2.2
def sp_parts_in_order : Sp := fun vs H Q _ => ∃ v t as, vs = [v] ∧ TF H t v as ∧ t.size ≤ 100000 ∧ ∀ H' p ws, Same H H' → H p = none → H' p = some (.lst ws) → TVs H t.parts ws → Q (.ref p) H'
theorem ok_parts_in_order (D : Df K mg "parts_in_order" s_parts_in_order ["tree"]) (T : Txt K mg) : G' P w K mg base "parts_in_order" 1 ["tree"] sp_parts_in_order := by
  refine D.ok fun f fd F => F.okX sc_parts_in_order (fun vs H Q E h => ?_) (fun cdv A outer s H vs Q E hr h => ?_)
  · obtain ⟨v, t, as, rfl, _⟩ := h
    rfl
  · obtain ⟨v, t, as, rfl, ht, hsz, k⟩ := h
    refine ⟨_, (pss_cons (ps_set (i := 1) sc_parts_in_order.nd rfl (by first | exact Or.inl rfl | exact Or.inr rfl) (pe_lst pa_nil))
  (pss_cons (ps_set (i := 2) sc_parts_in_order.nd rfl (by first | exact Or.inl rfl | exact Or.inr rfl) (pe_lst (pa_cons (pv 0) pa_nil)))
  (pss_cons (ps_while (passes_of rfl) (pt_cmp (pc_neNilK K hr (pv 2))) (pss_cons (ps_expr (cbm K (pe_bm PySem.F.plainAttrs_list PySem.F.slot_list_append PySem.F.type_list_append mt_append (pv 1) (pa_cons (cbm0 K (pe_bm0 PySem.F.plainAttrs_list PySem.F.slot_list_pop PySem.F.type_list_pop mt_pop (pv 2))) pa_nil))))
  (pss_one (ps_expr (cbm K (pe_bm PySem.F.plainAttrs_list PySem.F.slot_list_extend PySem.F.type_list_extend mt_extend (pv 2) (pa_cons (pe_ix (ix_tupK K) (pe_ix (ix_listK K) (pv 1) (pe_un un_neg pe_int) (fun _ _ => rfl)) pe_int (fun _ _ => rfl)) pa_nil)))))))
  (pss_one (ps_ret (pe_revK K (pv 1))))))), ?_⟩
    walk_at "rd"
    refine ⟨(by walk_at "sz"), fun fl nf => ?_⟩
    generalize e0 : upd H fl _ = H0
    obtain ⟨S0, hf0⟩ := newF nf e0
    walk_at "rd"
    refine ⟨(by walk_at "sz"), fun wl nw0 => ?_⟩
    have nw : H wl = none := S0.free nw0
    have nfw : fl ≠ wl := ne_of_none hf0 nw0
    generalize e1 : upd H0 wl _ = H1
    have S1 : Same H H1 := by subst e1; exact Same.upd_own S0 nw
    have hf1 : H1 fl = some (.lst []) := by subst e1; rw [upd_ne nfw]; exact hf0
    have hw1 : H1 wl = some (.lst [v]) := by subst e1; exact upd_same
    refine ⟨fun m σ H' => ∃ (ds ps : List Fp), m = Tr.sizes (ps.map (·.2.1)) ∧ σ = [some v, some (.ref fl), some (.ref wl)] ∧ Same H H' ∧ H' fl = some (.lst (ds.map (·.1))) ∧ H' wl = some (.lst (ps.map (·.1))) ∧ (∀ p ∈ ps, TF H p.2.1 p.1 p.2.2) ∧ (∀ p ∈ ds, TF H p.2.1 p.1 p.2.2) ∧
        ds.map (·.2.1) ++ (Tr.partss (ps.map (·.2.1))).reverse = t.parts.reverse,
      ⟨_, [], [(v, t, as)], rfl, rfl, S1, hf1, hw1, ?_, ?_, ?_⟩, ?_⟩
    · intro p hp
      obtain rfl := List.mem_singleton.mp hp
      exact ht
    · intro p hp
      cases hp
    · simp [Tr.partss]
    · rintro m σ H1 ⟨ds, ps, rfl, rfl, S1, hf, hw, hps, hds, heq⟩
      have hlen : ds.length + (Tr.partss (ps.map (·.2.1))).length = t.size := by
        have q := congrArg List.length heq
        rw [List.length_append, List.length_map, List.length_reverse, List.length_reverse, Tr.parts_len] at q
        exact q
      rw [Tr.partss_len] at hlen
      walk_at "rd"
      rcases snoc_cases ps with rfl | ⟨qs, ⟨qv, qt, qa⟩, rfl⟩
      · walk_at "rd"
        refine fun p np => k _ p _ (Same.upd_new S1 np) (S1.free np) upd_same ⟨ds.reverse, ?_, by rw [List.map_reverse], fun p hp => hds p (List.mem_reverse.mp hp)⟩
        simp only [List.map_nil, Tr.partss, List.reverse_nil, List.append_nil] at heq
        rw [List.map_reverse, heq, List.reverse_reverse]
      · simp only [List.map_append, List.map_cons, List.map_nil, Tr.sizes_append, Tr.sizes, Tr.partss_append, Tr.partss, List.append_nil, List.reverse_append] at hw heq hlen ⊢
        have hq : TF H qt qv qa := hps (qv, qt, qa) (by simp)
        obtain ⟨a, l, us, ha, hl, hu, et, rfl, has⟩ := hq.out
        have hz : qt.size = 1 + Tr.sizes qt.ts := by
          cases qt
          rfl
        have hp : qt.parts = Tr.partss qt.ts ++ [qt] := by
          cases qt
          rfl
        have l1 := Tr.sizes_len (qs.map (·.2.1))
        have l2 := Tr.sizes_len (us.map (·.2.1))
        rw [List.length_map] at l1 l2
        rw [hz, et] at hlen
        refine ifNe1 ?_
        refine ⟨fun σ H' => ∃ (ds ps : List Fp), Tr.sizes (ps.map (·.2.1)) < Tr.sizes (qs.map (·.2.1)) + (qt.size + 0) ∧ σ = [some v, some (.ref fl), some (.ref wl)] ∧ Same H H' ∧ H' fl = some (.lst (ds.map (·.1))) ∧ H' wl = some (.lst (ps.map (·.1))) ∧ (∀ p ∈ ps, TF H p.2.1 p.1 p.2.2) ∧ (∀ p ∈ ds, TF H p.2.1 p.1 p.2.2) ∧
            ds.map (·.2.1) ++ (Tr.partss (ps.map (·.2.1))).reverse = t.parts.reverse, fun σ' H' ⟨ds, ps, h1, h2⟩ => ⟨_, h1, ds, ps, rfl, h2⟩, ?_⟩
        walk_at "rd"
        rw [List.dropLast_concat]
        generalize e2 : upd H1 wl _ = H2
        obtain ⟨S2, hw2⟩ := ownF S1 nw e2
        have hf2 : H2 fl = some (.lst (ds.map (·.1))) := by subst e2; rw [upd_ne nfw]; exact hf
        walk_at "rd"
        refine ⟨_, _, _, rfl, rfl, hf2, ?_, ?_⟩
        · rw [List.length_map]
          exact Nat.lt_of_le_of_lt (show _ ≤ 100000 by omega) (by decide)
        generalize e3 : upd H2 fl _ = H3
        obtain ⟨S3, hf3⟩ := ownF S2 nf e3
        have hw3 : H3 wl = some (.lst (qs.map (·.1))) := by subst e3; rw [upd_ne nfw.symm]; exact hw2
        walk_at "rd"
        refine ⟨_, _, _, _, rfl, rfl, SqL.of hf3, atI_end, ?_⟩
        walk_at "rd"
        refine ⟨_, _, _, _, rfl, rfl, hw3, S3 _ _ hl, ?_, ?_⟩
        · rw [List.length_map, List.length_map]
          exact Nat.le_trans (show _ ≤ 100000 by omega) (by decide)
        generalize e4 : upd H3 wl _ = H4
        obtain ⟨S4, hw4⟩ := ownF S3 nw e4
        have hf4 : H4 fl = some (.lst (ds.map (·.1) ++ [.ref a])) := by subst e4; rw [upd_ne nfw]; exact hf3
        refine ⟨ds ++ [(.ref a, qt, qa)], qs ++ us, ?_, rfl, S4, by rw [hf4, List.map_append]; rfl, by rw [hw4, List.map_append], fun p hp => ?_, fun p hp => ?_, ?_⟩
        · rw [List.map_append, Tr.sizes_append, hz, et]
          omega
        · rcases List.mem_append.mp hp with hp | hp
          · exact hps p (List.mem_append_left _ hp)
          · exact hu p hp
        · rcases List.mem_append.mp hp with hp | hp
          · exact hds p hp
          · obtain rfl := List.mem_singleton.mp hp
            exact hq
        · rw [← heq, hp, et, List.map_append, List.map_append, Tr.partss_append]
          simp
end
end Hy
set_option Elab.async false
set_option linter.all false
set_option maxRecDepth 100000
set_option maxHeartbeats 4000000
namespace Hy
open PySem L2
local macro_rules | `(tactic| walk_at "hp") => `(tactic| first
  | assumption | exact upd_same
  | (refine (upd_ne ?_).trans ?_ <;> first | assumption | (exact Ne.symm (by assumption)) | walk_at "ne" | walk_at "hp")
  | (refine (by assumption : Same _ _) _ _ ?_; assumption))
local macro_rules | `(tactic| walk_at "ne") => `(tactic| first
  | assumption | (exact Ne.symm (by assumption))
  | exact ne_of_none (by assumption) (by assumption) | exact Ne.symm (ne_of_none (by assumption) (by assumption)))
local macro_rules | `(tactic| walk_at "sz") => `(tactic| first | assumption | (show 0 ≤ sizeLine; decide) | (show 1 ≤ sizeLine; decide) | (show 2 ≤ sizeLine; decide) | (show 3 ≤ sizeLine; decide))
local macro_rules | `(tactic| walk_at "ar") => `(tactic| first
  | (with_reducible show (0 : Int) < _; first | decide | omega)
  | (with_reducible show CMul _ _; first | exact Or.inr (And.intro (by decide) (by decide)) | exact Or.inl (And.intro (by decide) (by decide)) | (refine Or.inl (And.intro ?_ ?_) <;> omega) | (refine Or.inr (And.intro ?_ ?_) <;> omega))
  | (with_reducible show CDiv _ _; first | exact And.intro (by decide) (by decide) | (refine And.intro ?_ ?_ <;> omega)))
/- one step of a reading -/
local macro_rules | `(tactic| walk_at "r1") => `(tactic| first
  | refine ⟨_, rfl, ?_⟩
  | refine iteB (by rfl) ?_ | refine iteC (by rfl) ?_
  | refine ⟨_, _, rfl, rfl, ?_⟩
  | refine ⟨rfl, ?_⟩
  | refine ⟨⟨_, rfl⟩, ?_⟩
  | refine ⟨_, _, _, _, true, rfl, .ty _, .base (.str _), kit_ty (by decide +kernel), ?_⟩
  | refine ⟨_, _, _, _, false, rfl, .ty _, .base (.str _), kit_ty (by decide +kernel), ?_⟩
  | refine ⟨_, _, _, _, true, rfl, .ty _, .base (.tup (by walk_at "hp")), kit_ty (by decide +kernel), ?_⟩
  | refine ⟨_, _, _, _, false, rfl, .ty _, .base (.tup (by walk_at "hp")), kit_ty (by decide +kernel), ?_⟩
  | refine ⟨_, _, _, _, true, rfl, .ty _, .base (.lst (by walk_at "hp")), kit_ty (by decide +kernel), ?_⟩
  | refine ⟨_, _, _, _, false, rfl, .ty _, .base (.lst (by walk_at "hp")), kit_ty (by decide +kernel), ?_⟩
  | refine ⟨_, _, rfl, ⟨by walk_at "sz", rfl⟩, ?_⟩
  | refine ⟨_, _, _, _, rfl, rfl, SqT.of (by walk_at "hp"), by rfl, ?_⟩
  | refine ⟨_, _, _, _, rfl, rfl, SqL.of (by walk_at "hp"), by rfl, ?_⟩
  | refine ⟨.inl ⟨rfl, _, SqL.of (by walk_at "hp")⟩, ?_⟩
  | refine ⟨_, _, _, rfl, rfl, (by walk_at "hp"), snoc_get, ?_⟩
  | refine ⟨_, _, _, _, rfl, rfl, (by walk_at "hp"), by rfl, ?_⟩
  | refine ⟨_, _, rfl, SqL.of (by walk_at "hp"), ?_⟩
  | refine ⟨_, _, rfl, SqT.of (by walk_at "hp"), by rfl, ?_⟩
  | refine ⟨_, (_ : List V), rfl, ?_⟩
  | refine ⟨_, _, rfl, .inl ⟨_, (by assumption), rfl⟩, ?_⟩
  | refine ⟨_, _, rfl, .inl ⟨_, SqL.of (by walk_at "hp"), rfl⟩, ?_⟩
  | refine ⟨_, _, rfl, .inr ⟨_, SqT.of (by walk_at "hp"), rfl⟩, ?_⟩
  | refine Or.inl ⟨(_ : Int), rfl, ?_⟩ | refine Or.inr ⟨(_ : Bool), rfl, ?_⟩
  | refine And.intro (by walk_at "ar") ?_)
local macro_rules | `(tactic| walk_at "rd") => `(tactic| repeat walk_at "r1")

abbrev Fp.v (p : Fp) : V := p.1
abbrev Fp.t (p : Fp) : Tr := p.2.1
abbrev Fp.as (p : Fp) : List Addr := p.2.2
/-- the writings' order, told of pairs (writing, place) -/
theorem le_pair {a b : Tr} {i j : Int} (h : PySem.W.dataLe false (fun p : V × PyData => p.2) (x, .tuple [.str (txS a.W), .int i]) (y, .tuple [.str (txS b.W), .int j]) = true) : leW a b = true := by
  have h' : (!PySem.W.dataLt (.tuple [.str (txS b.W), .int j]) (.tuple [.str (txS a.W), .int i])) = true := h
  rw [PySem.W.dataLt_pair (by simp [PySem.W.alike]) (by simp [PySem.W.alike])] at h'
  unfold leW
  by_cases e : PyData.eqv (.str (txS b.W)) (.str (txS a.W)) = true
  · have e' : txS b.W = txS a.W := by simpa [PyData.eqv] using e
    have e2 : b.W = a.W := by simpa using congrArg (fun s : Str => s.cps.toList) e'
    rw [e2]
    exact decide_eq_true (List.le_refl _)
  · rw [if_neg e, PySem.W.dataLt_str] at h'
    have h2 : ¬ (b.W < a.W) := by simpa using h'
    exact decide_eq_true (List.not_lt.mp h2)
theorem alike_pair (a b : Tr) (i j : Int) : PySem.W.alike (.tuple [.str (txS a.W), .int i]) (.tuple [.str (txS b.W), .int j]) = true := by simp [PySem.W.alike, PySem.W.alikeAll]
theorem dataLe_total {β : Type} (k : β → PyData) : PySem.W.TotalLe (PySem.W.dataLe false k) := PySem.W.sortLe_total _ _ _
def d0 : Fp := (.non, .node 0 [], [])
theorem getD_some {ps : List Fp} {i : Nat} (h : i < ps.length) : ps[i]? = some (ps.getD i d0) := by
  rw [List.getD_eq_getElem?_getD, List.getElem?_eq_getElem h]
  rfl
theorem map_getD {ps : List Fp} : (List.range ps.length).map (fun i => ps.getD i d0) = ps := by
  refine List.ext_getElem? fun i => ?_
  rw [List.getElem?_map]
  by_cases h : i < ps.length
  · rw [List.getElem?_range h, getD_some h]
    rfl
  · rw [List.getElem?_eq_none (by simp; omega), List.getElem?_eq_none (by omega)]
    rfl

theorem wipe2 {σ : St} {a b : Nat} (x y : Option V) : wipe (((wipe σ [a, b]).set a x).set b y) [a, b] = wipe σ [a, b] := by
  refine List.ext_getElem? fun i => ?_
  simp only [wipe, List.getElem?_set, List.length_set]
  by_cases h1 : a = i
  · simp [h1]
  · by_cases h2 : b = i
    · simp [h1, h2]
    · simp [h1, h2]
/-! ### [more for more, child in xs], [child for more, child in xs] -/
/-- what a comprehension over a list asks, behind its list -/
abbrev LcR (g : TG) (tt : TT) (te : TE) (vs : List Nat) (σ : St) (Qd : Addr → Hp → Prop) (J : It) (H1 : Hp) : Prop := ∀ D, H1 D = none → ∃ W : Nat → Nat → Hp → Prop, (∃ m, W 0 m (upd H1 D (.lst []))) ∧
  ∀ i m H, W i m H → (J.stop i H ∧ Qd D H) ∨ (J.go i H ∧ ∃ Nx : Hp → Prop, (∀ H', Nx H' → ∃ m', m' < m ∧ W (i + 1) m' H') ∧
    ∀ x H', J.yld i H x H' → g x (wipe σ vs) H' fun σ2 H2 => wipe σ2 vs = wipe σ vs ∧ tt σ2 H2 fun b H3 => if b = true then te σ2 H3 fun y H4 => ∃ acc, H4 D = some (.lst acc) ∧ acc.length < sizeLine ∧ Nx (upd H4 D (.lst (acc ++ [y]))) else Nx H3)
theorem lc_more {K : PySem.W.Frag} {σ : St} {H : Hp} {Qd : Addr → Hp → Prop} {p : Addr} {qs : List Fp} {a b : Nat} (ha : a < σ.length) (hb : b < σ.length) (hab : a ≠ b) (hp : H p = some (.lst (qs.map Fp.v))) (hF : ∀ q ∈ qs, FF H q.t q.v q.as) (hn : qs.length ≤ 100000)
    (k : ∀ (D : Addr) (H' : Hp), Same H H' → H D = none → H' D = some (.lst (qs.map fun q => tx q.t.W)) → Qd D H') : (∃ xs, SqL K H p xs) ∧ LcR (gTup K 2 (gCons (gName a) (gCons (gName b) gNil))) tYes (tVar a) [a, b] σ Qd (Itl K p) H := by
  refine ⟨⟨_, SqL.of hp⟩, fun D nD => lc_list (xs := qs.map Fp.v) (fun j H' => Same H H' ∧ H' D = some (.lst ((qs.take j).map fun q => tx q.t.W))) ⟨same_new nD, upd_same⟩ (fun j H' _ h => SqL.of (h.1 _ _ hp)) ?_ ?_⟩
  · rintro j x H3 hx ⟨S3, hD⟩
    rw [List.getElem?_map] at hx
    obtain ⟨q, hj, rfl⟩ := Option.map_eq_some_iff.mp hx
    obtain ⟨c, u, e, hc, hu⟩ := hF q (List.mem_of_getElem? hj)
    refine ⟨c, _, e, SqT.of (S3 _ _ hc), rfl, _, _, rfl, _, _, rfl, rfl, ?_⟩
    refine ⟨wipe2 _ _, tx q.t.W, ?_, _, hD, ?_, Same.upd_own S3 nD, ?_⟩
    · show (((wipe σ [a, b]).set a (some (tx q.t.W))).set b (some u))[a]? = _
      rw [List.getElem?_set_ne (Ne.symm hab), List.getElem?_set_self (by simpa [wipe] using ha)]
    · rw [List.length_map, List.length_take]
      exact Nat.lt_of_le_of_lt (Nat.le_trans (Nat.min_le_right _ _) hn) (by decide)
    · rw [upd_same, List.take_succ, List.map_append, hj]
      rfl
  · rintro H3 ⟨S3, hD⟩
    refine k D _ S3 nD ?_
    rw [hD, List.take_of_length_le (by simp)]
theorem lc_child {K : PySem.W.Frag} {σ : St} {H : Hp} {Qd : Addr → Hp → Prop} {p : Addr} {qs : List Fp} {a b : Nat} (ha : a < σ.length) (hb : b < σ.length) (hab : a ≠ b) (hp : H p = some (.lst (qs.map Fp.v))) (hF : ∀ q ∈ qs, FF H q.t q.v q.as) (hn : qs.length ≤ 100000)
    (k : ∀ (D : Addr) (H' : Hp) (us : List Fp), Same H H' → H D = none → H' D = some (.lst (us.map Fp.v)) → us.map Fp.t = qs.map Fp.t → us.map Fp.as = qs.map Fp.as → (∀ u ∈ us, TF H u.t u.v u.as) → Qd D H') : (∃ xs, SqL K H p xs) ∧ LcR (gTup K 2 (gCons (gName a) (gCons (gName b) gNil))) tYes (tVar b) [a, b] σ Qd (Itl K p) H := by
  refine ⟨⟨_, SqL.of hp⟩, fun D nD => lc_list (xs := qs.map Fp.v) (fun j H' => Same H H' ∧ ∃ us : List Fp, H' D = some (.lst (us.map Fp.v)) ∧ us.map Fp.t = (qs.take j).map Fp.t ∧ us.map Fp.as = (qs.take j).map Fp.as ∧ ∀ u ∈ us, TF H u.t u.v u.as) ⟨same_new nD, [], upd_same, rfl, rfl, fun u hu => by cases hu⟩ (fun j H' _ h => SqL.of (h.1 _ _ hp)) ?_ ?_⟩
  · rintro j x H3 hx ⟨S3, us, hD, h1, h2, h3⟩
    rw [List.getElem?_map] at hx
    obtain ⟨q, hj, rfl⟩ := Option.map_eq_some_iff.mp hx
    obtain ⟨c, u, e, hc, hu⟩ := hF q (List.mem_of_getElem? hj)
    refine ⟨c, _, e, SqT.of (S3 _ _ hc), rfl, _, _, rfl, _, _, rfl, rfl, ?_⟩
    refine ⟨wipe2 _ _, u, ?_, _, hD, ?_, Same.upd_own S3 nD, us ++ [(u, q.t, q.as)], ?_, ?_, ?_, ?_⟩
    · show (((wipe σ [a, b]).set a (some (tx q.t.W))).set b (some u))[b]? = _
      rw [List.getElem?_set_self (by simpa [wipe] using hb)]
    · have q := congrArg List.length h1
      rw [List.length_map, List.length_map, List.length_take] at q
      rw [List.length_map, q]
      exact Nat.lt_of_le_of_lt (Nat.le_trans (Nat.min_le_right _ _) hn) (by decide)
    · rw [upd_same, List.map_append]
      rfl
    · rw [List.take_succ, List.map_append, List.map_append, h1, hj]
      rfl
    · rw [List.take_succ, List.map_append, List.map_append, h2, hj]
      rfl
    · intro w hw
      rcases List.mem_append.mp hw with hw | hw
      · exact h3 w hw
      · obtain rfl := List.mem_singleton.mp hw
        exact hu
  · rintro H3 ⟨S3, us, hD, h1, h2, h3⟩
    rw [List.take_of_length_le (by simp)] at h1 h2
    exact k D _ us S3 nD hD h1 h2 h3
section
variable {P : Program} {w : World} {K : PySem.W.Frag} {mg : Str → Option Value} {base : Heap}
abbrev s_in_order : Stmt := top 11
theorem sc_in_order : FnScope ["formed", "places", "at", "written"] ["formed"] (defScope s_in_order) := ⟨rfl, rfl, rfl, by decide +kernel, rfl, by decide +kernel, by decide +kernel⟩
abbrev s_formed_part : Stmt := top 12
theorem sc_formed_part : FnScope ["letter", "formed", "children", "written", "more", "child"] ["letter", "formed"] (defScope s_formed_part) := ⟨rfl, rfl, rfl, by decide +kernel, rfl, by decide +kernel, by decide +kernel⟩

def sp_in_order : Sp := fun vs H Q _ => ∃ (fl : Addr) (ps : List Fp), vs = [.ref fl] ∧ H fl = some (.lst (ps.map Fp.v)) ∧ (∀ p ∈ ps, FF H p.t p.v p.as) ∧ ps.length ≤ 100000 ∧
  ∀ (H' : Hp) (p : Addr) (qs : List Fp), Same H H' → H p = none → H' p = some (.lst (qs.map Fp.v)) → qs.Perm ps → SrtW (qs.map Fp.t) → Q (.ref p) H'
theorem ok_in_order (D : Df K mg "in_order" s_in_order ["formed"]) (T : Txt K mg) : G' P w K mg base "in_order" 1 ["formed"] sp_in_order := by
  refine D.ok fun f fd F => F.okX sc_in_order (fun vs H Q E h => ?_) (fun cdv A outer s H vs Q E hr h => ?_)
  · obtain ⟨fl, ps, rfl, _⟩ := h
    rfl
  · obtain ⟨fl, ps, rfl, hf, hF, hn, k⟩ := h
    refine ⟨_, (pss_cons (ps_set (i := 1) sc_in_order.nd rfl (by first | exact Or.inl rfl | exact Or.inr rfl) (pe_callB (cr_sortedDK K hr) (by rfl) T.n_sorted (by decide +kernel) (pa_cons (pe_lc (own := [("at", 2)]) rfl sc_in_order.nd (pi_range1 (by rfl) T.n_range (pa_cons (pe_callB (call_lenK K) (by rfl) T.n_len PySem.boot_len (pa_cons (pv 0) pa_nil)) pa_nil)) (blkOk_by (own := [("at", 2)]) (N := ["formed", "places", "at", "written"]) (sc := defScope s_in_order) (by decide +kernel)) (fun _ _ _ _ _ => (pg_name (i := 2) sc_in_order.nd rfl (by first | exact Or.inl rfl | exact Or.inr rfl))) (fun _ _ _ _ _ => pts_nil) (fun _ _ _ _ _ => (pe_tup (pa_cons (pe_ix (ix_tupK K) (pe_ix (ix_listK K) (pv 0) (pv 2) (fun _ _ => rfl)) pe_int (fun _ _ => rfl)) (pa_cons (pv 2) pa_nil))))) pa_nil)))
  (pss_one (ps_ret (pe_lc (own := [("written", 3), ("at", 2)]) (g := (gTup K 2 (gCons (gName 3) (gCons (gName 2) gNil)))) rfl sc_in_order.nd (pi_listK K (pv 1)) (blkOk_by (own := [("written", 3), ("at", 2)]) (N := ["formed", "places", "at", "written"]) (sc := defScope s_in_order) (by decide +kernel)) (fun _ _ _ _ _ => (pg_tup (by rfl) (pgs_cons (pg_name (i := 3) sc_in_order.nd rfl (by first | exact Or.inl rfl | exact Or.inr rfl)) (pgs_cons (pg_name (i := 2) sc_in_order.nd rfl (by first | exact Or.inl rfl | exact Or.inr rfl)) pgs_nil)))) (fun _ _ _ _ _ => pts_nil) (fun _ _ _ _ _ => (pe_ix (ix_listK K) (pv 0) (pv 2) (fun _ _ => rfl))))))), ?_⟩
    walk_at "rd"
    rw [List.length_map]
    refine ⟨by omega, by omega, ?_⟩
    rw [Int.toNat_natCast]
    refine fun D1 n1 => lc_range (lo := 0) (n := ps.length) (fun i H' => Same H H' ∧ ∃ rs : List Addr, rs.length = i ∧ H' D1 = some (.lst (rs.map V.ref)) ∧ ∀ (j : Nat) (r : Addr), rs[j]? = some r → H' r = some (.tup [tx (ps.getD j d0).t.W, .int j]))
      ⟨same_new n1, [], rfl, upd_same, fun j r z => by simp at z⟩ ?_ ?_
    · rintro i H1 hi ⟨S1, rs, rfl, hD, hrs⟩
      rw [Int.zero_add]
      walk_at "rd"
      have hg : (ps.map Fp.v)[rs.length]? = some (ps.getD rs.length d0).v := by rw [List.getElem?_map, getD_some hi]; rfl
      obtain ⟨a, u, e, ha, hu⟩ := hF _ (List.mem_of_getElem? (getD_some hi))
      refine ⟨_, _, _, _, rfl, rfl, SqL.of (S1 _ _ hf), atI_nat hg, ?_⟩
      rw [e]
      walk_at "rd"
      refine ⟨(by walk_at "sz"), fun p np => ?_⟩
      have nD : D1 ≠ p := ne_of_none hD np
      refine ⟨rs.map V.ref, by rw [upd_ne nD]; exact hD, by rw [List.length_map]; exact Nat.lt_of_le_of_lt (show _ ≤ 100000 by omega) (by decide), ?_⟩
      refine ⟨Same.upd_own (Same.upd_new S1 np) n1, rs ++ [p], by simp, by rw [upd_same, List.map_append]; rfl, fun j r hj => ?_⟩
      have hj' : (j < rs.length ∧ rs[j]? = some r) ∨ (j = rs.length ∧ r = p) := by
        by_cases hlt : j < rs.length
        · rw [List.getElem?_append_left hlt] at hj
          exact .inl ⟨hlt, hj⟩
        · rw [List.getElem?_append_right (by omega)] at hj
          have : j - rs.length = 0 := by
            cases e : j - rs.length with
            | zero => rfl
            | succ n => rw [e] at hj; simp at hj
          rw [this] at hj
          exact .inr ⟨by omega, by simpa using hj.symm⟩
      rcases hj' with ⟨hlt, hj⟩ | ⟨rfl, rfl⟩
      · have hr := hrs j r hj
        rw [upd_ne (ne_of hr hD (fun z => nomatch z)), upd_ne (ne_of_none hr np)]
        exact hr
      · rw [upd_ne nD.symm, upd_same]
    · rintro H1 ⟨S1, rs, hlen, hD, hrs⟩
      walk_at "rd"
      have hps : rs.map V.ref = ((List.range rs.length).map fun j => ((V.ref (rs.getD j 0)), PyData.tuple [.str (txS (ps.getD j d0).t.W), .int j])).map (·.1) := by
        rw [List.map_map]
        refine List.ext_getElem? fun i => ?_
        rw [List.getElem?_map, List.getElem?_map]
        by_cases h : i < rs.length
        · rw [List.getElem?_range h, List.getElem?_eq_getElem h]
          simp [List.getD_eq_getElem?_getD, List.getElem?_eq_getElem h]
        · rw [List.getElem?_eq_none (by omega), List.getElem?_eq_none (by simp; omega)]
          rfl
      rw [hps] at hD
      refine ⟨D1, _, rfl, SqL.of hD, ?_, ?_, ?_, ?_⟩
      · intro q hq
        obtain ⟨j, hj, rfl⟩ := List.mem_map.mp hq
        have hj' : j < rs.length := List.mem_range.mp hj
        have hr := hrs j (rs.getD j 0) (by rw [List.getD_eq_getElem?_getD, List.getElem?_eq_getElem hj']; rfl)
        exact ⟨.tup (SqT.of hr) (.cons (.str _) (.cons (.int _) .nil)), by simp [PyData.depth, PyData.depthAll]⟩
      · intro a ha b hb
        simp only [List.map_map, List.mem_map] at ha hb
        obtain ⟨i, _, rfl⟩ := ha
        obtain ⟨j, _, rfl⟩ := hb
        exact alike_pair _ _ _ _
      · refine .inl fun a ha => ?_
        simp only [List.map_map, List.mem_map] at ha
        obtain ⟨i, _, rfl⟩ := ha
        exact ⟨_, _, rfl⟩
      intro p np
      rw [← PySem.W.sort_maps (r := fun i j => PySem.W.dataLe false (fun p : V × PyData => p.2) (V.ref (rs.getD i 0), PyData.tuple [.str (txS (ps.getD i d0).t.W), .int i]) (V.ref (rs.getD j 0), PyData.tuple [.str (txS (ps.getD j d0).t.W), .int j])) _ (fun _ _ _ _ => rfl)]
      have hpw := PySem.W.sort_pairwise (le := fun i j : Nat => PySem.W.dataLe false (fun p : V × PyData => p.2) (V.ref (rs.getD i 0), PyData.tuple [.str (txS (ps.getD i d0).t.W), .int i]) (V.ref (rs.getD j 0), PyData.tuple [.str (txS (ps.getD j d0).t.W), .int j]))
        (dataLe_total fun i : Nat => PyData.tuple [.str (txS (ps.getD i d0).t.W), .int i]) (List.range rs.length)
      generalize em : (List.range rs.length).mergeSort _ = M at hpw ⊢
      have hM : M.Perm (List.range ps.length) := by rw [← em, ← hlen]; exact List.mergeSort_perm _ _
      have hs : SrtW ((M.map fun j => ps.getD j d0).map Fp.t) := by
        rw [List.map_map]
        exact List.pairwise_map.mpr (hpw.imp fun h => le_pair h)
      have hq : (M.map fun j => ps.getD j d0).Perm ps := by
        have q := hM.map fun j => ps.getD j d0
        rw [map_getD] at q
        exact q
      rw [List.map_map]
      generalize e2 : upd H1 p _ = H2
      have S2 : Same H H2 := by subst e2; exact Same.upd_new S1 np
      have hp2 : H2 p = some (.lst (M.map fun j => V.ref (rs.getD j 0))) := by subst e2; exact upd_same
      have hr2 : ∀ (j : Nat), j < ps.length → H2 (rs.getD j 0) = some (.tup [tx (ps.getD j d0).t.W, .int j]) := fun j hj => by
        have hr := hrs j (rs.getD j 0) (by rw [List.getD_eq_getElem?_getD, List.getElem?_eq_getElem (by omega)]; rfl)
        subst e2
        rw [upd_ne (ne_of_none hr np)]
        exact hr
      refine ⟨_, rfl, _, rfl, ⟨_, SqL.of hp2⟩, fun D2 n2 => lc_list (xs := M.map fun j => V.ref (rs.getD j 0)) (fun i H' => Same H2 H' ∧ H' D2 = some (.lst (((M.map fun j => ps.getD j d0).take i).map Fp.v)))
        ⟨same_new n2, upd_same⟩ (fun i H' _ h => SqL.of (h.1 _ _ hp2)) ?_ ?_⟩
      · rintro i x H3 hx ⟨S3, hD3⟩
        rw [List.getElem?_map] at hx
        obtain ⟨j, hj, rfl⟩ := Option.map_eq_some_iff.mp hx
        have hjn : j < ps.length := List.mem_range.mp (hM.mem_iff.mp (List.mem_of_getElem? hj))
        have hg : (ps.map Fp.v)[j]? = some (ps.getD j d0).v := by rw [List.getElem?_map, getD_some hjn]; rfl
        have hr3 := S3 _ _ (hr2 j hjn)
        walk_at "rd"
        refine ⟨_, _, _, _, rfl, rfl, SqL.of (S3 _ _ (S2 _ _ hf)), atI_nat hg, _, hD3, ?_, Same.upd_own S3 n2, ?_⟩
        · rw [List.length_map, List.length_take]
          refine Nat.lt_of_le_of_lt (Nat.min_le_right _ _) ?_
          rw [hq.length_eq]
          exact Nat.lt_of_le_of_lt hn (by decide)
        · rw [upd_same, List.take_succ, List.map_append, List.getElem?_map, hj]
          rfl
      · rintro H3 ⟨S3, hD3⟩
        refine k _ D2 _ (S2.trans S3) (S2.free n2) ?_ hq hs
        rw [hD3, List.take_of_length_le (by simp)]

/-! ### formed_part -/
def sp_formed_part : Sp := fun vs H Q _ => ∃ (c : Nat) (fl : Addr) (ps : List Fp), vs = [.str ⟨#[c]⟩, .ref fl] ∧ H fl = some (.lst (ps.map Fp.v)) ∧ (∀ p ∈ ps, FF H p.t p.v p.as) ∧ Tr.sizes (ps.map Fp.t) ≤ 100000 ∧
  ∀ (H' : Hp) (v : V) (l : Addr) (qs : List Fp), Same H H' → H l = none → qs.Perm ps → SrtW (qs.map Fp.t) → FF H' (.node c (qs.map Fp.t)) v (l :: qs.flatMap Fp.as) → Q v H'
theorem ok_formed_part (D : Df K mg "formed_part" s_formed_part ["letter", "formed"]) (T : Txt K mg) (G_in_order : G' P w K mg base "in_order" 1 ["formed"] sp_in_order) : G' P w K mg base "formed_part" 2 ["letter", "formed"] sp_formed_part := by
  refine D.ok fun f fd F => F.okX sc_formed_part (fun vs H Q E h => ?_) (fun cdv A outer s H vs Q E hr h => ?_)
  · obtain ⟨c, fl, ps, rfl, _⟩ := h
    rfl
  · obtain ⟨c, fl, ps, rfl, hf, hF, hz, k⟩ := h
    have hlen := Tr.sizes_len (ps.map Fp.t)
    rw [List.length_map] at hlen
    refine ⟨_, (pss_cons (ps_set (i := 2) sc_formed_part.nd rfl (by first | exact Or.inl rfl | exact Or.inr rfl) (pe_cl G_in_order (hr.mono (by omega)) passF (pa_cons (pv 1) pa_nil)))
  (pss_cons (ps_set (i := 3) sc_formed_part.nd rfl (by first | exact Or.inl rfl | exact Or.inr rfl) (pv 0))
  (pss_cons (ps_if (pt_cmp (pc_neNilK K hr (pv 2))) (pss_one (ps_set (i := 3) sc_formed_part.nd rfl (by first | exact Or.inl rfl | exact Or.inr rfl) (pe_op op_add_str (pe_op op_add_str (pe_op op_add_str (pv 0) pe_str) (pe_join pe_str (pe_lc (own := [("more", 4), ("child", 5)]) (g := (gTup K 2 (gCons (gName 4) (gCons (gName 5) gNil)))) rfl sc_formed_part.nd (pi_listK K (pv 2)) (blkOk_by (own := [("more", 4), ("child", 5)]) (N := ["letter", "formed", "children", "written", "more", "child"]) (sc := defScope s_formed_part) (by decide +kernel)) (fun _ _ _ _ _ => (pg_tup (by rfl) (pgs_cons (pg_name (i := 4) sc_formed_part.nd rfl (by first | exact Or.inl rfl | exact Or.inr rfl)) (pgs_cons (pg_name (i := 5) sc_formed_part.nd rfl (by first | exact Or.inl rfl | exact Or.inr rfl)) pgs_nil)))) (fun _ _ _ _ _ => pts_nil) (fun _ _ _ _ _ => (pv 4))))) pe_str))) pss_nil)
  (pss_one (ps_ret (pe_tup (pa_cons (pv 3) (pa_cons (pe_tup (pa_cons (pv 0) (pa_cons (pe_lc (own := [("more", 4), ("child", 5)]) (g := (gTup K 2 (gCons (gName 4) (gCons (gName 5) gNil)))) rfl sc_formed_part.nd (pi_listK K (pv 2)) (blkOk_by (own := [("more", 4), ("child", 5)]) (N := ["letter", "formed", "children", "written", "more", "child"]) (sc := defScope s_formed_part) (by decide +kernel)) (fun _ _ _ _ _ => (pg_tup (by rfl) (pgs_cons (pg_name (i := 4) sc_formed_part.nd rfl (by first | exact Or.inl rfl | exact Or.inr rfl)) (pgs_cons (pg_name (i := 5) sc_formed_part.nd rfl (by first | exact Or.inl rfl | exact Or.inr rfl)) pgs_nil)))) (fun _ _ _ _ _ => pts_nil) (fun _ _ _ _ _ => (pv 5))) pa_nil))) pa_nil)))))))), ?_⟩
    walk_at "rd"
    refine ⟨fl, ps, rfl, hf, hF, by omega, fun H1 p qs S1 np hp hqp hsr => ?_⟩
    have hql : qs.length = ps.length := hqp.length_eq
    have hqF : ∀ q ∈ qs, FF H1 q.t q.v q.as := fun q hq => (hF q (hqp.mem_iff.mp hq)).same S1
    have hqs : Tr.sizes (qs.map Fp.t) ≤ 100000 := by rw [Tr.sizes_perm (hqp.map Fp.t)]; exact hz
    have hW := Tr.Ws_len (qs.map Fp.t)
    /- the last tuple -/
    have fin : ∀ (H2 : Hp) (D : Addr) (us : List Fp) (z : List Nat), Same H1 H2 → H1 D = none → H2 D = some (.lst (us.map Fp.v)) → us.map Fp.t = qs.map Fp.t → us.map Fp.as = qs.map Fp.as → (∀ u ∈ us, TF H2 u.t u.v u.as) → z = (Tr.node c (qs.map Fp.t)).W →
        ∀ t2, H2 t2 = none → ∀ t3, upd H2 t2 (.tup [.str ⟨#[c]⟩, .ref D]) t3 = none → Q (.ref t3) (upd (upd H2 t2 (.tup [.str ⟨#[c]⟩, .ref D])) t3 (.tup [tx z, .ref t2])) := by
      intro H2 D us z S2 nD hD e1 e2 hu hz t2 n2 t3 n3
      have n23 : t3 ≠ t2 := fun q => by rw [q, upd_same] at n3; cases n3
      have n3' : H2 t3 = none := by rw [upd_ne n23] at n3; exact n3
      have Sa : Same H2 (upd (upd H2 t2 (.tup [.str ⟨#[c]⟩, .ref D])) t3 (.tup [tx z, .ref t2])) := Same.upd_new (same_new n2) n3
      refine k _ _ D qs ((S1.trans S2).trans Sa) (S1.free nD) hqp hsr ⟨t3, .ref t2, rfl, by rw [upd_same, hz], ?_⟩
      refine .mk t2 D us (by rw [upd_ne n23.symm, upd_same]; rfl) (Sa _ _ hD) (fun u hu' => (hu u hu').same Sa) e1.symm rfl ?_
      rw [List.flatMap_def, List.flatMap_def]
      show D :: (qs.map Fp.as).flatten = D :: (us.map Fp.as).flatten
      rw [e2]
    walk_at "rd"
    cases qs with
    | nil =>
      refine iteF ?_
      walk_at "rd"
      refine lc_child (a := 4) (b := 5) (qs := []) (show 4 < 6 by decide) (show 5 < 6 by decide) (by decide) hp (fun q hq => by cases hq) (by simp) fun D H2 us S2 nD hD e1 e2 hu => ?_
      refine ⟨(by walk_at "sz"), fun t2 n2 => ⟨(by walk_at "sz"), fun t3 n3 => ?_⟩⟩
      exact fin H2 D us [c] S2 nD hD e1 e2 (fun u h => (hu u h).same S2) (Tr.W_leaf c).symm t2 n2 t3 n3
    | cons q0 qr =>
      have hll : (q0 :: qr).length ≤ 100000 := by omega
      generalize hqq : q0 :: qr = qs at *
      have hne : qs.map Fp.t ≠ [] := by rw [← hqq]; simp
      have hw : (Tr.node c (qs.map Fp.t)).W = c :: 40 :: (((qs.map Fp.t).map Tr.W).flatten ++ [41]) := by rw [Tr.W_node c hne, Tr.Ws_flat]
      rw [Tr.Ws_flat] at hW
      refine ifNe (by rw [← hqq]; simp) ?_
      walk_at "rd"
      refine ⟨by show 1 + 1 ≤ sizeLine; decide, ?_⟩
      walk_at "rd"
      refine lc_more (a := 4) (b := 5) (qs := qs) (show 4 < 6 by decide) (show 5 < 6 by decide) (by decide) hp hqF hll fun D1 H2 S2 nD1 hD1 => ?_
      have hl : ((qs.map Fp.t).map Tr.W).map (fun l => (txS l)) = qs.map fun q => txS q.t.W := by rw [List.map_map, List.map_map]; rfl
      refine ⟨txS [], D1, ((qs.map Fp.t).map Tr.W).map txS, rfl, rfl, .inl (SqL.of ?_), ?_, ?_⟩
      · rw [hD1, List.map_map, List.map_map, List.map_map]
        rfl
      · have e : ((((qs.map Fp.t).map Tr.W).map txS).map (·.length)).sum = (((qs.map Fp.t).map Tr.W).flatten).length := by
          rw [List.map_map, List.length_flatten]
          congr 1
        rw [e]
        show _ + _ * 0 ≤ 16777216
        omega
      rw [join_nil]
      have e40 : (⟨#[c]⟩ : Str) ++ PySem.Str.ofString "(" = txS [c, 40] := txS_app [c] [40]
      have e41 : PySem.Str.ofString ")" = txS [41] := rfl
      rw [e40, e41]
      refine ⟨_, _, rfl, rfl, ?_, ?_⟩
      · rw [txS_len, txS_len]
        exact Nat.le_trans (show _ ≤ 400000 by show 2 + _ ≤ _; omega) (by decide)
      rw [txS_app]
      refine ⟨_, _, rfl, rfl, ?_, ?_⟩
      · rw [txS_len, txS_len]
        exact Nat.le_trans (show _ ≤ 400000 by rw [List.length_append]; show 2 + _ + 1 ≤ _; omega) (by decide)
      rw [txS_app]
      have hqF2 : ∀ q ∈ qs, FF H2 q.t q.v q.as := fun q hq => (hqF q hq).same S2
      walk_at "rd"
      refine lc_child (a := 4) (b := 5) (qs := qs) (show 4 < 6 by decide) (show 5 < 6 by decide) (by decide) (S2 _ _ hp) hqF2 hll fun D H3 us S3 nD hD e1 e2 hu => ?_
      refine ⟨(by walk_at "sz"), fun t2 n2 => ⟨(by walk_at "sz"), fun t3 n3 => ?_⟩⟩
      exact fin H3 D us _ (S2.trans S3) (S2.free nD) hD e1 e2 (fun u h => (hu u h).same S3) (by rw [hw]; rfl) t2 n2 t3 n3
end
end Hy
set_option Elab.async false
set_option linter.all false
set_option maxRecDepth 100000
set_option maxHeartbeats 4000000
namespace Hy
open PySem L2
local macro_rules | `(tactic| walk_at "hp") => `(tactic| first
  | assumption | exact upd_same
  | (refine (upd_ne ?_).trans ?_ <;> first | assumption | (exact Ne.symm (by assumption)) | walk_at "ne" | walk_at "hp")
  | (refine (by assumption : Same _ _) _ _ ?_; assumption))
local macro_rules | `(tactic| walk_at "ne") => `(tactic| first
  | assumption | (exact Ne.symm (by assumption))
  | exact ne_of_none (by assumption) (by assumption) | exact Ne.symm (ne_of_none (by assumption) (by assumption)))
local macro_rules | `(tactic| walk_at "sz") => `(tactic| first | assumption | (show 0 ≤ sizeLine; decide) | (show 1 ≤ sizeLine; decide) | (show 2 ≤ sizeLine; decide) | (show 3 ≤ sizeLine; decide))
local macro_rules | `(tactic| walk_at "ar") => `(tactic| first
  | (with_reducible show (0 : Int) < _; first | decide | omega)
  | (with_reducible show CMul _ _; first | exact Or.inr (And.intro (by decide) (by decide)) | exact Or.inl (And.intro (by decide) (by decide)) | (refine Or.inl (And.intro ?_ ?_) <;> omega) | (refine Or.inr (And.intro ?_ ?_) <;> omega))
  | (with_reducible show CDiv _ _; first | exact And.intro (by decide) (by decide) | (refine And.intro ?_ ?_ <;> omega)))
/- one step of a reading -/
local macro_rules | `(tactic| walk_at "r1") => `(tactic| first
  | refine ⟨_, rfl, ?_⟩
  | refine iteB (by rfl) ?_ | refine iteC (by rfl) ?_
  | refine ⟨_, _, rfl, rfl, ?_⟩
  | refine ⟨rfl, ?_⟩
  | refine ⟨⟨_, rfl⟩, ?_⟩
  | refine ⟨_, _, _, _, true, rfl, .ty _, .base (.str _), kit_ty (by decide +kernel), ?_⟩
  | refine ⟨_, _, _, _, false, rfl, .ty _, .base (.str _), kit_ty (by decide +kernel), ?_⟩
  | refine ⟨_, _, _, _, true, rfl, .ty _, .base (.tup (by walk_at "hp")), kit_ty (by decide +kernel), ?_⟩
  | refine ⟨_, _, _, _, false, rfl, .ty _, .base (.tup (by walk_at "hp")), kit_ty (by decide +kernel), ?_⟩
  | refine ⟨_, _, _, _, true, rfl, .ty _, .base (.lst (by walk_at "hp")), kit_ty (by decide +kernel), ?_⟩
  | refine ⟨_, _, _, _, false, rfl, .ty _, .base (.lst (by walk_at "hp")), kit_ty (by decide +kernel), ?_⟩
  | refine ⟨_, _, rfl, ⟨by walk_at "sz", rfl⟩, ?_⟩
  | refine ⟨_, _, _, _, rfl, rfl, SqT.of (by walk_at "hp"), by rfl, ?_⟩
  | refine ⟨_, _, _, _, rfl, rfl, SqL.of (by walk_at "hp"), by rfl, ?_⟩
  | refine ⟨.inl ⟨rfl, _, SqL.of (by walk_at "hp")⟩, ?_⟩
  | refine ⟨_, _, _, rfl, rfl, (by walk_at "hp"), snoc_get, ?_⟩
  | refine ⟨_, _, _, _, rfl, rfl, (by walk_at "hp"), by rfl, ?_⟩
  | refine ⟨_, _, rfl, SqL.of (by walk_at "hp"), ?_⟩
  | refine ⟨_, _, rfl, SqT.of (by walk_at "hp"), by rfl, ?_⟩
  | refine ⟨_, (_ : List V), rfl, ?_⟩
  | refine ⟨_, _, rfl, .inl ⟨_, (by assumption), rfl⟩, ?_⟩
  | refine ⟨_, _, rfl, .inl ⟨_, SqL.of (by walk_at "hp"), rfl⟩, ?_⟩
  | refine ⟨_, _, rfl, .inr ⟨_, SqT.of (by walk_at "hp"), rfl⟩, ?_⟩
  | refine Or.inl ⟨(_ : Int), rfl, ?_⟩ | refine Or.inr ⟨(_ : Bool), rfl, ?_⟩
  | refine And.intro (by walk_at "ar") ?_)
local macro_rules | `(tactic| walk_at "rd") => `(tactic| repeat walk_at "r1")

theorem Tr.parts_size (t : Tr) : ∀ q ∈ t.parts, q.size ≤ t.size := by
  refine Tr.parts_prop (fun q => q.size ≤ t.size) (fun c ts h u hu => ?_) t (Nat.le_refl _)
  have := Tr.sizes_mem hu
  simp only [Tr.size] at h
  omega
theorem Tr.parts_ok (t : Tr) (h : t.ok = true) : ∀ q ∈ t.parts, q.ok = true := by
  refine Tr.parts_prop (fun q => q.ok = true) (fun c ts h u hu => ?_) t h
  simp only [Tr.ok, Bool.and_eq_true] at h
  exact Tr.oks_iff.mp h.2 u hu
section
variable {P : Program} {w : World} {K : PySem.W.Frag} {mg : Str → Option Value} {base : Heap}
abbrev s_formed_tree : Stmt := top 13
theorem sc_formed_tree : FnScope ["tree", "found", "part", "at"] ["tree"] (defScope s_formed_tree) := ⟨rfl, rfl, rfl, by decide +kernel, rfl, by decide +kernel, by decide +kernel⟩
abbrev s_written_tree : Stmt := top 14
theorem sc_written_tree : FnScope ["tree"] ["tree"] (defScope s_written_tree) := ⟨rfl, rfl, rfl, by decide +kernel, rfl, by decide +kernel, by decide +kernel⟩
abbrev s_from_heap : Stmt := top 15
theorem sc_from_heap : FnScope ["letter", "heap", "children", "child", "many"] ["letter", "heap"] (defScope s_from_heap) := ⟨rfl, rfl, rfl, by decide +kernel, rfl, by decide +kernel, by decide +kernel⟩

def sp_formed_tree : Sp := fun vs H Q _ => ∃ v t as, vs = [v] ∧ TF H t v as ∧ t.ok = true ∧ t.size ≤ 30000 ∧
  ∀ (H' : Hp) (v' : V) (as' : List Addr), Same H H' → FF H' t.form v' as' → (∀ a ∈ as', H a = none) → as'.Nodup → Q v' H'
theorem ok_formed_tree (D : Df K mg "formed_tree" s_formed_tree ["tree"]) (T : Txt K mg) (G_parts_in_order : G' P w K mg base "parts_in_order" 1 ["tree"] sp_parts_in_order) (G_formed_part : G' P w K mg base "formed_part" 2 ["letter", "formed"] sp_formed_part) :
    G' P w K mg base "formed_tree" 3 ["tree"] sp_formed_tree := by
  refine D.ok fun f fd F => F.okX sc_formed_tree (fun vs H Q E h => ?_) (fun cdv A outer s H vs Q E hr h => ?_)
  · obtain ⟨v, t, as, rfl, _⟩ := h
    rfl
  · obtain ⟨v, t, as, rfl, ht, hok, hsz, k⟩ := h
    refine ⟨_, (pss_cons (ps_set (i := 1) sc_formed_tree.nd rfl (by first | exact Or.inl rfl | exact Or.inr rfl) (pe_lst pa_nil))
  (pss_cons (ps_for (passes_of rfl) rfl (pi_listK K (pe_cl G_parts_in_order (hr.mono (by omega)) passF (pa_cons (pv 0) pa_nil))) (pg_name (i := 2) sc_formed_tree.nd rfl (by first | exact Or.inl rfl | exact Or.inr rfl)) (pss_cons (ps_set (i := 3) sc_formed_tree.nd rfl (by first | exact Or.inl rfl | exact Or.inr rfl) (pe_op op_sub (pe_callB (call_lenK K) (by rfl) T.n_len PySem.boot_len (pa_cons (pv 1) pa_nil)) (pe_callB (call_lenK K) (by rfl) T.n_len PySem.boot_len (pa_cons (pe_ix (ix_tupK K) (pv 2) pe_int (fun _ _ => rfl)) pa_nil))))
  (pss_one (ps_set (i := 1) sc_formed_tree.nd rfl (by first | exact Or.inl rfl | exact Or.inr rfl) (pe_op op_cat (pe_slice (sl_listK K) (pv 1) po_none (po_some (pv 3))) (pe_lst (pa_cons (pe_cl G_formed_part (hr.mono (by omega)) passF (pa_cons (pe_ix (ix_tupK K) (pv 2) pe_int (fun _ _ => rfl)) (pa_cons (pe_slice (sl_listK K) (pv 1) (po_some (pv 3)) po_none) pa_nil))) pa_nil)))))))
  (pss_one (ps_ret (pe_ix (ix_listK K) (pv 1) pe_int (fun _ _ => rfl)))))), ?_⟩
    walk_at "rd"
    refine ⟨(by walk_at "sz"), fun fl0 nf => ?_⟩
    generalize e0 : upd H fl0 _ = H0
    obtain ⟨S0, hf0⟩ := newF nf e0
    walk_at "rd"
    refine ⟨_, t, as, rfl, ht.same S0, by omega, fun H1 pl ws S1 npl hpl ⟨rs, ers, ews, hrs⟩ => ?_⟩
    subst ews
    have hrl : rs.length = t.size := by rw [← Tr.parts_len, ers, List.length_map]
    have S01 : Same H H1 := S0.trans S1
    refine ⟨pl, rfl, ⟨_, SqL.of hpl⟩, for_list (K := K) (a := pl) (xs := rs.map Fp.v) (fun i σ H' => ∃ (fl : Addr) (ds : List Fp) (x3 x4 : Option V), σ = [some v, some (.ref fl), x3, x4] ∧ Same H1 H' ∧ H' fl = some (.lst (ds.map Fp.v)) ∧
        (∀ d ∈ ds, FF H' d.t.form d.v d.as) ∧ (∀ a ∈ ds.flatMap Fp.as, H a = none) ∧ (ds.flatMap Fp.as).Nodup ∧ Post (ds.map Fp.t) (t.parts.drop i) [t] ∧ ds.length ≤ i)
      ⟨fl0, [], none, none, rfl, Same.refl _, S1 _ _ hf0, fun d hd => by (cases hd), fun a ha => by (cases ha), List.nodup_nil, Post.all t, Nat.le_refl _⟩ (fun i σ H' _ ⟨_, _, _, _, _, S, _⟩ => SqL.of (S _ _ hpl)) ?_ ?_⟩
    · rintro i x σ H2 hx ⟨fl, ds, x3, x4, rfl, S2, hf, hds, hfr, hnd, hpo, hdi⟩
      rw [List.getElem?_map] at hx
      obtain ⟨⟨qv, q, qa⟩, hi, rfl⟩ := Option.map_eq_some_iff.mp hx
      have hil : i < rs.length := (List.getElem?_eq_some_iff.mp hi).1
      have hq : TF H0 q qv qa := hrs _ (List.mem_of_getElem? hi)
      have hqm : q ∈ t.parts := by rw [ers]; exact List.mem_map.mpr ⟨_, List.mem_of_getElem? hi, rfl⟩
      have hdrop : t.parts.drop i = q :: t.parts.drop (i + 1) := by
        rw [List.drop_eq_getElem_cons (by rw [Tr.parts_len]; omega)]
        congr 1
        have z : t.parts[i]? = some q := by rw [ers, List.getElem?_map, hi]; rfl
        exact (List.getElem?_eq_some_iff.mp z).2
      rw [hdrop] at hpo
      obtain ⟨ss, ess, hpo'⟩ := hpo.out
      obtain ⟨d1, d2, rfl, e1, e2⟩ := List.map_eq_append_iff.mp ess
      obtain ⟨a, l, us, ha, hl, hu, et, rfl, has⟩ := hq.out
      have hqs := Tr.parts_size t q hqm
      have hqo := Tr.parts_ok t hok q hqm
      have hul : us.length = d2.length := by
        have z := congrArg List.length (et.symm.trans e2.symm)
        rw [List.length_map, List.length_map] at z
        exact z
      have S02 : Same H0 H2 := S1.trans S2
      walk_at "rd"
      have eat : (fun i j : Int => V.int (i - j)) ((List.map Fp.v (d1 ++ d2)).length : Int) ((List.map (fun x => x.fst) us).length : Int) = .int (d1.length : Int) := by
        show V.int _ = _
        rw [List.length_map, List.length_map, List.length_append, hul]
        congr 1
        omega
      intro p1 n1
      rw [cut_take (n := d1.length) (by rw [List.length_map, List.length_map, List.length_append, hul]; omega) (by rw [List.length_map, List.length_append]; omega), List.map_append, List.take_left' (by rw [List.length_map])]
      generalize e3 : upd H2 p1 _ = H3
      obtain ⟨S23, hp1⟩ := newF n1 e3
      have ha3 : H3 a = some (.tup [.str ⟨#[q.c]⟩, .ref l]) := S23 _ _ (S02 _ _ ha)
      have hf3 := S23 _ _ hf
      rw [List.map_append] at hf3
      walk_at "rd"
      intro p2 n2
      rw [cut_drop (n := d1.length) (by rw [List.length_append, List.length_map, List.length_map, List.length_map, hul]; omega) (by rw [List.length_append, List.length_map]; omega), List.drop_left' (by rw [List.length_map])]
      generalize e4 : upd H3 p2 _ = H4
      obtain ⟨S34, hp2⟩ := newF n2 e4
      have S24 : Same H2 H4 := S23.trans S34
      walk_at "rd"
      have hmap : (d2.map fun d => ((d.v, d.t.form, d.as) : Fp)).map Fp.t = Tr.forms (d2.map Fp.t) := by
        rw [Tr.forms_map, List.map_map, List.map_map]
        rfl
      refine ⟨q.c, p2, d2.map fun d => (d.v, d.t.form, d.as), rfl, ?_, fun p hp => ?_, ?_, fun H5 v5 l5 qs S45 n5 hpm hsr hFF => ?_⟩
      · rw [hp2, List.map_map]
        rfl
      · obtain ⟨d, hd, rfl⟩ := List.mem_map.mp hp
        exact (hds d (List.mem_append_right _ hd)).same S24
      · rw [hmap, Tr.forms_sizes, e2]
        rw [q.eta, Tr.size] at hqs
        omega
      have htold : Tr.tolds (Tr.forms (d2.map Fp.t)) := Tr.forms_told _ (by
        rw [e2]
        rw [q.eta, Tr.ok, Bool.and_eq_true] at hqo
        exact hqo.2)
      have heq : qs.map Fp.t = sortT (Tr.forms (d2.map Fp.t)) := by
        have pm := hpm.map Fp.t
        rw [hmap] at pm
        refine srt_uniq hsr (sortT_srt _) (pm.trans (sortT_perm _).symm) (Tr.tolds_iff.mpr fun t ht => Tr.tolds_iff.mp htold t (pm.mem_iff.mp ht))
      have hform : Tr.node q.c (qs.map Fp.t) = q.form := by
        rw [heq, e2]
        cases q
        rfl
      rw [hform] at hFF
      have S25 : Same H2 H5 := S24.trans S45
      have S05 : Same H H5 := S01.trans (S2.trans S25)
      have hasp : (qs.flatMap Fp.as).Perm (d2.flatMap Fp.as) := by
        have z := hpm.flatMap_right Fp.as
        rw [List.flatMap_map] at z
        exact z
      walk_at "rd"
      refine ⟨(by walk_at "sz"), fun p3 n3 => ?_⟩
      generalize e6 : upd H5 p3 _ = H6
      obtain ⟨S56, hp3⟩ := newF n3 e6
      refine ⟨p1, p3, _, _, rfl, rfl, S56 _ _ (S45 _ _ (S34 _ _ hp1)), hp3, ?_, fun p4 n4 => ?_⟩
      · rw [List.length_map]
        rw [List.length_append] at hdi
        exact Nat.le_trans (show _ ≤ 100000 by show _ + 1 ≤ _; omega) (by decide)
      generalize e7 : upd H6 p4 _ = H7
      obtain ⟨S67, hp4⟩ := newF n4 e7
      have S27 : Same H2 H7 := S25.trans (S56.trans S67)
      refine ⟨p4, d1 ++ [(v5, q, l5 :: qs.flatMap Fp.as)], _, _, rfl, S2.trans S27, ?_, ?_, ?_, ?_, ?_, ?_⟩
      · rw [hp4, List.map_append]
        rfl
      · intro d hd
        rcases List.mem_append.mp hd with hd | hd
        · exact (hds d (List.mem_append_left _ hd)).same S27
        · obtain rfl := List.mem_singleton.mp hd
          exact hFF.same (S56.trans S67)
      · intro b hb
        rw [List.flatMap_append] at hb hfr
        rcases List.mem_append.mp hb with hb | hb
        · exact hfr b (List.mem_append_left _ hb)
        · have hb' : b ∈ l5 :: qs.flatMap Fp.as := by simpa only [List.flatMap_cons, List.flatMap_nil, List.append_nil] using hb
          rcases List.mem_cons.mp hb' with rfl | hb
          · exact (S01.trans (S2.trans S24)).free n5
          · exact hfr b (List.mem_append_right _ (hasp.mem_iff.mp hb))
      · rw [List.flatMap_append] at hnd ⊢
        have hl5 : l5 ∉ d1.flatMap Fp.as ++ d2.flatMap Fp.as := by
          intro hm
          rw [← List.flatMap_append] at hm
          obtain ⟨d, hd, hb⟩ := List.mem_flatMap.mp hm
          obtain ⟨xs, z⟩ := (hds d hd).live l5 hb
          rw [S24 _ _ z] at n5
          cases n5
        have z : (d1.flatMap Fp.as ++ (l5 :: qs.flatMap Fp.as)).Perm (l5 :: (d1.flatMap Fp.as ++ d2.flatMap Fp.as)) := List.perm_middle.trans ((hasp.append_left _).cons _)
        have z2 := z.nodup_iff.mpr (List.nodup_cons.mpr ⟨hl5, hnd⟩)
        simpa using z2
      · rw [List.map_append, e1]
        exact hpo'
      · rw [List.length_append, List.length_singleton]
        rw [List.length_append] at hdi
        have : ¬ d2.length = 0 ∨ d2.length = 0 := by omega
        omega
    · rintro σ H2 ⟨fl, ds, x3, x4, rfl, S2, hf, hds, hfr, hnd, hpo, hdi⟩
      rw [List.drop_of_length_le (by rw [Tr.parts_len, List.length_map, hrl]; exact Nat.le_refl _)] at hpo
      have e := hpo.end_
      match ds, e with
      | [d], e =>
        obtain rfl : d.t = t := by simpa using e
        walk_at "rd"
        exact k _ _ _ (S01.trans S2) (hds d (by simp)) (by simpa using hfr) (by simpa using hnd)

def sp_written_tree : Sp := fun vs H Q _ => ∃ v t as, vs = [v] ∧ TF H t v as ∧ t.ok = true ∧ t.size ≤ 30000 ∧ ∀ H' : Hp, Same H H' → Q (tx t.form.W) H'
theorem ok_written_tree (D : Df K mg "written_tree" s_written_tree ["tree"]) (T : Txt K mg) (G_need_tree : G' P w K mg base "need_tree" 4 ["thing"] sp_need_tree) (G_formed_tree : G' P w K mg base "formed_tree" 3 ["tree"] sp_formed_tree) :
    G' P w K mg base "written_tree" 5 ["tree"] sp_written_tree := by
  refine D.ok fun f fd F => F.okX sc_written_tree (fun vs H Q E h => ?_) (fun cdv A outer s H vs Q E hr h => ?_)
  · obtain ⟨v, t, as, rfl, _⟩ := h
    rfl
  · obtain ⟨v, t, as, rfl, ht, hok, hsz, k⟩ := h
    refine ⟨_, (pss_cons (ps_expr (pe_cl G_need_tree (hr.mono (by omega)) (passW (takes_of rfl rfl rfl rfl) (fun _ _ _ _ z => z)) (pa_cons (pv 0) pa_nil)))
  (pss_one (ps_ret (pe_ix (ix_tupK K) (pe_cl G_formed_tree (hr.mono (by omega)) passF (pa_cons (pv 0) pa_nil)) pe_int (fun _ _ => rfl))))), ?_⟩
    walk_at "rd"
    refine ⟨_, t, as, rfl, ht, hok, by omega, fun H1 S1 => ?_⟩
    walk_at "rd"
    refine ⟨_, t, as, rfl, ht.same S1, hok, hsz, fun H2 v' as' S2 ⟨a, u, e, ha, hu⟩ _ _ => ?_⟩
    subst e
    walk_at "rd"
    exact k _ (S1.trans S2)
theorem rep_one {α : Type} (m : Nat) (v : α) : (List.replicate m [v]).flatten = List.replicate m v := by
  induction m with
  | zero => rfl
  | succ n ih => rw [List.replicate_succ, List.flatten_cons, ih]; rfl
/-- a child, and how often -/
abbrev Hv := Fp × Addr × Nat
def kids (hs : List Hv) : List Fp := hs.flatMap fun h => List.replicate h.2.2 h.1
theorem kids_snoc (hs : List Hv) (h : Hv) : kids (hs ++ [h]) = kids hs ++ List.replicate h.2.2 h.1 := by simp [kids]
theorem kids_take (hs : List Hv) (i : Nat) : (kids (hs.take i)).length ≤ (kids hs).length := by
  conv => rhs; rw [← List.take_append_drop i hs]
  unfold kids
  rw [List.flatMap_append, List.length_append]
  omega
def sp_from_heap : Sp := fun vs H Q _ => ∃ (c : Nat) (hl : Addr) (hs : List Hv), vs = [.str ⟨#[c]⟩, .ref hl] ∧ isL c = true ∧ H hl = some (.lst (hs.map fun h => V.ref h.2.1)) ∧ (∀ h ∈ hs, H h.2.1 = some (.tup [h.1.v, .int (h.2.2 : Int)]) ∧ TF H h.1.t h.1.v h.1.as ∧ h.1.t.ok = true ∧ 1 ≤ h.2.2) ∧
  (Tr.node c ((kids hs).map Fp.t)).size ≤ 30000 ∧ ∀ (H' : Hp) (v' : V) (as' : List Addr), Same H H' → TF H' (Tr.node c ((kids hs).map Fp.t)).form v' as' → (∀ a ∈ as', H a = none) → as'.Nodup → Q v' H'
theorem ok_from_heap (D : Df K mg "from_heap" s_from_heap ["letter", "heap"]) (T : Txt K mg) (G_is_letter : G' P w K mg base "is_letter" 1 ["thing"] sp_is_letter) (G_need_tree : G' P w K mg base "need_tree" 4 ["thing"] sp_need_tree) (G_formed_tree : G' P w K mg base "formed_tree" 3 ["tree"] sp_formed_tree) :
    G' P w K mg base "from_heap" 5 ["letter", "heap"] sp_from_heap := by
  refine D.ok fun f fd F => F.okX sc_from_heap (fun vs H Q E h => ?_) (fun cdv A outer s H vs Q E hr h => ?_)
  · obtain ⟨c, hl, hs, rfl, _⟩ := h
    rfl
  · obtain ⟨c, hl, hs, rfl, hc, hH, hhs, hsz, k⟩ := h
    refine ⟨_, (pss_cons (ps_if (pt_not (pt_val (pe_cl G_is_letter (hr.mono (by omega)) passF (pa_cons (pv 0) pa_nil)))) (pss_one (ps_rs T.x_NoTree rfl (takes_of rfl rfl rfl rfl))) pss_nil)
  (pss_cons (ps_set (i := 2) sc_from_heap.nd rfl (by first | exact Or.inl rfl | exact Or.inr rfl) (pe_lst pa_nil))
  (pss_cons (ps_for (passes_of rfl) rfl (pi_listK K (pv 1)) (pg_tup (by rfl) (pgs_cons (pg_name (i := 3) sc_from_heap.nd rfl (by first | exact Or.inl rfl | exact Or.inr rfl)) (pgs_cons (pg_name (i := 4) sc_from_heap.nd rfl (by first | exact Or.inl rfl | exact Or.inr rfl)) pgs_nil))) (pss_cons (ps_expr (pe_cl G_need_tree (hr.mono (by omega)) (passW (takes_of rfl rfl rfl rfl) (fun _ _ _ _ z => z)) (pa_cons (pv 3) pa_nil)))
  (pss_cons (ps_if (pt_cmpR op_lt (pv 4) pe_int (nomark _)) (pss_one (ps_rs T.x_NoTree rfl (takes_of rfl rfl rfl rfl))) pss_nil)
  (pss_one (ps_expr (cbm K (pe_bm PySem.F.plainAttrs_list PySem.F.slot_list_extend PySem.F.type_list_extend mt_extend (pv 2) (pa_cons (pe_op op_rep (pe_lst (pa_cons (pv 3) pa_nil)) (pv 4)) pa_nil))))))))
  (pss_one (ps_ret (pe_ix (ix_tupK K) (pe_cl G_formed_tree (hr.mono (by omega)) passF (pa_cons (pe_tup (pa_cons (pv 0) (pa_cons (pv 2) pa_nil))) pa_nil)) pe_int (fun _ _ => rfl))))))), ?_⟩
    have hkl : (kids hs).length ≤ 30000 := by
      have := Tr.sizes_len ((kids hs).map Fp.t)
      rw [List.length_map] at this
      simp only [Tr.size] at hsz
      omega
    have hks : ∀ p ∈ kids hs, ∃ h ∈ hs, p = h.1 := fun p hp => by
      obtain ⟨h, hm, z⟩ := List.mem_flatMap.mp hp
      exact ⟨h, hm, (List.mem_replicate.mp z).2⟩
    have hkz : ∀ p ∈ kids hs, p.t.size ≤ 30000 := fun p hp => by
      have := Tr.sizes_mem (List.mem_map_of_mem (f := Fp.t) hp)
      simp only [Tr.size] at hsz
      omega
    walk_at "rd"
    rw [hc]
    walk_at "rd"
    refine ⟨(by walk_at "sz"), fun cl nc => ?_⟩
    generalize e0 : upd H cl _ = H0
    obtain ⟨S0, hc0⟩ := newF nc e0
    walk_at "rd"
    refine ⟨⟨_, SqL.of (S0 _ _ hH)⟩, for_list (K := K) (a := hl) (xs := hs.map fun h => V.ref h.2.1) (fun i σ H' => ∃ (x3 x4 : Option V), σ = [some (.str ⟨#[c]⟩), some (.ref hl), some (.ref cl), x3, x4] ∧ Same H H' ∧ H' cl = some (.lst ((kids (hs.take i)).map Fp.v)))
      ⟨none, none, rfl, S0, hc0⟩ (fun i σ H' _ ⟨_, _, _, S, _⟩ => SqL.of (S _ _ hH)) ?_ ?_⟩
    · rintro i x σ H2 hx ⟨x3, x4, rfl, S2, hcl⟩
      rw [List.getElem?_map] at hx
      obtain ⟨⟨⟨v, t, as⟩, pa, m⟩, hi, rfl⟩ := Option.map_eq_some_iff.mp hx
      obtain ⟨h1, h2, h3, h4⟩ := hhs _ (List.mem_of_getElem? hi)
      have hm : (v, t, as) ∈ kids hs := List.mem_flatMap.mpr ⟨_, List.mem_of_getElem? hi, List.mem_replicate.mpr ⟨by show m ≠ 0; have : 1 ≤ m := h4; omega, rfl⟩⟩
      have hz : t.size ≤ 30000 := hkz _ hm
      have h1' := S2 _ _ h1
      have hmk : m + (kids (hs.take i)).length ≤ 30000 := by
        have z := kids_take hs (i + 1)
        rw [List.take_succ, hi] at z
        have z2 := kids_snoc (hs.take i) ((v, t, as), pa, m)
        rw [show (some ((v, t, as), pa, m) : Option Hv).toList = [((v, t, as), pa, m)] from rfl, z2, List.length_append, List.length_replicate] at z
        have : (((v, t, as), pa, m) : Hv).2.2 = m := rfl
        omega
      walk_at "rd"
      refine ⟨_, t, as, rfl, h2.same S2, h3, by omega, fun H3 S3 => ?_⟩
      have hm1 : 1 ≤ m := h4
      walk_at "rd"
      refine iteC (decide_eq_false (by show ¬ ((m : Int) < 1); omega)) ?_
      have S23 : Same H H3 := S2.trans S3
      have hcl3 := S3 _ _ hcl
      walk_at "rd"
      refine ⟨(by walk_at "sz"), fun p1 n1 => ?_⟩
      generalize e4 : upd H3 p1 _ = H4
      obtain ⟨S34, hp1⟩ := newF n1 e4
      walk_at "rd"
      refine ⟨_, _, _, rfl, rfl, hp1, by show -(2 ^ 63) ≤ (m : Int); omega, by show (m : Int) < 2 ^ 63; omega, ?_, fun p2 n2 => ?_⟩
      · rw [Int.toNat_natCast]
        exact Nat.le_trans (show _ ≤ 100000 by show 1 * m ≤ _; omega) (by decide)
      rw [Int.toNat_natCast]
      generalize e5 : upd H4 p2 _ = H5
      obtain ⟨S45, hp2⟩ := newF n2 e5
      have S5 : Same H H5 := S23.trans (S34.trans S45)
      have hcl5 := S45 _ _ (S34 _ _ (S3 _ _ hcl))
      have hp2' : H5 p2 = some (.lst (List.replicate m v)) := by rw [hp2]; exact congrArg (fun z => some (HO.lst z)) (rep_one m v)
      walk_at "rd"
      refine ⟨_, _, _, _, rfl, rfl, hcl5, hp2', ?_, ?_⟩
      · rw [List.length_map, List.length_replicate]
        exact Nat.le_trans (show _ ≤ 100000 by omega) (by decide)
      refine ⟨_, _, rfl, Same.upd_own S5 nc, ?_⟩
      rw [upd_same, List.take_succ, hi, show (some ((v, t, as), pa, m) : Option Hv).toList = [((v, t, as), pa, m)] from rfl, kids_snoc, List.map_append, List.map_replicate]
    · rintro σ H2 ⟨x3, x4, rfl, S2, hcl⟩
      rw [List.length_map, List.take_length] at hcl
      walk_at "rd"
      refine ⟨(by walk_at "sz"), fun tp nt => ?_⟩
      generalize e3 : upd H2 tp _ = H3
      obtain ⟨S3, ht3⟩ := newF nt e3
      have S13 : Same H H3 := S2.trans S3
      refine ⟨_, .node c ((kids hs).map Fp.t), cl :: (kids hs).flatMap Fp.as, rfl, .mk tp cl (kids hs) ht3 (S3 _ _ hcl) (fun p hp => ?_) rfl rfl rfl, ?_, hsz, fun H4 v' as' S4 ⟨a, u, e, ha, hu⟩ hfr hnd => ?_⟩
      · obtain ⟨h, hm, rfl⟩ := hks p hp
        exact (hhs h hm).2.1.same S13
      · rw [Tr.ok, hc, Bool.true_and]
        refine Tr.oks_iff.mpr fun t ht => ?_
        obtain ⟨p, hp, rfl⟩ := List.mem_map.mp ht
        obtain ⟨h, hm, rfl⟩ := hks p hp
        exact (hhs h hm).2.2.1
      · subst e
        walk_at "rd"
        exact k _ _ _ (S13.trans S4) hu (fun a ha => S13.free (hfr a ha)) hnd
end
end Hy
set_option Elab.async false
set_option linter.all false
set_option maxRecDepth 100000
set_option maxHeartbeats 4000000
namespace Hy
open PySem L2
local macro_rules | `(tactic| walk_at "hp") => `(tactic| first
  | assumption | exact upd_same
  | (refine (upd_ne ?_).trans ?_ <;> first | assumption | (exact Ne.symm (by assumption)) | walk_at "ne" | walk_at "hp")
  | (refine (by assumption : Same _ _) _ _ ?_; assumption))
local macro_rules | `(tactic| walk_at "ne") => `(tactic| first
  | assumption | (exact Ne.symm (by assumption))
  | exact ne_of_none (by assumption) (by assumption) | exact Ne.symm (ne_of_none (by assumption) (by assumption)))
local macro_rules | `(tactic| walk_at "sz") => `(tactic| first | assumption | (show 0 ≤ sizeLine; decide) | (show 1 ≤ sizeLine; decide) | (show 2 ≤ sizeLine; decide) | (show 3 ≤ sizeLine; decide))
local macro_rules | `(tactic| walk_at "ar") => `(tactic| first
  | (with_reducible show (0 : Int) < _; first | decide | omega)
  | (with_reducible show CMul _ _; first | exact Or.inr (And.intro (by decide) (by decide)) | exact Or.inl (And.intro (by decide) (by decide)) | (refine Or.inl (And.intro ?_ ?_) <;> omega) | (refine Or.inr (And.intro ?_ ?_) <;> omega))
  | (with_reducible show CDiv _ _; first | exact And.intro (by decide) (by decide) | (refine And.intro ?_ ?_ <;> omega)))
/- one step of a reading -/
local macro_rules | `(tactic| walk_at "r1") => `(tactic| first
  | refine ⟨_, rfl, ?_⟩
  | refine iteB (by rfl) ?_ | refine iteC (by rfl) ?_
  | refine ⟨_, _, rfl, rfl, ?_⟩
  | refine ⟨rfl, ?_⟩
  | refine ⟨⟨_, rfl⟩, ?_⟩
  | refine ⟨_, _, _, _, true, rfl, .ty _, .base (.str _), kit_ty (by decide +kernel), ?_⟩
  | refine ⟨_, _, _, _, false, rfl, .ty _, .base (.str _), kit_ty (by decide +kernel), ?_⟩
  | refine ⟨_, _, _, _, true, rfl, .ty _, .base (.tup (by walk_at "hp")), kit_ty (by decide +kernel), ?_⟩
  | refine ⟨_, _, _, _, false, rfl, .ty _, .base (.tup (by walk_at "hp")), kit_ty (by decide +kernel), ?_⟩
  | refine ⟨_, _, _, _, true, rfl, .ty _, .base (.lst (by walk_at "hp")), kit_ty (by decide +kernel), ?_⟩
  | refine ⟨_, _, _, _, false, rfl, .ty _, .base (.lst (by walk_at "hp")), kit_ty (by decide +kernel), ?_⟩
  | refine ⟨_, _, rfl, ⟨by walk_at "sz", rfl⟩, ?_⟩
  | refine ⟨_, _, _, _, rfl, rfl, SqT.of (by walk_at "hp"), by rfl, ?_⟩
  | refine ⟨_, _, _, _, rfl, rfl, SqL.of (by walk_at "hp"), by rfl, ?_⟩
  | refine ⟨.inl ⟨rfl, _, SqL.of (by walk_at "hp")⟩, ?_⟩
  | refine ⟨_, _, _, rfl, rfl, (by walk_at "hp"), snoc_get, ?_⟩
  | refine ⟨_, _, _, _, rfl, rfl, (by walk_at "hp"), by rfl, ?_⟩
  | refine ⟨_, _, rfl, SqL.of (by walk_at "hp"), ?_⟩
  | refine ⟨_, _, rfl, SqT.of (by walk_at "hp"), by rfl, ?_⟩
  | refine ⟨_, (_ : List V), rfl, ?_⟩
  | refine ⟨_, _, rfl, .inl ⟨_, (by assumption), rfl⟩, ?_⟩
  | refine ⟨_, _, rfl, .inl ⟨_, SqL.of (by walk_at "hp"), rfl⟩, ?_⟩
  | refine ⟨_, _, rfl, .inr ⟨_, SqT.of (by walk_at "hp"), rfl⟩, ?_⟩
  | refine Or.inl ⟨(_ : Int), rfl, ?_⟩ | refine Or.inr ⟨(_ : Bool), rfl, ?_⟩
  | refine And.intro (by walk_at "ar") ?_)
local macro_rules | `(tactic| walk_at "rd") => `(tactic| repeat walk_at "r1")

def leL (a b : List Nat) : Bool := decide (a ≤ b)
theorem leL_total (a b : List Nat) : (leL a b || leL b a) = true := by
  unfold leL
  rcases List.le_total a b with h | h <;> simp [h]
theorem leL_trans (a b c : List Nat) (h1 : leL a b = true) (h2 : leL b c = true) : leL a c = true := decide_eq_true (List.le_trans (of_decide_eq_true h1) (of_decide_eq_true h2))
theorem leL_anti {a b : List Nat} (h1 : leL a b = true) (h2 : leL b a = true) : a = b := List.le_antisymm (of_decide_eq_true h1) (of_decide_eq_true h2)
def sortL (ws : List (List Nat)) : List (List Nat) := ws.mergeSort leL
theorem sortL_iff (ws : List (List Nat)) : sortL ws = ws ↔ ws.Pairwise fun a b => leL a b = true := by
  constructor
  · intro h
    rw [← h]
    exact List.pairwise_mergeSort leL_trans leL_total ws
  · intro h
    exact List.mergeSort_of_pairwise h
theorem srt_strs (ws : List (List Nat)) : ((ws.map fun l => (tx l, PyData.str (txS l))).mergeSort (PySem.W.dataLe false fun p : V × PyData => p.2)).map (·.1) = (sortL ws).map tx := by
  rw [← PySem.W.sort_maps (r := leL) (fun l => (tx l, PyData.str (txS l))) (fun a _ b _ => ?_), List.map_map]
  · rfl
  · show leL a b = PySem.W.dataLe false (fun l : List Nat => PyData.str (txS l)) a b
    rw [PySem.W.dataLe_str]
    show leL a b = decide ((txS a).cps.toList ≤ (txS b).cps.toList)
    simp [leL]
theorem fst_strs (ws : List (List Nat)) : (ws.map fun l => (tx l, PyData.str (txS l))).map (·.1) = ws.map tx := by rw [List.map_map]; rfl
theorem txs_strs (ws : List (List Nat)) : (ws.map txS).map V.str = ws.map tx := by rw [List.map_map]; rfl
theorem eqv_strs : ∀ (a b : List (List Nat)), PyData.eqvAll (a.map fun l => PyData.str (txS l)) (b.map fun l => PyData.str (txS l)) = decide (a = b)
  | [], [] => by simp [PyData.eqvAll]
  | [], _ :: _ => by simp [PyData.eqvAll]
  | _ :: _, [] => by simp [PyData.eqvAll]
  | x :: a, y :: b => by
    have e : (txS x = txS y) = (x = y) := by
      refine propext ⟨fun h => ?_, fun h => by rw [h]⟩
      simpa using congrArg (fun s : Str => s.cps.toList) h
    simp only [List.map_cons, PyData.eqvAll, eqv_strs a b, PyData.eqv]
    by_cases h1 : x = y
    · by_cases h2 : a = b <;> simp [h1, h2]
    · have : ¬ txS x = txS y := by rw [e]; exact h1
      simp [h1, this]
theorem plain_strs : ∀ a : List (List Nat), PyData.plainAll (a.map fun l => PyData.str (txS l)) = true
  | [] => rfl
  | x :: a => by simp only [List.map_cons, PyData.plainAll, PyData.plain, plain_strs a, Bool.and_self]
theorem depth_strs : ∀ a : List (List Nat), PyData.depthAll (a.map fun l => PyData.str (txS l)) = 0
  | [] => rfl
  | x :: a => by simp only [List.map_cons, PyData.depthAll, PyData.depth, depth_strs a]; rfl
theorem dp_strs {K : PySem.W.Frag} {H : Hp} {p : Addr} {a : List (List Nat)} (h : H p = some (.lst (a.map tx))) : Dp K H (.ref p) (.list (a.map fun l => PyData.str (txS l))) := .lst (SqL.of h) (dpAll_of _ _ fun l _ => .str _)
theorem srtW_iff (ts : List Tr) : SrtW ts ↔ (ts.map Tr.W).Pairwise fun a b => leL a b = true := by rw [List.pairwise_map]; rfl
section
variable {P : Program} {w : World} {K : PySem.W.Frag} {mg : Str → Option Value} {base : Heap}
abbrev s_closed_part : Stmt := top 17
theorem sc_closed_part : FnScope ["letter", "children", "written", "more", "child"] ["letter", "children"] (defScope s_closed_part) := ⟨rfl, rfl, rfl, by decide +kernel, rfl, by decide +kernel, by decide +kernel⟩

def sp_closed_part : Sp := fun vs H Q E => ∃ (c : Nat) (fl : Addr) (ps : List Fp), vs = [.str ⟨#[c]⟩, .ref fl] ∧ H fl = some (.lst (ps.map Fp.v)) ∧ (∀ p ∈ ps, FF H p.t p.v p.as) ∧ Tr.sizes (ps.map Fp.t) ≤ 100000 ∧
  (ps ≠ [] → SrtW (ps.map Fp.t) → ∀ (H' : Hp) (v : V) (l : Addr), Same H H' → H l = none → FF H' (.node c (ps.map Fp.t)) v (l :: ps.flatMap Fp.as) → Q v H') ∧
  (¬ (ps ≠ [] ∧ SrtW (ps.map Fp.t)) → ∀ x, mg "NoText" = some x → ∀ H' : Hp, Same H H' → E x none H')
theorem ok_closed_part (D : Df K mg "closed_part" s_closed_part ["letter", "children"]) (T : Txt K mg) : G' P w K mg base "closed_part" 1 ["letter", "children"] (sp_closed_part (mg := mg)) := by
  refine D.ok fun f fd F => F.okX sc_closed_part (fun vs H Q E h => ?_) (fun cdv A outer s H vs Q E hr h => ?_)
  · obtain ⟨c, fl, ps, rfl, _⟩ := h
    rfl
  · obtain ⟨c, fl, ps, rfl, hf, hF, hz, k1, k2⟩ := h
    have hlen := Tr.sizes_len (ps.map Fp.t)
    rw [List.length_map] at hlen
    have hW := Tr.Ws_len (ps.map Fp.t)
    rw [Tr.Ws_flat] at hW
    refine ⟨_, (pss_cons (ps_setLc (i := 2) (own := [("more", 3), ("child", 4)]) (g := (gTup K 2 (gCons (gName 3) (gCons (gName 4) gNil)))) rfl sc_closed_part.nd rfl rfl (sw_true rfl rfl rfl (by decide +kernel)) (pi_listK K (pv 1)) (blkOk_by (own := [("more", 3), ("child", 4)]) (N := ["letter", "children", "written", "more", "child"]) (sc := defScope s_closed_part) (by decide +kernel)) (fun _ _ _ _ _ => (pg_tup (by rfl) (pgs_cons (pg_name (i := 3) sc_closed_part.nd rfl (by first | exact Or.inl rfl | exact Or.inr rfl)) (pgs_cons (pg_name (i := 4) sc_closed_part.nd rfl (by first | exact Or.inl rfl | exact Or.inr rfl)) pgs_nil)))) (fun _ _ _ _ _ => pts_nil) (fun _ _ _ _ _ => (pv 3)))
  (pss_cons (ps_if (PW.pt (pw_or (pt_cmp (pc_eqNilK K hr (pv 1))) (pw_or1 (pt_cmpR (op_nePK K hr) (pe_callB (cr_sortedDK K hr) (by rfl) T.n_sorted (by decide +kernel) (pa_cons (pv 2) pa_nil)) (pv 2) (nomark _))))) (pss_one (ps_rs T.x_NoText rfl (takes_of rfl rfl rfl rfl))) pss_nil)
  (pss_one (ps_ret (pe_tup (pa_cons (pe_op op_add_str (pe_op op_add_str (pe_op op_add_str (pv 0) pe_str) (pe_join pe_str (pv 2))) pe_str) (pa_cons (pe_tup (pa_cons (pv 0) (pa_cons (pe_lc (own := [("more", 3), ("child", 4)]) (g := (gTup K 2 (gCons (gName 3) (gCons (gName 4) gNil)))) rfl sc_closed_part.nd (pi_listK K (pv 1)) (blkOk_by (own := [("more", 3), ("child", 4)]) (N := ["letter", "children", "written", "more", "child"]) (sc := defScope s_closed_part) (by decide +kernel)) (fun _ _ _ _ _ => (pg_tup (by rfl) (pgs_cons (pg_name (i := 3) sc_closed_part.nd rfl (by first | exact Or.inl rfl | exact Or.inr rfl)) (pgs_cons (pg_name (i := 4) sc_closed_part.nd rfl (by first | exact Or.inl rfl | exact Or.inr rfl)) pgs_nil)))) (fun _ _ _ _ _ => pts_nil) (fun _ _ _ _ _ => (pv 4))) pa_nil))) pa_nil))))))), ?_⟩
    walk_at "rd"
    refine lc_more (a := 3) (b := 4) (qs := ps) (show 3 < 5 by decide) (show 4 < 5 by decide) (by decide) hf hF (by omega) fun D1 H1 S1 nD1 hD1 => ?_
    have eW : (ps.map fun q => tx q.t.W) = ((ps.map Fp.t).map Tr.W).map tx := by rw [List.map_map, List.map_map]; rfl
    rw [eW] at hD1
    have hf1 := S1 _ _ hf
    walk_at "rd"
    by_cases he : ps = []
    · subst he
      walk_at "rd"
      intro x hx
      exact k2 (by simp) x hx _ S1
    · refine iteC (by cases ps with | nil => exact absurd rfl he | cons => rfl) ?_
      walk_at "rd"
      refine ⟨D1, (((ps.map Fp.t).map Tr.W).map fun l => (tx l, PyData.str (txS l))), rfl, SqL.of (by rw [fst_strs]; exact hD1), ?_, ?_, ?_, fun p np => ?_⟩
      · intro q hq
        obtain ⟨l, _, rfl⟩ := List.mem_map.mp hq
        exact ⟨.str _, by simp [PyData.depth]⟩
      · intro a ha b hb
        simp only [List.mem_map] at ha hb
        obtain ⟨_, ⟨_, _, rfl⟩, rfl⟩ := ha
        obtain ⟨_, ⟨_, _, rfl⟩, rfl⟩ := hb
        simp [PySem.W.alike]
      · refine .inr fun a ha => ?_
        simp only [List.mem_map] at ha
        obtain ⟨_, ⟨_, _, rfl⟩, rfl⟩ := ha
        exact ⟨(fun z => nomatch z), (fun _ z => nomatch z)⟩
      rw [srt_strs]
      generalize e2 : upd H1 p _ = H2
      obtain ⟨S2, hp2⟩ := newF np e2
      have hD2 := S2 _ _ hD1
      have hf2 := S2 _ _ hf1
      walk_at "rd"
      refine ⟨_, _, dp_strs hp2, dp_strs hD2, plain_strs _, plain_strs _, ?_, ?_⟩
      · simp only [PyData.depth, depth_strs]
        decide
      have ev : PyData.eqv (.list ((sortL ((ps.map Fp.t).map Tr.W)).map fun l => PyData.str (txS l))) (.list (((ps.map Fp.t).map Tr.W).map fun l => PyData.str (txS l))) = decide (sortL ((ps.map Fp.t).map Tr.W) = (ps.map Fp.t).map Tr.W) := by
        rw [← eqv_strs]
        rfl
      rw [ev]
      by_cases hs : SrtW (ps.map Fp.t)
      · rw [decide_eq_true ((sortL_iff _).mpr ((srtW_iff _).mp hs))]
        walk_at "rd"
        have hne : ps.map Fp.t ≠ [] := by simpa using he
        have hw : (Tr.node c (ps.map Fp.t)).W = c :: 40 :: (((ps.map Fp.t).map Tr.W).flatten ++ [41]) := by rw [Tr.W_node c hne, Tr.Ws_flat]
        have e40 : (⟨#[c]⟩ : Str) ++ PySem.Str.ofString "(" = txS [c, 40] := txS_app [c] [40]
        have e41 : PySem.Str.ofString ")" = txS [41] := rfl
        refine ⟨by show 1 + 1 ≤ sizeLine; decide, ?_⟩
        walk_at "rd"
        refine ⟨txS [], D1, ((ps.map Fp.t).map Tr.W).map txS, rfl, rfl, .inl (SqL.of (by rw [txs_strs]; exact hD2)), ?_, ?_⟩
        · have e : ((((ps.map Fp.t).map Tr.W).map txS).map (·.length)).sum = (((ps.map Fp.t).map Tr.W).flatten).length := by
            rw [List.map_map, List.length_flatten]
            congr 1
          rw [e]
          show _ + _ * 0 ≤ 16777216
          omega
        rw [join_nil, e40, e41]
        refine ⟨_, _, rfl, rfl, ?_, ?_⟩
        · rw [txS_len, txS_len]
          exact Nat.le_trans (show _ ≤ 400000 by show 2 + _ ≤ _; omega) (by decide)
        rw [txS_app]
        refine ⟨_, _, rfl, rfl, ?_, ?_⟩
        · rw [txS_len, txS_len]
          exact Nat.le_trans (show _ ≤ 400000 by rw [List.length_append]; show 2 + _ + 1 ≤ _; omega) (by decide)
        rw [txS_app]
        have S02 : Same H H2 := S1.trans S2
        walk_at "rd"
        refine lc_child (a := 3) (b := 4) (qs := ps) (show 3 < 5 by decide) (show 4 < 5 by decide) (by decide) hf2 (fun q hq => (hF q hq).same S02) (by omega) fun D H3 us S3 nD hD e1 e2 hu => ?_
        refine ⟨(by walk_at "sz"), fun t2 n2 => ⟨(by walk_at "sz"), fun t3 n3 => ?_⟩⟩
        have n23 : t3 ≠ t2 := fun q => by rw [q, upd_same] at n3; cases n3
        have Sa : Same H3 (upd (upd H3 t2 (.tup [.str ⟨#[c]⟩, .ref D])) t3 (.tup [tx (([c, 40] ++ ((ps.map Fp.t).map Tr.W).flatten) ++ [41]), .ref t2])) := Same.upd_new (same_new n2) n3
        refine k1 he hs _ _ D ((S02.trans S3).trans Sa) (S02.free nD) ⟨t3, .ref t2, rfl, by rw [upd_same, hw]; rfl, ?_⟩
        refine .mk t2 D us (by rw [upd_ne n23.symm, upd_same]; rfl) (Sa _ _ hD) (fun u hu' => ((hu u hu').same S3).same Sa) e1.symm rfl ?_
        rw [List.flatMap_def, List.flatMap_def]
        show D :: (ps.map Fp.as).flatten = D :: (us.map Fp.as).flatten
        rw [e2]
      · rw [decide_eq_false fun h => hs ((srtW_iff _).mpr ((sortL_iff _).mp h))]
        walk_at "rd"
        intro x hx
        exact k2 (fun z => hs z.2) x hx _ (S1.trans S2)
end
end Hy
set_option Elab.async false
set_option linter.all false
set_option maxRecDepth 100000
set_option maxHeartbeats 4000000
namespace Hy
open PySem L2
local macro_rules | `(tactic| walk_at "hp") => `(tactic| first
  | assumption | exact upd_same
  | (refine (upd_ne ?_).trans ?_ <;> first | assumption | (exact Ne.symm (by assumption)) | walk_at "ne" | walk_at "hp")
  | (refine (by assumption : Same _ _) _ _ ?_; assumption))
local macro_rules | `(tactic| walk_at "ne") => `(tactic| first
  | assumption | (exact Ne.symm (by assumption))
  | exact ne_of_none (by assumption) (by assumption) | exact Ne.symm (ne_of_none (by assumption) (by assumption)))
local macro_rules | `(tactic| walk_at "sz") => `(tactic| first | assumption | (show 0 ≤ sizeLine; decide) | (show 1 ≤ sizeLine; decide) | (show 2 ≤ sizeLine; decide) | (show 3 ≤ sizeLine; decide))
local macro_rules | `(tactic| walk_at "ar") => `(tactic| first
  | (with_reducible show (0 : Int) < _; first | decide | omega)
  | (with_reducible show CMul _ _; first | exact Or.inr (And.intro (by decide) (by decide)) | exact Or.inl (And.intro (by decide) (by decide)) | (refine Or.inl (And.intro ?_ ?_) <;> omega) | (refine Or.inr (And.intro ?_ ?_) <;> omega))
  | (with_reducible show CDiv _ _; first | exact And.intro (by decide) (by decide) | (refine And.intro ?_ ?_ <;> omega)))
/- one step of a reading -/
local macro_rules | `(tactic| walk_at "r1") => `(tactic| first
  | refine ⟨_, rfl, ?_⟩
  | refine iteB (by rfl) ?_ | refine iteC (by rfl) ?_
  | refine ⟨_, _, rfl, rfl, ?_⟩
  | refine ⟨rfl, ?_⟩
  | refine ⟨⟨_, rfl⟩, ?_⟩
  | refine ⟨_, _, _, _, true, rfl, .ty _, .base (.str _), kit_ty (by decide +kernel), ?_⟩
  | refine ⟨_, _, _, _, false, rfl, .ty _, .base (.str _), kit_ty (by decide +kernel), ?_⟩
  | refine ⟨_, _, _, _, true, rfl, .ty _, .base (.tup (by walk_at "hp")), kit_ty (by decide +kernel), ?_⟩
  | refine ⟨_, _, _, _, false, rfl, .ty _, .base (.tup (by walk_at "hp")), kit_ty (by decide +kernel), ?_⟩
  | refine ⟨_, _, _, _, true, rfl, .ty _, .base (.lst (by walk_at "hp")), kit_ty (by decide +kernel), ?_⟩
  | refine ⟨_, _, _, _, false, rfl, .ty _, .base (.lst (by walk_at "hp")), kit_ty (by decide +kernel), ?_⟩
  | refine ⟨_, _, rfl, ⟨by walk_at "sz", rfl⟩, ?_⟩
  | refine ⟨_, _, _, _, rfl, rfl, SqT.of (by walk_at "hp"), by rfl, ?_⟩
  | refine ⟨_, _, _, _, rfl, rfl, SqL.of (by walk_at "hp"), by rfl, ?_⟩
  | refine ⟨.inl ⟨rfl, _, SqL.of (by walk_at "hp")⟩, ?_⟩
  | refine ⟨_, _, _, rfl, rfl, (by walk_at "hp"), snoc_get, ?_⟩
  | refine ⟨_, _, _, _, rfl, rfl, (by walk_at "hp"), by rfl, ?_⟩
  | refine ⟨_, _, rfl, SqL.of (by walk_at "hp"), ?_⟩
  | refine ⟨_, _, rfl, SqT.of (by walk_at "hp"), by rfl, ?_⟩
  | refine ⟨_, (_ : List V), rfl, ?_⟩
  | refine ⟨_, _, rfl, .inl ⟨_, (by assumption), rfl⟩, ?_⟩
  | refine ⟨_, _, rfl, .inl ⟨_, SqL.of (by walk_at "hp"), rfl⟩, ?_⟩
  | refine ⟨_, _, rfl, .inr ⟨_, SqT.of (by walk_at "hp"), rfl⟩, ?_⟩
  | refine Or.inl ⟨(_ : Int), rfl, ?_⟩ | refine Or.inr ⟨(_ : Bool), rfl, ?_⟩
  | refine And.intro (by walk_at "ar") ?_)
local macro_rules | `(tactic| walk_at "rd") => `(tactic| repeat walk_at "r1")

theorem sign_eq {c d : Nat} : decide (V.str ⟨#[c]⟩ = V.str ⟨#[d]⟩) = decide (c = d) := by
  by_cases h : c = d
  · rw [h, decide_eq_true rfl, decide_eq_true rfl]
  · rw [decide_eq_false h, decide_eq_false fun z => h ?_]
    have z2 : (⟨#[c]⟩ : Str) = ⟨#[d]⟩ := V.str.inj z
    have z3 := congrArg (fun s : Str => s.cps.toList) z2
    simpa using z3
theorem sign_op {c : Nat} : decide (V.str ⟨#[c]⟩ = V.str (PySem.Str.ofString "(")) = decide (c = 40) := by
  have e : PySem.Str.ofString "(" = ⟨#[40]⟩ := by decide +kernel
  rw [e, sign_eq]
theorem sign_cl {c : Nat} : decide (V.str ⟨#[c]⟩ = V.str (PySem.Str.ofString ")")) = decide (c = 41) := by
  have e : PySem.Str.ofString ")" = ⟨#[41]⟩ := by decide +kernel
  rw [e, sign_eq]
theorem RS.step40 {s : RS} (h : isL s.prev = false) : s.step 40 = none := by
  unfold RS.step
  rw [if_neg (by decide), if_neg (fun z => by rw [h] at z; exact absurd z.2 (by decide)), if_neg (by decide)]
theorem RS.step40_ok {s : RS} (h : isL s.prev = true) : s.step 40 = some ⟨40, s.ab ++ [(s.prev, s.here.dropLast)], []⟩ := by
  unfold RS.step
  rw [if_neg (by decide), if_pos ⟨rfl, h⟩]
theorem RS.step_other {s : RS} {x : Nat} (h1 : isL x = false) (h2 : x ≠ 40) (h3 : x ≠ 41) : s.step x = none := by
  unfold RS.step
  rw [if_neg (by rw [h1]; decide), if_neg (fun z => h2 z.1), if_neg h3]
theorem RS.step41_none {s : RS} (h : s.ab = []) : s.step 41 = none := by
  unfold RS.step
  rw [if_neg (by decide), if_neg (fun z => absurd z.1 (by decide)), if_pos rfl, h]
  rfl
theorem RS.step41 {prev l : Nat} {ab : List (Nat × List Tr)} {more here : List Tr} : RS.step ⟨prev, ab ++ [(l, more)], here⟩ 41 = if here ≠ [] ∧ SrtW here then some ⟨41, ab, more ++ [.node l here]⟩ else none := by
  unfold RS.step
  rw [if_neg (by decide), if_neg (fun z => absurd z.1 (by decide)), if_pos rfl]
  simp only [List.getLast?_concat, List.dropLast_concat]
theorem sum_ge {α : Type} (g : α → Nat) (h : ∀ x, 1 ≤ g x) : ∀ l : List α, l.length ≤ (l.map g).sum
  | [] => Nat.zero_le _
  | x :: l => by
    have := sum_ge g h l
    have := h x
    simp only [List.length_cons, List.map_cons, List.sum_cons]
    omega
/-- an open part: its tuple, its letter, its list, what stands in it -/
structure Op where
  tup : Addr
  c : Nat
  lst : Addr
  ps : List Fp
def fpO (fs : List Op) : List Addr := fs.flatMap fun f => f.lst :: f.ps.flatMap Fp.as
def fpR (al hh : Addr) (fs : List Op) (hs : List Fp) : List Addr := al :: (fpO fs ++ (hh :: hs.flatMap Fp.as))
structure RepR (H0 H : Hp) (al hh : Addr) (fs : List Op) (hs : List Fp) : Prop where
  ab : H al = some (.lst (fs.map fun f => V.ref f.tup))
  op : ∀ f ∈ fs, H f.tup = some (.tup [.str ⟨#[f.c]⟩, .ref f.lst]) ∧ H f.lst = some (.lst (f.ps.map Fp.v)) ∧ ∀ p ∈ f.ps, FF H p.t p.v p.as
  he : H hh = some (.lst (hs.map Fp.v))
  hp : ∀ p ∈ hs, FF H p.t p.v p.as
  nd : (fpR al hh fs hs).Nodup
  fr : ∀ a ∈ fpR al hh fs hs, H0 a = none
def rsOf (prev : Nat) (fs : List Op) (hs : List Fp) : RS := ⟨prev, fs.map fun f => (f.c, f.ps.map Fp.t), hs.map Fp.t⟩
theorem nodup_swap {A B : List Addr} {x y : Addr} (h : (A ++ x :: B).Nodup) (hy : y ∉ A ++ B) : (A ++ y :: B).Nodup := by
  have h1 := List.perm_middle.nodup_iff.mp h
  exact List.perm_middle.nodup_iff.mpr (List.nodup_cons.mpr ⟨hy, (List.nodup_cons.mp h1).2⟩)
theorem fpR_app (al hh : Addr) (fs : List Op) (hs : List Fp) (p : Fp) : fpR al hh fs (hs ++ [p]) = fpR al hh fs hs ++ p.as := by
  simp [fpR, List.flatMap_append]
theorem RepR.live {H0 H : Hp} {al hh : Addr} {fs : List Op} {hs : List Fp} (R : RepR H0 H al hh fs hs) : ∀ a ∈ fpR al hh fs hs, ∃ xs, H a = some (.lst xs) := by
  intro a ha
  unfold fpR fpO at ha
  rcases List.mem_cons.mp ha with rfl | ha
  · exact ⟨_, R.ab⟩
  rcases List.mem_append.mp ha with ha | ha
  · obtain ⟨f, hf, ha⟩ := List.mem_flatMap.mp ha
    obtain ⟨h1, h2, h3⟩ := R.op f hf
    rcases List.mem_cons.mp ha with rfl | ha
    · exact ⟨_, h2⟩
    · obtain ⟨p, hp, ha⟩ := List.mem_flatMap.mp ha
      exact (h3 p hp).live a ha
  · rcases List.mem_cons.mp ha with rfl | ha
    · exact ⟨_, R.he⟩
    · obtain ⟨p, hp, ha⟩ := List.mem_flatMap.mp ha
      exact (R.hp p hp).live a ha
theorem RepR.new {H0 H : Hp} {al hh a : Addr} {fs : List Op} {hs : List Fp} (R : RepR H0 H al hh fs hs) (n : H a = none) : a ∉ fpR al hh fs hs := fun h => by
  obtain ⟨xs, e⟩ := R.live a h
  rw [n] at e
  cases e
theorem RepR.same {H0 H H' : Hp} {al hh : Addr} {fs : List Op} {hs : List Fp} (R : RepR H0 H al hh fs hs) (S : Same H H') : RepR H0 H' al hh fs hs :=
  ⟨S _ _ R.ab, fun f hf => ⟨S _ _ (R.op f hf).1, S _ _ (R.op f hf).2.1, fun p hp => ((R.op f hf).2.2 p hp).same S⟩, S _ _ R.he, fun p hp => (R.hp p hp).same S, R.nd, R.fr⟩
theorem mem_op {al hh a : Addr} {fs : List Op} {hs : List Fp} {f : Op} (hf : f ∈ fs) (h : a = f.lst ∨ ∃ p ∈ f.ps, a ∈ p.as) : a ∈ fpO fs := by
  refine List.mem_flatMap.mpr ⟨f, hf, ?_⟩
  rcases h with rfl | ⟨p, hp, ha⟩
  · exact List.mem_cons_self
  · exact List.mem_cons_of_mem _ (List.mem_flatMap.mpr ⟨p, hp, ha⟩)
/-- the list of those here is changed -/
theorem RepR.here {H0 H H' : Hp} {al hh : Addr} {fs : List Op} {hs hs' : List Fp} (R : RepR H0 H al hh fs hs) (k : Keep [hh] H H') (e : H' hh = some (.lst (hs'.map Fp.v))) (hp : ∀ p ∈ hs', FF H' p.t p.v p.as) (nd : (fpR al hh fs hs').Nodup)
    (fr : ∀ a ∈ fpR al hh fs hs', H0 a = none) : RepR H0 H' al hh fs hs' := by
  have nd0 := R.nd
  unfold fpR at nd0
  obtain ⟨n1, n2⟩ := List.nodup_cons.mp nd0
  obtain ⟨n3, n4, n5⟩ := List.nodup_append.mp n2
  have nah : al ∉ [hh] := fun z => n1 (by rw [List.mem_singleton.mp z]; exact List.mem_append_right _ List.mem_cons_self)
  have nO : ∀ a ∈ fpO fs, a ∉ [hh] := fun a ha z => n5 a ha hh List.mem_cons_self (List.mem_singleton.mp z)
  refine ⟨k.but _ _ nah R.ab, fun f hf => ?_, e, hp, nd, fr⟩
  obtain ⟨h1, h2, h3⟩ := R.op f hf
  exact ⟨k.tup _ _ h1, k.but _ _ (nO _ (mem_op (al := al) (hh := hh) (hs := hs) hf (.inl rfl))) h2, fun p hp => (h3 p hp).keep k fun b hb => nO _ (mem_op (al := al) (hh := hh) (hs := hs) hf (.inr ⟨p, hp, hb⟩))⟩
theorem RepR.put {H0 H H' : Hp} {al hh : Addr} {fs : List Op} {hs : List Fp} {p : Fp} (R : RepR H0 H al hh fs hs) (k : Keep [hh] H H') (e : H' hh = some (.lst ((hs ++ [p]).map Fp.v))) (hp : FF H' p.t p.v p.as) (h1 : ∀ a ∈ p.as, a ∉ fpR al hh fs hs) (h2 : p.as.Nodup)
    (h3 : ∀ a ∈ p.as, H0 a = none) : RepR H0 H' al hh fs (hs ++ [p]) := by
  have nd0 := R.nd
  unfold fpR at nd0
  obtain ⟨_, n2⟩ := List.nodup_cons.mp nd0
  obtain ⟨_, n4, _⟩ := List.nodup_append.mp n2
  obtain ⟨n6, _⟩ := List.nodup_cons.mp n4
  refine R.here k e (fun q hq => ?_) ?_ ?_
  · rcases List.mem_append.mp hq with hq | hq
    · exact (R.hp q hq).keep k fun b hb z => n6 (by rw [← List.mem_singleton.mp z]; exact List.mem_flatMap.mpr ⟨q, hq, hb⟩)
    · obtain rfl := List.mem_singleton.mp hq
      exact hp
  · rw [fpR_app]
    exact List.nodup_append.mpr ⟨R.nd, h2, fun a ha b hb z => h1 b hb (z ▸ ha)⟩
  · intro a ha
    rw [fpR_app] at ha
    rcases List.mem_append.mp ha with ha | ha
    · exact R.fr a ha
    · exact h3 a ha
theorem RepR.pop {H0 H H' : Hp} {al hh : Addr} {fs : List Op} {hs : List Fp} {p : Fp} (R : RepR H0 H al hh fs (hs ++ [p])) (k : Keep [hh] H H') (e : H' hh = some (.lst (hs.map Fp.v))) : RepR H0 H' al hh fs hs := by
  have nd0 := R.nd
  have nd1 := nd0
  unfold fpR at nd0
  obtain ⟨_, n2⟩ := List.nodup_cons.mp nd0
  obtain ⟨_, n4, _⟩ := List.nodup_append.mp n2
  obtain ⟨n6, _⟩ := List.nodup_cons.mp n4
  rw [fpR_app] at nd1
  refine R.here k e (fun q hq => ?_) (List.nodup_append.mp nd1).1 fun a ha => R.fr a (by rw [fpR_app]; exact List.mem_append_left _ ha)
  exact (R.hp q (List.mem_append_left _ hq)).keep k fun b hb z => n6 (by rw [← List.mem_singleton.mp z]; exact List.mem_flatMap.mpr ⟨q, List.mem_append_left _ hq, hb⟩)
/-- the list of the open ones is changed: all else stands -/
theorem RepR.away {H0 H H' : Hp} {al hh : Addr} {fs : List Op} {hs : List Fp} (R : RepR H0 H al hh fs hs) (k : Keep [al] H H') :
    (∀ f ∈ fs, H' f.tup = some (.tup [.str ⟨#[f.c]⟩, .ref f.lst]) ∧ H' f.lst = some (.lst (f.ps.map Fp.v)) ∧ ∀ p ∈ f.ps, FF H' p.t p.v p.as) ∧ H' hh = some (.lst (hs.map Fp.v)) ∧ ∀ p ∈ hs, FF H' p.t p.v p.as := by
  have nd0 := R.nd
  unfold fpR at nd0
  obtain ⟨n1, _⟩ := List.nodup_cons.mp nd0
  have nO : ∀ a ∈ fpO fs, a ∉ [al] := fun a ha z => n1 (by rw [← List.mem_singleton.mp z]; exact List.mem_append_left _ ha)
  have nH : ∀ a ∈ hh :: hs.flatMap Fp.as, a ∉ [al] := fun a ha z => n1 (by rw [← List.mem_singleton.mp z]; exact List.mem_append_right _ ha)
  refine ⟨fun f hf => ?_, k.but _ _ (nH _ List.mem_cons_self) R.he, fun p hp => (R.hp p hp).keep k fun b hb => nH _ (List.mem_cons_of_mem _ (List.mem_flatMap.mpr ⟨p, hp, hb⟩))⟩
  obtain ⟨h1, h2', h3⟩ := R.op f hf
  exact ⟨k.tup _ _ h1, k.but _ _ (nO _ (mem_op (al := al) (hh := hh) (hs := hs) hf (.inl rfl))) h2', fun p hp => (h3 p hp).keep k fun b hb => nO _ (mem_op (al := al) (hh := hh) (hs := hs) hf (.inr ⟨p, hp, hb⟩))⟩
/-- a part is opened -/
theorem RepR.opened {H0 H H' : Hp} {al hh h2 t : Addr} {c : Nat} {fs : List Op} {hs : List Fp} (R : RepR H0 H al hh fs hs) (k : Keep [al] H H') (ht : H t = some (.tup [.str ⟨#[c]⟩, .ref hh])) (ea : H' al = some (.lst ((fs ++ [(⟨t, c, hh, hs⟩ : Op)]).map fun f => V.ref f.tup)))
    (e2 : H' h2 = some (.lst [])) (n2 : H h2 = none) (n0 : H0 h2 = none) : RepR H0 H' al h2 (fs ++ [⟨t, c, hh, hs⟩]) [] := by
  have nd0 := R.nd
  unfold fpR at nd0
  obtain ⟨n1, _⟩ := List.nodup_cons.mp nd0
  have nO : ∀ a ∈ fpO fs, a ∉ [al] := fun a ha z => n1 (by rw [← List.mem_singleton.mp z]; exact List.mem_append_left _ ha)
  have nH : ∀ a ∈ hh :: hs.flatMap Fp.as, a ∉ [al] := fun a ha z => n1 (by rw [← List.mem_singleton.mp z]; exact List.mem_append_right _ ha)
  have ef : fpR al h2 (fs ++ [⟨t, c, hh, hs⟩]) [] = fpR al hh fs hs ++ [h2] := by simp [fpR, fpO, List.flatMap_append]
  refine ⟨ea, fun f hf => ?_, e2, fun p hp => (by cases hp), ?_, ?_⟩
  · rcases List.mem_append.mp hf with hf | hf
    · obtain ⟨h1, h2', h3⟩ := R.op f hf
      exact ⟨k.tup _ _ h1, k.but _ _ (nO _ (mem_op (al := al) (hh := hh) (hs := hs) hf (.inl rfl))) h2', fun p hp => (h3 p hp).keep k fun b hb => nO _ (mem_op (al := al) (hh := hh) (hs := hs) hf (.inr ⟨p, hp, hb⟩))⟩
    · obtain rfl := List.mem_singleton.mp hf
      exact ⟨k.tup _ _ ht, k.but _ _ (nH _ List.mem_cons_self) R.he, fun p hp => (R.hp p hp).keep k fun b hb => nH _ (List.mem_cons_of_mem _ (List.mem_flatMap.mpr ⟨p, hp, hb⟩))⟩
  · rw [ef]
    exact List.nodup_append.mpr ⟨R.nd, by simp, fun a ha b hb z => R.new n2 (by rw [← List.mem_singleton.mp hb, ← z]; exact ha)⟩
  · intro a ha
    rw [ef] at ha
    rcases List.mem_append.mp ha with ha | ha
    · exact R.fr a ha
    · rw [List.mem_singleton.mp ha]
      exact n0
/-- a part is closed -/
theorem RepR.closed {H0 H H' : Hp} {al hh ml t l : Addr} {c : Nat} {u : Tr} {v : V} {fs : List Op} {hs ms : List Fp} (R : RepR H0 H al hh (fs ++ [⟨t, c, ml, ms⟩]) hs) (k : Keep [al, ml] H H') (ea : H' al = some (.lst (fs.map fun f => V.ref f.tup)))
    (em : H' ml = some (.lst ((ms ++ [(v, u, l :: hs.flatMap Fp.as)]).map Fp.v))) (hF : FF H' u v (l :: hs.flatMap Fp.as)) (nl : H l = none) (n0 : H0 l = none) : RepR H0 H' al ml fs (ms ++ [(v, u, l :: hs.flatMap Fp.as)]) := by
  have eO : fpR al hh (fs ++ [⟨t, c, ml, ms⟩]) hs = (al :: (fpO fs ++ (ml :: ms.flatMap Fp.as))) ++ (hh :: hs.flatMap Fp.as) := by simp [fpR, fpO, List.flatMap_append]
  have eN : fpR al ml fs (ms ++ [(v, u, l :: hs.flatMap Fp.as)]) = (al :: (fpO fs ++ (ml :: ms.flatMap Fp.as))) ++ (l :: hs.flatMap Fp.as) := by simp [fpR, fpO, List.flatMap_append]
  have nd0 := R.nd
  have hl := R.new nl
  rw [eO] at nd0 hl
  obtain ⟨n1, _, _⟩ := List.nodup_append.mp nd0
  obtain ⟨n2, n3⟩ := List.nodup_cons.mp n1
  obtain ⟨_, n4, n5⟩ := List.nodup_append.mp n3
  obtain ⟨n6, _⟩ := List.nodup_cons.mp n4
  have nO : ∀ a ∈ fpO fs, a ∉ [al, ml] := fun a ha z => by
    rcases List.mem_cons.mp z with rfl | z
    · exact n2 (List.mem_append_left _ ha)
    · exact n5 a ha ml List.mem_cons_self (List.mem_singleton.mp z)
  have nM : ∀ a ∈ ms.flatMap Fp.as, a ∉ [al, ml] := fun a ha z => by
    rcases List.mem_cons.mp z with rfl | z
    · exact n2 (List.mem_append_right _ (List.mem_cons_of_mem _ ha))
    · exact n6 (by rw [← List.mem_singleton.mp z]; exact ha)
  have op := (R.op ⟨t, c, ml, ms⟩ (by simp)).2.2
  refine ⟨ea, fun f hf => ?_, em, fun p hp => ?_, ?_, ?_⟩
  · obtain ⟨h1, h2', h3⟩ := R.op f (List.mem_append_left _ hf)
    exact ⟨k.tup _ _ h1, k.but _ _ (nO _ (mem_op (al := al) (hh := hh) (hs := hs) hf (.inl rfl))) h2', fun p hp => (h3 p hp).keep k fun b hb => nO _ (mem_op (al := al) (hh := hh) (hs := hs) hf (.inr ⟨p, hp, hb⟩))⟩
  · rcases List.mem_append.mp hp with hp | hp
    · exact (op p hp).keep k fun b hb => nM _ (List.mem_flatMap.mpr ⟨p, hp, hb⟩)
    · obtain rfl := List.mem_singleton.mp hp
      exact hF
  · rw [eN]
    refine nodup_swap nd0 fun z => hl ?_
    rcases List.mem_append.mp z with z | z
    · exact List.mem_append_left _ z
    · exact List.mem_append_right _ (List.mem_cons_of_mem _ z)
  · intro a ha
    rw [eN] at ha
    rcases List.mem_append.mp ha with ha | ha
    · exact R.fr a (by rw [eO]; exact List.mem_append_left _ ha)
    · rcases List.mem_cons.mp ha with rfl | ha
      · exact n0
      · exact R.fr a (by rw [eO]; exact List.mem_append_right _ (List.mem_cons_of_mem _ ha))
section
variable {P : Program} {w : World} {K : PySem.W.Frag} {mg : Str → Option Value} {base : Heap}
abbrev s_read_tree : Stmt := top 18
theorem sc_read_tree : FnScope ["text", "above", "here", "at", "sign", "letter", "more"] ["text"] (defScope s_read_tree) := ⟨rfl, rfl, rfl, by decide +kernel, rfl, by decide +kernel, by decide +kernel⟩

def sp_read_tree : Sp := fun vs H Q E => ∃ l : List Nat, vs = [tx l] ∧ l.length ≤ 90000 ∧
  (∀ t, parse l = some t → ∀ (H' : Hp) (v : V) (as : List Addr), Same H H' → TF H' t v as → (∀ a ∈ as, H a = none) → as.Nodup → Q v H') ∧
  (parse l = none → ∀ x, mg "NoText" = some x → ∀ H' : Hp, Same H H' → E x none H')
theorem ok_read_tree (D : Df K mg "read_tree" s_read_tree ["text"]) (T : Txt K mg) (G_closed_part : G' P w K mg base "closed_part" 1 ["letter", "children"] (sp_closed_part (mg := mg))) : G' P w K mg base "read_tree" 2 ["text"] (sp_read_tree (mg := mg)) := by
  refine D.ok fun f fd F => F.okX sc_read_tree (fun vs H Q E h => ?_) (fun cdv A outer s H vs Q E hr h => ?_)
  · obtain ⟨l, rfl, _⟩ := h
    rfl
  · obtain ⟨l, rfl, hl, k1, k2⟩ := h
    refine ⟨_, (pss_cons (ps_if (pt_not (pt_val (pe_callB (call_isiK K) (by rfl) T.n_isinstance (by decide +kernel) (pa_cons (pv 0) (pa_cons (pe_ty (n := "str") T.n_str (by decide +kernel)) pa_nil))))) (pss_one (ps_rs T.x_NoText rfl (takes_of rfl rfl rfl rfl))) pss_nil)
  (pss_cons (ps_set (i := 1) sc_read_tree.nd rfl (by first | exact Or.inl rfl | exact Or.inr rfl) (pe_lst pa_nil))
  (pss_cons (ps_set (i := 2) sc_read_tree.nd rfl (by first | exact Or.inl rfl | exact Or.inr rfl) (pe_lst pa_nil))
  (pss_cons (ps_for (passes_of rfl) rfl (pi_enumS T.n_enumerate (pa_cons (pv 0) pa_nil)) (pg_tup (by rfl) (pgs_cons (pg_name (i := 3) sc_read_tree.nd rfl (by first | exact Or.inl rfl | exact Or.inr rfl)) (pgs_cons (pg_name (i := 4) sc_read_tree.nd rfl (by first | exact Or.inl rfl | exact Or.inr rfl)) pgs_nil))) (pss_one (ps_if (pt_cmpR op_in_sign (pv 4) (pe_gv T.g_LETTERS) (by rfl)) (pss_one (ps_expr (cbm K (pe_bm PySem.F.plainAttrs_list PySem.F.slot_list_append PySem.F.type_list_append mt_append (pv 2) (pa_cons (pe_tup (pa_cons (pv 4) (pa_cons (pe_tup (pa_cons (pv 4) (pa_cons (pe_lst pa_nil) pa_nil))) pa_nil))) pa_nil))))) (pss_one (ps_if (PW.pt (pw_and (pt_cmpR op_eq (pv 4) pe_str (nomark _)) (pw_and (pt_cmpR op_gt (pv 3) pe_int (nomark _)) (pw_and1 (pt_cmpR op_in_sign (pe_ix ix_str (pv 0) (pe_op op_sub (pv 3) pe_int) (fun _ _ => rfl)) (pe_gv T.g_LETTERS) (by rfl)))))) (pss_cons (ps_set (i := 5) sc_read_tree.nd rfl (by first | exact Or.inl rfl | exact Or.inr rfl) (pe_ix (ix_tupK K) (cbm0 K (pe_bm0 PySem.F.plainAttrs_list PySem.F.slot_list_pop PySem.F.type_list_pop mt_pop (pv 2))) pe_int (fun _ _ => rfl)))
  (pss_cons (ps_expr (cbm K (pe_bm PySem.F.plainAttrs_list PySem.F.slot_list_append PySem.F.type_list_append mt_append (pv 1) (pa_cons (pe_tup (pa_cons (pv 5) (pa_cons (pv 2) pa_nil))) pa_nil))))
  (pss_one (ps_set (i := 2) sc_read_tree.nd rfl (by first | exact Or.inl rfl | exact Or.inr rfl) (pe_lst pa_nil))))) (pss_one (ps_if (PW.pt (pw_and (pt_cmpR op_eq (pv 4) pe_str (nomark _)) (pw_and1 (pt_cmp (pc_neNilK K hr (pv 1)))))) (pss_cons (ps_asg (cbm0 K (pe_bm0 PySem.F.plainAttrs_list PySem.F.slot_list_pop PySem.F.type_list_pop mt_pop (pv 1))) (pg_tup (by rfl) (pgs_cons (pg_name (i := 5) sc_read_tree.nd rfl (by first | exact Or.inl rfl | exact Or.inr rfl)) (pgs_cons (pg_name (i := 6) sc_read_tree.nd rfl (by first | exact Or.inl rfl | exact Or.inr rfl)) pgs_nil))))
  (pss_cons (ps_expr (cbm K (pe_bm PySem.F.plainAttrs_list PySem.F.slot_list_append PySem.F.type_list_append mt_append (pv 6) (pa_cons (pe_cl G_closed_part (hr.mono (by omega)) (passW (takes_of rfl rfl rfl rfl) (fun _ _ _ _ z => z)) (pa_cons (pv 5) (pa_cons (pv 2) pa_nil))) pa_nil))))
  (pss_one (ps_set (i := 2) sc_read_tree.nd rfl (by first | exact Or.inl rfl | exact Or.inr rfl) (pv 6))))) (pss_one (ps_rs T.x_NoText rfl (takes_of rfl rfl rfl rfl))))))))))
  (pss_cons (ps_if (PW.pt (pw_or (pt_cmp (pc_neNilK K hr (pv 1))) (pw_or1 (pt_cmpR op_ne (pe_callB (call_lenK K) (by rfl) T.n_len PySem.boot_len (pa_cons (pv 2) pa_nil)) pe_int (nomark _))))) (pss_one (ps_rs T.x_NoText rfl (takes_of rfl rfl rfl rfl))) pss_nil)
  (pss_one (ps_ret (pe_ix (ix_tupK K) (pe_ix (ix_listK K) (pv 2) pe_int (fun _ _ => rfl)) pe_int (fun _ _ => rfl))))))))), ?_⟩
    walk_at "rd"
    refine ⟨(by walk_at "sz"), fun al na => ?_⟩
    generalize e0 : upd H al _ = H0
    obtain ⟨S0, ha0⟩ := newF na e0
    walk_at "rd"
    refine ⟨(by walk_at "sz"), fun hh nh0 => ?_⟩
    have nh : H hh = none := S0.free nh0
    have nah : al ≠ hh := ne_of_none ha0 nh0
    generalize e1 : upd H0 hh _ = H1
    obtain ⟨S1, hh1⟩ := newF nh0 e1
    have ha1 := S1 _ _ ha0
    walk_at "rd"
    refine for_enumS (fun i σ H' => ∃ (al hh : Addr) (fs : List Op) (hs : List Fp) (prev : Nat) (x3 x4 x5 x6 : Option V), σ = [some (tx l), some (.ref al), some (.ref hh), x3, x4, x5, x6] ∧ Same H H' ∧ RepR H H' al hh fs hs ∧
        RS.run ⟨0, [], []⟩ (l.take i) = some (rsOf prev fs hs) ∧ (rsOf prev fs hs).Inv ∧ (rsOf prev fs hs).tot ≤ i ∧ (i = 0 → prev = 0) ∧ (0 < i → l[i - 1]? = some prev))
      ⟨al, hh, [], [], 0, none, none, none, none, rfl, S0.trans S1, ⟨ha1, fun f hf => (by cases hf), hh1, fun p hp => (by cases hp), ?_, ?_⟩, rfl, RS.inv0, Nat.le_refl _, fun _ => rfl, fun h => absurd h (by decide)⟩ ?_ ?_
    · simpa [fpR, fpO] using nah
    · intro a ha'
      have : a = al ∨ a = hh := by simpa [fpR, fpO] using ha'
      rcases this with rfl | rfl
      · exact na
      · exact nh
    · rintro i c σ H2 T' hc ⟨al, hh, fs, hs, prev, x3, x4, x5, x6, rfl, S2, R, hrun, hinv, htot, hp0, hp1⟩ nT
      generalize e2 : upd H2 T' _ = H3
      obtain ⟨S23, hT3⟩ := newF nT e2
      have S3 : Same H H3 := S2.trans S23
      have hc' : l[i]? = some c := by simpa using hc
      have hi : i < l.length := (List.getElem?_eq_some_iff.mp hc').1
      have nh' : H hh = none := R.fr hh (by simp [fpR])
      have na' : H al = none := R.fr al (by simp [fpR])
      have Ra := S23 _ _ R.ab
      have Rh := S23 _ _ R.he
      walk_at "rd"
      rw [letter_in]
      cases hL : isL c with
      | true =>
        have hstep : (rsOf prev fs hs).step c = some (rsOf c fs (hs ++ [(.non, .node c [], [])])) := by
          unfold RS.step
          rw [if_pos hL]
          simp [rsOf]
        walk_at "rd"
        refine ⟨(by walk_at "sz"), fun l0 n0 => ?_⟩
        generalize e4 : upd H3 l0 _ = H4
        obtain ⟨S34, hl4⟩ := newF n0 e4
        walk_at "rd"
        refine ⟨(by walk_at "sz"), fun t1 n1 => ?_⟩
        generalize e5 : upd H4 t1 _ = H5
        obtain ⟨S45, ht5⟩ := newF n1 e5
        walk_at "rd"
        refine ⟨(by walk_at "sz"), fun t2 n2 => ?_⟩
        generalize e6 : upd H5 t2 _ = H6
        obtain ⟨S56, ht6⟩ := newF n2 e6
        have S36 : Same H3 H6 := S34.trans (S45.trans S56)
        have R6 := (R.same S23).same S36
        have Rh6 := R6.he
        walk_at "rd"
        refine ⟨_, _, _, rfl, rfl, Rh6, ?_, ?_⟩
        · rw [List.length_map]
          have z := Tr.sizes_len (hs.map Fp.t)
          rw [List.length_map] at z
          simp only [RS.tot, rsOf] at htot
          exact Nat.lt_of_le_of_lt (show _ ≤ 90000 by omega) (by decide)
        generalize e7 : upd H6 hh _ = H7
        have k7 : Keep [hh] H6 H7 := by subst e7; exact (Keep.refl _ _).upd (by simp) Rh6
        have hh7 : H7 hh = some (.lst (hs.map Fp.v ++ [.ref t2])) := by subst e7; exact upd_same
        have nl : H l0 = none := S3.free n0
        have nlhh : l0 ≠ hh := (ne_of_none (S23 _ _ R.he) n0).symm
        have FF6 : FF H6 (.node c []) (.ref t2) [l0] := ⟨t2, .ref t1, rfl, by rw [ht6, Tr.W_leaf], .mk t1 l0 [] (S56 _ _ ht5) (S56 _ _ (S45 _ _ hl4)) (fun p hp => by cases hp) rfl rfl rfl⟩
        have FF7 : FF H7 (.node c []) (.ref t2) [l0] := FF6.keep k7 fun b hb z => nlhh (by rw [← List.mem_singleton.mp hb, List.mem_singleton.mp z])
        have R7 : RepR H H7 al hh fs (hs ++ [(.ref t2, .node c [], [l0])]) := R6.put k7 (by rw [hh7, List.map_append]; rfl) FF7 (fun a ha z => (R.same S23).new n0 (by rw [← List.mem_singleton.mp ha]; exact z)) (by simp [Fp.as]) (fun a ha => by rw [List.mem_singleton.mp ha]; exact nl)
        have hr7 : RS.run ⟨0, [], []⟩ (l.take (i + 1)) = some (rsOf c fs (hs ++ [(.ref t2, .node c [], [l0])])) := by
          rw [RS.run_next hrun hc', hstep]
          simp [rsOf, Fp.t]
        have S07 : Same H H7 := by subst e7; exact Same.upd_own (S3.trans S36) nh'
        exact ⟨al, hh, fs, _, c, _, _, _, _, rfl, S07, R7, hr7, RS.step_inv ((RS.run_next hrun hc').symm.trans hr7), Nat.le_trans (RS.step_tot hinv ((RS.run_next hrun hc').symm.trans hr7)) (by omega), fun z => absurd z (by omega), fun _ => hc'⟩
      | false =>
        have hraise : (rsOf prev fs hs).step c = none → ∀ x, mg "NoText" = some x → ∀ H', Same H H' → E x none H' := fun hn x hx H' S => k2 (by unfold parse; rw [RS.run_stop hrun hc' hn]) x hx H' S
        walk_at "rd"
        rw [sign_op]
        have Rf : RepR H H3 al hh fs hs := R.same S23
        by_cases h40 : c = 40
        · subst h40
          by_cases hi0 : i = 0
          · subst hi0
            have hp := hp0 rfl
            subst hp
            walk_at "rd"
            exact fun x hx => hraise (by simp [RS.step, rsOf, isL]) x hx _ S3
          · have hprev := hp1 (by omega)
            have hix : atI (txS l).cps.toList ((i : Int) - 1) = some prev := by
              have e : (i : Int) - 1 = ((i - 1 : Nat) : Int) := by omega
              rw [e]
              exact atI_nat (by simpa using hprev)
            walk_at "rd"
            refine iteB (decide_eq_true (by omega)) ?_
            walk_at "rd"
            refine ⟨_, _, prev, rfl, rfl, ?_, hix, ?_⟩
            · rw [txS_len]
              exact Nat.le_trans hl (by decide)
            walk_at "rd"
            rw [letter_in]
            cases hLp : isL prev with
            | false =>
              walk_at "rd"
              exact fun x hx => hraise (RS.step40 hLp) x hx _ S3
            | true =>
              obtain ⟨ts0, ets⟩ := hinv hLp
              obtain ⟨hs0, q, rfl⟩ : ∃ hs0 q, hs = hs0 ++ [q] := by
                rcases snoc_cases hs with rfl | ⟨a, b, e⟩
                · have z : ([] : List Tr) = ts0 ++ [.node prev []] := ets
                  simp at z
                · exact ⟨a, b, e⟩
              have eq1 : q.t = .node prev [] ∧ hs0.map Fp.t = ts0 := by
                have z : (hs0 ++ [q]).map Fp.t = ts0 ++ [.node prev []] := ets
                rw [List.map_append] at z
                obtain ⟨z1, z2⟩ := List.append_inj' z rfl
                exact ⟨by simpa using z2, z1⟩
              obtain ⟨a, u, ev, hau, hu⟩ := Rf.hp q (by simp)
              have Rh3 : H3 hh = some (.lst (hs0.map Fp.v ++ [.ref a])) := by rw [Rf.he, List.map_append, ← ev]; rfl
              walk_at "rd"
              rw [List.dropLast_concat]
              generalize e4 : upd H3 hh _ = H4
              have k4 : Keep [hh] H3 H4 := by subst e4; exact (Keep.refl _ _).upd (by simp) Rh3
              have hh4 : H4 hh = some (.lst (hs0.map Fp.v)) := by subst e4; exact upd_same
              have S4 : Same H H4 := by subst e4; exact Same.upd_own S3 nh'
              have R4 := Rf.pop k4 hh4
              have ha4 := k4.tup _ _ hau
              have hal4 := R4.ab
              rw [eq1.1, Tr.W_leaf] at ha4
              walk_at "rd"
              refine ⟨(by walk_at "sz"), fun t1 n1 => ?_⟩
              generalize e5 : upd H4 t1 _ = H5
              obtain ⟨S45, ht5⟩ := newF n1 e5
              have hal5 := S45 _ _ hal4
              walk_at "rd"
              refine ⟨_, _, _, rfl, rfl, hal5, ?_, ?_⟩
              · rw [List.length_map]
                have z : fs.length ≤ i := by
                  have z2 := sum_ge (fun f : Op => 1 + Tr.sizes (f.ps.map Fp.t)) (fun f => Nat.le_add_right _ _) fs
                  simp only [RS.tot, rsOf, List.map_map] at htot
                  exact Nat.le_trans z2 (Nat.le_trans (Nat.le_add_right _ _) htot)
                exact Nat.lt_of_le_of_lt (show _ ≤ 90000 by omega) (by decide)
              generalize e6 : upd H5 al _ = H6
              have k6 : Keep [al] H5 H6 := by subst e6; exact (Keep.refl _ _).upd (by simp) hal5
              have hal6 : H6 al = some (.lst (fs.map (fun f => V.ref f.tup) ++ [.ref t1])) := by subst e6; exact upd_same
              walk_at "rd"
              refine ⟨(by walk_at "sz"), fun h2 n2 => ?_⟩
              generalize e7 : upd H6 h2 _ = H7
              obtain ⟨S67, hh7⟩ := newF n2 e7
              have n2al : h2 ≠ al := fun z => by rw [z, hal6] at n2; cases n2
              have n25 : H5 h2 = none := by subst e6; rw [upd_ne n2al] at n2; exact n2
              have S5 : Same H H5 := S4.trans S45
              have n20 : H h2 = none := S5.free n25
              have k7 : Keep [al] H5 H7 := k6.trans (Same.keep S67)
              have S7 : Same H H7 := by
                refine Same.trans ?_ S67
                subst e6
                exact Same.upd_own S5 na'
              have R7 : RepR H H7 al h2 (fs ++ [⟨t1, prev, hh, hs0⟩]) [] := (R4.same S45).opened k7 ht5 (by rw [S67 _ _ hal6, List.map_append]; rfl) hh7 n25 n20
              have hr7 : RS.run ⟨0, [], []⟩ (l.take (i + 1)) = some (rsOf 40 (fs ++ [⟨t1, prev, hh, hs0⟩]) []) := by
                rw [RS.run_next hrun hc', RS.step40_ok hLp]
                simp [rsOf]
              exact ⟨al, h2, _, [], 40, _, _, _, _, rfl, S7, R7, hr7, RS.step_inv ((RS.run_next hrun hc').symm.trans hr7), Nat.le_trans (RS.step_tot hinv ((RS.run_next hrun hc').symm.trans hr7)) (by omega), fun z => absurd z (by omega), fun _ => hc'⟩
        · rw [decide_eq_false h40]
          walk_at "rd"
          rw [sign_cl]
          by_cases h41 : c = 41
          · subst h41
            walk_at "rd"
            rcases snoc_cases fs with rfl | ⟨fs0, ⟨t, lc, ml, ms⟩, rfl⟩
            · walk_at "rd"
              exact fun x hx => hraise (RS.step41_none rfl) x hx _ S3
            · rw [List.map_append]
              refine ifNe (by simp) ?_
              have hop := Rf.op ⟨t, lc, ml, ms⟩ (by simp)
              have Ra3 : H3 al = some (.lst (fs0.map (fun f => V.ref f.tup) ++ [.ref t])) := by rw [Rf.ab, List.map_append]; rfl
              walk_at "rd"
              rw [List.dropLast_concat]
              generalize e4 : upd H3 al _ = H4
              have k4 : Keep [al] H3 H4 := by subst e4; exact (Keep.refl _ _).upd (by simp) Ra3
              have hal4 : H4 al = some (.lst (fs0.map fun f => V.ref f.tup)) := by subst e4; exact upd_same
              have S4 : Same H H4 := by subst e4; exact Same.upd_own S3 na'
              obtain ⟨hop4, hh4, hF4⟩ := Rf.away k4
              obtain ⟨ht4, hml4, hms4⟩ := hop4 ⟨t, lc, ml, ms⟩ (by simp)
              dsimp only at ht4 hml4 hms4
              have etot : RS.tot (rsOf prev (fs0 ++ [⟨t, lc, ml, ms⟩]) hs) = RS.tot (rsOf prev fs0 ms) + 1 + Tr.sizes (hs.map Fp.t) := by
                simp only [RS.tot, rsOf, List.map_append, List.map_cons, List.map_nil, List.sum_append, List.sum_cons, List.sum_nil]
                omega
              rw [etot] at htot
              have nml : H ml = none := R.fr ml (by simp [fpR, fpO])
              walk_at "rd"
              refine ⟨lc, hh, hs, rfl, hh4, hF4, by omega, fun hne hsr H5 v l' S45 nl hFF => ?_, fun hbad x hx H5 S5 => ?_⟩
              · have hml5 := S45 _ _ hml4
                refine ⟨_, _, _, rfl, rfl, hml5, ?_, ?_⟩
                · rw [List.length_map]
                  have z := Tr.sizes_len (ms.map Fp.t)
                  rw [List.length_map] at z
                  simp only [RS.tot, rsOf] at htot
                  exact Nat.lt_of_le_of_lt (show _ ≤ 90000 by omega) (by decide)
                generalize e6 : upd H5 ml _ = H6
                have k6 : Keep [ml] H5 H6 := by subst e6; exact (Keep.refl _ _).upd (by simp) hml5
                have hml6 : H6 ml = some (.lst (ms.map Fp.v ++ [v])) := by subst e6; exact upd_same
                have S6 : Same H H6 := by subst e6; exact Same.upd_own (S4.trans S45) nml
                have k36 : Keep [al, ml] H3 H6 := (k4.mono (by simp)).trans ((Same.keep S45).trans (k6.mono (by simp)))
                have nlml : l' ≠ ml := fun z => by rw [z, hml4] at nl; cases nl
                have namL : al ≠ ml := fun z => by
                  have q := Rf.nd
                  simp [fpR, fpO, z] at q
                have hal6 : H6 al = some (.lst (fs0.map fun f => V.ref f.tup)) := by subst e6; rw [upd_ne namL]; exact S45 _ _ hal4
                have nl3 : H3 l' = none := by
                  cases q : H3 l' with
                  | none => rfl
                  | some o =>
                    by_cases hla : l' = al
                    · rw [hla, hal4] at nl
                      cases nl
                    · have := k4.but l' o (by simpa using hla) q
                      rw [nl] at this
                      cases this
                have nml' : ml ∉ hs.flatMap Fp.as := fun hm => by
                  have q := Rf.nd
                  rw [show fpR al hh (fs0 ++ [⟨t, lc, ml, ms⟩]) hs = (al :: (fpO fs0 ++ (ml :: ms.flatMap Fp.as))) ++ (hh :: hs.flatMap Fp.as) by simp [fpR, fpO, List.flatMap_append]] at q
                  exact (List.nodup_append.mp q).2.2 ml (by simp) ml (List.mem_cons_of_mem _ hm) rfl
                have hFF6 : FF H6 (.node lc (hs.map Fp.t)) v (l' :: hs.flatMap Fp.as) := hFF.keep k6 fun b hb z => by
                  rw [List.mem_singleton.mp z] at hb
                  rcases List.mem_cons.mp hb with e | hb
                  · exact nlml e.symm
                  · exact nml' hb
                have R6 : RepR H H6 al ml fs0 (ms ++ [(v, .node lc (hs.map Fp.t), l' :: hs.flatMap Fp.as)]) := Rf.closed k36 hal6 (by rw [hml6, List.map_append]; rfl) hFF6 nl3 (S3.free nl3)
                have hne' : hs.map Fp.t ≠ [] := by simpa using hne
                have hr6 : RS.run ⟨0, [], []⟩ (l.take (i + 1)) = some (rsOf 41 fs0 (ms ++ [(v, .node lc (hs.map Fp.t), l' :: hs.flatMap Fp.as)])) := by
                  rw [RS.run_next hrun hc']
                  have e : rsOf prev (fs0 ++ [⟨t, lc, ml, ms⟩]) hs = ⟨prev, fs0.map (fun f => (f.c, f.ps.map Fp.t)) ++ [(lc, ms.map Fp.t)], hs.map Fp.t⟩ := by simp [rsOf]
                  rw [e, RS.step41, if_pos ⟨hne', hsr⟩]
                  simp [rsOf, Fp.t]
                walk_at "rd"
                have hst := (RS.run_next hrun hc').symm.trans hr6
                exact ⟨al, ml, fs0, _, 41, _, _, _, _, rfl, S6, R6, hr6, RS.step_inv hst, Nat.le_trans (RS.step_tot hinv hst) (by omega), fun z => absurd z (by omega), fun _ => hc'⟩
              · refine hraise ?_ x hx _ (S4.trans S5)
                have e : rsOf prev (fs0 ++ [⟨t, lc, ml, ms⟩]) hs = ⟨prev, fs0.map (fun f => (f.c, f.ps.map Fp.t)) ++ [(lc, ms.map Fp.t)], hs.map Fp.t⟩ := by simp [rsOf]
                rw [e, RS.step41, if_neg]
                rintro ⟨z1, z2⟩
                exact hbad ⟨by simpa using z1, z2⟩
          · rw [decide_eq_false h41]
            walk_at "rd"
            exact fun x hx => hraise (RS.step_other hL h40 h41) x hx _ S3
    · rintro σ H2 ⟨al, hh, fs, hs, prev, x3, x4, x5, x6, rfl, S2, R, hrun, hinv, htot, hp0, hp1⟩
      have esz : (txS l).cps.size = l.length := by simp
      rw [esz, List.take_length] at hrun
      have Ra := R.ab
      have Rh := R.he
      walk_at "rd"
      rcases snoc_cases fs with rfl | ⟨fs0, f0, rfl⟩
      · walk_at "rd"
        match hs, R with
        | [], R =>
          walk_at "rd"
          exact fun x hx => k2 (by unfold parse; rw [hrun]; rfl) x hx _ S2
        | p :: q :: r, R =>
          refine iteB ?_ ?_
          · show (!decide (V.int (((p :: q :: r).map Fp.v).length : Int) = V.int 1)) = true
            rw [decide_eq_false]
            · rfl
            · intro z
              have z2 := V.int.inj z
              simp at z2
              omega
          · walk_at "rd"
            exact fun x hx => k2 (by unfold parse; rw [hrun]; rfl) x hx _ S2
        | [p], R =>
          obtain ⟨a, u, ev, ha, hu⟩ := R.hp p (by simp)
          obtain ⟨pv, pt, pa⟩ := p
          obtain rfl : pv = .ref a := ev
          walk_at "rd"
          refine k1 pt (by unfold parse; rw [hrun]; rfl) _ _ _ S2 hu (fun b hb => R.fr b ?_) ?_
          · simp [fpR, fpO]
            exact .inr (.inr hb)
          · have q := R.nd
            simp only [fpR, fpO, List.flatMap_nil, List.nil_append, List.flatMap_cons, List.append_nil] at q
            exact (List.nodup_cons.mp (List.nodup_cons.mp q).2).2
      · rw [List.map_append]
        refine ifNe (by simp) ?_
        walk_at "rd"
        refine fun x hx => k2 ?_ x hx _ S2
        unfold parse
        rw [hrun]
        have e : ((fs0 ++ [f0]).map fun f : Op => (f.c, f.ps.map Fp.t)) ≠ [] := by simp
        unfold rsOf
        cases q : (fs0 ++ [f0]).map fun f : Op => (f.c, f.ps.map Fp.t) with
        | nil => exact absurd q e
        | cons y ys => rfl
end
end Hy
set_option Elab.async false
set_option linter.all false
set_option maxRecDepth 100000
set_option maxHeartbeats 4000000
namespace Hy
open PySem L2
local macro_rules | `(tactic| walk_at "hp") => `(tactic| first
  | assumption | exact upd_same
  | (refine (upd_ne ?_).trans ?_ <;> first | assumption | (exact Ne.symm (by assumption)) | walk_at "ne" | walk_at "hp")
  | (refine (by assumption : Same _ _) _ _ ?_; assumption))
local macro_rules | `(tactic| walk_at "ne") => `(tactic| first
  | assumption | (exact Ne.symm (by assumption))
  | exact ne_of_none (by assumption) (by assumption) | exact Ne.symm (ne_of_none (by assumption) (by assumption)))
local macro_rules | `(tactic| walk_at "sz") => `(tactic| first | assumption | (show 0 ≤ sizeLine; decide) | (show 1 ≤ sizeLine; decide) | (show 2 ≤ sizeLine; decide) | (show 3 ≤ sizeLine; decide))
local macro_rules | `(tactic| walk_at "ar") => `(tactic| first
  | ((with_reducible show (0 : Int) < _); first | decide | omega)
  | ((with_reducible show CMul _ _); first | exact Or.inr (And.intro (by decide) (by decide)) | exact Or.inl (And.intro (by decide) (by decide)) | (refine Or.inl (And.intro ?_ ?_) <;> omega) | (refine Or.inr (And.intro ?_ ?_) <;> omega))
  | ((with_reducible show CPow _ _); exact And.intro (by decide) (And.intro (by decide) (by decide)))
  | ((with_reducible show CDiv _ _); first | exact And.intro (by decide) (by decide) | (refine And.intro ?_ ?_ <;> omega)))
/- one step of a reading -/
local macro_rules | `(tactic| walk_at "r1") => `(tactic| first
  | refine ⟨_, rfl, ?_⟩
  | refine iteB (by rfl) ?_ | refine iteC (by rfl) ?_
  | refine ⟨_, _, rfl, rfl, ?_⟩
  | refine ⟨rfl, ?_⟩
  | refine ⟨⟨_, rfl⟩, ?_⟩
  | refine ⟨_, _, _, _, true, rfl, .ty _, .base (.str _), kit_ty (by decide +kernel), ?_⟩
  | refine ⟨_, _, _, _, false, rfl, .ty _, .base (.str _), kit_ty (by decide +kernel), ?_⟩
  | refine ⟨_, _, _, _, true, rfl, .ty _, .base (.tup (by walk_at "hp")), kit_ty (by decide +kernel), ?_⟩
  | refine ⟨_, _, _, _, false, rfl, .ty _, .base (.tup (by walk_at "hp")), kit_ty (by decide +kernel), ?_⟩
  | refine ⟨_, _, _, _, true, rfl, .ty _, .base (.lst (by walk_at "hp")), kit_ty (by decide +kernel), ?_⟩
  | refine ⟨_, _, _, _, false, rfl, .ty _, .base (.lst (by walk_at "hp")), kit_ty (by decide +kernel), ?_⟩
  | refine ⟨_, _, rfl, ⟨by walk_at "sz", rfl⟩, ?_⟩
  | refine ⟨_, _, _, _, rfl, rfl, SqT.of (by walk_at "hp"), by rfl, ?_⟩
  | refine ⟨_, _, _, _, rfl, rfl, SqL.of (by walk_at "hp"), by rfl, ?_⟩
  | refine ⟨.inl ⟨rfl, _, SqL.of (by walk_at "hp")⟩, ?_⟩
  | refine ⟨_, _, _, rfl, rfl, (by walk_at "hp"), snoc_get, ?_⟩
  | refine ⟨_, _, _, _, rfl, rfl, (by walk_at "hp"), by rfl, ?_⟩
  | refine ⟨_, _, rfl, SqL.of (by walk_at "hp"), ?_⟩
  | refine ⟨_, _, rfl, SqT.of (by walk_at "hp"), by rfl, ?_⟩
  | refine ⟨_, (_ : List V), rfl, ?_⟩
  | refine ⟨_, _, rfl, .inl ⟨_, (by assumption), rfl⟩, ?_⟩
  | refine ⟨_, _, rfl, .inl ⟨_, SqL.of (by walk_at "hp"), rfl⟩, ?_⟩
  | refine ⟨_, _, rfl, .inr ⟨_, SqT.of (by walk_at "hp"), rfl⟩, ?_⟩
  | refine Or.inl ⟨(_ : Int), rfl, ?_⟩ | refine Or.inr ⟨(_ : Bool), rfl, ?_⟩
  | refine And.intro (by walk_at "ar") ?_)
local macro_rules | `(tactic| walk_at "rd") => `(tactic| repeat walk_at "r1")

section
variable {P : Program} {w : World} {K : PySem.W.Frag} {mg : Str → Option Value} {base : Heap}
abbrev s__law_cell : Stmt := top 20
theorem sc__law_cell : FnScope ["script", "k"] ["script", "k"] (defScope s__law_cell) := ⟨rfl, rfl, rfl, by decide +kernel, rfl, by decide +kernel, by decide +kernel⟩
abbrev s__law_store : Stmt := top 21
theorem sc__law_store : FnScope ["cell", "great"] ["cell"] (defScope s__law_store) := ⟨rfl, rfl, rfl, by decide +kernel, rfl, by decide +kernel, by decide +kernel⟩
abbrev s__law_take : Stmt := top 22
theorem sc__law_take : FnScope ["store", "many", "told", "one"] ["store", "many"] (defScope s__law_take) := ⟨rfl, rfl, rfl, by decide +kernel, rfl, by decide +kernel, by decide +kernel⟩

def sp__law_cell : Sp := fun vs H Q _ => ∃ (a : Addr) (ns : List Int) (k : Nat), vs = [.ref a, .int (k : Int)] ∧ SqL K H a (ns.map V.int) ∧ k < 1000 ∧ ∀ z : Int, Q (.int z) H
theorem ok__law_cell (D : Df K mg "_law_cell" s__law_cell ["script", "k"]) (T : Txt K mg) : G' P w K mg base "_law_cell" 1 ["script", "k"] (sp__law_cell (K := K)) := by
  refine D.ok fun f fd F => F.okX sc__law_cell (fun vs H Q E h => ?_) (fun cdv A outer s H vs Q E hr h => ?_)
  · obtain ⟨a, ns, k, rfl, _⟩ := h
    rfl
  · obtain ⟨a, ns, k, rfl, hs, hk, q⟩ := h
    refine ⟨_, (pss_cons (ps_if (pt_cmpR op_lt (pv 1) (pe_callB (call_lenK K) (by rfl) T.n_len PySem.boot_len (pa_cons (pv 0) pa_nil)) (nomark _)) (pss_one (ps_ret (pe_ix (ix_listK K) (pv 0) (pv 1) (fun _ _ => rfl)))) pss_nil)
  (pss_one (ps_ret (pe_op op_add (pe_op op_add (pe_op op_mul (pe_op op_mul pe_int (pv 1)) (pv 1)) (pe_op op_mul pe_int (pv 1))) pe_int)))), ?_⟩
    walk_at "rd"
    rw [List.length_map]
    by_cases h : k < ns.length
    · refine iteB (decide_eq_true (by omega)) ?_
      walk_at "rd"
      refine ⟨_, _, _, _, rfl, rfl, hs, atI_nat (by rw [List.getElem?_map, List.getElem?_eq_getElem h]; rfl), ?_⟩
      exact q _
    · refine iteC (decide_eq_false (by omega)) ?_
      walk_at "rd"
      exact q _
def sp__law_store : Sp := fun vs H Q _ => ∃ c : Int, vs = [.int c] ∧ ∀ (H' : Hp) (p : Addr) (g x : Int), Same H H' → H p = none → H' p = some (.lst [.int g, .int x, .int 1]) → Q (.ref p) H'
theorem ok__law_store (D : Df K mg "_law_store" s__law_store ["cell"]) (T : Txt K mg) : G' P w K mg base "_law_store" 1 ["cell"] sp__law_store := by
  refine D.ok fun f fd F => F.okX sc__law_store (fun vs H Q E h => ?_) (fun cdv A outer s H vs Q E hr h => ?_)
  · obtain ⟨c, rfl, _⟩ := h
    rfl
  · obtain ⟨c, rfl, q⟩ := h
    refine ⟨_, (pss_cons (ps_set (i := 1) sc__law_store.nd rfl (by first | exact Or.inl rfl | exact Or.inr rfl) pe_int)
  (pss_cons (ps_if (pt_cmpR op_ge (pv 0) (pe_op op_pow pe_int pe_int) (nomark _)) (pss_one (ps_set (i := 1) sc__law_store.nd rfl (by first | exact Or.inl rfl | exact Or.inr rfl) (pv 0))) pss_nil)
  (pss_one (ps_ret (pe_lst (pa_cons (pv 1) (pa_cons (pe_op op_mod (pv 0) pe_int) (pa_cons pe_int pa_nil)))))))), ?_⟩
    walk_at "rd"
    have fin : ∀ (g : Int) (p : Addr), H p = none → Q (.ref p) (upd H p (.lst [.int g, .int (c % 2147483629), .int 1])) := fun g p np => q _ p _ _ (same_new np) np upd_same
    by_cases h : c ≥ 1000000000000000000
    · refine iteB (decide_eq_true (by first | exact h | omega)) ?_
      walk_at "rd"
      exact ⟨(by walk_at "sz"), fun p np => fin _ p np⟩
    · refine iteC (decide_eq_false (by first | exact h | omega)) ?_
      walk_at "rd"
      exact ⟨(by walk_at "sz"), fun p np => fin _ p np⟩
/-- the store of draws -/
def StoreAt (H : Hp) (s : Addr) : Prop := ∃ g x n : Int, H s = some (.lst [.int g, .int x, .int n])
def sp__law_take : Sp := fun vs H Q _ => ∃ (s : Addr) (m : Int), vs = [.ref s, .int m] ∧ StoreAt H s ∧ 1 ≤ m ∧ m ≤ 1000000 ∧ ∀ (H' : Hp) (r : Int), Keep [s] H H' → StoreAt H' s → 0 ≤ r → r < m → Q (.int r) H'
theorem ok__law_take (D : Df K mg "_law_take" s__law_take ["store", "many"]) (T : Txt K mg) : G' P w K mg base "_law_take" 1 ["store", "many"] sp__law_take := by
  refine D.ok fun f fd F => F.okX sc__law_take (fun vs H Q E h => ?_) (fun cdv A outer s H vs Q E hr h => ?_)
  · obtain ⟨s, m, rfl, _⟩ := h
    rfl
  · obtain ⟨st, m, rfl, ⟨g, x, n, hst⟩, h1, h2, q⟩ := h
    refine ⟨_, (pss_cons (ps_if (pt_cmpR op_gt (pe_ix (ix_listK K) (pv 0) pe_int (fun _ _ => rfl)) pe_int (nomark _)) (pss_cons (ps_set (i := 2) sc__law_take.nd rfl (by first | exact Or.inl rfl | exact Or.inr rfl) (pe_op op_mod (pe_ix (ix_listK K) (pv 0) pe_int (fun _ _ => rfl)) (pv 1)))
  (pss_cons (ps_asg (pe_op op_fdiv (pe_ix (ix_listK K) (pv 0) pe_int (fun _ _ => rfl)) (pv 1)) (pg_sub (pv 0) pe_int set_list))
  (pss_one (ps_ret (pv 2))))) pss_nil)
  (pss_cons (ps_asg (pe_op op_add (pe_ix (ix_listK K) (pv 0) pe_int (fun _ _ => rfl)) pe_int) (pg_sub (pv 0) pe_int set_list))
  (pss_cons (ps_set (i := 3) sc__law_take.nd rfl (by first | exact Or.inl rfl | exact Or.inr rfl) (pe_op op_mod (pe_op op_mul (pe_op op_add (pe_ix (ix_listK K) (pv 0) pe_int (fun _ _ => rfl)) (pe_op op_mul pe_int (pe_ix (ix_listK K) (pv 0) pe_int (fun _ _ => rfl)))) pe_int) pe_int))
  (pss_cons (ps_set (i := 3) sc__law_take.nd rfl (by first | exact Or.inl rfl | exact Or.inr rfl) (pe_op op_mod (pe_op op_mul (pv 3) (pv 3)) pe_int))
  (pss_cons (ps_set (i := 3) sc__law_take.nd rfl (by first | exact Or.inl rfl | exact Or.inr rfl) (pe_op op_mod (pe_op op_mul (pe_op op_add (pv 3) (pe_op op_mul pe_int (pe_ix (ix_listK K) (pv 0) pe_int (fun _ _ => rfl)))) pe_int) pe_int))
  (pss_one (ps_ret (pe_op op_mod (pe_op op_fdiv (pv 3) pe_int) (pv 1))))))))), ?_⟩
    walk_at "rd"
    by_cases h : g > 0
    · refine iteB (decide_eq_true (by omega)) ?_
      walk_at "rd"
      exact q _ _ ((Keep.refl _ _).upd (by simp) hst) ⟨_, _, _, upd_same⟩ (Int.emod_nonneg _ (by omega)) (Int.emod_lt_of_pos _ (by omega))
    · refine iteC (decide_eq_false (by omega)) ?_
      walk_at "rd"
      exact q _ _ ((Keep.refl _ _).upd (by simp) hst) ⟨_, _, _, upd_same⟩ (Int.emod_nonneg _ (by omega)) (Int.emod_lt_of_pos _ (by omega))
end
end Hy
set_option Elab.async false
set_option linter.all false
set_option maxRecDepth 100000
set_option maxHeartbeats 4000000
namespace Hy
open PySem L2
local macro_rules | `(tactic| walk_at "hp") => `(tactic| first
  | assumption | exact upd_same
  | (refine (upd_ne ?_).trans ?_ <;> first | assumption | (exact Ne.symm (by assumption)) | walk_at "ne" | walk_at "hp")
  | (refine (by assumption : Same _ _) _ _ ?_; assumption))
local macro_rules | `(tactic| walk_at "ne") => `(tactic| first
  | assumption | (exact Ne.symm (by assumption))
  | exact ne_of_none (by assumption) (by assumption) | exact Ne.symm (ne_of_none (by assumption) (by assumption)))
local macro_rules | `(tactic| walk_at "sz") => `(tactic| first | assumption | (show 0 ≤ sizeLine; decide) | (show 1 ≤ sizeLine; decide) | (show 2 ≤ sizeLine; decide) | (show 3 ≤ sizeLine; decide))
local macro_rules | `(tactic| walk_at "ar") => `(tactic| first
  | ((with_reducible show (0 : Int) < _); first | decide | omega)
  | ((with_reducible show CMul _ _); first | exact Or.inr (And.intro (by decide) (by decide)) | exact Or.inl (And.intro (by decide) (by decide)) | (refine Or.inl (And.intro ?_ ?_) <;> omega) | (refine Or.inr (And.intro ?_ ?_) <;> omega))
  | ((with_reducible show CPow _ _); exact And.intro (by decide) (And.intro (by decide) (by decide)))
  | ((with_reducible show CDiv _ _); first | exact And.intro (by decide) (by decide) | (refine And.intro ?_ ?_ <;> omega)))
/- one step of a reading -/
local macro_rules | `(tactic| walk_at "r1") => `(tactic| first
  | refine ⟨_, rfl, ?_⟩
  | refine iteB (by rfl) ?_ | refine iteC (by rfl) ?_
  | refine ⟨_, _, rfl, rfl, ?_⟩
  | refine ⟨rfl, ?_⟩
  | refine ⟨⟨_, rfl⟩, ?_⟩
  | refine ⟨_, _, _, _, true, rfl, .ty _, .base (.str _), kit_ty (by decide +kernel), ?_⟩
  | refine ⟨_, _, _, _, false, rfl, .ty _, .base (.str _), kit_ty (by decide +kernel), ?_⟩
  | refine ⟨_, _, _, _, true, rfl, .ty _, .base (.tup (by walk_at "hp")), kit_ty (by decide +kernel), ?_⟩
  | refine ⟨_, _, _, _, false, rfl, .ty _, .base (.tup (by walk_at "hp")), kit_ty (by decide +kernel), ?_⟩
  | refine ⟨_, _, _, _, true, rfl, .ty _, .base (.lst (by walk_at "hp")), kit_ty (by decide +kernel), ?_⟩
  | refine ⟨_, _, _, _, false, rfl, .ty _, .base (.lst (by walk_at "hp")), kit_ty (by decide +kernel), ?_⟩
  | refine ⟨_, _, rfl, ⟨by walk_at "sz", rfl⟩, ?_⟩
  | refine ⟨_, _, _, _, rfl, rfl, SqT.of (by walk_at "hp"), by rfl, ?_⟩
  | refine ⟨_, _, _, _, rfl, rfl, SqL.of (by walk_at "hp"), by rfl, ?_⟩
  | refine ⟨.inl ⟨rfl, _, SqL.of (by walk_at "hp")⟩, ?_⟩
  | refine ⟨_, _, _, rfl, rfl, (by walk_at "hp"), snoc_get, ?_⟩
  | refine ⟨_, _, _, _, rfl, rfl, (by walk_at "hp"), by rfl, ?_⟩
  | refine ⟨_, _, rfl, SqL.of (by walk_at "hp"), ?_⟩
  | refine ⟨_, _, rfl, SqT.of (by walk_at "hp"), by rfl, ?_⟩
  | refine ⟨_, (_ : List V), rfl, ?_⟩
  | refine ⟨_, _, rfl, .inl ⟨_, (by assumption), rfl⟩, ?_⟩
  | refine ⟨_, _, rfl, .inl ⟨_, SqL.of (by walk_at "hp"), rfl⟩, ?_⟩
  | refine ⟨_, _, rfl, .inr ⟨_, SqT.of (by walk_at "hp"), rfl⟩, ?_⟩
  | refine Or.inl ⟨(_ : Int), rfl, ?_⟩ | refine Or.inr ⟨(_ : Bool), rfl, ?_⟩
  | refine And.intro (by walk_at "ar") ?_)
local macro_rules | `(tactic| walk_at "rd") => `(tactic| repeat walk_at "r1")

/-! data of trees, to be sorted -/
mutual
theorem alike_tr : ∀ a b : Tr, PySem.W.alike a.toD b.toD = true
  | .node c ts, .node d us => by simp [Tr.toD, PySem.W.alike, PySem.W.alikeAll, alike_trs ts us]
theorem alike_trs : ∀ a b : List Tr, PySem.W.alikeAll (Tr.toDs a) (Tr.toDs b) = true
  | [], _ => by simp [Tr.toDs, PySem.W.alikeAll]
  | _ :: _, [] => by simp [Tr.toDs, PySem.W.alikeAll]
  | x :: a, y :: b => by simp [Tr.toDs, PySem.W.alikeAll, alike_tr x y, alike_trs a b]
end
def ffD (t : Tr) : PyData := .tuple [.str (txS t.W), t.toD]
theorem alike_ff (a b : Tr) : PySem.W.alike (ffD a) (ffD b) = true := by simp [ffD, PySem.W.alike, PySem.W.alikeAll, alike_tr]
theorem le_ff {a b : Tr} {x y : V} (h : PySem.W.dataLe false (fun p : V × PyData => p.2) (x, ffD a) (y, ffD b) = true) : leW a b = true := by
  have h' : (!PySem.W.dataLt (ffD b) (ffD a)) = true := h
  unfold ffD at h'
  rw [PySem.W.dataLt_pair (by simp [PySem.W.alike]) (alike_tr _ _)] at h'
  unfold leW
  by_cases e : PyData.eqv (.str (txS b.W)) (.str (txS a.W)) = true
  · have e' : txS b.W = txS a.W := by simpa [PyData.eqv] using e
    have e2 : b.W = a.W := by simpa using congrArg (fun s : Str => s.cps.toList) e'
    rw [e2]
    exact decide_eq_true (List.le_refl _)
  · rw [if_neg e, PySem.W.dataLt_str] at h'
    have h2 : ¬ (b.W < a.W) := by simpa using h'
    exact decide_eq_true (List.not_lt.mp h2)
theorem ffD_depth (t : Tr) : (ffD t).depth = 2 * t.dep + 1 := by
  simp only [ffD, PyData.depth, PyData.depthAll, Tr.toD_depth]
  omega
section
variable {P : Program} {w : World} {K : PySem.W.Frag} {mg : Str → Option Value} {base : Heap}
abbrev s__law_some_letters : Stmt := top 26
theorem sc__law_some_letters : FnScope ["store", "every", "k"] ["store"] (defScope s__law_some_letters) := ⟨rfl, rfl, rfl, by decide +kernel, rfl, by decide +kernel, by decide +kernel⟩
abbrev s__law_formed : Stmt := top 24
theorem sc__law_formed : FnScope ["tree", "children", "child", "inner", "more", "writing"] ["tree"] (defScope s__law_formed) := ⟨rfl, rfl, rfl, by decide +kernel, rfl, by decide +kernel, by decide +kernel⟩

def LetS (zl : List Nat) : Prop := zl ≠ [] ∧ zl.length ≤ 26 ∧ ∀ c ∈ zl, isL c = true
def sp__law_some_letters : Sp := fun vs H Q _ => ∃ (s : Addr), vs = [.ref s] ∧ StoreAt H s ∧ ∀ (H' : Hp) (zl : List Nat), Keep [s] H H' → StoreAt H' s → LetS zl → Q (tx zl) H'
def LETL : List Nat := [97, 98, 99, 100, 101, 102, 103, 104, 105, 106, 107, 108, 109, 110, 111, 112, 113, 114, 115, 116, 117, 118, 119, 120, 121, 122]
theorem letL_ok : LetS LETL := ⟨by decide, by decide, by decide⟩
theorem ok__law_some_letters (D : Df K mg "_law_some_letters" s__law_some_letters ["store"]) (T : Txt K mg) (G__law_take : G' P w K mg base "_law_take" 1 ["store", "many"] sp__law_take) : G' P w K mg base "_law_some_letters" 2 ["store"] sp__law_some_letters := by
  refine D.ok fun f fd F => F.okX sc__law_some_letters (fun vs H Q E h => ?_) (fun cdv A outer s H vs Q E hr h => ?_)
  · obtain ⟨s, rfl, _⟩ := h
    rfl
  · obtain ⟨st, rfl, hst, k⟩ := h
    refine ⟨_, (pss_cons (ps_set (i := 1) sc__law_some_letters.nd rfl (by first | exact Or.inl rfl | exact Or.inr rfl) pe_str)
  (pss_cons (ps_if (pt_cmpR op_eq (pe_cl G__law_take (hr.mono (by omega)) passF (pa_cons (pv 0) (pa_cons pe_int pa_nil))) pe_int (nomark _)) (pss_one (ps_ret (pv 1))) pss_nil)
  (pss_one (ps_ret (pe_join pe_str (pe_lc (own := [("k", 2)]) rfl sc__law_some_letters.nd (pi_range1 (by rfl) T.n_range (pa_cons (pe_op op_add pe_int (pe_cl G__law_take (hr.mono (by omega)) passF (pa_cons (pv 0) (pa_cons pe_int pa_nil)))) pa_nil)) (blkOk_by (own := [("k", 2)]) (N := ["store", "every", "k"]) (sc := defScope s__law_some_letters) (by decide +kernel)) (fun _ _ _ _ _ => (pg_name (i := 2) sc__law_some_letters.nd rfl (by first | exact Or.inl rfl | exact Or.inr rfl))) (fun _ _ _ _ _ => pts_nil) (fun _ _ _ _ _ => (pe_ix ix_str (pv 1) (pe_cl G__law_take (hr.mono (by omega)) passF (pa_cons (pv 0) (pa_cons pe_int pa_nil))) (fun _ _ => rfl))))))))), ?_⟩
    walk_at "rd"
    have hlets : (PySem.Str.ofString "abcdefghijklmnopqrstuvwxyz") = txS LETL := by decide +kernel
    rw [hlets]
    refine ⟨st, 3, rfl, hst, by decide, by decide, fun H1 r K1 hst1 h0 h1 => ?_⟩
    walk_at "rd"
    by_cases h : r = 0
    · subst h
      walk_at "rd"
      exact k _ LETL K1 hst1 letL_ok
    · refine iteC (decide_eq_false fun z => h (V.int.inj z)) ?_
      walk_at "rd"
      refine ⟨st, 5, rfl, hst1, by decide, by decide, fun H2 r5 K2 hst2 h50 h55 => ?_⟩
      obtain ⟨m, rfl⟩ : ∃ m : Nat, r5 = (m : Int) := ⟨r5.toNat, by omega⟩
      have K02 := K1.trans K2
      walk_at "rd"
      have em : ((1 : Int) + (m : Int)).toNat = m + 1 := by omega
      refine ⟨by omega, by omega, ?_⟩
      rw [em]
      refine fun D nD => lc_range (lo := 0) (n := m + 1) (fun i H' => Keep [st] H H' ∧ StoreAt H' st ∧ ∃ zl : List Nat, zl.length = i ∧ (∀ c ∈ zl, isL c = true) ∧ H' D = some (.lst ((zl.map fun c => txS [c]).map V.str)))
        ⟨K02.updNew nD, ?_, [], rfl, fun c hc => (by cases hc), upd_same⟩ ?_ ?_
      · obtain ⟨a, b, c, e⟩ := hst2
        exact ⟨a, b, c, by rw [upd_ne (ne_of_none e nD)]; exact e⟩
      · rintro i H3 hi ⟨K3, hst3, zl, hzl, hzc, hD⟩
        have nDs : D ≠ st := fun z => by
          obtain ⟨a, b, c, e⟩ := hst2
          rw [z, e] at nD
          cases nD
        walk_at "rd"
        refine ⟨st, 26, rfl, hst3, by decide, by decide, fun H4 r K4 hst4 h0 h1 => ?_⟩
        obtain ⟨c, hc1, hc2⟩ : ∃ c, LETL[r.toNat]? = some c ∧ isL c = true := by
          have hlt : r.toNat < LETL.length := by show _ < 26; omega
          exact ⟨_, List.getElem?_eq_getElem hlt, letL_ok.2.2 _ (List.getElem_mem hlt)⟩
        have hat : atI (txS LETL).cps.toList r = some c := by
          have e : r = ((r.toNat : Nat) : Int) := by omega
          rw [e]
          exact atI_nat hc1
        have hD4 : H4 D = some (.lst ((zl.map fun c => txS [c]).map V.str)) := K4.but D _ (by simpa using nDs) hD
        refine ⟨_, _, c, rfl, rfl, by rw [txS_len]; decide, hat, _, hD4, ?_, ((K3.trans K4).own (K02.some nD (by simpa using nDs))), ?_, zl ++ [c], by rw [List.length_append, hzl]; rfl, ?_, ?_⟩
        · rw [List.length_map, List.length_map, hzl]
          exact Nat.lt_of_lt_of_le (show i < 26 by omega) (by decide)
        · obtain ⟨a, b, c, e⟩ := hst4
          exact ⟨a, b, c, by rw [upd_ne (Ne.symm nDs)]; exact e⟩
        · intro d hd
          rcases List.mem_append.mp hd with hd | hd
          · exact hzc d hd
          · rw [List.mem_singleton.mp hd]
            exact hc2
        · rw [upd_same, List.map_append, List.map_append]
          rfl
      · rintro H3 ⟨K3, hst3, zl, hzl, hzc, hD⟩
        walk_at "rd"
        have e00 : PySem.Str.ofString "" = txS [] := by decide +kernel
        rw [e00]
        refine ⟨txS [], D, zl.map fun c => txS [c], rfl, rfl, .inl (SqL.of hD), ?_, ?_⟩
        · have z : ((zl.map fun c => txS [c]).map (·.length)).sum = zl.length := by
            clear hD hzc hzl
            induction zl with
            | nil => rfl
            | cons c r ih => simp only [List.map_cons, List.sum_cons, ih, txS_len, List.length_cons, List.length_nil]; omega
          rw [z]
          show _ + _ * 0 ≤ _
          omega
        have ej : (zl.map fun c => txS [c]) = (zl.map fun c => [c]).map txS := by rw [List.map_map]; rfl
        have ef : (zl.map fun c => [c]).flatten = zl := by
          clear hD hzc hzl ej
          induction zl with
          | nil => rfl
          | cons c r ih => rw [List.map_cons, List.flatten_cons, ih]; rfl
        rw [ej, join_nil, ef]
        exact k _ zl K3 hst3 ⟨fun z => by rw [z] at hzl; simp at hzl, by omega, hzc⟩
def sp__law_formed (n : Nat) : Sp := fun vs H Q _ => ∃ v t as, vs = [v] ∧ TF H t v as ∧ t.ok = true ∧ t.size ≤ 30000 ∧ t.dep ≤ n ∧ t.dep ≤ 90 ∧
  ∀ (H' : Hp) (v' : V) (as' : List Addr), Same H H' → FF H' t.form v' as' → (∀ a ∈ as', H a = none) → Q v' H'
theorem ok__law_formed (D : Df K mg "_law_formed" s__law_formed ["tree"]) (T : Txt K mg) : ∀ n, G' P w K mg base "_law_formed" (n + 1) ["tree"] (sp__law_formed n)
  | 0 => by
    refine D.ok fun f fd F => F.okX sc__law_formed (fun vs H Q E h => ?_) (fun cdv A outer s H vs Q E hr h => ?_)
    · obtain ⟨v, t, as, rfl, _⟩ := h
      rfl
    · obtain ⟨v, t, as, rfl, _, _, _, hd, _⟩ := h
      cases t
      simp [Tr.dep] at hd
  | n + 1 => by
    have G__law_formed := ok__law_formed D T n
    refine D.ok fun f fd F => F.okX sc__law_formed (fun vs H Q E h => ?_) (fun cdv A outer s H vs Q E hr h => ?_)
    · obtain ⟨v, t, as, rfl, _⟩ := h
      rfl
    · obtain ⟨v, t, as, rfl, ht, hok, hsz, hd, hd2, k⟩ := h
      obtain ⟨a, l, ps, ha, hl, hp, et, rfl, has⟩ := ht.out
      refine ⟨_, (pss_cons (ps_set (i := 1) sc__law_formed.nd rfl (by first | exact Or.inl rfl | exact Or.inr rfl) (pe_callB (cr_sortedDK K hr) (by rfl) T.n_sorted (by decide +kernel) (pa_cons (pe_lc (own := [("child", 2)]) rfl sc__law_formed.nd (pi_listK K (pe_ix (ix_tupK K) (pv 0) pe_int (fun _ _ => rfl))) (blkOk_by (own := [("child", 2)]) (N := ["tree", "children", "child", "inner", "more", "writing"]) (sc := defScope s__law_formed) (by decide +kernel)) (fun _ _ _ _ _ => (pg_name (i := 2) sc__law_formed.nd rfl (by first | exact Or.inl rfl | exact Or.inr rfl))) (fun _ _ _ _ _ => pts_nil) (fun _ _ _ _ _ => (pe_cl G__law_formed (hr.mono (by omega)) passF (pa_cons (pv 2) pa_nil)))) pa_nil)))
  (pss_cons (ps_set (i := 3) sc__law_formed.nd rfl (by first | exact Or.inl rfl | exact Or.inr rfl) (pe_join pe_str (pe_lc (own := [("more", 4), ("child", 2)]) (g := (gTup K 2 (gCons (gName 4) (gCons (gName 2) gNil)))) rfl sc__law_formed.nd (pi_listK K (pv 1)) (blkOk_by (own := [("more", 4), ("child", 2)]) (N := ["tree", "children", "child", "inner", "more", "writing"]) (sc := defScope s__law_formed) (by decide +kernel)) (fun _ _ _ _ _ => (pg_tup (by rfl) (pgs_cons (pg_name (i := 4) sc__law_formed.nd rfl (by first | exact Or.inl rfl | exact Or.inr rfl)) (pgs_cons (pg_name (i := 2) sc__law_formed.nd rfl (by first | exact Or.inl rfl | exact Or.inr rfl)) pgs_nil)))) (fun _ _ _ _ _ => pts_nil) (fun _ _ _ _ _ => (pv 4)))))
  (pss_cons (ps_set (i := 5) sc__law_formed.nd rfl (by first | exact Or.inl rfl | exact Or.inr rfl) (pe_op op_add_str (pe_ix (ix_tupK K) (pv 0) pe_int (fun _ _ => rfl)) (pe_ix (ix_listK K) (pe_lst (pa_cons pe_str (pa_cons (pe_op op_add_str (pe_op op_add_str pe_str (pv 3)) pe_str) pa_nil))) (pe_callTy call_int1 (by rfl) T.n_int (by decide +kernel) (pa_cons (pe_cmpR op_ne (pv 3) pe_str (nomark _)) pa_nil)) (fun _ _ => rfl))))
  (pss_one (ps_ret (pe_tup (pa_cons (pv 5) (pa_cons (pe_tup (pa_cons (pe_ix (ix_tupK K) (pv 0) pe_int (fun _ _ => rfl)) (pa_cons (pe_lc (own := [("more", 4), ("child", 2)]) (g := (gTup K 2 (gCons (gName 4) (gCons (gName 2) gNil)))) rfl sc__law_formed.nd (pi_listK K (pv 1)) (blkOk_by (own := [("more", 4), ("child", 2)]) (N := ["tree", "children", "child", "inner", "more", "writing"]) (sc := defScope s__law_formed) (by decide +kernel)) (fun _ _ _ _ _ => (pg_tup (by rfl) (pgs_cons (pg_name (i := 4) sc__law_formed.nd rfl (by first | exact Or.inl rfl | exact Or.inr rfl)) (pgs_cons (pg_name (i := 2) sc__law_formed.nd rfl (by first | exact Or.inl rfl | exact Or.inr rfl)) pgs_nil)))) (fun _ _ _ _ _ => pts_nil) (fun _ _ _ _ _ => (pv 2))) pa_nil))) pa_nil)))))))), ?_⟩
      walk_at "rd"
      have hpl := Tr.sizes_len (ps.map (·.2.1))
      rw [List.length_map, ← et] at hpl
      have hsz' : 1 + Tr.sizes t.ts ≤ 30000 := by
        rw [t.eta, Tr.size] at hsz
        exact hsz
      have hok' : isL t.c = true ∧ Tr.oks t.ts = true := by
        rw [t.eta, Tr.ok, Bool.and_eq_true] at hok
        exact hok
      have hdep' : 1 + Tr.deps t.ts = t.dep := by
        cases t
        rfl
      refine ⟨⟨_, SqL.of hl⟩, fun D0 nD => lc_list (xs := ps.map (·.1)) (fun i H' => Same H H' ∧ ∃ us : List Fp, H' D0 = some (.lst (us.map Fp.v)) ∧ us.map Fp.t = (ps.take i).map (fun p => p.2.1.form) ∧ ∀ u ∈ us, FF H' u.t u.v u.as ∧ D0 ∉ u.as ∧ ∀ a ∈ u.as, H a = none)
        ⟨same_new nD, [], upd_same, by simp, fun u hu => by cases hu⟩ (fun i H' _ h => SqL.of (h.1 _ _ hl)) ?_ ?_⟩
      · rintro i x H2 hx ⟨S2, us, hD, hus, huF⟩
        rw [List.getElem?_map] at hx
        obtain ⟨⟨qv, q, qa⟩, hi, rfl⟩ := Option.map_eq_some_iff.mp hx
        have hqm := List.mem_of_getElem? hi
        have hqt : q ∈ t.ts := by rw [et]; exact List.mem_map.mpr ⟨_, hqm, rfl⟩
        have hqd := Tr.deps_mem hqt
        have hqs := Tr.sizes_mem hqt
        have hul : us.length = (ps.take i).length := by
          have z := congrArg List.length hus
          rw [List.length_map, List.length_map] at z
          exact z
        walk_at "rd"
        refine ⟨_, q, qa, rfl, (hp _ hqm).same S2, Tr.oks_iff.mp hok'.2 q hqt, by omega, by omega, by omega, fun H3 v' as' S3 hF hfr => ?_⟩
        refine ⟨_, S3 _ _ hD, ?_, Same.upd_own (S2.trans S3) nD, us ++ [(v', q.form, as')], by rw [upd_same, List.map_append]; rfl, ?_, fun u hu => ?_⟩
        · rw [List.length_map, hul, List.length_take]
          exact Nat.lt_of_le_of_lt (Nat.le_trans (Nat.min_le_right _ _) (show ps.length ≤ 100000 by omega)) (by decide)
        · rw [List.map_append, hus, take_snoc hi, List.map_append]
          rfl
        · have kk : Keep [D0] H3 (upd H3 D0 (.lst (us.map Fp.v ++ [v']))) := (Keep.refl _ _).upd (by simp) (S3 _ _ hD)
          have nD2 : D0 ∉ as' := fun z => by
            have q := hfr D0 z
            rw [hD] at q
            cases q
          rcases List.mem_append.mp hu with hu | hu
          · obtain ⟨u1, u2, u3⟩ := huF u hu
            exact ⟨(u1.same S3).keep kk fun b hb z => u2 (by rw [← List.mem_singleton.mp z]; exact hb), u2, u3⟩
          · obtain rfl := List.mem_singleton.mp hu
            exact ⟨hF.keep kk fun b hb z => nD2 (by rw [← List.mem_singleton.mp z]; exact hb), nD2, fun a ha => S2.free (hfr a ha)⟩
      · rintro H2 ⟨S2, us, hD, hus, huF⟩
        rw [List.length_map, List.take_length] at hus
        have hff : us.map Fp.t = Tr.forms t.ts := by
          rw [hus, Tr.forms_map, et, List.map_map]
          rfl
        have hul : us.length = ps.length := by
          have z := congrArg List.length hus
          rw [List.length_map, List.length_map] at z
          exact z
        have htold : Tr.tolds (Tr.forms t.ts) := Tr.forms_told _ hok'.2
        walk_at "rd"
        refine ⟨D0, us.map fun u => (u.v, ffD u.t), rfl, SqL.of (by rw [hD, List.map_map]; rfl), ?_, ?_, ?_, fun p np => ?_⟩
        · intro q hq
          obtain ⟨u, hu, rfl⟩ := List.mem_map.mp hq
          refine ⟨(huF u hu).1.dp, ?_⟩
          have z : u.t ∈ Tr.forms t.ts := by rw [← hff]; exact List.mem_map_of_mem hu
          have z2 := Tr.deps_mem z
          rw [Tr.forms_deps] at z2
          rw [ffD_depth]
          omega
        · intro a ha b hb
          simp only [List.map_map, List.mem_map] at ha hb
          obtain ⟨_, _, rfl⟩ := ha
          obtain ⟨_, _, rfl⟩ := hb
          exact alike_ff _ _
        · refine .inl fun a ha => ?_
          simp only [List.map_map, List.mem_map] at ha
          obtain ⟨_, _, rfl⟩ := ha
          exact ⟨_, _, rfl⟩
        rw [← PySem.W.sort_maps (r := fun u w : Fp => PySem.W.dataLe false (fun p : V × PyData => p.2) (u.v, ffD u.t) (w.v, ffD w.t)) _ (fun _ _ _ _ => rfl)]
        have hpw := PySem.W.sort_pairwise (le := fun u w : Fp => PySem.W.dataLe false (fun p : V × PyData => p.2) (u.v, ffD u.t) (w.v, ffD w.t)) (dataLe_total fun u : Fp => ffD u.t) us
        have hqp : (us.mergeSort fun u w : Fp => PySem.W.dataLe false (fun p : V × PyData => p.2) (u.v, ffD u.t) (w.v, ffD w.t)).Perm us := List.mergeSort_perm _ _
        generalize us.mergeSort _ = qs at hpw hqp ⊢
        have hsr : SrtW (qs.map Fp.t) := List.pairwise_map.mpr (hpw.imp fun h => le_ff h)
        have heq : qs.map Fp.t = sortT (Tr.forms t.ts) := by
          have pm := hqp.map Fp.t
          rw [hff] at pm
          exact srt_uniq hsr (sortT_srt _) (pm.trans (sortT_perm _).symm) (Tr.tolds_iff.mpr fun t ht => Tr.tolds_iff.mp htold t (pm.mem_iff.mp ht))
        have hform : Tr.node t.c (qs.map Fp.t) = t.form := by
          rw [heq]
          cases t
          rfl
        have hql : qs.length ≤ 100000 := by rw [hqp.length_eq]; omega
        rw [List.map_map]
        generalize e3 : upd H2 p _ = H3
        obtain ⟨S23, hp3'⟩ := newF np e3
        have hp3 : H3 p = some (.lst (qs.map Fp.v)) := hp3'
        have S3 : Same H H3 := S2.trans S23
        have hqF : ∀ q ∈ qs, FF H3 q.t q.v q.as := fun q hq => (huF q (hqp.mem_iff.mp hq)).1.same S23
        have hW : (((qs.map Fp.t).map Tr.W).flatten).length ≤ 90000 := by
          rw [← Tr.Ws_flat]
          refine Nat.le_trans (Tr.Ws_len _) ?_
          rw [heq, Tr.sizes_perm (sortT_perm _), Tr.forms_sizes]
          omega
        walk_at "rd"
        refine lc_more (a := 4) (b := 2) (qs := qs) (show 4 < 6 by decide) (show 2 < 6 by decide) (by decide) hp3 hqF hql fun D1 H4 S34 nD1 hD1 => ?_
        have eW : (qs.map fun q => tx q.t.W) = (((qs.map Fp.t).map Tr.W).map txS).map V.str := by rw [List.map_map, List.map_map, List.map_map]; rfl
        rw [eW] at hD1
        walk_at "rd"
        refine ⟨txS [], D1, (((qs.map Fp.t).map Tr.W).map txS), rfl, rfl, .inl (SqL.of hD1), ?_, ?_⟩
        · have e : ((((qs.map Fp.t).map Tr.W).map txS).map (·.length)).sum = (((qs.map Fp.t).map Tr.W).flatten).length := by
            rw [List.map_map, List.length_flatten]
            congr 1
          rw [e]
          show _ + _ * 0 ≤ 16777216
          omega
        rw [join_nil]
        generalize hwl : ((qs.map Fp.t).map Tr.W).flatten = wl at hW ⊢
        have S34' : Same H2 H4 := S23.trans S34
        have ha4 : H4 a = some (.tup [.str ⟨#[t.c]⟩, .ref l]) := (S2.trans S34') _ _ ha
        have e40 : PySem.Str.ofString "(" = txS [40] := by decide +kernel
        have e41 : PySem.Str.ofString ")" = txS [41] := by decide +kernel
        have e00 : PySem.Str.ofString "" = txS [] := by decide +kernel
        rw [e40, e41, e00]
        walk_at "rd"
        refine ⟨?_, ?_⟩
        · show (txS [40]).length + _ ≤ _
          rw [txS_len, txS_len]
          exact Nat.le_trans (show _ ≤ 400000 by show 1 + _ ≤ _; omega) (by decide)
        rw [txS_app]
        walk_at "rd"
        refine ⟨?_, ?_⟩
        · rw [txS_len, txS_len]
          exact Nat.le_trans (show _ ≤ 400000 by rw [List.length_append]; show 1 + _ + 1 ≤ _; omega) (by decide)
        rw [txS_app]
        walk_at "rd"
        refine ⟨(by walk_at "sz"), fun p4 n4 => ?_⟩
        generalize e5 : upd H4 p4 _ = H5
        obtain ⟨S45, hp5⟩ := newF n4 e5
        have ha5 := S45 _ _ ha4
        have hp35 : H5 p = some (.lst (qs.map Fp.v)) := S45 _ _ (S34 _ _ hp3)
        have S35 : Same H3 H5 := S34.trans S45
        have S5 : Same H H5 := S3.trans S35
        have hWt : t.form.W = if qs = [] then [t.c] else [t.c] ++ ([40] ++ wl ++ [41]) := by
          rw [← hform, ← hwl]
          by_cases hq : qs = []
          · rw [if_pos hq, hq]
            exact Tr.W_leaf _
          · rw [if_neg hq, Tr.W_node _ (by simpa using hq), Tr.Ws_flat]
            simp
        have hwle : wl = [] ↔ qs = [] := by
          rw [← hwl]
          constructor
          · intro h
            cases qs with
            | nil => rfl
            | cons q r =>
              have z := Tr.W_len1 q.t
              rw [List.map_cons, List.map_cons, List.flatten_cons, List.append_eq_nil_iff] at h
              rw [show Fp.t q = q.t from rfl] at h
              rw [h.1] at z
              simp at z
          · intro h
            rw [h]
            rfl
        /- the last part -/
        have fin : ∀ (z : List Nat), z = t.form.W → ∀ (D : Addr) (H6 : Hp) (us' : List Fp), Same H5 H6 → H5 D = none → H6 D = some (.lst (us'.map Fp.v)) → us'.map Fp.t = qs.map Fp.t → us'.map Fp.as = qs.map Fp.as → (∀ u ∈ us', TF H5 u.t u.v u.as) →
            ∀ t2, H6 t2 = none → ∀ t3, upd H6 t2 (.tup [.str ⟨#[t.c]⟩, .ref D]) t3 = none → Q (.ref t3) (upd (upd H6 t2 (.tup [.str ⟨#[t.c]⟩, .ref D])) t3 (.tup [tx z, .ref t2])) := by
          intro z hz D H6 us' S56 nD6 hD6 e1 e2 hu' t2 n2 t3 n3
          have n23 : t3 ≠ t2 := fun q => by rw [q, upd_same] at n3; cases n3
          have Sa : Same H6 (upd (upd H6 t2 (.tup [.str ⟨#[t.c]⟩, .ref D])) t3 (.tup [tx z, .ref t2])) := Same.upd_new (same_new n2) n3
          refine k _ _ (D :: qs.flatMap Fp.as) ((S5.trans S56).trans Sa) ⟨t3, .ref t2, rfl, by rw [upd_same, hz], ?_⟩ ?_
          · rw [← hform]
            refine .mk t2 D us' (by rw [upd_ne n23.symm, upd_same]; rfl) (Sa _ _ hD6) (fun u hu => ((hu' u hu).same S56).same Sa) e1.symm rfl ?_
            rw [List.flatMap_def, List.flatMap_def]
            show D :: (qs.map Fp.as).flatten = D :: (us'.map Fp.as).flatten
            rw [e2]
          · intro b hb
            rcases List.mem_cons.mp hb with rfl | hb
            · exact S5.free nD6
            · obtain ⟨q, hq, hb⟩ := List.mem_flatMap.mp hb
              exact (huF q (hqp.mem_iff.mp hq)).2.2 b hb
        have hqF5 : ∀ q ∈ qs, FF H5 q.t q.v q.as := fun q hq => (hqF q hq).same S35
        walk_at "rd"
        by_cases hq : qs = []
        · have hw0 : wl = [] := hwle.mpr hq
          subst hw0
          walk_at "rd"
          refine ⟨by show 1 + 0 ≤ sizeLine; decide, ?_⟩
          have e1 : (⟨#[t.c]⟩ : Str) ++ txS [] = txS [t.c] := txS_app [t.c] []
          rw [e1]
          walk_at "rd"
          refine lc_child (a := 4) (b := 2) (qs := qs) (show 4 < 6 by decide) (show 2 < 6 by decide) (by decide) hp35 hqF5 hql fun D H6 us' S56 nD6 hD6 e1 e2 hu' => ?_
          refine ⟨(by walk_at "sz"), fun t2 n2 => ⟨(by walk_at "sz"), fun t3 n3 => ?_⟩⟩
          exact fin _ (by rw [hWt, if_pos hq]) D H6 us' S56 nD6 hD6 e1 e2 hu' t2 n2 t3 n3
        · have hw0 : wl ≠ [] := fun h => hq (hwle.mp h)
          have ed : decide (V.str (txS wl) = V.str (txS [])) = false := decide_eq_false fun z => hw0 (tx_inj z)
          rw [ed]
          walk_at "rd"
          refine ⟨?_, ?_⟩
          · show (txS [t.c]).length + _ ≤ _
            rw [txS_len, txS_len]
            exact Nat.le_trans (show _ ≤ 400000 by rw [List.length_append, List.length_append]; show 1 + (1 + _ + 1) ≤ _; omega) (by decide)
          have e1 : (⟨#[t.c]⟩ : Str) ++ txS ([40] ++ wl ++ [41]) = txS ([t.c] ++ ([40] ++ wl ++ [41])) := txS_app [t.c] _
          rw [e1]
          walk_at "rd"
          refine lc_child (a := 4) (b := 2) (qs := qs) (show 4 < 6 by decide) (show 2 < 6 by decide) (by decide) hp35 hqF5 hql fun D H6 us' S56 nD6 hD6 e1 e2 hu' => ?_
          refine ⟨(by walk_at "sz"), fun t2 n2 => ⟨(by walk_at "sz"), fun t3 n3 => ?_⟩⟩
          exact fin _ (by rw [hWt, if_neg hq]) D H6 us' S56 nD6 hD6 e1 e2 hu' t2 n2 t3 n3
end
end Hy
set_option Elab.async false
set_option linter.all false
set_option maxRecDepth 100000
set_option maxHeartbeats 4000000
namespace Hy
open PySem L2
local macro_rules | `(tactic| walk_at "hp") => `(tactic| first
  | assumption | exact upd_same
  | (refine (upd_ne ?_).trans ?_ <;> first | assumption | (exact Ne.symm (by assumption)) | walk_at "ne" | walk_at "hp")
  | (refine (by assumption : Same _ _) _ _ ?_; assumption))
local macro_rules | `(tactic| walk_at "ne") => `(tactic| first
  | assumption | (exact Ne.symm (by assumption))
  | exact ne_of_none (by assumption) (by assumption) | exact Ne.symm (ne_of_none (by assumption) (by assumption)))
local macro_rules | `(tactic| walk_at "sz") => `(tactic| first | assumption | (show 0 ≤ sizeLine; decide) | (show 1 ≤ sizeLine; decide) | (show 2 ≤ sizeLine; decide) | (show 3 ≤ sizeLine; decide))
local macro_rules | `(tactic| walk_at "ar") => `(tactic| first
  | ((with_reducible show (0 : Int) < _); first | decide | omega)
  | ((with_reducible show CMul _ _); first | exact Or.inr (And.intro (by decide) (by decide)) | exact Or.inl (And.intro (by decide) (by decide)) | (refine Or.inl (And.intro ?_ ?_) <;> omega) | (refine Or.inr (And.intro ?_ ?_) <;> omega))
  | ((with_reducible show CPow _ _); exact And.intro (by decide) (And.intro (by decide) (by decide)))
  | ((with_reducible show CDiv _ _); first | exact And.intro (by decide) (by decide) | (refine And.intro ?_ ?_ <;> omega)))
/- one step of a reading -/
local macro_rules | `(tactic| walk_at "r1") => `(tactic| first
  | refine ⟨_, rfl, ?_⟩
  | refine iteB (by rfl) ?_ | refine iteC (by rfl) ?_
  | refine ⟨_, _, rfl, rfl, ?_⟩
  | refine ⟨rfl, ?_⟩
  | refine ⟨⟨_, rfl⟩, ?_⟩
  | refine ⟨_, _, _, _, true, rfl, .ty _, .base (.str _), kit_ty (by decide +kernel), ?_⟩
  | refine ⟨_, _, _, _, false, rfl, .ty _, .base (.str _), kit_ty (by decide +kernel), ?_⟩
  | refine ⟨_, _, _, _, true, rfl, .ty _, .base (.tup (by walk_at "hp")), kit_ty (by decide +kernel), ?_⟩
  | refine ⟨_, _, _, _, false, rfl, .ty _, .base (.tup (by walk_at "hp")), kit_ty (by decide +kernel), ?_⟩
  | refine ⟨_, _, _, _, true, rfl, .ty _, .base (.lst (by walk_at "hp")), kit_ty (by decide +kernel), ?_⟩
  | refine ⟨_, _, _, _, false, rfl, .ty _, .base (.lst (by walk_at "hp")), kit_ty (by decide +kernel), ?_⟩
  | refine ⟨_, _, rfl, ⟨by walk_at "sz", rfl⟩, ?_⟩
  | refine ⟨_, _, _, _, rfl, rfl, SqT.of (by walk_at "hp"), by rfl, ?_⟩
  | refine ⟨_, _, _, _, rfl, rfl, SqL.of (by walk_at "hp"), by rfl, ?_⟩
  | refine ⟨.inl ⟨rfl, _, SqL.of (by walk_at "hp")⟩, ?_⟩
  | refine ⟨_, _, _, rfl, rfl, (by walk_at "hp"), snoc_get, ?_⟩
  | refine ⟨_, _, _, _, rfl, rfl, (by walk_at "hp"), by rfl, ?_⟩
  | refine ⟨_, _, rfl, SqL.of (by walk_at "hp"), ?_⟩
  | refine ⟨_, _, rfl, SqT.of (by walk_at "hp"), by rfl, ?_⟩
  | refine ⟨_, (_ : List V), rfl, ?_⟩
  | refine ⟨_, _, rfl, .inl ⟨_, (by assumption), rfl⟩, ?_⟩
  | refine ⟨_, _, rfl, .inl ⟨_, SqL.of (by walk_at "hp"), rfl⟩, ?_⟩
  | refine ⟨_, _, rfl, .inr ⟨_, SqT.of (by walk_at "hp"), rfl⟩, ?_⟩
  | refine Or.inl ⟨(_ : Int), rfl, ?_⟩ | refine Or.inr ⟨(_ : Bool), rfl, ?_⟩
  | refine And.intro (by walk_at "ar") ?_)
local macro_rules | `(tactic| walk_at "rd") => `(tactic| repeat walk_at "r1")

def Bn : Nat → Nat
  | 0 => 0
  | n + 1 => 1 + 3 * Bn n
theorem let_at {zl : List Nat} (h : LetS zl) {r : Int} (h0 : 0 ≤ r) (h1 : r < zl.length) : ∃ c, atI (txS zl).cps.toList r = some c ∧ isL c = true := by
  have hlt : r.toNat < zl.length := by omega
  refine ⟨zl[r.toNat], ?_, h.2.2 _ (List.getElem_mem hlt)⟩
  have e : ((r.toNat : Nat) : Int) = r := by omega
  have q := atI_nat (xs := (txS zl).cps.toList) (j := r.toNat) (v := zl[r.toNat]) (by simpa using List.getElem?_eq_getElem hlt)
  rw [e] at q
  exact q
theorem store_ne {H H' : Hp} {A : List Addr} {s p : Addr} (h : StoreAt H s) (n : H p = none) : s ≠ p := by
  obtain ⟨a, b, c, e⟩ := h
  exact ne_of_none e n
theorem StoreAt.upd {H : Hp} {s p : Addr} {o : HO} (h : StoreAt H s) (n : s ≠ p) : StoreAt (upd H p o) s := by
  obtain ⟨a, b, c, e⟩ := h
  exact ⟨a, b, c, by rw [upd_ne n]; exact e⟩
theorem StoreAt.same {H H' : Hp} {s : Addr} (h : StoreAt H s) (S : Same H H') : StoreAt H' s := by
  obtain ⟨a, b, c, e⟩ := h
  exact ⟨a, b, c, S _ _ e⟩
theorem StoreAt.out {H : Hp} {s : Addr} {as : List Addr} (h : StoreAt H s) (f : ∀ a ∈ as, H a = none) : s ∉ as := fun m => by
  obtain ⟨a, b, c, e⟩ := h
  rw [f s m] at e
  cases e
theorem sizes_bound {n b : Nat} : ∀ {ts : List Tr}, (∀ t ∈ ts, t.size ≤ b) → ts.length ≤ n → Tr.sizes ts ≤ n * b
  | [], _, _ => Nat.zero_le _
  | t :: ts, h, hl => by
    cases n with
    | zero => simp at hl
    | succ n =>
      have h1 := h t List.mem_cons_self
      have h2 := sizes_bound (n := n) (fun u hu => h u (List.mem_cons_of_mem _ hu)) (by simpa using hl)
      simp only [Tr.sizes, Nat.succ_mul]
      omega
section
variable {P : Program} {w : World} {K : PySem.W.Frag} {mg : Str → Option Value} {base : Heap}
abbrev s__law_tree : Stmt := top 23
theorem sc__law_tree : FnScope ["store", "letters", "deep", "children", "k"] ["store", "letters", "deep"] (defScope s__law_tree) := ⟨rfl, rfl, rfl, by decide +kernel, rfl, by decide +kernel, by decide +kernel⟩

def sp__law_tree (n : Nat) : Sp := fun vs H Q _ => ∃ (s : Addr) (zl : List Nat) (d : Nat), vs = [.ref s, tx zl, .int (d : Int)] ∧ StoreAt H s ∧ LetS zl ∧ 1 ≤ d ∧ d ≤ n ∧ d ≤ 4 ∧
  ∀ (H' : Hp) (v : V) (t : Tr) (as : List Addr), Keep [s] H H' → StoreAt H' s → TF H' t v as → t.ok = true → t.dep ≤ d → t.size ≤ Bn d → (∀ a ∈ as, H a = none) → Q v H'
theorem ok__law_tree (D : Df K mg "_law_tree" s__law_tree ["store", "letters", "deep"]) (T : Txt K mg) (G__law_take : G' P w K mg base "_law_take" 1 ["store", "many"] sp__law_take) (G__law_formed : G' P w K mg base "_law_formed" 5 ["tree"] (sp__law_formed 4)) :
    ∀ n, G' P w K mg base "_law_tree" (n + 6) ["store", "letters", "deep"] (sp__law_tree n)
  | 0 => by
    refine D.ok fun f fd F => F.okX sc__law_tree (fun vs H Q E h => ?_) (fun cdv A outer s H vs Q E hr h => ?_)
    · obtain ⟨s, zl, d, rfl, _⟩ := h
      rfl
    · obtain ⟨s, zl, d, rfl, _, _, h1, h2, _⟩ := h
      omega
  | n + 1 => by
    have G__law_tree := ok__law_tree D T G__law_take G__law_formed n
    refine D.ok fun f fd F => F.okX sc__law_tree (fun vs H Q E h => ?_) (fun cdv A outer s H vs Q E hr h => ?_)
    · obtain ⟨s, zl, d, rfl, _⟩ := h
      rfl
    · obtain ⟨st, zl, d, rfl, hst, hzl, h1, h2, h4, k⟩ := h
      refine ⟨_, (pss_cons (ps_set (i := 3) sc__law_tree.nd rfl (by first | exact Or.inl rfl | exact Or.inr rfl) (pe_lst pa_nil))
  (pss_cons (ps_for (passes_of rfl) rfl (pi_range1 (by rfl) T.n_range (pa_cons (pe_op op_mul (pe_ix (ix_listK K) (pe_lst (pa_cons pe_int (pa_cons pe_int (pa_cons pe_int (pa_cons pe_int (pa_cons pe_int (pa_cons pe_int pa_nil))))))) (pe_cl G__law_take (hr.mono (by omega)) passF (pa_cons (pv 0) (pa_cons pe_int pa_nil))) (fun _ _ => rfl)) (pe_callTy call_int1 (by rfl) T.n_int (by decide +kernel) (pa_cons (pe_cmpR op_gt (pv 2) pe_int (nomark _)) pa_nil))) pa_nil)) (pg_name (i := 4) sc__law_tree.nd rfl (by first | exact Or.inl rfl | exact Or.inr rfl)) (pss_one (ps_if (PW.pt (pw_and (pt_cmp (pc_neNilK K hr (pv 3))) (pw_and1 (pt_cmpR op_eq (pe_cl G__law_take (hr.mono (by omega)) passF (pa_cons (pv 0) (pa_cons pe_int pa_nil))) pe_int (nomark _))))) (pss_one (ps_expr (cbm K (pe_bm PySem.F.plainAttrs_list PySem.F.slot_list_append PySem.F.type_list_append mt_append (pv 3) (pa_cons (pe_ix (ix_tupK K) (pe_cl G__law_formed (hr.mono (by omega)) passF (pa_cons (pe_ix (ix_listK K) (pv 3) (pe_un un_neg pe_int) (fun _ _ => rfl)) pa_nil)) pe_int (fun _ _ => rfl)) pa_nil))))) (pss_one (ps_expr (cbm K (pe_bm PySem.F.plainAttrs_list PySem.F.slot_list_append PySem.F.type_list_append mt_append (pv 3) (pa_cons (pe_cl G__law_tree (hr.mono (by omega)) passF (pa_cons (pv 0) (pa_cons (pv 1) (pa_cons (pe_op op_sub (pv 2) pe_int) pa_nil)))) pa_nil))))))))
  (pss_one (ps_ret (pe_tup (pa_cons (pe_ix ix_str (pv 1) (pe_cl G__law_take (hr.mono (by omega)) passF (pa_cons (pv 0) (pa_cons (pe_callB (call_lenK K) (by rfl) T.n_len PySem.boot_len (pa_cons (pv 1) pa_nil)) pa_nil))) (fun _ _ => rfl)) (pa_cons (pv 3) pa_nil))))))), ?_⟩
      walk_at "rd"
      refine ⟨(by walk_at "sz"), fun cl nc => ?_⟩
      generalize e0 : upd H cl _ = H0
      obtain ⟨S0, hc0⟩ := newF nc e0
      walk_at "rd"
      refine ⟨by show 6 ≤ sizeLine; decide, fun p6 n6 => ?_⟩
      generalize e1 : upd H0 p6 _ = H1
      obtain ⟨S1, hp6⟩ := newF n6 e1
      have S01 := S0.trans S1
      walk_at "rd"
      refine ⟨st, 6, rfl, hst.same S01, by decide, by decide, fun H2 r K2 hst2 h0r hr6 => ?_⟩
      have nstc : st ≠ cl := store_ne (H' := H) (A := []) hst nc
      have nst6 : st ≠ p6 := store_ne (H' := H) (A := []) hst (S0.free n6)
      have hp62 := K2.but _ _ (by simpa using Ne.symm nst6) hp6
      have hc2 : H2 cl = some (.lst []) := K2.but _ _ (by simpa using Ne.symm nstc) (S1 _ _ hc0)
      obtain ⟨m, hm3, hmat⟩ : ∃ m : Nat, m ≤ 3 ∧ atI [V.int 0, V.int 1, V.int 2, V.int 3, V.int 1, V.int 2] r = some (V.int (m : Int)) := by
        rcases (show r = 0 ∨ r = 1 ∨ r = 2 ∨ r = 3 ∨ r = 4 ∨ r = 5 by omega) with rfl | rfl | rfl | rfl | rfl | rfl
        · exact ⟨0, by decide, rfl⟩
        · exact ⟨1, by decide, rfl⟩
        · exact ⟨2, by decide, rfl⟩
        · exact ⟨3, by decide, rfl⟩
        · exact ⟨1, by decide, rfl⟩
        · exact ⟨2, by decide, rfl⟩
      refine ⟨p6, _, r, _, rfl, rfl, SqL.of hp62, hmat, ?_⟩
      walk_at "rd"
      obtain ⟨M, hM, hM3, hMd⟩ : ∃ M : Nat, ((m : Int) * (if decide (1 < (d : Int)) = true then 1 else 0)) = (M : Int) ∧ M ≤ 3 ∧ (d = 1 → M = 0) := by
        by_cases hd : 1 < d
        · exact ⟨m, by rw [if_pos (decide_eq_true (by omega))]; omega, hm3, by omega⟩
        · exact ⟨0, by rw [if_neg (by simp; omega)]; omega, by omega, fun _ => rfl⟩
      rw [hM]
      refine ⟨by omega, by omega, ?_⟩
      rw [Int.toNat_natCast]
      have K02 : Keep [st] H H2 := (Same.keep S01).trans K2
      refine for_range (lo := 0) (n := M) (fun i σ H' => ∃ (x4 : Option V) (ps : List Fp), σ = [some (.ref st), some (tx zl), some (.int (d : Int)), some (.ref cl), x4] ∧ Keep [st] H H' ∧ StoreAt H' st ∧ H' cl = some (.lst (ps.map Fp.v)) ∧ ps.length ≤ i ∧
          ∀ p ∈ ps, TF H' p.t p.v p.as ∧ p.t.ok = true ∧ p.t.dep ≤ d - 1 ∧ p.t.size ≤ Bn (d - 1) ∧ cl ∉ p.as ∧ ∀ a ∈ p.as, H a = none)
        ⟨none, [], rfl, K02, hst2, hc2, Nat.le_refl _, fun p hp => (by cases hp)⟩ ?_ ?_
      · rintro i σ H3 hi ⟨x4, ps, rfl, K3, hst3, hc3, hpl, hps⟩
        have hd1 : 1 < d := by
          rcases Nat.lt_or_ge 1 d with z | z
          · exact z
          · have := hMd (by omega)
            omega
        have nC : cl ∉ [st] := by simpa using Ne.symm nstc
        /- a part more -/
        have fin : ∀ (H4 : Hp) (v : V) (t : Tr) (as : List Addr) (x4 : Option V), Keep [st] H3 H4 → StoreAt H4 st → TF H4 t v as → t.ok = true → t.dep ≤ d - 1 → t.size ≤ Bn (d - 1) → (∀ a ∈ as, H3 a = none) →
            ∃ acc, H4 cl = some (.lst acc) ∧ acc.length < sizeLine ∧ ∃ (x4' : Option V) (ps : List Fp), [some (V.ref st), some (tx zl), some (.int (d : Int)), some (.ref cl), x4] = [some (V.ref st), some (tx zl), some (.int (d : Int)), some (.ref cl), x4'] ∧ Keep [st] H (upd H4 cl (.lst (acc ++ [v]))) ∧
              StoreAt (upd H4 cl (.lst (acc ++ [v]))) st ∧ (upd H4 cl (.lst (acc ++ [v]))) cl = some (.lst (ps.map Fp.v)) ∧ ps.length ≤ i + 1 ∧ ∀ p ∈ ps, TF (upd H4 cl (.lst (acc ++ [v]))) p.t p.v p.as ∧ p.t.ok = true ∧ p.t.dep ≤ d - 1 ∧ p.t.size ≤ Bn (d - 1) ∧ cl ∉ p.as ∧ ∀ a ∈ p.as, H a = none := by
          intro H4 v t as x4 K4 hst4 ht h1 h2 h3 hf
          have hc4 := K4.but _ _ nC hc3
          have kk : Keep [cl] H4 (upd H4 cl (.lst (ps.map Fp.v ++ [v]))) := (Keep.refl _ _).upd (by simp) hc4
          have nca : cl ∉ as := fun z => by
            rw [hf cl z] at hc3
            cases hc3
          have hfH : ∀ a ∈ as, H a = none := fun a ha => by
            cases q : H a with
            | none => rfl
            | some o =>
              by_cases z : a = st
              · obtain ⟨b1, b2, b3, b4⟩ := hst3
                have := hf a ha
                rw [z, b4] at this
                cases this
              · have := K3.but a o (by simpa using z) q
                rw [hf a ha] at this
                cases this
          refine ⟨_, hc4, ?_, x4, ps ++ [(v, t, as)], rfl, (K3.trans K4).own nc, hst4.upd nstc, by rw [upd_same, List.map_append]; rfl, by rw [List.length_append]; exact Nat.add_le_add_right hpl 1, fun p hp => ?_⟩
          · rw [List.length_map]
            exact Nat.lt_of_le_of_lt (show _ ≤ 3 by omega) (by decide)
          · rcases List.mem_append.mp hp with hp | hp
            · obtain ⟨a1, a2, a3, a4, a5, a6⟩ := hps p hp
              exact ⟨(a1.keep K4 fun b hb z => hst.out a6 (by rw [← List.mem_singleton.mp z]; exact hb)).keep kk fun b hb z => a5 (by rw [← List.mem_singleton.mp z]; exact hb), a2, a3, a4, a5, a6⟩
            · obtain rfl := List.mem_singleton.mp hp
              exact ⟨ht.keep kk fun b hb z => nca (by rw [← List.mem_singleton.mp z]; exact hb), h1, h2, h3, nca, hfH⟩
        walk_at "rd"
        rcases snoc_cases ps with rfl | ⟨qs, ⟨qv, qt, qa⟩, rfl⟩
        · walk_at "rd"
          refine ⟨st, zl, d - 1, by show [V.ref st, tx zl, V.int ((d : Int) - 1)] = _; rw [show ((d : Int) - 1) = ((d - 1 : Nat) : Int) by omega], hst3, hzl, by omega, by omega, by omega, fun H5 v t as K5 hst5 ht hok hdep hsz hf => ?_⟩
          obtain ⟨acc, e1, e2, rest⟩ := fin H5 v t as (some (.int (0 + (i : Int)))) (K5) hst5 ht hok hdep hsz hf
          exact ⟨_, _, _, rfl, rfl, e1, e2, rest⟩
        · have hc3' := hc3
          rw [List.map_append] at hc3' ⊢
          obtain ⟨a1, a2, a3, a4, a5, a6⟩ := hps (qv, qt, qa) (by simp)
          refine ifNe (by simp) ?_
          walk_at "rd"
          refine ⟨st, 3, rfl, hst3, by decide, by decide, fun H4 r K4 hst4 h0 h3 => ?_⟩
          have hc4 := K4.but _ _ nC hc3'
          have a14 := a1.keep K4 fun b hb z => hst.out a6 (by rw [← List.mem_singleton.mp z]; exact hb)
          have hfr : ∀ as : List Addr, (∀ a ∈ as, H4 a = none) → ∀ a ∈ as, H3 a = none := fun as hf a ha => by
            cases q : H3 a with
            | none => rfl
            | some o =>
              by_cases z : a = st
              · obtain ⟨b1, b2, b3, b4⟩ := hst4
                have := hf a ha
                rw [z, b4] at this
                cases this
              · have := K4.but a o (by simpa using z) q
                rw [hf a ha] at this
                cases this
          walk_at "rd"
          by_cases hr : r = 0
          · subst hr
            walk_at "rd"
            refine ⟨_, _, _, _, rfl, rfl, SqL.of hc4, atI_end, ?_⟩
            have hdep4 : qt.dep ≤ d - 1 := a3
            have hB : Bn (d - 1) ≤ 13 := by
              rcases (show d = 2 ∨ d = 3 ∨ d = 4 by omega) with rfl | rfl | rfl <;> decide
            have hsz4 : qt.size ≤ Bn (d - 1) := a4
            walk_at "rd"
            refine ⟨_, qt, qa, rfl, a14, a2, by omega, by omega, by omega, fun H5 v' as' S5 ⟨a, u, ev, ha, hu⟩ hf => ?_⟩
            subst ev
            walk_at "rd"
            obtain ⟨acc, e1, e2, rest⟩ := fin H5 u qt.form as' (some (.int (0 + (i : Int)))) (K4.trans (Same.keep S5)) (hst4.same S5) hu (by rw [Tr.form_ok]; exact a2) (by rw [Tr.form_dep]; exact a3) (by rw [Tr.form_size]; exact a4) (hfr _ hf)
            exact ⟨_, _, _, rfl, rfl, e1, e2, rest⟩
          · refine iteC (decide_eq_false fun z => hr (V.int.inj z)) ?_
            walk_at "rd"
            refine ⟨st, zl, d - 1, by show [V.ref st, tx zl, V.int ((d : Int) - 1)] = _; rw [show ((d : Int) - 1) = ((d - 1 : Nat) : Int) by omega], hst4, hzl, by omega, by omega, by omega, fun H5 v t as K5 hst5 ht hok hdep hsz hf => ?_⟩
            obtain ⟨acc, e1, e2, rest⟩ := fin H5 v t as (some (.int (0 + (i : Int)))) (K4.trans K5) hst5 ht hok hdep hsz (hfr _ hf)
            exact ⟨_, _, _, rfl, rfl, e1, e2, rest⟩
      · rintro σ H3 ⟨x4, ps, rfl, K3, hst3, hc3, hpl, hps⟩
        have hzlen : zl.length ≤ sizeLine := Nat.le_trans hzl.2.1 (by decide)
        have nC : cl ∉ [st] := by simpa using Ne.symm nstc
        walk_at "rd"
        have hz1 : 1 ≤ zl.length := by
          cases zl with
          | nil => exact absurd rfl hzl.1
          | cons a b => simp
        have hz2 := hzl.2.1
        refine ⟨st, zl.length, rfl, hst3, by omega, by omega, fun H4 r K4 hst4 h0 h1 => ?_⟩
        obtain ⟨c, hc, hcl⟩ := let_at hzl h0 h1
        have hc4 := K4.but _ _ nC hc3
        refine ⟨_, _, c, rfl, rfl, by rw [txS_len]; exact hzlen, hc, ?_⟩
        walk_at "rd"
        refine ⟨(by walk_at "sz"), fun tp nt => ?_⟩
        generalize e5 : upd H4 tp _ = H5
        obtain ⟨S5, htp⟩ := newF nt e5
        have hB : Bn d = 1 + 3 * Bn (d - 1) := by
          cases d with
          | zero => omega
          | succ d => rfl
        refine k H5 _ (.node c (ps.map Fp.t)) (cl :: ps.flatMap Fp.as) ((K3.trans K4).trans (Same.keep S5)) (hst4.same S5) (.mk tp cl ps htp (S5 _ _ hc4) (fun p hp => ?_) rfl rfl rfl) ?_ ?_ ?_ ?_
        · obtain ⟨a1, a2, a3, a4, a5, a6⟩ := hps p hp
          exact (a1.keep K4 fun b hb z => hst.out a6 (by rw [← List.mem_singleton.mp z]; exact hb)).same S5
        · rw [Tr.ok, hcl, Bool.true_and]
          refine Tr.oks_iff.mpr fun t ht => ?_
          obtain ⟨p, hp, rfl⟩ := List.mem_map.mp ht
          exact (hps p hp).2.1
        · have z : Tr.deps (ps.map Fp.t) ≤ d - 1 := Tr.deps_le fun t ht => by
            obtain ⟨p, hp, rfl⟩ := List.mem_map.mp ht
            exact (hps p hp).2.2.1
          rw [Tr.dep]
          omega
        · have z : Tr.sizes (ps.map Fp.t) ≤ 3 * Bn (d - 1) := sizes_bound (fun t ht => by
            obtain ⟨p, hp, rfl⟩ := List.mem_map.mp ht
            exact (hps p hp).2.2.2.1) (by rw [List.length_map]; omega)
          rw [Tr.size, hB]
          omega
        · intro a ha
          rcases List.mem_cons.mp ha with rfl | ha
          · exact nc
          · obtain ⟨p, hp, ha⟩ := List.mem_flatMap.mp ha
            exact (hps p hp).2.2.2.2.2 a ha
end
end Hy
set_option Elab.async false
set_option linter.all false
set_option maxRecDepth 100000
set_option maxHeartbeats 4000000
namespace Hy
open PySem L2
local macro_rules | `(tactic| walk_at "hp") => `(tactic| first
  | assumption | exact upd_same
  | (refine (upd_ne ?_).trans ?_ <;> first | assumption | (exact Ne.symm (by assumption)) | walk_at "ne" | walk_at "hp")
  | (refine (by assumption : Same _ _) _ _ ?_; assumption))
local macro_rules | `(tactic| walk_at "ne") => `(tactic| first
  | assumption | (exact Ne.symm (by assumption))
  | exact ne_of_none (by assumption) (by assumption) | exact Ne.symm (ne_of_none (by assumption) (by assumption)))
local macro_rules | `(tactic| walk_at "sz") => `(tactic| first | assumption | (show 0 ≤ sizeLine; decide) | (show 1 ≤ sizeLine; decide) | (show 2 ≤ sizeLine; decide) | (show 3 ≤ sizeLine; decide))
local macro_rules | `(tactic| walk_at "ar") => `(tactic| first
  | ((with_reducible show (0 : Int) < _); first | decide | omega)
  | ((with_reducible show CMul _ _); first | exact Or.inr (And.intro (by decide) (by decide)) | exact Or.inl (And.intro (by decide) (by decide)) | (refine Or.inl (And.intro ?_ ?_) <;> omega) | (refine Or.inr (And.intro ?_ ?_) <;> omega))
  | ((with_reducible show CPow _ _); exact And.intro (by decide) (And.intro (by decide) (by decide)))
  | ((with_reducible show CDiv _ _); first | exact And.intro (by decide) (by decide) | (refine And.intro ?_ ?_ <;> omega)))
/- one step of a reading -/
local macro_rules | `(tactic| walk_at "r1") => `(tactic| first
  | refine ⟨_, rfl, ?_⟩
  | refine iteB (by rfl) ?_ | refine iteC (by rfl) ?_
  | refine ⟨_, _, rfl, rfl, ?_⟩
  | refine ⟨rfl, ?_⟩
  | refine ⟨⟨_, rfl⟩, ?_⟩
  | refine ⟨_, _, _, _, true, rfl, .ty _, .base (.str _), kit_ty (by decide +kernel), ?_⟩
  | refine ⟨_, _, _, _, false, rfl, .ty _, .base (.str _), kit_ty (by decide +kernel), ?_⟩
  | refine ⟨_, _, _, _, true, rfl, .ty _, .base (.tup (by walk_at "hp")), kit_ty (by decide +kernel), ?_⟩
  | refine ⟨_, _, _, _, false, rfl, .ty _, .base (.tup (by walk_at "hp")), kit_ty (by decide +kernel), ?_⟩
  | refine ⟨_, _, _, _, true, rfl, .ty _, .base (.lst (by walk_at "hp")), kit_ty (by decide +kernel), ?_⟩
  | refine ⟨_, _, _, _, false, rfl, .ty _, .base (.lst (by walk_at "hp")), kit_ty (by decide +kernel), ?_⟩
  | refine ⟨_, _, rfl, ⟨by walk_at "sz", rfl⟩, ?_⟩
  | refine ⟨_, _, _, _, rfl, rfl, SqT.of (by walk_at "hp"), by rfl, ?_⟩
  | refine ⟨_, _, _, _, rfl, rfl, SqL.of (by walk_at "hp"), by rfl, ?_⟩
  | refine ⟨.inl ⟨rfl, _, SqL.of (by walk_at "hp")⟩, ?_⟩
  | refine ⟨_, _, _, rfl, rfl, (by walk_at "hp"), snoc_get, ?_⟩
  | refine ⟨_, _, _, _, rfl, rfl, (by walk_at "hp"), by rfl, ?_⟩
  | refine ⟨_, _, rfl, SqL.of (by walk_at "hp"), ?_⟩
  | refine ⟨_, _, rfl, SqT.of (by walk_at "hp"), by rfl, ?_⟩
  | refine ⟨_, (_ : List V), rfl, ?_⟩
  | refine ⟨_, _, rfl, .inl ⟨_, (by assumption), rfl⟩, ?_⟩
  | refine ⟨_, _, rfl, .inl ⟨_, SqL.of (by walk_at "hp"), rfl⟩, ?_⟩
  | refine ⟨_, _, rfl, .inr ⟨_, SqT.of (by walk_at "hp"), rfl⟩, ?_⟩
  | refine Or.inl ⟨(_ : Int), rfl, ?_⟩ | refine Or.inr ⟨(_ : Bool), rfl, ?_⟩
  | refine And.intro (by walk_at "ar") ?_)
local macro_rules | `(tactic| walk_at "rd") => `(tactic| repeat walk_at "r1")

theorem ix_seqK {X : Cx} (K : PySem.W.Frag) (h : X.K = K := by rfl) : IxR X (rIx K) := h ▸ ix_seq
/-- the same thing, laid twice: texts, lists, tuples -/
def SameD : Nat → Hp → V → V → Prop
  | 0, _, _, _ => False
  | n + 1, H, f, d => (∃ s : Str, f = .str s ∧ d = .str s) ∨ ∃ (a b : Addr) (xs ys : List V), f = .ref a ∧ d = .ref b ∧ ((H a = some (.lst xs) ∧ H b = some (.lst ys)) ∨ (H a = some (.tup xs) ∧ H b = some (.tup ys))) ∧
      xs.length = ys.length ∧ ys.length ≤ 100000 ∧ ∀ (i : Nat) (x y : V), xs[i]? = some x → ys[i]? = some y → SameD n H x y
theorem SameD.same : ∀ {n : Nat} {H H' : Hp} {f d : V}, Same H H' → SameD n H f d → SameD n H' f d
  | 0, _, _, _, _, _, h => h
  | n + 1, _, _, _, _, S, h => by
    rcases h with h | ⟨a, b, xs, ys, rfl, rfl, h, e1, e2, h3⟩
    · exact .inl h
    · exact .inr ⟨a, b, xs, ys, rfl, rfl, h.imp (fun q => ⟨S _ _ q.1, S _ _ q.2⟩) (fun q => ⟨S _ _ q.1, S _ _ q.2⟩), e1, e2, fun i x y hx hy => (h3 i x y hx hy).same S⟩
theorem SameD.tree {H : Hp} : ∀ {n : Nat} {t : Tr} {v v' : V} {as as' : List Addr}, TF H t v as → TF H t v' as' → t.size ≤ 100000 → t.dep ≤ n → SameD (2 * n) H v v'
  | 0, t, _, _, _, _, _, _, _, h => by
    cases t
    simp [Tr.dep] at h
  | n + 1, t, v, v', as, as', h, h', hs, hd => by
    obtain ⟨a, l, ps, ha, hl, hp, et, rfl, _⟩ := h.out
    obtain ⟨b, m, qs, hb, hm, hq, et', rfl, _⟩ := h'.out
    have hlen : ps.length = qs.length := by
      have z := congrArg List.length (et.symm.trans et')
      rw [List.length_map, List.length_map] at z
      exact z
    have hsz : 1 + Tr.sizes t.ts ≤ 100000 := by
      rw [t.eta, Tr.size] at hs
      exact hs
    have hdep : 1 + Tr.deps t.ts = t.dep := by
      cases t
      rfl
    have hpl := Tr.sizes_len (qs.map (·.2.1))
    rw [List.length_map, ← et'] at hpl
    refine .inr ⟨a, b, _, _, rfl, rfl, .inr ⟨ha, hb⟩, rfl, by show 2 ≤ 100000; decide, fun i x y hx hy => ?_⟩
    match i, hx, hy with
    | 0, hx, hy =>
      obtain rfl := Option.some.inj hx
      obtain rfl := Option.some.inj hy
      exact .inl ⟨_, rfl, rfl⟩
    | 1, hx, hy =>
      obtain rfl := Option.some.inj hx
      obtain rfl := Option.some.inj hy
      refine .inr ⟨l, m, _, _, rfl, rfl, .inl ⟨hl, hm⟩, by rw [List.length_map, List.length_map, hlen], by rw [List.length_map]; omega, fun j x y hx hy => ?_⟩
      rw [List.getElem?_map] at hx hy
      obtain ⟨⟨pv, pt, pa⟩, hpi, rfl⟩ := Option.map_eq_some_iff.mp hx
      obtain ⟨⟨qv, qt, qa⟩, hqi, rfl⟩ := Option.map_eq_some_iff.mp hy
      have e : pt = qt := by
        have z1 : (t.ts)[j]? = some pt := by rw [et, List.getElem?_map, hpi]; rfl
        have z2 : (t.ts)[j]? = some qt := by rw [et', List.getElem?_map, hqi]; rfl
        rw [z1] at z2
        exact Option.some.inj z2
      subst e
      have hm1 : pt ∈ t.ts := by rw [et]; exact List.mem_map.mpr ⟨_, List.mem_of_getElem? hpi, rfl⟩
      have := Tr.sizes_mem hm1
      have := Tr.deps_mem hm1
      have z1 : pt.size ≤ 100000 := by omega
      have z2 : pt.dep ≤ n := by omega
      exact SameD.tree (hp _ (List.mem_of_getElem? hpi)) (hq _ (List.mem_of_getElem? hqi)) z1 z2
    | i + 2, hx, hy => simp at hx
theorem TF.len {H : Hp} {t : Tr} {v : V} {as : List Addr} (h : TF H t v as) : as.length = t.size := by
  induction h with
  | @mk t v as a l ps ha hl hp ht hv has ih =>
    subst has
    have e : t.size = 1 + Tr.sizes t.ts := by cases t; rfl
    rw [e, ht, List.length_cons]
    clear hl ht e
    induction ps with
    | nil => rfl
    | cons p ps ihp =>
      have z := ih p List.mem_cons_self
      have z2 := ihp (fun q hq => hp q (List.mem_cons_of_mem _ hq)) (fun q hq => ih q (List.mem_cons_of_mem _ hq))
      simp only [List.flatMap_cons, List.length_append, List.map_cons, Tr.sizes]
      omega
section
variable {P : Program} {w : World} {K : PySem.W.Frag} {mg : Str → Option Value} {base : Heap}
abbrev s__law_lists : Stmt := top 28
theorem sc__law_lists : FnScope ["tree", "found", "child"] ["tree"] (defScope s__law_lists) := ⟨rfl, rfl, rfl, by decide +kernel, rfl, by decide +kernel, by decide +kernel⟩
abbrev s__law_same : Stmt := top 25
theorem sc__law_same : FnScope ["found", "due", "k", "key"] ["found", "due"] (defScope s__law_same) := ⟨rfl, rfl, rfl, by decide +kernel, rfl, by decide +kernel, by decide +kernel⟩
abbrev s__law_deep : Stmt := top 27
theorem sc__law_deep : FnScope ["store", "letters", "tree", "k", "children"] ["store", "letters"] (defScope s__law_deep) := ⟨rfl, rfl, rfl, by decide +kernel, rfl, by decide +kernel, by decide +kernel⟩
abbrev s_law : Stmt := top 29
theorem sc_law : FnScope ["script", "at", "store", "letters", "tree", "way", "leaf", "text", "due", "found", "lists", "one"] ["script"] (defScope s_law) := ⟨rfl, rfl, rfl, by decide +kernel, rfl, by decide +kernel, by decide +kernel⟩

def sp__law_lists (n : Nat) : Sp := fun vs H Q _ => ∃ v t as, vs = [v] ∧ TF H t v as ∧ t.size ≤ 100000 ∧ t.dep ≤ n ∧
  ∀ (H' : Hp) (p : Addr), Same H H' → H p = none → H' p = some (.lst (as.map V.ref)) → Q (.ref p) H'
theorem ok__law_lists (D : Df K mg "_law_lists" s__law_lists ["tree"]) (T : Txt K mg) : ∀ n, G' P w K mg base "_law_lists" (n + 1) ["tree"] (sp__law_lists n)
  | 0 => by
    refine D.ok fun f fd F => F.okX sc__law_lists (fun vs H Q E h => ?_) (fun cdv A outer s H vs Q E hr h => ?_)
    · obtain ⟨v, t, as, rfl, _⟩ := h
      rfl
    · obtain ⟨v, t, as, rfl, _, _, hd, _⟩ := h
      cases t
      simp [Tr.dep] at hd
  | n + 1 => by
    have G__law_lists := ok__law_lists D T n
    refine D.ok fun f fd F => F.okX sc__law_lists (fun vs H Q E h => ?_) (fun cdv A outer s H vs Q E hr h => ?_)
    · obtain ⟨v, t, as, rfl, _⟩ := h
      rfl
    · obtain ⟨v, t, as, rfl, ht, hsz, hd, k⟩ := h
      have hlen := ht.len
      obtain ⟨a, l, ps, ha, hl, hp, et, rfl, has⟩ := ht.out
      refine ⟨_, (pss_cons (ps_set (i := 1) sc__law_lists.nd rfl (by first | exact Or.inl rfl | exact Or.inr rfl) (pe_lst (pa_cons (pe_ix (ix_tupK K) (pv 0) pe_int (fun _ _ => rfl)) pa_nil)))
  (pss_cons (ps_for (passes_of rfl) rfl (pi_listK K (pe_ix (ix_tupK K) (pv 0) pe_int (fun _ _ => rfl))) (pg_name (i := 2) sc__law_lists.nd rfl (by first | exact Or.inl rfl | exact Or.inr rfl)) (pss_one (ps_set (i := 1) sc__law_lists.nd rfl (by first | exact Or.inl rfl | exact Or.inr rfl) (pe_op op_cat (pv 1) (pe_cl G__law_lists (hr.mono (by omega)) passF (pa_cons (pv 2) pa_nil))))))
  (pss_one (ps_ret (pv 1))))), ?_⟩
      walk_at "rd"
      refine ⟨(by walk_at "sz"), fun p np => ?_⟩
      generalize e1 : upd H p _ = H1
      obtain ⟨S1, hp1⟩ := newF np e1
      walk_at "rd"
      have hsz' : 1 + Tr.sizes t.ts = t.size := by
        cases t
        rfl
      have hdep' : 1 + Tr.deps t.ts = t.dep := by
        cases t
        rfl
      refine ⟨⟨_, SqL.of (S1 _ _ hl)⟩, for_list (K := K) (a := l) (xs := ps.map (·.1)) (fun i σ H' => ∃ (p : Addr) (x2 : Option V), σ = [some (.ref a), some (.ref p), x2] ∧ Same H H' ∧ H p = none ∧ H' p = some (.lst ((l :: (ps.take i).flatMap Fp.as).map V.ref)))
        ⟨p, none, rfl, S1, np, hp1⟩ (fun i σ H' _ ⟨p, x2, e, S, _⟩ => SqL.of (S _ _ hl)) ?_ ?_⟩
      · rintro i x σ H2 hx ⟨p, x2, rfl, S2, np, hp2⟩
        rw [List.getElem?_map] at hx
        obtain ⟨⟨qv, qt, qa⟩, hi, rfl⟩ := Option.map_eq_some_iff.mp hx
        have hqm := List.mem_of_getElem? hi
        have hqt : qt ∈ t.ts := by rw [et]; exact List.mem_map.mpr ⟨_, hqm, rfl⟩
        have hqd := Tr.deps_mem hqt
        have hqs := Tr.sizes_mem hqt
        walk_at "rd"
        refine ⟨_, qt, qa, rfl, (hp _ hqm).same S2, by omega, by omega, fun H3 p3 S3 np3 hp3 => ?_⟩
        have hp23 := S3 _ _ hp2
        walk_at "rd"
        refine ⟨p, p3, _, _, rfl, rfl, hp23, hp3, ?_, fun p4 np4 => ?_⟩
        · have z1 := (hp _ hqm).len
          have z2 : ps.flatMap Fp.as = (ps.take i).flatMap Fp.as ++ (ps.drop i).flatMap Fp.as := by rw [← List.flatMap_append, List.take_append_drop]
          have z3 : as.length = 1 + (ps.flatMap Fp.as).length := by rw [has, List.length_cons, Nat.add_comm]
          rw [z2, List.length_append] at z3
          have z4 : qa.length = qt.size := z1
          rw [List.length_map, List.length_map, List.length_cons]
          exact Nat.le_trans (show _ ≤ 200000 by omega) (by decide)
        generalize e4 : upd H3 p4 _ = H4
        obtain ⟨S4, hp4⟩ := newF np4 e4
        walk_at "rd"
        refine ⟨p4, _, rfl, (S2.trans S3).trans S4, (S2.trans S3).free np4, ?_⟩
        rw [hp4, take_snoc hi, List.flatMap_append, List.flatMap_singleton, ← List.map_append, List.cons_append]
      · rintro σ H2 ⟨p, x2, rfl, S2, np, hp2⟩
        walk_at "rd"
        refine k _ p S2 np ?_
        rw [hp2, List.length_map, List.take_length, has]
theorem rIx_two {K : PySem.W.Frag} {H : Hp} {a : Addr} {xs : List V} {Q : VK} {j : Int} {i : Nat} {x : V} (h : H a = some (.lst xs) ∨ H a = some (.tup xs)) (hj : j = (i : Int)) (hx : xs[i]? = some x) (q : Q x H) : rIx K (.ref a) (.int j) H Q := by
  subst hj
  rcases h with h | h
  · exact .inl ⟨a, xs, _, x, rfl, rfl, SqL.of h, atI_nat hx, q⟩
  · exact .inr (.inl ⟨a, xs, _, x, rfl, rfl, SqT.of h, atI_nat hx, q⟩)
theorem kA_list {K : PySem.W.Frag} : PySem.W.kitAny K (.type "list") [.type "list", .type "tuple"] = some true := kitAny_cons (b := true) (kit_ty (by decide +kernel)) (fun z => nomatch z) (fun _ => rfl)
theorem kA_tuple {K : PySem.W.Frag} : PySem.W.kitAny K (.type "tuple") [.type "list", .type "tuple"] = some true := kitAny_cons (b := false) (kit_ty (by decide +kernel)) (fun _ => kitAny_cons (b := true) (kit_ty (by decide +kernel)) (fun z => nomatch z) (fun _ => rfl)) (fun z => nomatch z)
theorem kA_str {K : PySem.W.Frag} : PySem.W.kitAny K (.type "str") [.type "list", .type "tuple"] = some false := kitAny_cons (b := false) (kit_ty (by decide +kernel)) (fun _ => kitAny_cons (b := false) (kit_ty (by decide +kernel)) (fun _ => kitAny_nil) (fun z => nomatch z)) (fun z => nomatch z)
def sp__law_same (n : Nat) : Sp := fun vs H Q _ => ∃ f d, vs = [f, d] ∧ SameD n H f d ∧ ∀ H' : Hp, Same H H' → Q (.bl true) H'
theorem ok__law_same (D : Df K mg "_law_same" s__law_same ["found", "due"]) (T : Txt K mg) : ∀ n, G' P w K mg base "_law_same" (n + 1) ["found", "due"] (sp__law_same n) := by
  intro n
  induction n with
  | zero =>
    refine D.ok fun f fd F => F.okX sc__law_same (fun vs H Q E h => ?_) (fun cdv A outer s H vs Q E hr h => ?_)
    · obtain ⟨f, d, rfl, _⟩ := h
      rfl
    · obtain ⟨f, d, rfl, h, k⟩ := h
      exact h.elim
  | succ n G__law_same =>
    refine D.ok fun f fd F => F.okX sc__law_same (fun vs H Q E h => ?_) (fun cdv A outer s H vs Q E hr h => ?_)
    · obtain ⟨f, d, rfl, _⟩ := h
      rfl
    · obtain ⟨f, d, rfl, h, k⟩ := h
      refine ⟨_, (pss_cons (ps_if (pt_val (pe_callB (call_isiTK K) (by rfl) T.n_isinstance (by decide +kernel) (pa_cons (pv 1) (pa_cons (pe_tup (pa_cons (pe_ty (n := "list") T.n_list (by decide +kernel)) (pa_cons (pe_ty (n := "tuple") T.n_tuple (by decide +kernel)) pa_nil))) pa_nil)))) (pss_cons (ps_if (PW.pt (pw_or (pt_cmpR op_ne (pe_callB (call_isiK K) (by rfl) T.n_isinstance (by decide +kernel) (pa_cons (pv 0) (pa_cons (pe_ty (n := "tuple") T.n_tuple (by decide +kernel)) pa_nil))) (pe_callB (call_isiK K) (by rfl) T.n_isinstance (by decide +kernel) (pa_cons (pv 1) (pa_cons (pe_ty (n := "tuple") T.n_tuple (by decide +kernel)) pa_nil))) (nomark _)) (pw_or1 (pt_cmpR op_ne (pe_callB (call_isiK K) (by rfl) T.n_isinstance (by decide +kernel) (pa_cons (pv 0) (pa_cons (pe_ty (n := "list") T.n_list (by decide +kernel)) pa_nil))) (pe_callB (call_isiK K) (by rfl) T.n_isinstance (by decide +kernel) (pa_cons (pv 1) (pa_cons (pe_ty (n := "list") T.n_list (by decide +kernel)) pa_nil))) (nomark _))))) (pss_one (ps_ret pe_bl)) pss_nil)
  (pss_cons (ps_if (pt_cmpR op_ne (pe_callB (call_lenK K) (by rfl) T.n_len PySem.boot_len (pa_cons (pv 0) pa_nil)) (pe_callB (call_lenK K) (by rfl) T.n_len PySem.boot_len (pa_cons (pv 1) pa_nil)) (nomark _)) (pss_one (ps_ret pe_bl)) pss_nil)
  (pss_one (ps_ret (pe_cmp (pc_eqNilK K hr (pe_lc (own := [("k", 2)]) rfl sc__law_same.nd (pi_range1 (by rfl) T.n_range (pa_cons (pe_callB (call_lenK K) (by rfl) T.n_len PySem.boot_len (pa_cons (pv 1) pa_nil)) pa_nil)) (blkOk_by (own := [("k", 2)]) (N := ["found", "due", "k", "key"]) (sc := defScope s__law_same) (by decide +kernel)) (fun _ _ _ _ _ => (pg_name (i := 2) sc__law_same.nd rfl (by first | exact Or.inl rfl | exact Or.inr rfl))) (fun _ _ _ _ _ => (pts_one (pt_not (pt_val (pe_cl G__law_same (hr.mono (by omega)) passF (pa_cons (pe_ix (ix_seqK K) (pv 0) (pv 2) (fun _ _ => rfl)) (pa_cons (pe_ix (ix_seqK K) (pv 1) (pv 2) (fun _ _ => rfl)) pa_nil))))))) (fun _ _ _ _ _ => (pv 2))))))))) pss_nil)
  (pss_cons (ps_if (pt_val (pe_callB (call_isiK K) (by rfl) T.n_isinstance (by decide +kernel) (pa_cons (pv 1) (pa_cons (pe_ty (n := "str") T.n_str (by decide +kernel)) pa_nil)))) (pss_one (ps_ret (pe_and (pe_callB (call_isiK K) (by rfl) T.n_isinstance (by decide +kernel) (pa_cons (pv 0) (pa_cons (pe_ty (n := "str") T.n_str (by decide +kernel)) pa_nil))) (pe_one (pe_cmpR op_eq (pv 0) (pv 1) (nomark _)))))) pss_nil)
  (pss_cons (ps_if (pt_val (pe_callB (call_isiK K) (by rfl) T.n_isinstance (by decide +kernel) (pa_cons (pv 1) (pa_cons (pe_ty (n := "dict") T.n_dict (by decide +kernel)) pa_nil)))) (pss_cons (ps_if (PW.pt (pw_or (pt_not (pt_val (pe_callB (call_isiK K) (by rfl) T.n_isinstance (by decide +kernel) (pa_cons (pv 0) (pa_cons (pe_ty (n := "dict") T.n_dict (by decide +kernel)) pa_nil))))) (pw_or1 (pt_cmpR (op_nePK K hr) (pe_callB (cr_sortedDK K hr) (by rfl) T.n_sorted (by decide +kernel) (pa_cons (pv 0) pa_nil)) (pe_callB (cr_sortedDK K hr) (by rfl) T.n_sorted (by decide +kernel) (pa_cons (pv 1) pa_nil)) (nomark _))))) (pss_one (ps_ret pe_bl)) pss_nil)
  (pss_one (ps_ret (pe_cmp (pc_eqNilK K hr (pe_lc (own := [("key", 3)]) rfl sc__law_same.nd (pi_listK K (pv 1)) (blkOk_by (own := [("key", 3)]) (N := ["found", "due", "k", "key"]) (sc := defScope s__law_same) (by decide +kernel)) (fun _ _ _ _ _ => (pg_name (i := 3) sc__law_same.nd rfl (by first | exact Or.inl rfl | exact Or.inr rfl))) (fun _ _ _ _ _ => (pts_one (pt_not (pt_val (pe_cl G__law_same (hr.mono (by omega)) passF (pa_cons (pe_ix (ix_seqK K) (pv 0) (pv 3) (fun _ _ => rfl)) (pa_cons (pe_ix (ix_seqK K) (pv 1) (pv 3) (fun _ _ => rfl)) pa_nil))))))) (fun _ _ _ _ _ => (pv 3)))))))) pss_nil)
  (pss_one (ps_ret (pe_and (pe_callB (call_isiK K) (by rfl) T.n_isinstance (by decide +kernel) (pa_cons (pv 0) (pa_cons (pe_ty (n := "int") T.n_int (by decide +kernel)) pa_nil))) (pe_and (pe_not (pe_callB (call_isiK K) (by rfl) T.n_isinstance (by decide +kernel) (pa_cons (pv 0) (pa_cons (pe_ty (n := "bool") T.n_bool (by decide +kernel)) pa_nil)))) (pe_one (pe_cmpR op_eq (pv 0) (pv 1) (nomark _)))))))))), ?_⟩
      rcases h with ⟨s, rfl, rfl⟩ | ⟨a, b, xs, ys, rfl, rfl, h, e1, e2, h3⟩
      · walk_at "rd"
        refine ⟨(by walk_at "sz"), fun p np => ?_⟩
        generalize ep : upd H p _ = H1
        obtain ⟨S1, hp1⟩ := newF np ep
        refine ⟨_, p, _, _, _, _, rfl, hp1, .cons (.ty _) (.cons (.ty _) .nil), .base (.str _), kA_str, ?_⟩
        walk_at "rd"
        show Q (V.bl (decide (V.str s = V.str s))) H1
        rw [decide_eq_true (rfl : V.str s = V.str s)]
        exact k _ S1
      · have hxy : (H a = some (.lst xs) ∨ H a = some (.tup xs)) ∧ (H b = some (.lst ys) ∨ H b = some (.tup ys)) := h.elim (fun q => ⟨.inl q.1, .inl q.2⟩) (fun q => ⟨.inr q.1, .inr q.2⟩)
        walk_at "rd"
        refine ⟨(by walk_at "sz"), fun p np => ?_⟩
        generalize ep : upd H p _ = H1
        obtain ⟨S1, hp1⟩ := newF np ep
        rcases h with ⟨ha, hb⟩ | ⟨ha, hb⟩
        · have ha1 := S1 _ _ ha
          have hb1 := S1 _ _ hb
          refine ⟨_, p, _, _, _, _, rfl, hp1, .cons (.ty _) (.cons (.ty _) .nil), .base (.lst hb1), kA_list, ?_⟩
          walk_at "rd"
          refine iteC (by rw [e1]; simp) ?_
          walk_at "rd"
          refine ⟨by omega, by omega, ?_⟩
          rw [Int.toNat_natCast]
          refine fun D1 nD => lc_range (lo := 0) (n := ys.length) (fun i H' => Same H H' ∧ H' D1 = some (.lst [])) ⟨S1.trans (same_new nD), upd_same⟩ ?_ ?_
          · rintro i H2 hi ⟨S2, hD2⟩
            have hix : i < xs.length := by omega
            walk_at "rd"
            refine rIx_two (xs := xs) (i := i) (x := xs[i]) (hxy.1.imp (S2 _ _) (S2 _ _)) (by omega) (List.getElem?_eq_getElem hix) ?_
            walk_at "rd"
            refine rIx_two (xs := ys) (i := i) (x := ys[i]) (hxy.2.imp (S2 _ _) (S2 _ _)) (by omega) (List.getElem?_eq_getElem hi) ?_
            refine ⟨_, _, rfl, (h3 i _ _ (List.getElem?_eq_getElem hix) (List.getElem?_eq_getElem hi)).same S2, fun H3 S3 => ?_⟩
            walk_at "rd"
            exact ⟨S2.trans S3, S3 _ _ hD2⟩
          · rintro H2 ⟨S2, hD2⟩
            walk_at "rd"
            exact k _ S2
        · have ha1 := S1 _ _ ha
          have hb1 := S1 _ _ hb
          refine ⟨_, p, _, _, _, _, rfl, hp1, .cons (.ty _) (.cons (.ty _) .nil), .base (.tup hb1), kA_tuple, ?_⟩
          walk_at "rd"
          refine iteC (by rw [e1]; simp) ?_
          walk_at "rd"
          refine ⟨by omega, by omega, ?_⟩
          rw [Int.toNat_natCast]
          refine fun D1 nD => lc_range (lo := 0) (n := ys.length) (fun i H' => Same H H' ∧ H' D1 = some (.lst [])) ⟨S1.trans (same_new nD), upd_same⟩ ?_ ?_
          · rintro i H2 hi ⟨S2, hD2⟩
            have hix : i < xs.length := by omega
            walk_at "rd"
            refine rIx_two (xs := xs) (i := i) (x := xs[i]) (hxy.1.imp (S2 _ _) (S2 _ _)) (by omega) (List.getElem?_eq_getElem hix) ?_
            walk_at "rd"
            refine rIx_two (xs := ys) (i := i) (x := ys[i]) (hxy.2.imp (S2 _ _) (S2 _ _)) (by omega) (List.getElem?_eq_getElem hi) ?_
            refine ⟨_, _, rfl, (h3 i _ _ (List.getElem?_eq_getElem hix) (List.getElem?_eq_getElem hi)).same S2, fun H3 S3 => ?_⟩
            walk_at "rd"
            exact ⟨S2.trans S3, S3 _ _ hD2⟩
          · rintro H2 ⟨S2, hD2⟩
            walk_at "rd"
            exact k _ S2
def DeepP (st : Addr) (H : Hp) (q : Addr) (i : Nat) (Hx : Hp) (qs : List Fp) : Prop := Keep [st] H Hx ∧ StoreAt Hx st ∧ Hx q = some (.lst (qs.map Fp.v)) ∧ (∀ p ∈ qs, TF Hx p.t p.v p.as ∧ p.t.ok = true ∧ p.t.dep ≤ 1 + i ∧ q ∉ p.as ∧ ∀ a ∈ p.as, H a = none) ∧ Tr.sizes (qs.map Fp.t) ≤ 2 + 2 * i ∧ H q = none ∧ q ≠ st
theorem DeepP.keep {st : Addr} {H : Hp} {q : Addr} {i : Nat} {Hx Hy : Hp} {qs : List Fp} (h : DeepP st H q i Hx qs) (h0 : StoreAt H st) (k : Keep [st] Hx Hy) (s : StoreAt Hy st) : DeepP st H q i Hy qs := by
  obtain ⟨a1, a2, a3, a4, a5, a6, a7⟩ := h
  exact ⟨a1.trans k, s, k.but _ _ (by simpa using a7) a3, fun p hp => ⟨(a4 p hp).1.keep k fun b hb z => h0.out (a4 p hp).2.2.2.2 (by rw [← List.mem_singleton.mp z]; exact hb), (a4 p hp).2⟩, a5, a6, a7⟩
theorem DeepP.rev {st : Addr} {H : Hp} {q : Addr} {i : Nat} {Hx : Hp} {qs : List Fp} (h : DeepP st H q i Hx qs) : DeepP st H q i (upd Hx q (.lst (qs.map Fp.v).reverse)) qs.reverse := by
  obtain ⟨a1, a2, a3, a4, a5, a6, a7⟩ := h
  have kk : Keep [q] Hx (upd Hx q (.lst (qs.map Fp.v).reverse)) := (Keep.refl _ _).upd (by simp) a3
  refine ⟨a1.own a6, a2.upd (Ne.symm a7), by rw [upd_same, List.map_reverse], fun p hp => ?_, by rw [List.map_reverse, Tr.sizes_perm (List.reverse_perm _)]; exact a5, a6, a7⟩
  obtain ⟨b1, b2⟩ := a4 p (List.mem_reverse.mp hp)
  exact ⟨b1.keep kk fun b hb z => b2.2.2.1 (by rw [← List.mem_singleton.mp z]; exact hb), b2⟩
def sp__law_deep : Sp := fun vs H Q _ => ∃ (s : Addr) (zl : List Nat), vs = [.ref s, tx zl] ∧ StoreAt H s ∧ LetS zl ∧
  ∀ (H' : Hp) (v : V) (t : Tr) (as : List Addr), Keep [s] H H' → StoreAt H' s → TF H' t v as → t.ok = true → t.dep ≤ 30 → t.size ≤ 59 → (∀ a ∈ as, H a = none) → Q v H'
theorem ok__law_deep (D : Df K mg "_law_deep" s__law_deep ["store", "letters"]) (T : Txt K mg) (G__law_take : G' P w K mg base "_law_take" 1 ["store", "many"] sp__law_take) :
    G' P w K mg base "_law_deep" 2 ["store", "letters"] sp__law_deep := by
  refine D.ok fun f fd F => F.okX sc__law_deep (fun vs H Q E h => ?_) (fun cdv A outer s H vs Q E hr h => ?_)
  · obtain ⟨s, zl, rfl, _⟩ := h
    rfl
  · obtain ⟨st, zl, rfl, hst, hzl, k⟩ := h
    have hz1 : 1 ≤ zl.length := by
      cases zl with
      | nil => exact absurd rfl hzl.1
      | cons a b => simp
    have hz2 := hzl.2.1
    have hzlen : (txS zl).length ≤ sizeLine := by rw [txS_len]; exact Nat.le_trans hz2 (by decide)
    refine ⟨_, (pss_cons (ps_set (i := 2) sc__law_deep.nd rfl (by first | exact Or.inl rfl | exact Or.inr rfl) (pe_tup (pa_cons (pe_ix ix_str (pv 1) (pe_cl G__law_take (hr.mono (by omega)) passF (pa_cons (pv 0) (pa_cons (pe_callB (call_lenK K) (by rfl) T.n_len PySem.boot_len (pa_cons (pv 1) pa_nil)) pa_nil))) (fun _ _ => rfl)) (pa_cons (pe_lst pa_nil) pa_nil))))
  (pss_cons (ps_for (passes_of rfl) rfl (pi_range1 (by rfl) T.n_range (pa_cons (pe_op op_add pe_int (pe_cl G__law_take (hr.mono (by omega)) passF (pa_cons (pv 0) (pa_cons pe_int pa_nil)))) pa_nil)) (pg_name (i := 3) sc__law_deep.nd rfl (by first | exact Or.inl rfl | exact Or.inr rfl)) (pss_cons (ps_set (i := 4) sc__law_deep.nd rfl (by first | exact Or.inl rfl | exact Or.inr rfl) (pe_op op_cat (pe_lst (pa_cons (pv 2) pa_nil)) (pe_op op_rep (pe_lst (pa_cons (pe_tup (pa_cons (pe_ix ix_str (pv 1) (pe_cl G__law_take (hr.mono (by omega)) passF (pa_cons (pv 0) (pa_cons (pe_callB (call_lenK K) (by rfl) T.n_len PySem.boot_len (pa_cons (pv 1) pa_nil)) pa_nil))) (fun _ _ => rfl)) (pa_cons (pe_lst pa_nil) pa_nil))) pa_nil)) (pe_cl G__law_take (hr.mono (by omega)) passF (pa_cons (pv 0) (pa_cons pe_int pa_nil))))))
  (pss_cons (ps_if (pt_cmpR op_eq (pe_cl G__law_take (hr.mono (by omega)) passF (pa_cons (pv 0) (pa_cons pe_int pa_nil))) pe_int (nomark _)) (pss_one (ps_expr (cbm0 K (pe_bm0 PySem.F.plainAttrs_list PySem.F.slot_list_reverse PySem.F.type_list_reverse mt_reverse (pv 4))))) pss_nil)
  (pss_one (ps_set (i := 2) sc__law_deep.nd rfl (by first | exact Or.inl rfl | exact Or.inr rfl) (pe_tup (pa_cons (pe_ix ix_str (pv 1) (pe_cl G__law_take (hr.mono (by omega)) passF (pa_cons (pv 0) (pa_cons (pe_callB (call_lenK K) (by rfl) T.n_len PySem.boot_len (pa_cons (pv 1) pa_nil)) pa_nil))) (fun _ _ => rfl)) (pa_cons (pv 4) pa_nil))))))))
  (pss_one (ps_ret (pv 2))))), ?_⟩
    walk_at "rd"
    refine ⟨st, zl.length, by show [V.ref st, V.int ((txS zl).length : Int)] = _; rw [txS_len], hst, by omega, by omega, fun H1 r K1 hst1 h0 h1 => ?_⟩
    obtain ⟨c, hc, hcl⟩ := let_at hzl h0 h1
    refine ⟨_, _, c, rfl, rfl, hzlen, hc, ?_⟩
    refine ⟨(by walk_at "sz"), fun l nl => ?_⟩
    generalize e2 : upd H1 l _ = H2
    obtain ⟨S2, hl2⟩ := newF nl e2
    walk_at "rd"
    refine ⟨(by walk_at "sz"), fun p np => ?_⟩
    generalize e3 : upd H2 p _ = H3
    obtain ⟨S3, hp3⟩ := newF np e3
    have K3 : Keep [st] H H3 := (K1.trans (Same.keep S2)).trans (Same.keep S3)
    have hst3 := (hst1.same S2).same S3
    have ht3 : TF H3 (.node c []) (.ref p) [l] := .mk p l [] hp3 (S3 _ _ hl2) (fun p hp => by cases hp) rfl rfl rfl
    have fr : ∀ (H' : Hp) (l : Addr), Keep [st] H H' → StoreAt H' st → H' l = none → H l = none := fun H' l KK hs n => by
      cases q : H l with
      | none => rfl
      | some o =>
        by_cases z : l = st
        · obtain ⟨a1, a2, a3, a4⟩ := hs
          rw [z, a4] at n
          cases n
        · have := KK.but l o (by simpa using z) q
          rw [n] at this
          cases this
    walk_at "rd"
    refine ⟨st, 21, rfl, hst3, by decide, by decide, fun H4 m K4 hst4 hm0 hm1 => ?_⟩
    walk_at "rd"
    refine ⟨by omega, by omega, ?_⟩
    generalize hN : (9 + m).toNat = N
    have hN29 : N ≤ 29 := by omega
    have K04 : Keep [st] H H4 := K3.trans K4
    have nls : l ≠ st := fun z => by
      obtain ⟨a1, a2, a3, a4⟩ := hst1
      rw [z, a4] at nl
      cases nl
    refine for_range (lo := 0) (n := N) (fun i σ H' => ∃ (v : V) (t : Tr) (as : List Addr) (x3 x4 : Option V), σ = [some (.ref st), some (tx zl), some v, x3, x4] ∧ Keep [st] H H' ∧ StoreAt H' st ∧ TF H' t v as ∧ t.ok = true ∧ t.dep ≤ 1 + i ∧ t.size ≤ 1 + 2 * i ∧ ∀ a ∈ as, H a = none)
      ⟨.ref p, .node c [], [l], none, none, rfl, K04, hst4, ht3.keep K4 (fun b hb z => nls (by rw [← List.mem_singleton.mp hb, ← List.mem_singleton.mp z])), by rw [Tr.ok, hcl]; rfl, by show 1 + 0 ≤ _; omega, by show 1 + 0 ≤ _; omega, fun a ha => by rw [List.mem_singleton.mp ha]; exact fr _ _ K1 hst1 nl⟩ ?_ ?_
    · rintro i σ H5 hi ⟨v, t, as, x3, x4, rfl, K5, hst5, ht, hok, hdep, hsz, hfr⟩
      walk_at "rd"
      refine ⟨(by walk_at "sz"), fun c6 n6 => ?_⟩
      generalize e6 : upd H5 c6 _ = H6
      obtain ⟨S6, hc6⟩ := newF n6 e6
      have hst6 := hst5.same S6
      walk_at "rd"
      refine ⟨st, zl.length, by show [V.ref st, V.int ((txS zl).length : Int)] = _; rw [txS_len], hst6, by omega, by omega, fun H7 r7 K7 hst7 h70 h71 => ?_⟩
      obtain ⟨c7, hc7, hcl7⟩ := let_at hzl h70 h71
      refine ⟨_, _, c7, rfl, rfl, hzlen, hc7, ?_⟩
      refine ⟨(by walk_at "sz"), fun l7 nl7 => ?_⟩
      generalize e8 : upd H7 l7 _ = H8
      obtain ⟨S8, hl8⟩ := newF nl7 e8
      walk_at "rd"
      refine ⟨(by walk_at "sz"), fun p8 np8 => ?_⟩
      generalize e9 : upd H8 p8 _ = H9
      obtain ⟨S9, hp9⟩ := newF np8 e9
      walk_at "rd"
      refine ⟨(by walk_at "sz"), fun c9 nc9 => ?_⟩
      generalize e10 : upd H9 c9 _ = H10
      obtain ⟨S10, hc10⟩ := newF nc9 e10
      have hst10 := ((hst7.same S8).same S9).same S10
      walk_at "rd"
      refine ⟨st, 2, rfl, hst10, by decide, by decide, fun H11 m11 K11 hst11 hm110 hm111 => ?_⟩
      have n6s : c6 ≠ st := fun z => by
        obtain ⟨a1, a2, a3, a4⟩ := hst5
        rw [z, a4] at n6
        cases n6
      have n9s : c9 ≠ st := fun z => by
        obtain ⟨a1, a2, a3, a4⟩ := (hst7.same S8).same S9
        rw [z, a4] at nc9
        cases nc9
      have nl7s : l7 ≠ st := fun z => by
        obtain ⟨a1, a2, a3, a4⟩ := hst7
        rw [z, a4] at nl7
        cases nl7
      have K511 : Keep [st] H5 H11 := (((((Same.keep S6).trans K7).trans (Same.keep S8)).trans (Same.keep S9)).trans (Same.keep S10)).trans K11
      have K611 : Keep [st] H6 H11 := ((((K7).trans (Same.keep S8)).trans (Same.keep S9)).trans (Same.keep S10)).trans K11
      have hc6' : H11 c6 = some (.lst [v]) := K611.but _ _ (by simpa using n6s) hc6
      have hc9' : H11 c9 = some (.lst [.ref p8]) := K11.but _ _ (by simpa using n9s) hc10
      have tleaf : TF H11 (.node c7 []) (.ref p8) [l7] := .mk p8 l7 [] (K11.tup _ _ (S10 _ _ hp9)) (K11.but _ _ (by simpa using nl7s) (S10 _ _ (S9 _ _ hl8))) (fun p hp => by cases hp) rfl rfl rfl
      have t11 : TF H11 t v as := ht.keep K511 fun b hb z => hst.out hfr (by rw [← List.mem_singleton.mp z]; exact hb)
      have K011 := K5.trans K511
      have fl7 : H l7 = none := fr _ _ (K5.trans ((Same.keep S6).trans K7)) hst7 nl7
      refine ⟨c9, m11, _, rfl, rfl, hc9', by omega, by omega, ?_, fun p12 np12 => ?_⟩
      · exact Nat.le_trans (show _ ≤ 2 by rw [List.length_singleton]; omega) (by decide)
      generalize e12 : upd H11 p12 _ = H12
      obtain ⟨S12, hp12⟩ := newF np12 e12
      have hc62 := S12 _ _ hc6'
      refine ⟨c6, p12, _, _, rfl, rfl, hc62, hp12, ?_, fun q nq => ?_⟩
      · rw [List.length_flatten, List.map_replicate, List.sum_replicate_nat]
        exact Nat.le_trans (show _ ≤ 2 by simp; omega) (by decide)
      generalize e13 : upd H12 q _ = H13
      obtain ⟨S13, hq13⟩ := newF nq e13
      have hst13 := (hst11.same S12).same S13
      have nqs : q ≠ st := fun z => by
        obtain ⟨a1, a2, a3, a4⟩ := hst11.same S12
        rw [z, a4] at nq
        cases nq
      have hD : ∃ qs, DeepP st H q i H13 qs := by
        have K13 : Keep [st] H H13 := (K011.trans (Same.keep S12)).trans (Same.keep S13)
        have fq : H q = none := fr _ _ (K011.trans (Same.keep S12)) (hst11.same S12) nq
        have t13 := (t11.same S12)
        have tl13 := (tleaf.same S12)
        have bt : TF H13 t v as ∧ t.ok = true ∧ t.dep ≤ 1 + i ∧ q ∉ as ∧ ∀ a ∈ as, H a = none := ⟨t13.same S13, hok, hdep, t13.ne nq, hfr⟩
        have bl : TF H13 (.node c7 []) (.ref p8) [l7] ∧ (Tr.node c7 []).ok = true ∧ (Tr.node c7 []).dep ≤ 1 + i ∧ q ∉ [l7] ∧ ∀ a ∈ [l7], H a = none := ⟨tl13.same S13, by rw [Tr.ok, hcl7]; rfl, by show 1 + 0 ≤ _; omega, tl13.ne nq, fun a ha => by rw [List.mem_singleton.mp ha]; exact fl7⟩
        rcases (show m11 = 0 ∨ m11 = 1 by omega) with rfl | rfl
        · refine ⟨[(v, t, as)], K13, hst13, hq13, fun p hp => ?_, ?_, fq, nqs⟩
          · obtain rfl := List.mem_singleton.mp hp
            exact bt
          · show t.size + 0 ≤ _
            omega
        · refine ⟨[(v, t, as), (.ref p8, .node c7 [], [l7])], K13, hst13, hq13, fun p hp => ?_, ?_, fq, nqs⟩
          · rcases List.mem_cons.mp hp with rfl | hp
            · exact bt
            · obtain rfl := List.mem_singleton.mp hp
              exact bl
          · show t.size + ((1 + 0) + 0) ≤ _
            omega
      obtain ⟨qs, hD⟩ := hD
      walk_at "rd"
      refine ⟨st, 2, rfl, hst13, by decide, by decide, fun H14 r14 K14 hst14 hm140 hm141 => ?_⟩
      have hD14 := hD.keep hst K14 hst14
      walk_at "rd"
      by_cases hr14 : r14 = 0
      · subst hr14
        walk_at "rd"
        refine ⟨.inl ⟨rfl, _, SqL.of hD14.2.2.1⟩, ?_⟩
        refine ⟨q, _, rfl, rfl, hD14.2.2.1, ?_⟩
        have hD14' := hD14.rev
        clear hD hD14 hst14 K14 
        have hst14 := hD14'.2.1
        generalize upd H14 q _ = H14 at hD14' hst14 ⊢
        generalize qs.reverse = qs at hD14' ⊢
        have hD14 := hD14'
        walk_at "rd"
        refine ⟨st, zl.length, by show [V.ref st, V.int ((txS zl).length : Int)] = _; rw [txS_len], hst14, by omega, by omega, fun H15 r15 K15 hst15 h150 h151 => ?_⟩
        obtain ⟨c15, hc15, hcl15⟩ := let_at hzl h150 h151
        refine ⟨_, _, c15, rfl, rfl, hzlen, hc15, ?_⟩
        obtain ⟨b1, b2, b3, b4, b5, b6, b7⟩ := hD14.keep hst K15 hst15
        walk_at "rd"
        refine ⟨(by walk_at "sz"), fun p16 np16 => ?_⟩
        generalize e16 : upd H15 p16 _ = H16
        obtain ⟨S16, hp16⟩ := newF np16 e16
        walk_at "rd"
        refine ⟨.ref p16, .node c15 (qs.map Fp.t), q :: qs.flatMap Fp.as, _, _, rfl, b1.trans (Same.keep S16), b2.same S16, .mk p16 q qs hp16 (S16 _ _ b3) (fun p hp => (b4 p hp).1.same S16) rfl rfl rfl, ?_, ?_, ?_, ?_⟩
        · rw [Tr.ok, hcl15, Bool.true_and]
          refine Tr.oks_iff.mpr fun t ht => ?_
          obtain ⟨p, hp, rfl⟩ := List.mem_map.mp ht
          exact (b4 p hp).2.1
        · have z : Tr.deps (qs.map Fp.t) ≤ 1 + i := Tr.deps_le fun t ht => by
            obtain ⟨p, hp, rfl⟩ := List.mem_map.mp ht
            exact (b4 p hp).2.2.1
          rw [Tr.dep]
          omega
        · rw [Tr.size]
          omega
        · intro a ha
          rcases List.mem_cons.mp ha with rfl | ha
          · exact b6
          · obtain ⟨p, hp, ha⟩ := List.mem_flatMap.mp ha
            exact (b4 p hp).2.2.2.2 a ha
      · refine iteC (decide_eq_false fun z => hr14 (V.int.inj z)) ?_
        walk_at "rd"
        refine ⟨st, zl.length, by show [V.ref st, V.int ((txS zl).length : Int)] = _; rw [txS_len], hst14, by omega, by omega, fun H15 r15 K15 hst15 h150 h151 => ?_⟩
        obtain ⟨c15, hc15, hcl15⟩ := let_at hzl h150 h151
        refine ⟨_, _, c15, rfl, rfl, hzlen, hc15, ?_⟩
        obtain ⟨b1, b2, b3, b4, b5, b6, b7⟩ := hD14.keep hst K15 hst15
        walk_at "rd"
        refine ⟨(by walk_at "sz"), fun p16 np16 => ?_⟩
        generalize e16 : upd H15 p16 _ = H16
        obtain ⟨S16, hp16⟩ := newF np16 e16
        walk_at "rd"
        refine ⟨.ref p16, .node c15 (qs.map Fp.t), q :: qs.flatMap Fp.as, _, _, rfl, b1.trans (Same.keep S16), b2.same S16, .mk p16 q qs hp16 (S16 _ _ b3) (fun p hp => (b4 p hp).1.same S16) rfl rfl rfl, ?_, ?_, ?_, ?_⟩
        · rw [Tr.ok, hcl15, Bool.true_and]
          refine Tr.oks_iff.mpr fun t ht => ?_
          obtain ⟨p, hp, rfl⟩ := List.mem_map.mp ht
          exact (b4 p hp).2.1
        · have z : Tr.deps (qs.map Fp.t) ≤ 1 + i := Tr.deps_le fun t ht => by
            obtain ⟨p, hp, rfl⟩ := List.mem_map.mp ht
            exact (b4 p hp).2.2.1
          rw [Tr.dep]
          omega
        · rw [Tr.size]
          omega
        · intro a ha
          rcases List.mem_cons.mp ha with rfl | ha
          · exact b6
          · obtain ⟨p, hp, ha⟩ := List.mem_flatMap.mp ha
            exact (b4 p hp).2.2.2.2 a ha
    · rintro σ H5 ⟨v, t, as, x3, x4, rfl, K5, hst5, ht, hok, hdep, hsz, hfr⟩
      walk_at "rd"
      exact k _ v t as K5 hst5 ht hok (by omega) (by omega) hfr
end
end Hy
set_option Elab.async false
set_option linter.all false
set_option maxRecDepth 100000
set_option maxHeartbeats 4000000
namespace Hy
open PySem L2
local macro_rules | `(tactic| walk_at "hp") => `(tactic| first
  | assumption | exact upd_same
  | (refine (upd_ne ?_).trans ?_ <;> first | assumption | (exact Ne.symm (by assumption)) | walk_at "ne" | walk_at "hp")
  | (refine (by assumption : Same _ _) _ _ ?_; assumption))
local macro_rules | `(tactic| walk_at "ne") => `(tactic| first
  | assumption | (exact Ne.symm (by assumption))
  | exact ne_of_none (by assumption) (by assumption) | exact Ne.symm (ne_of_none (by assumption) (by assumption)))
local macro_rules | `(tactic| walk_at "sz") => `(tactic| first | assumption | (show 0 ≤ sizeLine; decide) | (show 1 ≤ sizeLine; decide) | (show 2 ≤ sizeLine; decide) | (show 3 ≤ sizeLine; decide))
local macro_rules | `(tactic| walk_at "ar") => `(tactic| first
  | ((with_reducible show (0 : Int) < _); first | decide | omega)
  | ((with_reducible show CMul _ _); first | exact Or.inr (And.intro (by decide) (by decide)) | exact Or.inl (And.intro (by decide) (by decide)) | (refine Or.inl (And.intro ?_ ?_) <;> omega) | (refine Or.inr (And.intro ?_ ?_) <;> omega))
  | ((with_reducible show CPow _ _); exact And.intro (by decide) (And.intro (by decide) (by decide)))
  | ((with_reducible show CDiv _ _); first | exact And.intro (by decide) (by decide) | (refine And.intro ?_ ?_ <;> omega)))
/- one step of a reading -/
local macro_rules | `(tactic| walk_at "r1") => `(tactic| first
  | refine ⟨_, rfl, ?_⟩
  | refine iteB (by rfl) ?_ | refine iteC (by rfl) ?_
  | refine ⟨_, _, rfl, rfl, ?_⟩
  | refine ⟨rfl, ?_⟩
  | refine ⟨⟨_, rfl⟩, ?_⟩
  | refine ⟨_, _, _, _, true, rfl, .ty _, .base (.str _), kit_ty (by decide +kernel), ?_⟩
  | refine ⟨_, _, _, _, false, rfl, .ty _, .base (.str _), kit_ty (by decide +kernel), ?_⟩
  | refine ⟨_, _, _, _, true, rfl, .ty _, .base (.tup (by walk_at "hp")), kit_ty (by decide +kernel), ?_⟩
  | refine ⟨_, _, _, _, false, rfl, .ty _, .base (.tup (by walk_at "hp")), kit_ty (by decide +kernel), ?_⟩
  | refine ⟨_, _, _, _, true, rfl, .ty _, .base (.lst (by walk_at "hp")), kit_ty (by decide +kernel), ?_⟩
  | refine ⟨_, _, _, _, false, rfl, .ty _, .base (.lst (by walk_at "hp")), kit_ty (by decide +kernel), ?_⟩
  | refine ⟨_, _, rfl, ⟨by walk_at "sz", rfl⟩, ?_⟩
  | refine ⟨_, _, _, _, rfl, rfl, SqT.of (by walk_at "hp"), by rfl, ?_⟩
  | refine ⟨_, _, _, _, rfl, rfl, SqL.of (by walk_at "hp"), by rfl, ?_⟩
  | refine ⟨.inl ⟨rfl, _, SqL.of (by walk_at "hp")⟩, ?_⟩
  | refine ⟨_, _, _, rfl, rfl, (by walk_at "hp"), snoc_get, ?_⟩
  | refine ⟨_, _, _, _, rfl, rfl, (by walk_at "hp"), by rfl, ?_⟩
  | refine ⟨_, _, rfl, SqL.of (by walk_at "hp"), ?_⟩
  | refine ⟨_, _, rfl, SqT.of (by walk_at "hp"), by rfl, ?_⟩
  | refine ⟨_, (_ : List V), rfl, ?_⟩
  | refine ⟨_, _, rfl, .inl ⟨_, (by assumption), rfl⟩, ?_⟩
  | refine ⟨_, _, rfl, .inl ⟨_, SqL.of (by walk_at "hp"), rfl⟩, ?_⟩
  | refine ⟨_, _, rfl, .inr ⟨_, SqT.of (by walk_at "hp"), rfl⟩, ?_⟩
  | refine Or.inl ⟨(_ : Int), rfl, ?_⟩ | refine Or.inr ⟨(_ : Bool), rfl, ?_⟩
  | refine And.intro (by walk_at "ar") ?_)
local macro_rules | `(tactic| walk_at "rd") => `(tactic| repeat walk_at "r1")

/-! trees whose lists have got an x each -/
mutual
def Tr.toX (x : Str) : Tr → PyData
  | .node c ts => .tuple [.str ⟨#[c]⟩, .list (Tr.toXs x ts ++ [.str x])]
def Tr.toXs (x : Str) : List Tr → List PyData
  | [] => []
  | t :: ts => t.toX x :: Tr.toXs x ts
end
theorem Tr.toXs_map (x : Str) : ∀ ts : List Tr, Tr.toXs x ts = ts.map (Tr.toX x)
  | [] => rfl
  | t :: ts => by simp only [Tr.toXs, List.map_cons, Tr.toXs_map x ts]
theorem plainAll_app : ∀ {a b : List PyData}, PyData.plainAll a = true → PyData.plainAll b = true → PyData.plainAll (a ++ b) = true
  | [], _, _, h => h
  | x :: a, b, h, h' => by
    rw [PyData.plainAll, Bool.and_eq_true] at h
    rw [List.cons_append, PyData.plainAll, h.1, plainAll_app h.2 h']
    rfl
mutual
theorem Tr.toX_plain (x : Str) : ∀ t : Tr, (t.toX x).plain = true
  | .node c ts => by
    have h := plainAll_app (Tr.toXs_plain x ts) (show PyData.plainAll [.str x] = true from rfl)
    simp only [Tr.toX, PyData.plain, PyData.plainAll, h, Bool.and_true]
theorem Tr.toXs_plain (x : Str) : ∀ ts : List Tr, PyData.plainAll (Tr.toXs x ts) = true
  | [] => rfl
  | t :: ts => by simp [Tr.toXs, PyData.plainAll, Tr.toX_plain x t, Tr.toXs_plain x ts]
end
theorem dpAll_app {K : PySem.W.Frag} {H : Hp} : ∀ {vs ws : List V} {ds es : List PyData}, DpAll K H vs ds → DpAll K H ws es → DpAll K H (vs ++ ws) (ds ++ es)
  | _, _, _, _, .nil, h => h
  | _, _, _, _, .cons a b, h => .cons a (dpAll_app b h)
theorem cntX (x : Str) (ts : List Tr) : (ts.map (Tr.toX x) ++ [PyData.str x]).countP (fun z => PyData.eqv z (.str x)) = 1 := by
  rw [List.countP_append]
  have h : (ts.map (Tr.toX x)).countP (fun z => PyData.eqv z (.str x)) = 0 := by
    rw [List.countP_eq_zero]
    intro z hz
    obtain ⟨t, _, rfl⟩ := List.mem_map.mp hz
    cases t
    simp [Tr.toX, PyData.eqv]
  rw [h]
  simp [PyData.eqv]
/-- H' is H with an x behind each of the lists -/
structure Xd (x : Str) (as : List Addr) (H H' : Hp) : Prop where
  tup : ∀ b xs, H b = some (.tup xs) → H' b = some (.tup xs)
  lst : ∀ b ∈ as, ∀ xs, H b = some (.lst xs) → H' b = some (.lst (xs ++ [.str x]))
theorem TF.dpx {K : PySem.W.Frag} {x : Str} {H H' : Hp} {t : Tr} {v : V} {as : List Addr} (h : TF H t v as) (k : Xd x as H H') : Dp K H' v (t.toX x) := by
  induction h with
  | @mk t v as a l ps ha hl hp ht hv has ih =>
    subst hv has
    cases t with
    | node c ts =>
      have e : ts = ps.map (·.2.1) := ht
      rw [Tr.toX, Tr.toXs_map, e, List.map_map]
      refine .tup (SqT.of (k.tup _ _ ha)) (.cons (.str _) (.cons (.lst (SqL.of (k.lst l List.mem_cons_self _ hl)) (dpAll_app (dpAll_of _ _ fun p hp => ih p hp ⟨k.tup, fun b hb => k.lst b (List.mem_cons_of_mem _ (List.mem_flatMap.mpr ⟨p, hp, hb⟩))⟩) (.cons (.str _) .nil))) .nil))
theorem TF.lists {H : Hp} {t : Tr} {v : V} {as : List Addr} (h : TF H t v as) : ∀ a ∈ as, ∃ ps : List Fp, H a = some (.lst (ps.map Fp.v)) ∧ ps.length ≤ t.size ∧ ∀ p ∈ ps, TF H p.t p.v p.as ∧ ∀ b ∈ p.as, b ∈ as := by
  induction h with
  | @mk t v as a l ps ha hl hp ht hv has ih =>
    subst has
    have e : t.size = 1 + Tr.sizes t.ts := by cases t; rfl
    have e2 := Tr.sizes_len t.ts
    intro b hb
    rcases List.mem_cons.mp hb with rfl | hb
    · refine ⟨ps, hl, ?_, fun p hp' => ⟨hp p hp', fun b hb => List.mem_cons_of_mem _ (List.mem_flatMap.mpr ⟨p, hp', hb⟩)⟩⟩
      rw [ht, List.length_map] at e2
      rw [e, ht]
      omega
    · obtain ⟨p, hp', hb⟩ := List.mem_flatMap.mp hb
      obtain ⟨qs, q1, q2, q3⟩ := ih p hp' b hb
      have : p.2.1.size ≤ Tr.sizes t.ts := Tr.sizes_mem (by rw [ht]; exact List.mem_map_of_mem hp')
      exact ⟨qs, q1, by omega, fun q hq => ⟨(q3 q hq).1, fun c hc => List.mem_cons_of_mem _ (List.mem_flatMap.mpr ⟨p, hp', (q3 q hq).2 c hc⟩)⟩⟩
theorem nod {as : List Addr} {i : Nat} {a : Addr} (h : as.Nodup) (e : as[i]? = some a) : as.take (i + 1) = as.take i ++ [a] ∧ as.drop i = a :: as.drop (i + 1) ∧ a ∉ as.take i ∧ a ∉ as.drop (i + 1) := by
  obtain ⟨hi, rfl⟩ := List.getElem?_eq_some_iff.mp e
  have e2 : as.drop i = as[i] :: as.drop (i + 1) := List.drop_eq_getElem_cons hi
  have e1 : as.take (i + 1) = as.take i ++ [as[i]] := by rw [List.take_succ, e]; rfl
  rw [← List.take_append_drop i as, e2] at h
  obtain ⟨h1, h2, h3⟩ := List.nodup_append.mp h
  exact ⟨e1, e2, fun z => h3 _ z _ List.mem_cons_self rfl, (List.nodup_cons.mp h2).1⟩
theorem sizes_rep (mm : Nat) (v : V) (c : Nat) (l : List Addr) : Tr.sizes ((List.replicate mm ((v, Tr.node c [], l) : Fp)).map Fp.t) = mm := by
  rw [List.map_replicate]
  induction mm with
  | zero => rfl
  | succ n ih =>
    rw [List.replicate_succ, Tr.sizes, ih]
    show (1 + 0) + n = _
    omega
theorem joinL {J T : St → Hp → Prop} {G : Prop} (main : (∀ σ H, J σ H → T σ H) → G) (tail : ∀ σ H, J σ H → T σ H) : G := main tail
theorem Same.keepNew {H H1 H2 : Hp} {A : List Addr} (s : Same H H1) (n : ∀ a ∈ A, H a = none) (k : Keep A H1 H2) : Same H H2 := fun b o e => k.but b o (fun z => by rw [n b z] at e; cases e) (s b o e)
section
variable {P : Program} {w : World} {K : PySem.W.Frag} {mg : Str → Option Value} {base : Heap}
def sp_law : Sp := fun vs H Q _ => ∃ (a : Addr) (ns : List Int), vs = [.ref a] ∧ SqL K H a (ns.map V.int) ∧ ns.length ≤ 63 ∧ ∀ H', Q (.bl true) H'
theorem ok_law (T : Txt K mg) (G_written_tree : G' P w K mg base "written_tree" 5 ["tree"] sp_written_tree) (G_from_heap : G' P w K mg base "from_heap" 5 ["letter", "heap"] sp_from_heap) (G_read_tree : G' P w K mg base "read_tree" 2 ["text"] (sp_read_tree (mg := mg)))
    (G__law_cell : G' P w K mg base "_law_cell" 1 ["script", "k"] (sp__law_cell (K := K))) (G__law_store : G' P w K mg base "_law_store" 1 ["cell"] sp__law_store) (G__law_take : G' P w K mg base "_law_take" 1 ["store", "many"] sp__law_take) (G__law_tree : G' P w K mg base "_law_tree" 10 ["store", "letters", "deep"] (sp__law_tree 4))
    (G__law_formed : G' P w K mg base "_law_formed" 31 ["tree"] (sp__law_formed 30)) (G__law_same : G' P w K mg base "_law_same" 61 ["found", "due"] (sp__law_same 60)) (G__law_some_letters : G' P w K mg base "_law_some_letters" 2 ["store"] sp__law_some_letters) (G__law_deep : G' P w K mg base "_law_deep" 2 ["store", "letters"] sp__law_deep)
    (G__law_lists : G' P w K mg base "_law_lists" 31 ["tree"] (sp__law_lists 30)) : ∀ (f : Addr) (fd : FuncData), Fun K "law" "law" s_law f fd → FnOk P w K mg base (L2.CX P w) 62 f fd ["script"] (sp_law (K := K)) := by
  refine fun f fd F => F.okX sc_law (fun vs H Q E h => ?_) (fun cdv A outer s H vs Q E hr h => ?_)
  · obtain ⟨a, ns, rfl, _⟩ := h
    rfl
  · obtain ⟨a, ns, rfl, hS, hl, k⟩ := h
    refine ⟨_, (pss_cons (ps_for (passes_of rfl) rfl (pi_range1 (by rfl) T.n_range (pa_cons (pe_callB (call_min2 rfl) (by rfl) T.n_min (by decide +kernel) (pa_cons (pe_callB (call_max2 rfl) (by rfl) T.n_max (by decide +kernel) (pa_cons (pe_callB (call_lenK K) (by rfl) T.n_len PySem.boot_len (pa_cons (pv 0) pa_nil)) (pa_cons pe_int pa_nil))) (pa_cons pe_int pa_nil))) pa_nil)) (pg_name (i := 1) sc_law.nd rfl (by first | exact Or.inl rfl | exact Or.inr rfl)) (pss_cons (ps_set (i := 2) sc_law.nd rfl (by first | exact Or.inl rfl | exact Or.inr rfl) (pe_cl G__law_store (hr.mono (by omega)) passF (pa_cons (pe_cl G__law_cell (hr.mono (by omega)) passF (pa_cons (pv 0) (pa_cons (pv 1) pa_nil))) pa_nil)))
  (pss_cons (ps_set (i := 3) sc_law.nd rfl (by first | exact Or.inl rfl | exact Or.inr rfl) (pe_cl G__law_some_letters (hr.mono (by omega)) passF (pa_cons (pv 2) pa_nil)))
  (pss_cons (ps_set (i := 4) sc_law.nd rfl (by first | exact Or.inl rfl | exact Or.inr rfl) (pe_cl G__law_tree (hr.mono (by omega)) passF (pa_cons (pv 2) (pa_cons (pv 3) (pa_cons (pe_op op_add pe_int (pe_cl G__law_take (hr.mono (by omega)) passF (pa_cons (pv 2) (pa_cons pe_int pa_nil)))) pa_nil)))))
  (pss_cons (ps_set (i := 5) sc_law.nd rfl (by first | exact Or.inl rfl | exact Or.inr rfl) (pe_cl G__law_take (hr.mono (by omega)) passF (pa_cons (pv 2) (pa_cons pe_int pa_nil))))
  (pss_cons (ps_if (pt_cmpR op_eq (pv 5) pe_int (nomark _)) (pss_one (ps_set (i := 4) sc_law.nd rfl (by first | exact Or.inl rfl | exact Or.inr rfl) (pe_cl G__law_deep (hr.mono (by omega)) passF (pa_cons (pv 2) (pa_cons (pv 3) pa_nil))))) pss_nil)
  (pss_cons (ps_if (pt_cmpR op_eq (pv 5) pe_int (nomark _)) (pss_cons (ps_set (i := 6) sc_law.nd rfl (by first | exact Or.inl rfl | exact Or.inr rfl) (pe_tup (pa_cons (pe_ix ix_str (pv 3) (pe_cl G__law_take (hr.mono (by omega)) passF (pa_cons (pv 2) (pa_cons (pe_callB (call_lenK K) (by rfl) T.n_len PySem.boot_len (pa_cons (pv 3) pa_nil)) pa_nil))) (fun _ _ => rfl)) (pa_cons (pe_lst pa_nil) pa_nil))))
  (pss_one (ps_set (i := 4) sc_law.nd rfl (by first | exact Or.inl rfl | exact Or.inr rfl) (pe_cl G_from_heap (hr.mono (by omega)) (passW (takes_of rfl rfl rfl rfl) (fun _ _ _ _ z => z)) (pa_cons (pe_ix ix_str (pv 3) pe_int (fun _ _ => rfl)) (pa_cons (pe_lst (pa_cons (pe_tup (pa_cons (pv 6) (pa_cons (pe_ix (ix_listK K) (pe_lst (pa_cons pe_int (pa_cons pe_int (pa_cons pe_int (pa_cons (pe_op op_add pe_int (pe_cl G__law_take (hr.mono (by omega)) passF (pa_cons (pv 2) (pa_cons pe_int pa_nil)))) pa_nil))))) (pe_cl G__law_take (hr.mono (by omega)) passF (pa_cons (pv 2) (pa_cons pe_int pa_nil))) (fun _ _ => rfl)) pa_nil))) pa_nil)) pa_nil)))))) pss_nil)
  (pss_cons (ps_asg (pe_cl G__law_formed (hr.mono (by omega)) passF (pa_cons (pv 4) pa_nil)) (pg_tup (by rfl) (pgs_cons (pg_name (i := 7) sc_law.nd rfl (by first | exact Or.inl rfl | exact Or.inr rfl)) (pgs_cons (pg_name (i := 8) sc_law.nd rfl (by first | exact Or.inl rfl | exact Or.inr rfl)) pgs_nil))))
  (pss_cons (ps_if (pt_cmpR op_ne (pe_cl G_written_tree (hr.mono (by omega)) (passW (takes_of rfl rfl rfl rfl) (fun _ _ _ _ z => z)) (pa_cons (pv 4) pa_nil)) (pv 7) (nomark _)) (pss_one (ps_ret pe_bl)) pss_nil)
  (pss_cons (ps_set (i := 9) sc_law.nd rfl (by first | exact Or.inl rfl | exact Or.inr rfl) (pe_cl G_read_tree (hr.mono (by omega)) (passW (takes_of rfl rfl rfl rfl) (fun _ _ _ _ z => z)) (pa_cons (pv 7) pa_nil)))
  (pss_cons (ps_if (pt_not (pt_val (pe_cl G__law_same (hr.mono (by omega)) passF (pa_cons (pv 9) (pa_cons (pv 8) pa_nil))))) (pss_one (ps_ret pe_bl)) pss_nil)
  (pss_cons (ps_set (i := 10) sc_law.nd rfl (by first | exact Or.inl rfl | exact Or.inr rfl) (pe_cl G__law_lists (hr.mono (by omega)) passF (pa_cons (pv 9) pa_nil)))
  (pss_cons (ps_for (passes_of rfl) rfl (pi_listK K (pv 10)) (pg_name (i := 11) sc_law.nd rfl (by first | exact Or.inl rfl | exact Or.inr rfl)) (pss_one (ps_expr (cbm K (pe_bm PySem.F.plainAttrs_list PySem.F.slot_list_append PySem.F.type_list_append mt_append (pv 11) (pa_cons pe_str pa_nil))))))
  (pss_cons (ps_if (pt_cmp (pc_neNilK K hr (pe_lc (own := [("one", 11)]) rfl sc_law.nd (pi_listK K (pv 10)) (blkOk_by (own := [("one", 11)]) (N := ["script", "at", "store", "letters", "tree", "way", "leaf", "text", "due", "found", "lists", "one"]) (sc := defScope s_law) (by decide +kernel)) (fun _ _ _ _ _ => (pg_name (i := 11) sc_law.nd rfl (by first | exact Or.inl rfl | exact Or.inr rfl))) (fun _ _ _ _ _ => (pts_one (pt_cmpR op_ne (cbm K (pe_bm PySem.F.plainAttrs_list PySem.F.slot_list_count PySem.F.type_list_count (mt_countDK K hr) (pv 11) (pa_cons pe_str pa_nil))) pe_int (nomark _)))) (fun _ _ _ _ _ => (pv 11))))) (pss_one (ps_ret pe_bl)) pss_nil)
  (pss_one (ps_if (pt_not (pt_val (pe_cl G__law_same (hr.mono (by omega)) passF (pa_cons (pe_cl G_read_tree (hr.mono (by omega)) (passW (takes_of rfl rfl rfl rfl) (fun _ _ _ _ z => z)) (pa_cons (pv 7) pa_nil)) (pa_cons (pv 8) pa_nil))))) (pss_one (ps_ret pe_bl)) pss_nil))))))))))))))))
  (pss_one (ps_ret pe_bl))), ?_⟩
    have sS : ∀ H', Same H H' → SqL K H' a (ns.map V.int) := fun H' S => hS.imp (fun q => q.imp (fun e => S _ _ e) (fun ⟨o, e⟩ => ⟨o, S _ _ e⟩)) id
    walk_at "rd"
    refine ⟨_, _, rfl, ?_⟩
    walk_at "rd"
    refine ⟨_, _, rfl, ?_⟩
    walk_at "rd"
    refine ⟨?_, ?_, ?_⟩
    · split <;> split <;> omega
    · split <;> split <;> omega
    generalize hN : (if (20 : Int) < _ then _ else _ : Int).toNat = N
    have hN20 : N ≤ 20 := by
      rw [← hN]
      split <;> split <;> omega
    clear hN
    refine for_range (lo := 0) (n := N) (fun i σ H' => ∃ x1 x2 x3 x4 x5 x6 x7 x8 x9 x10 x11 : Option V, σ = [some (.ref a), x1, x2, x3, x4, x5, x6, x7, x8, x9, x10, x11] ∧ Same H H')
      ⟨_, _, _, _, _, _, _, _, _, _, _, rfl, Same.refl _⟩ ?_ ?_
    · rintro i σ H0 hi ⟨x1, x2, x3, x4, x5, x6, x7, x8, x9, x10, x11, rfl, S0⟩
      walk_at "rd"
      refine ⟨a, ns, i, by show [V.ref a, V.int (0 + (i : Int))] = _; rw [Int.zero_add], sS _ S0, by omega, fun z => ?_⟩
      refine ⟨z, rfl, fun H1 st g0 g1 S1 nst hst => ?_⟩
      have hst1 : StoreAt H1 st := ⟨_, _, _, hst⟩
      walk_at "rd"
      refine ⟨hst1, fun H2 zl K2 hst2 hzl => ?_⟩
      walk_at "rd"
      refine ⟨st, 4, rfl, hst2, by decide, by decide, fun H3 r3 K3 hst3 h30 h31 => ?_⟩
      walk_at "rd"
      obtain ⟨r3, rfl⟩ : ∃ m : Nat, r3 = (m : Int) := ⟨r3.toNat, by omega⟩
      refine ⟨st, zl, 1 + r3, by show [V.ref st, tx zl, V.int (1 + (r3 : Int))] = _; rw [show ((1 : Int) + (r3 : Int)) = ((1 + r3 : Nat) : Int) by omega], hst3, hzl, by omega, by omega, by omega, fun H4 v t as K4 hst4 ht hok hdep hsz hf => ?_⟩
      have hdep30 : t.dep ≤ 30 := by omega
      have hsz3 : t.size ≤ 3000 := by
        refine Nat.le_trans hsz ?_
        rcases (show r3 = 0 ∨ r3 = 1 ∨ r3 = 2 ∨ r3 = 3 by omega) with rfl | rfl | rfl | rfl <;> decide
      have nstas : ∀ b ∈ as, b ∉ [st] := fun b hb z => hst3.out hf (by rw [← List.mem_singleton.mp z]; exact hb)
      clear hdep hsz hf
      have K14 : Keep [st] H1 H4 := (K2.trans K3).trans K4
      clear K2 K3 K4 hst2 hst3
      walk_at "rd"
      refine ⟨st, 12, rfl, hst4, by decide, by decide, fun H5 wy K5 hst5 hw0 hw1 => ?_⟩
      have K15 := K14.trans K5
      walk_at "rd"
      have hz1 : 1 ≤ zl.length := by
        cases zl with
        | nil => exact absurd rfl hzl.1
        | cons a b => simp
      have hz2 := hzl.2.1
      have hzlen : (txS zl).length ≤ sizeLine := by rw [txS_len]; exact Nat.le_trans hz2 (by decide)
      have nst0 : ∀ b ∈ [st], H0 b = none := fun b hb => by rw [List.mem_singleton.mp hb]; exact nst
      have kS : ∀ H', Keep [st] H1 H' → Same H0 H' := fun H' KK => Same.keepNew S1 nst0 KK
      refine joinL (T := ?T) (J := fun σ H' => ∃ v t as x6, σ = [some (.ref a), some (.int (0 + (i : Int))), some (.ref st), some (tx zl), some v, some (.int wy), x6, x7, x8, x9, x10, x11] ∧ Same H0 H' ∧ TF H' t v as ∧ t.ok = true ∧ t.dep ≤ 30 ∧ t.size ≤ 3000) (fun tl => ?main) ?tail
      case main =>
        by_cases h1 : wy = 1
        · subst h1
          refine iteC (by decide) ?_
          walk_at "rd"
          refine ⟨st, zl.length, by show [V.ref st, V.int ((txS zl).length : Int)] = _; rw [txS_len], hst5, by omega, by omega, fun H6 r6 K6 hst6 h60 h61 => ?_⟩
          obtain ⟨c6, hc6, hcl6⟩ := let_at hzl h60 h61
          refine ⟨_, _, c6, rfl, rfl, hzlen, hc6, ?_⟩
          refine ⟨(by walk_at "sz"), fun l6 n6 => ?_⟩
          generalize e6 : upd H6 l6 _ = H6b
          obtain ⟨S6, hl6⟩ := newF n6 e6
          walk_at "rd"
          refine ⟨(by walk_at "sz"), fun p6 np6 => ?_⟩
          generalize e6 : upd H6b p6 _ = H6c
          obtain ⟨S6b, hp6⟩ := newF np6 e6
          have t6 : TF H6c (.node c6 []) (.ref p6) [l6] := .mk p6 l6 [] hp6 (S6b _ _ hl6) (fun p hp => by cases hp) rfl rfl rfl
          have ok6 : (Tr.node c6 []).ok = true := by rw [Tr.ok, hcl6]; rfl
          obtain ⟨c0, hc0, hcl0⟩ := let_at hzl (Int.le_refl 0) (by omega)
          have hst6c := (hst6.same S6).same S6b
          walk_at "rd"
          refine ⟨_, _, c0, rfl, rfl, hzlen, hc0, ?_⟩
          walk_at "rd"
          refine ⟨st, 2997, rfl, hst6c, by decide, by decide, fun H7 m7 K7 hst7 h70 h71 => ?_⟩
          obtain ⟨m7, rfl⟩ : ∃ m : Nat, m7 = (m : Int) := ⟨m7.toNat, by omega⟩
          walk_at "rd"
          refine ⟨(by show 4 ≤ sizeLine; decide), fun p8 np8 => ?_⟩
          generalize e8 : upd H7 p8 _ = H8
          obtain ⟨S8, hp8⟩ := newF np8 e8
          have hst8 := hst7.same S8
          walk_at "rd"
          refine ⟨st, 4, rfl, hst8, by decide, by decide, fun H9 r9 K9 hst9 h90 h91 => ?_⟩
          have n8s : p8 ≠ st := fun z => by
            obtain ⟨a1, a2, a3, a4⟩ := hst7
            rw [z, a4] at np8
            cases np8
          have nl6s : l6 ≠ st := fun z => by
            obtain ⟨a1, a2, a3, a4⟩ := hst6
            rw [z, a4] at n6
            cases n6
          have hp89 := K9.but _ _ (by simpa using n8s) hp8
          obtain ⟨mm, hmm, hm1, hm2⟩ : ∃ mm : Nat, atI [V.int 60, V.int 61, V.int 300, V.int (1 + (m7 : Int))] r9 = some (V.int (mm : Int)) ∧ 1 ≤ mm ∧ mm ≤ 2997 := by
            rcases (show r9 = 0 ∨ r9 = 1 ∨ r9 = 2 ∨ r9 = 3 by omega) with rfl | rfl | rfl | rfl
            · exact ⟨60, rfl, by decide, by decide⟩
            · exact ⟨61, rfl, by decide, by decide⟩
            · exact ⟨300, rfl, by decide, by decide⟩
            · exact ⟨1 + m7, by rw [show (((1 + m7 : Nat)) : Int) = 1 + (m7 : Int) by omega]; rfl, by omega, by omega⟩
          refine ⟨_, _, _, _, rfl, rfl, SqL.of hp89, hmm, ?_⟩
          refine ⟨(by walk_at "sz"), fun p10 np10 => ?_⟩
          generalize e10 : upd H9 p10 _ = H10
          obtain ⟨S10, hp10⟩ := newF np10 e10
          walk_at "rd"
          refine ⟨(by walk_at "sz"), fun p11 np11 => ?_⟩
          generalize e11 : upd H10 p11 _ = H11
          obtain ⟨S11, hp11⟩ := newF np11 e11
          have K7' : Keep [st] H6c H11 := (((K7.trans (Same.keep S8)).trans K9).trans (Same.keep S10)).trans (Same.keep S11)
          have KK : Keep [st] H1 H11 := ((((K15.trans K6).trans (Same.keep S6)).trans (Same.keep S6b))).trans K7'
          have t11 : TF H11 (.node c6 []) (.ref p6) [l6] := t6.keep K7' fun b hb z => nl6s (by rw [← List.mem_singleton.mp hb, ← List.mem_singleton.mp z])
          have ek : kids [(((V.ref p6, Tr.node c6 [], [l6]) : Fp), p10, mm)] = List.replicate mm ((V.ref p6, Tr.node c6 [], [l6]) : Fp) := by simp [kids]
          have es := sizes_rep mm (V.ref p6) c6 [l6]
          have ed : Tr.deps ((List.replicate mm ((V.ref p6, Tr.node c6 [], [l6]) : Fp)).map Fp.t) ≤ 1 := Tr.deps_le fun t ht => by
            rw [List.map_replicate] at ht
            rw [List.eq_of_mem_replicate ht]
            show 1 + 0 ≤ 1
            omega
          have eo : (Tr.node c0 ((List.replicate mm ((V.ref p6, Tr.node c6 [], [l6]) : Fp)).map Fp.t)).ok = true := by
            rw [Tr.ok, hcl0, Bool.true_and]
            refine Tr.oks_iff.mpr fun t ht => ?_
            rw [List.map_replicate] at ht
            rw [List.eq_of_mem_replicate ht]
            exact ok6
          refine ⟨c0, p11, [((V.ref p6, .node c6 [], [l6]), p10, mm)], rfl, hcl0, hp11, fun h hh => ?_, ?_, fun H12 v12 as12 S12 t12 f12 nd12 => ?_⟩
          · obtain rfl := List.mem_singleton.mp hh
            exact ⟨S11 _ _ hp10, t11, ok6, hm1⟩
          · rw [ek, Tr.size, es]
            omega
          rw [ek] at t12
          exact tl _ _ ⟨v12, _, as12, _, rfl, (kS _ KK).trans S12, t12, by rw [Tr.form_ok]; exact eo, by rw [Tr.form_dep, Tr.dep]; omega, by rw [Tr.form_size, Tr.size, es]; omega⟩
        · by_cases h0 : wy = 0
          · subst h0
            refine iteB (by decide) ?_
            iterate 2 walk_at "r1"
            refine ⟨st, zl, rfl, hst5, hzl, fun H6 v6 t6 as6 K6 hst6 ht6 hok6 hd6 hs6 hf6 => ?_⟩
            iterate 3 walk_at "r1"
            refine iteC (by decide) ?_
            exact tl _ _ ⟨v6, t6, as6, x6, rfl, kS _ (K15.trans K6), ht6, hok6, hd6, by omega⟩
          · refine iteC (decide_eq_false fun z => h0 (V.int.inj z)) ?_
            iterate 3 walk_at "r1"
            refine iteC (decide_eq_false fun z => h1 (V.int.inj z)) ?_
            exact tl _ _ ⟨v, t, as, x6, rfl, kS _ K15, ht.keep K5 nstas, hok, hdep30, hsz3⟩
      case tail =>
        rintro σ H6 ⟨v, t, as, x6, rfl, S6, ht, hok, hdep, hsz⟩
        walk_at "rd"
        refine ⟨v, t, as, rfl, ht, hok, by omega, hdep, by omega, fun H7 v7 as7 S7 hF hfr7 => ?_⟩
        obtain ⟨a7, u7, rfl, ha7, hu7⟩ := hF
        walk_at "rd"
        refine ⟨v, t, as, rfl, ht.same S7, hok, by omega, fun H8 S8 => ?_⟩
        walk_at "rd"
        refine iteC (by simp) ?_
        have hWl := Tr.W_len t.form
        rw [Tr.form_size] at hWl
        have hfs : t.form.size ≤ 3000 := by rw [Tr.form_size]; exact hsz
        have hfd : t.form.dep ≤ 30 := by rw [Tr.form_dep]; exact hdep
        have hpW : parse t.form.W = some t.form := parse_W (Tr.form_told t hok)
        walk_at "rd"
        refine ⟨by omega, fun t' et H9 v9 as9 S9 h9 fr9 nd9 => ?_, fun e => by rw [hpW] at e; cases e⟩
        obtain rfl : t.form = t' := Option.some.inj (hpW.symm.trans et)
        have hu9 : TF H9 t.form u7 as7 := (hu7.same S8).same S9
        walk_at "rd"
        refine ⟨v9, u7, rfl, SameD.tree h9 hu9 (by omega) hfd, fun H10 S10 => ?_⟩
        walk_at "rd"
        refine ⟨v9, t.form, as9, rfl, h9.same S10, by omega, hfd, fun H11 p11 S11 np11 hp11 => ?_⟩
        have h11 : TF H11 t.form v9 as9 := (h9.same S10).same S11
        have hlen9 : as9.length ≤ 3000 := by rw [h9.len]; exact hfs
        have np9 : p11 ∉ as9 := (h9.same S10).ne np11
        have hlists := h11.lists
        walk_at "rd"
        refine ⟨⟨_, SqL.of hp11⟩, for_list (K := K) (a := p11) (xs := as9.map V.ref) (fun j σ H' => ∃ y11, σ = [some (.ref a), some (.int (0 + (i : Int))), some (.ref st), some (tx zl), some v, some (.int wy), x6, some (tx t.form.W), some u7, some v9, some (.ref p11), y11] ∧ Keep as9 H11 H' ∧
            (∀ b ∈ as9.take j, ∀ xs, H11 b = some (.lst xs) → H' b = some (.lst (xs ++ [.str (PySem.Str.ofString "x")]))) ∧ ∀ b ∈ as9.drop j, ∀ xs, H11 b = some (.lst xs) → H' b = some (.lst xs))
          ⟨x11, rfl, Keep.refl _ _, fun b hb => by simp at hb, fun b _ xs e => e⟩ (fun j σ H' _ ⟨_, _, KK, _⟩ => SqL.of (KK.but _ _ np9 hp11)) ?_ ?_⟩
        · rintro j x σ H12 hx ⟨y11, rfl, K12, L1, L2⟩
          rw [List.getElem?_map] at hx
          obtain ⟨b, hb, rfl⟩ := Option.map_eq_some_iff.mp hx
          obtain ⟨d1, d2, d3, d4⟩ := nod nd9 hb
          have hbm := List.mem_of_getElem? hb
          obtain ⟨ps, hps, hpl, _⟩ := hlists b hbm
          have hb12 := L2 b (by rw [d2]; exact List.mem_cons_self) _ hps
          walk_at "rd"
          refine ⟨_, _, _, rfl, rfl, hb12, ?_, ?_⟩
          · rw [List.length_map]
            exact Nat.lt_of_le_of_lt (show _ ≤ 3000 by omega) (by decide)
          refine ⟨_, rfl, K12.upd hbm hb12, fun c hc xs e => ?_, fun c hc xs e => ?_⟩
          · rw [d1] at hc
            rcases List.mem_append.mp hc with hc | hc
            · rw [upd_ne (fun z => d3 (by rw [← z]; exact hc))]
              exact L1 c hc xs e
            · obtain rfl := List.mem_singleton.mp hc
              rw [hps] at e
              cases e
              rw [upd_same]
          · rw [upd_ne (fun z => d4 (by rw [← z]; exact hc))]
            exact L2 c (by rw [d2]; exact List.mem_cons_of_mem _ hc) xs e
        · rintro σ H12 ⟨y11, rfl, K12, L1, _⟩
          rw [List.length_map, List.take_length] at L1
          have hX : Xd (PySem.Str.ofString "x") as9 H11 H12 := ⟨K12.tup, fun b hb => L1 b hb⟩
          have hp12 := K12.but _ _ np9 hp11
          have S812 : Same H8 H12 := Same.keepNew ((S9.trans S10).trans S11) fr9 K12
          have hu12 : TF H12 t.form u7 as7 := (hu7.same S8).same S812
          have S012 : Same H0 H12 := ((S6.trans S7).trans S8).trans S812
          clear hu9 hu7 S7 S8 S9 S10 S11
          walk_at "rd"
          refine ⟨⟨_, SqL.of hp12⟩, fun D1 nD => lc_list (xs := as9.map V.ref) (fun j H' => Same H12 H' ∧ H' D1 = some (.lst [])) ⟨same_new nD, upd_same⟩ (fun j H' _ h => SqL.of (h.1 _ _ hp12)) ?_ ?_⟩
          · rintro j x H13 hx ⟨S13, hD13⟩
            rw [List.getElem?_map] at hx
            obtain ⟨b, hb, rfl⟩ := Option.map_eq_some_iff.mp hx
            have hbm := List.mem_of_getElem? hb
            obtain ⟨ps, hps, hpl, hpF⟩ := hlists b hbm
            have hX13 : Xd (PySem.Str.ofString "x") as9 H11 H13 := ⟨fun b xs e => S13 _ _ (hX.tup b xs e), fun b hb xs e => S13 _ _ (hX.lst b hb xs e)⟩
            have hb13 := hX13.lst b hbm _ hps
            walk_at "rd"
            refine ⟨b, .str (PySem.Str.ofString "x"), (ps.map Fp.t).map (Tr.toX (PySem.Str.ofString "x")) ++ [.str (PySem.Str.ofString "x")], .str (PySem.Str.ofString "x"), rfl, rfl, .lst (SqL.of hb13) (dpAll_app (by rw [List.map_map]; exact dpAll_of _ _ fun p hp => (hpF p hp).1.dpx ⟨hX13.tup, fun c hc => hX13.lst c ((hpF p hp).2 c hc)⟩) (.cons (.str _) .nil)), .str _, plainAll_app (by rw [← Tr.toXs_map]; exact Tr.toXs_plain _ _) rfl, rfl, Nat.le_trans (Nat.min_le_right _ _) (by decide), ?_⟩
            rw [cntX]
            walk_at "rd"
            exact ⟨S13, hD13⟩
          · rintro H13 ⟨S13, hD13⟩
            walk_at "rd"
            refine ⟨by omega, fun t' et H14 v14 as14 S14 h14 fr14 nd14 => ?_, fun e => by rw [hpW] at e; cases e⟩
            obtain rfl : t.form = t' := Option.some.inj (hpW.symm.trans et)
            walk_at "rd"
            refine ⟨v14, u7, rfl, SameD.tree h14 ((hu12.same S13).same S14) (by omega) hfd, fun H15 S15 => ?_⟩
            walk_at "rd"
            exact ⟨_, _, _, _, _, _, _, _, _, _, _, rfl, S0.trans (((S012.trans S13).trans S14).trans S15)⟩
    · rintro σ H0 ⟨x1, x2, x3, x4, x5, x6, x7, x8, x9, x10, x11, rfl, S0⟩
      walk_at "rd"
      exact k _
end
end Hy
set_option maxRecDepth 100000
set_option maxHeartbeats 4000000
namespace Hy
open PySem L2
section
variable {P : Program} {w : World} {K : PySem.W.Frag} {mg : Str → Option Value} {base : Heap}
structure TxF (K : PySem.W.Frag) (mg : Str → Option Value) : Prop where
  T : Txt K mg
  d_is_letter : Df K mg "is_letter" s_is_letter ["thing"]
  d_is_part : Df K mg "is_part" s_is_part ["thing"]
  d_is_tree : Df K mg "is_tree" s_is_tree ["thing"]
  d_need_tree : Df K mg "need_tree" s_need_tree ["thing"]
  d_parts_in_order : Df K mg "parts_in_order" s_parts_in_order ["tree"]
  d_in_order : Df K mg "in_order" s_in_order ["formed"]
  d_formed_part : Df K mg "formed_part" s_formed_part ["letter", "formed"]
  d_formed_tree : Df K mg "formed_tree" s_formed_tree ["tree"]
  d_written_tree : Df K mg "written_tree" s_written_tree ["tree"]
  d_from_heap : Df K mg "from_heap" s_from_heap ["letter", "heap"]
  d_closed_part : Df K mg "closed_part" s_closed_part ["letter", "children"]
  d_read_tree : Df K mg "read_tree" s_read_tree ["text"]
  d__law_cell : Df K mg "_law_cell" s__law_cell ["script", "k"]
  d__law_store : Df K mg "_law_store" s__law_store ["cell"]
  d__law_take : Df K mg "_law_take" s__law_take ["store", "many"]
  d__law_tree : Df K mg "_law_tree" s__law_tree ["store", "letters", "deep"]
  d__law_formed : Df K mg "_law_formed" s__law_formed ["tree"]
  d__law_same : Df K mg "_law_same" s__law_same ["found", "due"]
  d__law_some_letters : Df K mg "_law_some_letters" s__law_some_letters ["store"]
  d__law_deep : Df K mg "_law_deep" s__law_deep ["store", "letters"]
  d__law_lists : Df K mg "_law_lists" s__law_lists ["tree"]
theorem law_ok (Z : TxF K mg) : ∀ (f : Addr) (fd : FuncData), Fun K "law" "law" s_law f fd → FnOk P w K mg base (L2.CX P w) 62 f fd ["script"] (sp_law (K := K)) := by
  have T := Z.T
  have G_is_letter := ok_is_letter (P := P) (w := w) (base := base) Z.d_is_letter T
  have G_is_part := ok_is_part Z.d_is_part T G_is_letter
  have G_is_tree := ok_is_tree Z.d_is_tree T G_is_part
  have G_need_tree := ok_need_tree Z.d_need_tree T G_is_tree
  have G_parts_in_order := ok_parts_in_order (P := P) (w := w) (base := base) Z.d_parts_in_order T
  have G_in_order := ok_in_order (P := P) (w := w) (base := base) Z.d_in_order T
  have G_formed_part := ok_formed_part Z.d_formed_part T G_in_order
  have G_formed_tree := ok_formed_tree Z.d_formed_tree T G_parts_in_order G_formed_part
  have G_written_tree := ok_written_tree Z.d_written_tree T G_need_tree G_formed_tree
  have G_from_heap := ok_from_heap Z.d_from_heap T G_is_letter G_need_tree G_formed_tree
  have G_closed_part := ok_closed_part (P := P) (w := w) (base := base) Z.d_closed_part T
  have G_read_tree := ok_read_tree Z.d_read_tree T G_closed_part
  have G_take := ok__law_take (P := P) (w := w) (base := base) Z.d__law_take T
  exact ok_law T G_written_tree G_from_heap G_read_tree (ok__law_cell Z.d__law_cell T) (ok__law_store Z.d__law_store T) G_take (ok__law_tree Z.d__law_tree T G_take (ok__law_formed Z.d__law_formed T 4) 4)
    (ok__law_formed Z.d__law_formed T 30) (ok__law_same Z.d__law_same T 60) (ok__law_some_letters Z.d__law_some_letters T G_take) (ok__law_deep Z.d__law_deep T G_take) (ok__law_lists Z.d__law_lists T 30)
theorem cx_no (w : World) (H : Hp) (s : Shared) (e : Value) (s2 : Shared) (h : L2.CX P w [] H s (fun _ _ _ => False) e s2) : False := by
  obtain ⟨_, _, _, _, _, _, _, _, _, _, _, _, z⟩ := h
  exact z
end
theorem all_mk {l : PySem.W.OpenLaw} {w : World} {K : PySem.W.Frag} {h : Heap} {mg : Str → Option Value} {fa f0 f1 f2 f3 f4 f5 f6 f7 f8 f9 f10 f11 f12 f13 f14 f15 f16 f17 f18 f19 f20 f21 C0 C1 C2 : Addr} (X : K.In h) (G : h.Ns mainGlobals mg) (hfa : mg "law" = some (.ref fa))
    {od0 an0 od1 an1 od2 an2 od3 an3 od4 an4 od5 an5 od6 an6 od7 an7 od8 an8 od9 an9 od10 an10 od11 an11 od12 an12 od13 an13 od14 an14 od15 an15 od16 an16 od17 an17 od18 an18 od19 an19 od20 an20 od21 an21 : Option Addr} {sl0 sl1 sl2 sl3 sl4 sl5 sl6 sl7 sl8 sl9 sl10 sl11 sl12 sl13 sl14 sl15 sl16 sl17 sl18 sl19 sl20 sl21 : Array (Option Value)} {oc0 kV0 dc0 pm0 cd0 ct0 oc1 kV1 dc1 pm1 cd1 ct1 oc2 kV2 dc2 pm2 cd2 ct2 oc3 kV3 dc3 pm3 cd3 ct3 oc4 kV4 dc4 pm4 cd4 ct4 oc5 kV5 dc5 pm5 cd5 ct5 oc6 kV6 dc6 pm6 cd6 ct6 oc7 kV7 dc7 pm7 cd7 ct7 oc8 kV8 dc8 pm8 cd8 ct8 oc9 kV9 dc9 pm9 cd9 ct9 oc10 kV10 dc10 pm10 cd10 ct10 oc11 kV11 dc11 pm11 cd11 ct11 oc12 kV12 dc12 pm12 cd12 ct12 oc13 kV13 dc13 pm13 cd13 ct13 oc14 kV14 dc14 pm14 cd14 ct14 oc15 kV15 dc15 pm15 cd15 ct15 oc16 kV16 dc16 pm16 cd16 ct16 oc17 kV17 dc17 pm17 cd17 ct17 oc18 kV18 dc18 pm18 cd18 ct18 oc19 kV19 dc19 pm19 cd19 ct19 oc20 kV20 dc20 pm20 cd20 ct20 oc21 kV21 dc21 pm21 cd21 ct21 : Value}
    (a0 : PySem.W.nsIn K mainGlobals "is_letter" = some (some (.ref f0)))
    (l0 : K.lookup f0 = some ⟨oc0, od0, .func (PySem.W.fnOf "is_letter" "is_letter" (defArgs s_is_letter) (defBody s_is_letter) (defScope s_is_letter) .none kV0 dc0 pm0 an0 cd0 ct0), sl0⟩)
    (c0 : PySem.W.codeIn K cd0 "is_letter" = true) (k0 : PySem.W.keepIn K (.ref f0) = true)
    (a1 : PySem.W.nsIn K mainGlobals "is_part" = some (some (.ref f1)))
    (l1 : K.lookup f1 = some ⟨oc1, od1, .func (PySem.W.fnOf "is_part" "is_part" (defArgs s_is_part) (defBody s_is_part) (defScope s_is_part) .none kV1 dc1 pm1 an1 cd1 ct1), sl1⟩)
    (c1 : PySem.W.codeIn K cd1 "is_part" = true) (k1 : PySem.W.keepIn K (.ref f1) = true)
    (a2 : PySem.W.nsIn K mainGlobals "is_tree" = some (some (.ref f2)))
    (l2 : K.lookup f2 = some ⟨oc2, od2, .func (PySem.W.fnOf "is_tree" "is_tree" (defArgs s_is_tree) (defBody s_is_tree) (defScope s_is_tree) .none kV2 dc2 pm2 an2 cd2 ct2), sl2⟩)
    (c2 : PySem.W.codeIn K cd2 "is_tree" = true) (k2 : PySem.W.keepIn K (.ref f2) = true)
    (a3 : PySem.W.nsIn K mainGlobals "need_tree" = some (some (.ref f3)))
    (l3 : K.lookup f3 = some ⟨oc3, od3, .func (PySem.W.fnOf "need_tree" "need_tree" (defArgs s_need_tree) (defBody s_need_tree) (defScope s_need_tree) .none kV3 dc3 pm3 an3 cd3 ct3), sl3⟩)
    (c3 : PySem.W.codeIn K cd3 "need_tree" = true) (k3 : PySem.W.keepIn K (.ref f3) = true)
    (a4 : PySem.W.nsIn K mainGlobals "parts_in_order" = some (some (.ref f4)))
    (l4 : K.lookup f4 = some ⟨oc4, od4, .func (PySem.W.fnOf "parts_in_order" "parts_in_order" (defArgs s_parts_in_order) (defBody s_parts_in_order) (defScope s_parts_in_order) .none kV4 dc4 pm4 an4 cd4 ct4), sl4⟩)
    (c4 : PySem.W.codeIn K cd4 "parts_in_order" = true) (k4 : PySem.W.keepIn K (.ref f4) = true)
    (a5 : PySem.W.nsIn K mainGlobals "in_order" = some (some (.ref f5)))
    (l5 : K.lookup f5 = some ⟨oc5, od5, .func (PySem.W.fnOf "in_order" "in_order" (defArgs s_in_order) (defBody s_in_order) (defScope s_in_order) .none kV5 dc5 pm5 an5 cd5 ct5), sl5⟩)
    (c5 : PySem.W.codeIn K cd5 "in_order" = true) (k5 : PySem.W.keepIn K (.ref f5) = true)
    (a6 : PySem.W.nsIn K mainGlobals "formed_part" = some (some (.ref f6)))
    (l6 : K.lookup f6 = some ⟨oc6, od6, .func (PySem.W.fnOf "formed_part" "formed_part" (defArgs s_formed_part) (defBody s_formed_part) (defScope s_formed_part) .none kV6 dc6 pm6 an6 cd6 ct6), sl6⟩)
    (c6 : PySem.W.codeIn K cd6 "formed_part" = true) (k6 : PySem.W.keepIn K (.ref f6) = true)
    (a7 : PySem.W.nsIn K mainGlobals "formed_tree" = some (some (.ref f7)))
    (l7 : K.lookup f7 = some ⟨oc7, od7, .func (PySem.W.fnOf "formed_tree" "formed_tree" (defArgs s_formed_tree) (defBody s_formed_tree) (defScope s_formed_tree) .none kV7 dc7 pm7 an7 cd7 ct7), sl7⟩)
    (c7 : PySem.W.codeIn K cd7 "formed_tree" = true) (k7 : PySem.W.keepIn K (.ref f7) = true)
    (a8 : PySem.W.nsIn K mainGlobals "written_tree" = some (some (.ref f8)))
    (l8 : K.lookup f8 = some ⟨oc8, od8, .func (PySem.W.fnOf "written_tree" "written_tree" (defArgs s_written_tree) (defBody s_written_tree) (defScope s_written_tree) .none kV8 dc8 pm8 an8 cd8 ct8), sl8⟩)
    (c8 : PySem.W.codeIn K cd8 "written_tree" = true) (k8 : PySem.W.keepIn K (.ref f8) = true)
    (a9 : PySem.W.nsIn K mainGlobals "from_heap" = some (some (.ref f9)))
    (l9 : K.lookup f9 = some ⟨oc9, od9, .func (PySem.W.fnOf "from_heap" "from_heap" (defArgs s_from_heap) (defBody s_from_heap) (defScope s_from_heap) .none kV9 dc9 pm9 an9 cd9 ct9), sl9⟩)
    (c9 : PySem.W.codeIn K cd9 "from_heap" = true) (k9 : PySem.W.keepIn K (.ref f9) = true)
    (a10 : PySem.W.nsIn K mainGlobals "closed_part" = some (some (.ref f10)))
    (l10 : K.lookup f10 = some ⟨oc10, od10, .func (PySem.W.fnOf "closed_part" "closed_part" (defArgs s_closed_part) (defBody s_closed_part) (defScope s_closed_part) .none kV10 dc10 pm10 an10 cd10 ct10), sl10⟩)
    (c10 : PySem.W.codeIn K cd10 "closed_part" = true) (k10 : PySem.W.keepIn K (.ref f10) = true)
    (a11 : PySem.W.nsIn K mainGlobals "read_tree" = some (some (.ref f11)))
    (l11 : K.lookup f11 = some ⟨oc11, od11, .func (PySem.W.fnOf "read_tree" "read_tree" (defArgs s_read_tree) (defBody s_read_tree) (defScope s_read_tree) .none kV11 dc11 pm11 an11 cd11 ct11), sl11⟩)
    (c11 : PySem.W.codeIn K cd11 "read_tree" = true) (k11 : PySem.W.keepIn K (.ref f11) = true)
    (a12 : PySem.W.nsIn K mainGlobals "_law_cell" = some (some (.ref f12)))
    (l12 : K.lookup f12 = some ⟨oc12, od12, .func (PySem.W.fnOf "_law_cell" "_law_cell" (defArgs s__law_cell) (defBody s__law_cell) (defScope s__law_cell) .none kV12 dc12 pm12 an12 cd12 ct12), sl12⟩)
    (c12 : PySem.W.codeIn K cd12 "_law_cell" = true) (k12 : PySem.W.keepIn K (.ref f12) = true)
    (a13 : PySem.W.nsIn K mainGlobals "_law_store" = some (some (.ref f13)))
    (l13 : K.lookup f13 = some ⟨oc13, od13, .func (PySem.W.fnOf "_law_store" "_law_store" (defArgs s__law_store) (defBody s__law_store) (defScope s__law_store) .none kV13 dc13 pm13 an13 cd13 ct13), sl13⟩)
    (c13 : PySem.W.codeIn K cd13 "_law_store" = true) (k13 : PySem.W.keepIn K (.ref f13) = true)
    (a14 : PySem.W.nsIn K mainGlobals "_law_take" = some (some (.ref f14)))
    (l14 : K.lookup f14 = some ⟨oc14, od14, .func (PySem.W.fnOf "_law_take" "_law_take" (defArgs s__law_take) (defBody s__law_take) (defScope s__law_take) .none kV14 dc14 pm14 an14 cd14 ct14), sl14⟩)
    (c14 : PySem.W.codeIn K cd14 "_law_take" = true) (k14 : PySem.W.keepIn K (.ref f14) = true)
    (a15 : PySem.W.nsIn K mainGlobals "_law_tree" = some (some (.ref f15)))
    (l15 : K.lookup f15 = some ⟨oc15, od15, .func (PySem.W.fnOf "_law_tree" "_law_tree" (defArgs s__law_tree) (defBody s__law_tree) (defScope s__law_tree) .none kV15 dc15 pm15 an15 cd15 ct15), sl15⟩)
    (c15 : PySem.W.codeIn K cd15 "_law_tree" = true) (k15 : PySem.W.keepIn K (.ref f15) = true)
    (a16 : PySem.W.nsIn K mainGlobals "_law_formed" = some (some (.ref f16)))
    (l16 : K.lookup f16 = some ⟨oc16, od16, .func (PySem.W.fnOf "_law_formed" "_law_formed" (defArgs s__law_formed) (defBody s__law_formed) (defScope s__law_formed) .none kV16 dc16 pm16 an16 cd16 ct16), sl16⟩)
    (c16 : PySem.W.codeIn K cd16 "_law_formed" = true) (k16 : PySem.W.keepIn K (.ref f16) = true)
    (a17 : PySem.W.nsIn K mainGlobals "_law_same" = some (some (.ref f17)))
    (l17 : K.lookup f17 = some ⟨oc17, od17, .func (PySem.W.fnOf "_law_same" "_law_same" (defArgs s__law_same) (defBody s__law_same) (defScope s__law_same) .none kV17 dc17 pm17 an17 cd17 ct17), sl17⟩)
    (c17 : PySem.W.codeIn K cd17 "_law_same" = true) (k17 : PySem.W.keepIn K (.ref f17) = true)
    (a18 : PySem.W.nsIn K mainGlobals "_law_some_letters" = some (some (.ref f18)))
    (l18 : K.lookup f18 = some ⟨oc18, od18, .func (PySem.W.fnOf "_law_some_letters" "_law_some_letters" (defArgs s__law_some_letters) (defBody s__law_some_letters) (defScope s__law_some_letters) .none kV18 dc18 pm18 an18 cd18 ct18), sl18⟩)
    (c18 : PySem.W.codeIn K cd18 "_law_some_letters" = true) (k18 : PySem.W.keepIn K (.ref f18) = true)
    (a19 : PySem.W.nsIn K mainGlobals "_law_deep" = some (some (.ref f19)))
    (l19 : K.lookup f19 = some ⟨oc19, od19, .func (PySem.W.fnOf "_law_deep" "_law_deep" (defArgs s__law_deep) (defBody s__law_deep) (defScope s__law_deep) .none kV19 dc19 pm19 an19 cd19 ct19), sl19⟩)
    (c19 : PySem.W.codeIn K cd19 "_law_deep" = true) (k19 : PySem.W.keepIn K (.ref f19) = true)
    (a20 : PySem.W.nsIn K mainGlobals "_law_lists" = some (some (.ref f20)))
    (l20 : K.lookup f20 = some ⟨oc20, od20, .func (PySem.W.fnOf "_law_lists" "_law_lists" (defArgs s__law_lists) (defBody s__law_lists) (defScope s__law_lists) .none kV20 dc20 pm20 an20 cd20 ct20), sl20⟩)
    (c20 : PySem.W.codeIn K cd20 "_law_lists" = true) (k20 : PySem.W.keepIn K (.ref f20) = true)
    (a21 : PySem.W.nsIn K mainGlobals "law" = some (some (.ref f21)))
    (l21 : K.lookup f21 = some ⟨oc21, od21, .func (PySem.W.fnOf "law" "law" (defArgs s_law) (defBody s_law) (defScope s_law) .none kV21 dc21 pm21 an21 cd21 ct21), sl21⟩)
    (c21 : PySem.W.codeIn K cd21 "law" = true) (k21 : PySem.W.keepIn K (.ref f21) = true)
    (b0 : PySem.W.nsIn K mainGlobals "HeapError" = some (some (.ref C0))) (x0 : PySem.W.excIn K C0 [.type "ValueError", .type "Exception", .type "BaseException", .type "object"] "ValueError.__new__" = true) (p0 : PySem.W.keepIn K (.ref C0) = true)
    (s0 : PySem.W.subIn K (.ref C0) (.type "BaseException") = some true) (t0 : PySem.W.typeIn K (.ref C0) = some (.type "type"))
    (b1 : PySem.W.nsIn K mainGlobals "NoTree" = some (some (.ref C1))) (x1 : PySem.W.excIn K C1 [.type "ValueError", .type "Exception", .type "BaseException", .type "object"] "ValueError.__new__" = true) (p1 : PySem.W.keepIn K (.ref C1) = true)
    (s1 : PySem.W.subIn K (.ref C1) (.type "BaseException") = some true) (t1 : PySem.W.typeIn K (.ref C1) = some (.type "type"))
    (b2 : PySem.W.nsIn K mainGlobals "NoText" = some (some (.ref C2))) (x2 : PySem.W.excIn K C2 [.type "ValueError", .type "Exception", .type "BaseException", .type "object"] "ValueError.__new__" = true) (p2 : PySem.W.keepIn K (.ref C2) = true)
    (s2 : PySem.W.subIn K (.ref C2) (.type "BaseException") = some true) (t2 : PySem.W.typeIn K (.ref C2) = some (.type "type"))
    (z0 : PySem.W.nsIn K mainGlobals "sorted" = some none)
    (z1 : PySem.W.nsIn K mainGlobals "enumerate" = some none)
    (z2 : PySem.W.nsIn K mainGlobals "range" = some none)
    (z3 : PySem.W.nsIn K mainGlobals "isinstance" = some none)
    (z4 : PySem.W.nsIn K mainGlobals "str" = some none)
    (z5 : PySem.W.nsIn K mainGlobals "dict" = some none)
    (z6 : PySem.W.nsIn K mainGlobals "tuple" = some none)
    (z7 : PySem.W.nsIn K mainGlobals "list" = some none)
    (z8 : PySem.W.nsIn K mainGlobals "len" = some none)
    (z9 : PySem.W.nsIn K mainGlobals "int" = some none)
    (z10 : PySem.W.nsIn K mainGlobals "min" = some none)
    (z11 : PySem.W.nsIn K mainGlobals "bool" = some none)
    (z12 : PySem.W.nsIn K mainGlobals "max" = some none)
    {q0 : Tok} (yy0 : PySem.W.nsIn K mainGlobals "LETTERS" = some (some (.str "abcdefghijklmnopqrstuvwxyz" q0)))
    : ∃ fd : FuncData, (∀ (s : Shared) (v : Value), BindsTo s fd ⟨[v], []⟩ [("script", v)]) ∧ ∀ base : Heap, K.In base → base.Ns mainGlobals mg → FnOk l.prog w K mg base (L2.CX l.prog w) 62 fa fd ["script"] (sp_law (K := K)) := by
  have e := hfa.symm.trans (PySem.W.mg_of X G a21)
  cases e
  have T : Txt K mg := ⟨PySem.W.mg_none_of X G z0, PySem.W.mg_none_of X G z1, PySem.W.mg_none_of X G z2, PySem.W.mg_none_of X G z3, PySem.W.mg_none_of X G z4, PySem.W.mg_none_of X G z5, PySem.W.mg_none_of X G z6, PySem.W.mg_none_of X G z7, PySem.W.mg_none_of X G z8, PySem.W.mg_none_of X G z9, PySem.W.mg_none_of X G z10, PySem.W.mg_none_of X G z11, PySem.W.mg_none_of X G z12, ⟨_, PySem.W.mg_of X G yy0, ⟨_, rfl⟩⟩, ⟨_, PySem.W.mg_of X G b0, x0, p0, s0, t0⟩, ⟨_, PySem.W.mg_of X G b1, x1, p1, s1, t1⟩, ⟨_, PySem.W.mg_of X G b2, x2, p2, s2, t2⟩⟩
  have F0 := fun_mk (st := s_is_letter) l0 c0 k0
  have B0 := F0.binds (ps := ["thing"]) fun _ _ _ _ _ _ us hl => match us, hl with | [_], _ => rfl
  have F1 := fun_mk (st := s_is_part) l1 c1 k1
  have B1 := F1.binds (ps := ["thing"]) fun _ _ _ _ _ _ us hl => match us, hl with | [_], _ => rfl
  have F2 := fun_mk (st := s_is_tree) l2 c2 k2
  have B2 := F2.binds (ps := ["thing"]) fun _ _ _ _ _ _ us hl => match us, hl with | [_], _ => rfl
  have F3 := fun_mk (st := s_need_tree) l3 c3 k3
  have B3 := F3.binds (ps := ["thing"]) fun _ _ _ _ _ _ us hl => match us, hl with | [_], _ => rfl
  have F4 := fun_mk (st := s_parts_in_order) l4 c4 k4
  have B4 := F4.binds (ps := ["tree"]) fun _ _ _ _ _ _ us hl => match us, hl with | [_], _ => rfl
  have F5 := fun_mk (st := s_in_order) l5 c5 k5
  have B5 := F5.binds (ps := ["formed"]) fun _ _ _ _ _ _ us hl => match us, hl with | [_], _ => rfl
  have F6 := fun_mk (st := s_formed_part) l6 c6 k6
  have B6 := F6.binds (ps := ["letter", "formed"]) fun _ _ _ _ _ _ us hl => match us, hl with | [_, _], _ => rfl
  have F7 := fun_mk (st := s_formed_tree) l7 c7 k7
  have B7 := F7.binds (ps := ["tree"]) fun _ _ _ _ _ _ us hl => match us, hl with | [_], _ => rfl
  have F8 := fun_mk (st := s_written_tree) l8 c8 k8
  have B8 := F8.binds (ps := ["tree"]) fun _ _ _ _ _ _ us hl => match us, hl with | [_], _ => rfl
  have F9 := fun_mk (st := s_from_heap) l9 c9 k9
  have B9 := F9.binds (ps := ["letter", "heap"]) fun _ _ _ _ _ _ us hl => match us, hl with | [_, _], _ => rfl
  have F10 := fun_mk (st := s_closed_part) l10 c10 k10
  have B10 := F10.binds (ps := ["letter", "children"]) fun _ _ _ _ _ _ us hl => match us, hl with | [_, _], _ => rfl
  have F11 := fun_mk (st := s_read_tree) l11 c11 k11
  have B11 := F11.binds (ps := ["text"]) fun _ _ _ _ _ _ us hl => match us, hl with | [_], _ => rfl
  have F12 := fun_mk (st := s__law_cell) l12 c12 k12
  have B12 := F12.binds (ps := ["script", "k"]) fun _ _ _ _ _ _ us hl => match us, hl with | [_, _], _ => rfl
  have F13 := fun_mk (st := s__law_store) l13 c13 k13
  have B13 := F13.binds (ps := ["cell"]) fun _ _ _ _ _ _ us hl => match us, hl with | [_], _ => rfl
  have F14 := fun_mk (st := s__law_take) l14 c14 k14
  have B14 := F14.binds (ps := ["store", "many"]) fun _ _ _ _ _ _ us hl => match us, hl with | [_, _], _ => rfl
  have F15 := fun_mk (st := s__law_tree) l15 c15 k15
  have B15 := F15.binds (ps := ["store", "letters", "deep"]) fun _ _ _ _ _ _ us hl => match us, hl with | [_, _, _], _ => rfl
  have F16 := fun_mk (st := s__law_formed) l16 c16 k16
  have B16 := F16.binds (ps := ["tree"]) fun _ _ _ _ _ _ us hl => match us, hl with | [_], _ => rfl
  have F17 := fun_mk (st := s__law_same) l17 c17 k17
  have B17 := F17.binds (ps := ["found", "due"]) fun _ _ _ _ _ _ us hl => match us, hl with | [_, _], _ => rfl
  have F18 := fun_mk (st := s__law_some_letters) l18 c18 k18
  have B18 := F18.binds (ps := ["store"]) fun _ _ _ _ _ _ us hl => match us, hl with | [_], _ => rfl
  have F19 := fun_mk (st := s__law_deep) l19 c19 k19
  have B19 := F19.binds (ps := ["store", "letters"]) fun _ _ _ _ _ _ us hl => match us, hl with | [_, _], _ => rfl
  have F20 := fun_mk (st := s__law_lists) l20 c20 k20
  have B20 := F20.binds (ps := ["tree"]) fun _ _ _ _ _ _ us hl => match us, hl with | [_], _ => rfl
  have Z : TxF K mg := ⟨T, ⟨_, _, F0, PySem.W.mg_of X G a0, B0⟩, ⟨_, _, F1, PySem.W.mg_of X G a1, B1⟩, ⟨_, _, F2, PySem.W.mg_of X G a2, B2⟩, ⟨_, _, F3, PySem.W.mg_of X G a3, B3⟩, ⟨_, _, F4, PySem.W.mg_of X G a4, B4⟩, ⟨_, _, F5, PySem.W.mg_of X G a5, B5⟩, ⟨_, _, F6, PySem.W.mg_of X G a6, B6⟩, ⟨_, _, F7, PySem.W.mg_of X G a7, B7⟩, ⟨_, _, F8, PySem.W.mg_of X G a8, B8⟩, ⟨_, _, F9, PySem.W.mg_of X G a9, B9⟩, ⟨_, _, F10, PySem.W.mg_of X G a10, B10⟩, ⟨_, _, F11, PySem.W.mg_of X G a11, B11⟩, ⟨_, _, F12, PySem.W.mg_of X G a12, B12⟩, ⟨_, _, F13, PySem.W.mg_of X G a13, B13⟩, ⟨_, _, F14, PySem.W.mg_of X G a14, B14⟩, ⟨_, _, F15, PySem.W.mg_of X G a15, B15⟩, ⟨_, _, F16, PySem.W.mg_of X G a16, B16⟩, ⟨_, _, F17, PySem.W.mg_of X G a17, B17⟩, ⟨_, _, F18, PySem.W.mg_of X G a18, B18⟩, ⟨_, _, F19, PySem.W.mg_of X G a19, B19⟩, ⟨_, _, F20, PySem.W.mg_of X G a20, B20⟩⟩
  exact ⟨PySem.W.fnOf "law" "law" (defArgs s_law) (defBody s_law) (defScope s_law) .none kV21 dc21 pm21 an21 cd21 ct21, fun s v => .of_eq rfl, fun base _ _ => law_ok Z _ _ (fun_mk (st := s_law) l21 c21 k21)⟩
theorem walk {l : PySem.W.OpenLaw} {q : Program} {loose : List Str} {XP : (Str → Option Value) → Heap → Prop} {YP : World → Heap → Prop} {d : DefRec} {K : Params → PySem.W.Frag} (hn : l.most = some 63) (hdf : d.params.defaults = [])
    (hY : ∀ (w : World) (h : Heap), YP w h → (K w.params).In h)
    (F : ∀ (w : World) (mg : Str → Option Value) (fa : Addr) (h : Heap), (K w.params).In h → h.Ns mainGlobals mg → mg d.name = some (.ref fa) →
      ∃ fd : FuncData, (∀ (s : Shared) (u : Value), BindsTo s fd ⟨[u], []⟩ [("script", u)]) ∧ ∀ base : Heap, (K w.params).In base → base.Ns mainGlobals mg → FnOk l.prog w (K w.params) mg base (L2.CX l.prog w) 62 fa fd ["script"] (sp_law (K := K w.params))) :
    PySem.W.WalkO q loose XP YP l.row.toRowW d [] (fun f vs => PySem.call f vs) :=
  L2.walk_of (n := 63) (k := 62) (x := "script") (CX := fun w => L2.CX l.prog w) (sp := fun w => sp_law (K := K w.params)) hn (by decide) hdf ⟨rfl, by decide, by decide⟩ hY F (fun _ _ a ns hl _ hS => ⟨a, ns, rfl, hS, hl, fun _ => rfl⟩) fun w H s e s2 => cx_no w H s e s2
end Hy
open PySem PySem.W PyProof.Rows in
set_option maxRecDepth 100000 in
set_option maxHeartbeats 0 in
theorem PySem.Challenge.cw_heaptrees_k75_trees_read_back_holds : PySem.Challenge.rw_heaptrees_k75_trees_read_back.Holds := by
  w_on; o_law; k_head; (case hw => w_witness2)
  k_fill
  refine Hy.walk (l := PySem.Challenge.rw_heaptrees_k75_trees_read_back) rfl rfl (fun w h Y => PySem.W.kIn_of Y) ?F
  case F =>
    intro w mg fa h KX G hmg
    refine' Hy.all_mk KX G hmg ?a0 ?l0 ?c0 ?k0 ?a1 ?l1 ?c1 ?k1 ?a2 ?l2 ?c2 ?k2 ?a3 ?l3 ?c3 ?k3 ?a4 ?l4 ?c4 ?k4 ?a5 ?l5 ?c5 ?k5 ?a6 ?l6 ?c6 ?k6 ?a7 ?l7 ?c7 ?k7 ?a8 ?l8 ?c8 ?k8 ?a9 ?l9 ?c9 ?k9 ?a10 ?l10 ?c10 ?k10 ?a11 ?l11 ?c11 ?k11 ?a12 ?l12 ?c12 ?k12 ?a13 ?l13 ?c13 ?k13 ?a14 ?l14 ?c14 ?k14 ?a15 ?l15 ?c15 ?k15 ?a16 ?l16 ?c16 ?k16 ?a17 ?l17 ?c17 ?k17 ?a18 ?l18 ?c18 ?k18 ?a19 ?l19 ?c19 ?k19 ?a20 ?l20 ?c20 ?k20 ?a21 ?l21 ?c21 ?k21 ?b0 ?x0 ?p0 ?s0 ?t0 ?b1 ?x1 ?p1 ?s1 ?t1 ?b2 ?x2 ?p2 ?s2 ?t2 ?z0 ?z1 ?z2 ?z3 ?z4 ?z5 ?z6 ?z7 ?z8 ?z9 ?z10 ?z11 ?z12 ?yy0
    (case a0 => k_is)
    (case l0 => k_is)
    (case c0 => k_is)
    (case k0 => k_is)
    (case a1 => k_is)
    (case l1 => k_is)
    (case c1 => k_is)
    (case k1 => k_is)
    (case a2 => k_is)
    (case l2 => k_is)
    (case c2 => k_is)
    (case k2 => k_is)
    (case a3 => k_is)
    (case l3 => k_is)
    (case c3 => k_is)
    (case k3 => k_is)
    (case a4 => k_is)
    (case l4 => k_is)
    (case c4 => k_is)
    (case k4 => k_is)
    (case a5 => k_is)
    (case l5 => k_is)
    (case c5 => k_is)
    (case k5 => k_is)
    (case a6 => k_is)
    (case l6 => k_is)
    (case c6 => k_is)
    (case k6 => k_is)
    (case a7 => k_is)
    (case l7 => k_is)
    (case c7 => k_is)
    (case k7 => k_is)
    (case a8 => k_is)
    (case l8 => k_is)
    (case c8 => k_is)
    (case k8 => k_is)
    (case a9 => k_is)
    (case l9 => k_is)
    (case c9 => k_is)
    (case k9 => k_is)
    (case a10 => k_is)
    (case l10 => k_is)
    (case c10 => k_is)
    (case k10 => k_is)
    (case a11 => k_is)
    (case l11 => k_is)
    (case c11 => k_is)
    (case k11 => k_is)
    (case a12 => k_is)
    (case l12 => k_is)
    (case c12 => k_is)
    (case k12 => k_is)
    (case a13 => k_is)
    (case l13 => k_is)
    (case c13 => k_is)
    (case k13 => k_is)
    (case a14 => k_is)
    (case l14 => k_is)
    (case c14 => k_is)
    (case k14 => k_is)
    (case a15 => k_is)
    (case l15 => k_is)
    (case c15 => k_is)
    (case k15 => k_is)
    (case a16 => k_is)
    (case l16 => k_is)
    (case c16 => k_is)
    (case k16 => k_is)
    (case a17 => k_is)
    (case l17 => k_is)
    (case c17 => k_is)
    (case k17 => k_is)
    (case a18 => k_is)
    (case l18 => k_is)
    (case c18 => k_is)
    (case k18 => k_is)
    (case a19 => k_is)
    (case l19 => k_is)
    (case c19 => k_is)
    (case k19 => k_is)
    (case a20 => k_is)
    (case l20 => k_is)
    (case c20 => k_is)
    (case k20 => k_is)
    (case a21 => k_is)
    (case l21 => k_is)
    (case c21 => k_is)
    (case k21 => k_is)
    (case b0 => k_is)
    (case x0 => k_exc)
    (case p0 => k_is)
    (case s0 => k_is)
    (case t0 => k_is)
    (case b1 => k_is)
    (case x1 => k_exc)
    (case p1 => k_is)
    (case s1 => k_is)
    (case t1 => k_is)
    (case b2 => k_is)
    (case x2 => k_exc)
    (case p2 => k_is)
    (case s2 => k_is)
    (case t2 => k_is)
    (case z0 => k_is)
    (case z1 => k_is)
    (case z2 => k_is)
    (case z3 => k_is)
    (case z4 => k_is)
    (case z5 => k_is)
    (case z6 => k_is)
    (case z7 => k_is)
    (case z8 => k_is)
    (case z9 => k_is)
    (case z10 => k_is)
    (case z11 => k_is)
    (case z12 => k_is)
    (case yy0 => k_is)
