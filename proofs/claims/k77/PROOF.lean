import PyProof.Rows.All
import Wide.All
import OpenK.AllK
import Wide.FinOn
import PyProof.EqAt
import PyProof.EqKinds
import PyProof.EnumMake
import KE.KRevSl
import KE.DataEq
import KE.SortData
import KE.SortLaws
import HandS.ForMost
import HandS.ForExc
import HandS.IsInst
import HandS.TupAny
import HandS.Wide
import KE.KeyNested
import KE.KDictCopyH
import KE.KDictZip
import HandS.TupLen
import KE.KDictSum
import KE.KTupSum
import KE.KEqNest
import PyProof.ListStr
import PyProof.Transfer
import PyProof.NeKinds
import HandS.Conv
import HandS.DictEq
import HandS.Replace
import HandS.NoneIn
import HandS.DeepEq
import HandS.Walk
import HandS.TupLe
import PySem.Challenge.RW_heaptrees_k77_judges_written
set_option Elab.async false
set_option linter.all false
set_option maxRecDepth 100000
set_option maxHeartbeats 4000000
namespace Hy
open PySem L2

/-! ### defs of the text, by name -/
structure Df (K : PySem.W.Frag) (mg : Str → Option Value) (x : Str) (st : Stmt) (ps : List Str) : Prop where
  ex : ∃ (f : Addr) (fd : FuncData), Fun K x x st f fd ∧ mg x = some (.ref f) ∧ Binds K fd ps []
structure Gd (P : Program) (w : World) (K : PySem.W.Frag) (mg : Str → Option Value) (base : Heap) (x : Str) (k : Nat) (ps : List Str) (sp : Sp) : Prop where
  ex : ∃ (f : Addr) (fd : FuncData), FnOk P w K mg base (L2.CX P w) k f fd ps sp ∧ mg x = some (.ref f) ∧ PySem.W.keepIn K (.ref f) = true ∧ Binds K fd ps []
section
variable {P : Program} {w : World} {K : PySem.W.Frag} {mg : Str → Option Value} {base : Heap} {x : Str} {st : Stmt} {ps : List Str} {k j : Nat} {sp sp' : Sp}
theorem Df.ok (D : Df K mg x st ps) (h : ∀ (f : Addr) (fd : FuncData), Fun K x x st f fd → FnOk P w K mg base (L2.CX P w) k f fd ps sp) : Gd P w K mg base x k ps sp := by
  obtain ⟨f, fd, F, m, b⟩ := D.ex
  exact ⟨f, fd, h f fd F, m, F.kp, b⟩
theorem Gd.mono (G : Gd P w K mg base x j ps sp) (h : j ≤ k) : Gd P w K mg base x k ps sp := by
  obtain ⟨f, fd, F, m, kp, b⟩ := G.ex
  exact ⟨f, fd, F.mono h, m, kp, b⟩
theorem Gd.imp (G : Gd P w K mg base x k ps sp) (h : ∀ vs H Q E, sp' vs H Q E → sp vs H Q E) : Gd P w K mg base x k ps sp' := by
  obtain ⟨f, fd, F, m, kp, b⟩ := G.ex
  exact ⟨f, fd, F.imp h, m, kp, b⟩
end
/-- an exception that can't be -/
theorem passF {X : Cx} : Passes (L2.CX X.prog X.w) X E0 := fun _ _ _ _ _ _ _ h => by
  obtain ⟨_, _, _, _, _, _, _, _, _, _, _, _, z⟩ := h
  exact z.elim
theorem passW {X : Cx} {W : WX} {E : XK} (tk : Takes X W) (h : ∀ cls d σ H, E cls d H → W cls d σ H) : Passes (L2.CX X.prog X.w) X E := passes_call tk h
section
variable {X : Cx} {x : Str} {k : Nat} {ps : List Str} {sp : Sp} {E : XK} {p pos : Pos} {e : Expr} {es : List Expr} {t : TA}
theorem pe_cl (G : Gd X.prog X.w X.K X.mg X.base x k ps sp) (hr : Room k X.A) (hx : Passes (L2.CX X.prog X.w) X E) (ha : PA X (e :: es) t) (hg : Gl X x := by rfl) (hdb : (x == ("__debug__" : Str)) = false := by decide)
    (he : starEach (e :: es) X.env = (false, eval e X.env) :: starEach es X.env := by rfl) (hpl : (backTo pos (starEach es X.env)).any (·.1) = false := by rfl) : PE X (.Call (.Name x p) (e :: es) [] pos) (tCall sp [] E t) := by
  obtain ⟨f, fd, F, m, kp, b⟩ := G.ex
  exact pe_call F hr hg m kp b .nil hx ha hdb he hpl
theorem pe_cl0 (G : Gd X.prog X.w X.K X.mg X.base x k ps sp) (hr : Room k X.A) (hx : Passes (L2.CX X.prog X.w) X E) (hg : Gl X x := by rfl) (hdb : (x == ("__debug__" : Str)) = false := by decide) : PE X (.Call (.Name x p) [] [] pos) (tCall sp [] E tNil) := by
  obtain ⟨f, fd, F, m, kp, b⟩ := G.ex
  exact pe_call0 F hr hg m kp b .nil hx hdb
end

/-! ### heaps: what stands, what is new -/
theorem Same.upd_new {H H' : Hp} {p : Addr} {o : HO} (s : Same H H') (n : H' p = none) : Same H (upd H' p o) := fun b u e => by
  rw [upd_ne (ne_of_none (s _ _ e) n)]
  exact s _ _ e
theorem same_new {H : Hp} {p : Addr} {o : HO} (n : H p = none) : Same H (upd H p o) := Same.upd_new (Same.refl H) n
/-- a list of ours (new behind H) is changed -/
theorem Same.upd_own {H H' : Hp} {p : Addr} {o : HO} (s : Same H H') (n : H p = none) : Same H (upd H' p o) := fun b u e => by
  rw [upd_ne (ne_of_none e n)]
  exact s _ _ e
/-- all but what stands at the addresses of A stands as it was; tuples always stand -/
structure Keep (A : List Addr) (H H' : Hp) : Prop where
  but : ∀ b o, b ∉ A → H b = some o → H' b = some o
  tup : ∀ b xs, H b = some (.tup xs) → H' b = some (.tup xs)
theorem Keep.refl (A : List Addr) (H : Hp) : Keep A H H := ⟨fun _ _ _ h => h, fun _ _ h => h⟩
theorem Keep.trans {A : List Addr} {H H1 H2 : Hp} (a : Keep A H H1) (b : Keep A H1 H2) : Keep A H H2 := ⟨fun c o n h => b.but c o n (a.but c o n h), fun c o h => b.tup c o (a.tup c o h)⟩
theorem Keep.mono {A B : List Addr} {H H' : Hp} (a : Keep A H H') (h : ∀ c ∈ A, c ∈ B) : Keep B H H' := ⟨fun c o n e => a.but c o (fun z => n (h c z)) e, a.tup⟩
theorem Same.keep {A : List Addr} {H H' : Hp} (s : Same H H') : Keep A H H' := ⟨fun _ _ _ h => s _ _ h, fun _ _ h => s _ _ h⟩
theorem Keep.same {H H' : Hp} (k : Keep [] H H') : Same H H' := fun b o e => k.but b o (by simp) e
theorem Keep.upd {A : List Addr} {H H' : Hp} {a : Addr} {xs : List V} {o : HO} (k : Keep A H H') (ha : a ∈ A) (e : H' a = some (.lst xs)) : Keep A H (upd H' a o) := by
  refine ⟨fun b u n h => ?_, fun b u h => ?_⟩
  · rw [upd_ne (fun z => n (by rw [z]; exact ha))]
    exact k.but b u n h
  · have q := k.tup b u h
    rw [upd_ne (ne_of q e (fun z => nomatch z))]
    exact q
theorem Keep.updNew {A : List Addr} {H H' : Hp} {a : Addr} {o : HO} (k : Keep A H H') (n : H' a = none) : Keep A H (L2.upd H' a o) := by
  refine ⟨fun b u z h => ?_, fun b u h => ?_⟩
  · rw [upd_ne (ne_of_none (k.but b u z h) n)]
    exact k.but b u z h
  · rw [upd_ne (ne_of_none (k.tup b u h) n)]
    exact k.tup b u h

theorem Keep.own {A : List Addr} {H H' : Hp} {a : Addr} {o : HO} (k : Keep A H H') (n : H a = none) : Keep A H (L2.upd H' a o) := by
  refine ⟨fun b u z h => ?_, fun b u h => ?_⟩
  · rw [upd_ne (ne_of_none h n)]
    exact k.but b u z h
  · rw [upd_ne (ne_of_none h n)]
    exact k.tup b u h
theorem Keep.some {A : List Addr} {H H' : Hp} (k : Keep A H H') {b : Addr} (n : H' b = none) (hA : b ∉ A) : H b = none := by
  cases q : H b with
  | none => rfl
  | some o =>
    rw [k.but b o hA q] at n
    cases n

/-! ### == and != of data of any depth -/
theorem dp_room {X : Cx} {k : Nat} (hr : Room k X.A) {n : Nat} (h : n ≤ 200) : X.A.units + n < cLine := by
  have := hr.un
  omega
def rEqP (K : PySem.W.Frag) : R2 := fun x y H Q => ∃ d e, Dp K H x d ∧ Dp K H y e ∧ d.plain = true ∧ e.plain = true ∧ min d.depth e.depth ≤ 200 ∧ Q (.bl (PyData.eqv d e)) H
def rNeP (K : PySem.W.Frag) : R2 := fun x y H Q => ∃ d e, Dp K H x d ∧ Dp K H y e ∧ d.plain = true ∧ e.plain = true ∧ min d.depth e.depth ≤ 200 ∧ Q (.bl (!PyData.eqv d e)) H
theorem op_eqP {X : Cx} {k : Nat} (hr : Room k X.A) : OpR X (compareOp .Eq) (rEqP X.K) := by
  intro pins s σ H x y v u Q I rx ry h
  obtain ⟨d, e, hd, he, pd, pe, hm, q⟩ := h
  obtain ⟨as, r1⟩ := Dp.reads I d x v hd rx
  obtain ⟨bs, r2⟩ := Dp.reads I e y u he ry
  exact PySem.SeqAt.eq_plain r1 r2 pd pe (dp_room hr hm) ⟨.bl _, H, I, rfl, q⟩
theorem op_neP {X : Cx} {k : Nat} (hr : Room k X.A) : OpR X (compareOp .NotEq) (rNeP X.K) := by
  intro pins s σ H x y v u Q I rx ry h
  obtain ⟨d, e, hd, he, pd, pe, hm, q⟩ := h
  obtain ⟨as, r1⟩ := Dp.reads I d x v hd rx
  obtain ⟨bs, r2⟩ := Dp.reads I e y u he ry
  exact PySem.SeqAt.ne_plain r1 r2 pd pe (dp_room hr hm) ⟨.bl _, H, I, rfl, q⟩

/-! ### xs[::-1] -/
def tRevL (K : PySem.W.Frag) (te : TE) : TE := fun σ H Q => te σ H fun x H1 => ∃ a xs, x = .ref a ∧ SqL K H1 a xs ∧ ∀ p, H1 p = none → Q (.ref p) (upd H1 p (.lst xs.reverse))
theorem vals_rev {xs : List V} {us : List Value} (r : Vals xs us) : Vals xs.reverse us.reverse := by
  induction r with
  | nil => exact .nil
  | cons h _ ih =>
    rw [List.reverse_cons, List.reverse_cons]
    exact ih.append (.cons h .nil)
theorem pe_rev {X : Cx} {e : Expr} {te : TE} {pos p2 p3 p4 : Pos} {j : Nat} (he : PE X e te) : PE X (.Subscript e (.Slice none none (some (.UnaryOp .USub (.Constant (.int 1) j p4) p3)) p2) pos) (tRevL X.K te) := by
  refine ⟨fun pins s σ H Q I h => ?_⟩
  refine PyProof.Rows.Subscript_ (thn (he.run pins s σ H _ I h) fun v s1 ⟨x, H1, I1, r1, a, xs, ex, hx, q1⟩ => ?_)
  subst ex
  cases r1
  refine wpAny_Slice ?_
  rw [evalPart_none]
  refine wpAny_pure ?_
  refine wpAny_pure ?_
  have hu : PE X (.UnaryOp .USub (.Constant (.int 1) j p4) p3) (tUn (fun x H Q => ∃ i, x = .int i ∧ Q (.int (-i)) H) (tC (.int 1))) := by exact pe_un un_neg pe_int
  have hp := (po_some hu).run pins s1 σ H1 (fun o H2 => o = some (-1) ∧ H2 = H1) I1
  refine thn (hp ?_) fun vk s2 ⟨o, H2, I2, pk, eo, eH⟩ => ?_
  · exact ⟨_, rfl, _, rfl, rfl, rfl⟩
  subst eo eH
  obtain ⟨its, r, ht, hz⟩ := I2.list hx
  have I4 : Inv X pins σ H2 { s2 with heap := s2.heap.push { cls := .type "slice", data := .fields #[.none, .none, vk] } } := I2.kept (t' := s2.toks) fun b ob q => Heap.get?_push_of_some _ q
  obtain ⟨its, r, ht, hz⟩ := I4.list hx
  show wpAny (model X.prog X.w) X.A (PyProof.Rows.subscriptTail e (.Slice none none (some (.UnaryOp .USub (.Constant (.int 1) j p4) p3)) p2) (.ref a) (.ref s2.heap.objs.size)) (EP X pins σ Q) X.xe { s2 with heap := s2.heap.push { cls := .type "slice", data := .fields #[.none, .none, vk] } }
  refine PyProof.Rows.tail_any (ops := [.ref a, .ref s2.heap.objs.size]) ht.isList.typeIs PySem.F.slot_list_getitem.lookup ?_ (by with_unfolding_all rfl)
  refine wpAny_getItem_list_slice ht.isList (Heap.IsSliceOf.new ..) .none .none pk (by decide) ?_ (by rw [List.size_toArray, ← r.length]; exact hz)
  rw [PySem.W.krv_pick]
  dsimp only
  refine ⟨.ref (s2.heap.push { cls := .type "slice", data := .fields #[.none, .none, vk] }).objs.size, _, I4.laid (t' := s2.toks) (o := .lst xs.reverse) (fun b ob q => Heap.get?_push_of_some _ q) (Nat.le_refl _) ?_, rfl, q1 _ (I4.hok.fresh (Nat.le_refl _))⟩
  exact ⟨by rw [List.length_reverse]; exact hz, its.reverse, 0, vals_rev r, Heap.get?_push_size _ rfl⟩

/-! ### enumerate(text) -/
def Ites (x : Str) : It := ⟨fun i _ => i < x.cps.size, fun i H v H' => ∃ T c, v = .ref T ∧ H T = none ∧ H' = upd H T (.tup [.int (i : Nat), .str ⟨#[c]⟩]) ∧ x.cps[i]? = some c, fun i _ => i = x.cps.size⟩
theorem turn_enumS {P : Program} {w : World} {K : PySem.W.Frag} {elts : List Expr} {kk : Nat} {tpos : Pos} (x : Str) (t : Tok) (e it : Addr) :
    Turn P w K (.Tuple elts kk tpos) (Ites x) [e, it] e (fun i h => (∃ old, IsEnum h e it ((i : Nat) : Int) old) ∧ h.IsStrIter it (strIterType x) x t i ∧ e ≠ it) where
  mem := by simp
  obj := fun i h st b hb => by
    obtain ⟨⟨old, he⟩, ⟨o, ho, hc, hd⟩, _⟩ := st
    have e' : b = e ∨ b = it := by simpa using hb
    rcases e' with z | z
    · rw [z]; exact ⟨_, he, fun v q => nomatch q⟩
    · rw [z]; exact ⟨o, ho, fun v q => by rw [hd] at q; cases q⟩
  keep := fun i h h' st k => let ⟨⟨old, he⟩, ⟨o, ho, r⟩, hne⟩ := st; ⟨⟨old, k e (by simp) _ he⟩, ⟨o, k it (by simp) _ ho, r⟩, hne⟩
  item := by
    intro X hP hw hK hc i pins s σ H E I hf st hg
    subst hP hw hK
    obtain ⟨⟨old, he⟩, hit, hne⟩ := st
    have hel : e < s.heap.objs.size := Heap.lt_size he
    have hil : it < s.heap.objs.size := by obtain ⟨_, q, _⟩ := hit; exact Heap.lt_size q
    have main : ∀ (ty : String), Draws X.prog X.w X.A.in1 it [it] x.cps.size (fun i v => ∃ c u, x.cps[i]? = some c ∧ v = .str ⟨#[c]⟩ u) (fun i h => h.IsStrIter it ty x t i) → s.heap.IsStrIter it ty x t i →
        wpAny (model X.prog X.w) X.A (pyNext (.ref e)) (fun r s1 => ∃ u, r = some u ∧
          wpAny (model X.prog X.w) X.A (letOwnedTupleGo (.Tuple elts kk tpos) (.ref e) u) (fun _ s2 => ∃ y H', Inv X pins σ H' s2 ∧ RelV y u ∧ (Ites x).yld i H y H' ∧ ((∃ old, IsEnum s2.heap e it ((i + 1 : Nat) : Int) old) ∧ s2.heap.IsStrIter it ty x t (i + 1) ∧ e ≠ it) ∧ ∀ b ∈ [e, it], H' b = none) E s1) E s := by
      intro ty D hit
      refine wpAny_pyNext_enum_itemD D he hit hg hne (by simp [hne]) fun u h' tk hP ho hit' hT hsz hk => ?_
      obtain ⟨c, tu, hcx, rfl⟩ := hP
      refine ⟨_, rfl, wpAny_letOwnedTupleGo_enum (s := { s with heap := h', toks := tk + 1 }) ho fun h'' he' sb => ?_⟩
      have hT2 : h''.get? s.heap.objs.size = some { cls := .type "tuple", data := .seq #[.int i tk, .str ⟨#[c]⟩ tu] } := (sb.2 _ (Nat.ne_of_gt hel)).trans hT
      have new : ObjOk X.prog X.w (upd H s.heap.objs.size (.tup [.int (i : Nat), .str ⟨#[c]⟩])) h'' s.heap.objs.size (.tup [.int (i : Nat), .str ⟨#[c]⟩]) :=
        ⟨by show 2 ≤ sizeLine; decide, [.int i tk, .str ⟨#[c]⟩ tu], .cons ⟨_, rfl⟩ (.cons ⟨_, rfl⟩ .nil), ⟨_, hT2, rfl, _, rfl⟩⟩
      have I1 : Inv X pins σ (upd H s.heap.objs.size (.tup [.int (i : Nat), .str ⟨#[c]⟩])) { s with heap := h'', toks := tk + 1 } :=
        I.turnedNew (ch := [e, it]) (fun b ob hb q => (sb.2 b (fun z => hb (by simp [z]))).trans (hk b ob (fun z => hb (by simp [z])) (fun z => hb (by simp [z])) q)) hf (Nat.le_refl _) new
      refine ⟨.ref s.heap.objs.size, _, I1, rfl, ⟨_, c, rfl, I.hok.fresh (Nat.le_refl _), rfl, hcx⟩, ⟨⟨.str ⟨#[c]⟩ tu, ?_⟩, ?_, hne⟩, fun b hb => ?_⟩
      · have e1 : ((i + 1 : Nat) : Int) = (i : Int) + 1 := by omega
        rw [e1]; exact he'
      · obtain ⟨oi, hoi, ri⟩ := hit'
        exact ⟨oi, (sb.2 it (Ne.symm hne)).trans hoi, ri⟩
      · have hb' : b < s.heap.objs.size := by
          have e' : b = e ∨ b = it := by simpa using hb
          rcases e' with z | z
          · rw [z]; exact hel
          · rw [z]; exact hil
        rw [upd_ne (Nat.ne_of_lt hb')]
        exact (hf b hb).1
    unfold strIterType at hit ⊢
    split at hit
    · rename_i ha
      rw [if_pos ha]
      exact main _ (Draws.strAscii (A := X.A.in1) (I.ok.hd hc) it x t) hit
    · rename_i ha
      rw [if_neg ha]
      exact main _ (Draws.strWide (A := X.A.in1) (I.ok.hd hc) it x t) hit
  done := by
    intro X hP hw hK hc i pins s σ H E I hf st hg
    subst hP hw hK
    obtain ⟨⟨old, he⟩, hit, hne⟩ := st
    have hg' : i = x.cps.size := hg
    obtain ⟨f0, f1, f2, f3, f4, f5⟩ := hf it (by simp)
    rw [hg'] at hit
    unfold strIterType at hit
    split at hit
    · exact wpAny_pyNext_enum_endD (Draws.strAscii (A := X.A.in1) (I.ok.hd hc) it x t) he hit fun h' eb => ⟨rfl, I.turned (t' := s.toks) (fun b o hb q => eb b o hb q) f0 f1 f3 f4 f5⟩
    · exact wpAny_pyNext_enum_endD (Draws.strWide (A := X.A.in1) (I.ok.hd hc) it x t) he hit fun h' eb => ⟨rfl, I.turned (t' := s.toks) (fun b o hb q => eb b o hb q) f0 f1 f3 f4 f5⟩
  self := fun A i s Q E st h => let ⟨⟨_, he⟩, _⟩ := st; wpAny_pyIter_enum he h
def iEnumS (ta : TA) : TI := fun σ H R => ta σ H fun vs H1 => ∃ x, vs = [.str x] ∧ R (Ites x) H1
theorem pi_enumS {X : Cx} {e : Expr} {ta : TA} {p pos tpos : Pos} {elts : List Expr} {kk : Nat} (hm : X.mg "enumerate" = none) (ha : PA X [e] ta) (hg : Gl X "enumerate" := by rfl) (hs : starEach [e] X.env = [(false, eval e X.env)] := by rfl) :
    PI X (.Tuple elts kk tpos) (.Call (.Name "enumerate" p) [e] [] pos) (iEnumS ta) := by
  refine ⟨fun pins s σ H R I h => ?_⟩
  refine PyProof.Rows.Call_ (ld_blt I hg hm PyProof.Rows.boot_enumerate (PyProof.Rows.callWith_type1 (thn (ha.run pos pins s σ H _ I h) fun us s1 ⟨vs, H1, I1, r1, q1⟩ => ?_) hs rfl))
  obtain ⟨x, ex, q⟩ := q1
  subst ex
  cases r1 with
  | cons r rr =>
    cases rr
    obtain ⟨t, rfl⟩ := r
    refine call_enumerate_str fun h' he hit hsz hk => wpAny_pyIter_enum he ?_
    have I2 : Inv X pins σ H1 { s1 with heap := h' } := I1.kept (t' := s1.toks) hk
    refine ⟨s1.heap.objs.size + 1, [s1.heap.objs.size + 1, s1.heap.objs.size], _, _, H1, rfl, I2, turn_enumS x t (s1.heap.objs.size + 1) s1.heap.objs.size, ⟨⟨.none, he⟩, hit, Nat.succ_ne_self _⟩, fun b hb => ?_, q⟩
    have e' : b = s1.heap.objs.size + 1 ∨ b = s1.heap.objs.size := by simpa using hb
    have hle : s1.heap.objs.size ≤ b := by
      rcases e' with z | z
      · rw [z]; exact Nat.le_add_right _ _
      · rw [z]; exact Nat.le_refl _
    exact I1.fpOk hle (I1.hok.fresh hle)
/-- its loop -/
theorem for_enumS {x : Str} {g : TG} {tb : TS} {D : Ends} {σ : St} {H : Hp} (Pv : Nat → St → Hp → Prop) (h0 : Pv 0 σ H)
    (hs : ∀ i c σ H T, x.cps[i]? = some c → Pv i σ H → H T = none → g (.ref T) σ (upd H T (.tup [.int (i : Nat), .str ⟨#[c]⟩])) fun σ2 H2 => tb { D with nx := Pv (i + 1), ct := Pv (i + 1), bk := D.nx } σ2 H2) (hd : ∀ σ H, Pv x.cps.size σ H → D.nx σ H) :
    ∃ W : Nat → Nat → St → Hp → Prop, (∃ m, W 0 m σ H) ∧ ∀ i m σ H, W i m σ H →
      ((Ites x).stop i H ∧ D.nx σ H) ∨ ((Ites x).go i H ∧ ∃ N : St → Hp → Prop, (∀ σ' H', N σ' H' → ∃ m', m' < m ∧ W (i + 1) m' σ' H') ∧ ∀ v H', (Ites x).yld i H v H' → g v σ H' fun σ2 H2 => tb { D with nx := N, ct := N, bk := D.nx } σ2 H2) := by
  refine ⟨fun i m σ H => m = x.cps.size - i ∧ i ≤ x.cps.size ∧ Pv i σ H, ⟨x.cps.size, by simp, Nat.zero_le _, h0⟩, ?_⟩
  rintro i m σ H ⟨rfl, hi, p⟩
  by_cases hlt : i < x.cps.size
  · refine .inr ⟨hlt, Pv (i + 1), fun σ' H' p' => ⟨x.cps.size - (i + 1), by omega, rfl, hlt, p'⟩, fun v H' y => ?_⟩
    obtain ⟨T, c, rfl, hT, rfl, hc⟩ := y
    exact hs i c σ H T hc p hT
  · have e : i = x.cps.size := by omega
    subst e
    exact .inl ⟨rfl, hd σ H p⟩

/-! ### xs.count(x), x in xs, sorted(xs), of data -/
def rCntD (K : PySem.W.Frag) : V → List V → Hp → VK → Prop := fun x xs H Q => ∃ (p : Addr) (y : V) (ds : List PyData) (d : PyData), x = .ref p ∧ xs = [y] ∧ Dp K H (.ref p) (.list ds) ∧ Dp K H y d ∧ PyData.plainAll ds = true ∧ d.plain = true ∧ min (PyData.depthAll ds) d.depth ≤ 190 ∧
  Q (.int ((ds.countP fun z => PyData.eqv z d : Nat) : Int)) H
theorem mt_countD {X : Cx} {k : Nat} (hr : Room k X.A) : MtR X "list.count" (rCntD X.K) := by
  intro pins s σ H x xs v us Q I rx rxs h
  obtain ⟨p, y, ds, d, rfl, rfl, hl, hy, pl, pd, hm, q⟩ := h
  cases rx
  obtain ⟨u, rfl, ru⟩ := rxs.one
  obtain ⟨as, r1⟩ := Dp.reads I _ _ _ hl (show RelV (.ref p) (.ref p) from rfl)
  obtain ⟨bs, r2⟩ := Dp.reads I d y u hy ru
  cases hl with
  | lst hs ha =>
    obtain ⟨its, rv, ⟨⟨cls, dd, data, sl⟩, n, ho, hc, hdn, hd⟩, hlen⟩ := I.list hs
    simp only at hc hd
    subst hc hd
    cases r1 with
    | list h1 h2 h3 h4 =>
      rw [ho] at h1
      cases h1
      cases h3
      have hu : X.A.units + 1 + min (PyData.depthAll ds) d.depth < cLine := by
        have := hr.un
        omega
      refine call_meets PySem.F.slot_list_count ⟨_, ho, rfl⟩ PySem.F.entry_list_count (PySem.F.args_list_count_2 _ _)
        (SeqAt.list_countAt p its.toArray n dd sl u (fun z => PyData.eqv (SeqAt.readOf s.heap z) d)) ⟨ho, SeqAt.items_plain h4 r2 pl pd hu, ?_⟩
      have ec : its.toArray.toList.countP (fun z => PyData.eqv (SeqAt.readOf s.heap z) d) = ds.countP fun z => PyData.eqv z d := by
        have e2 := SeqAt.readsAll_map_plain ds _ _ pl h4
        have e3 : ds.countP (fun z => PyData.eqv z d) = (its.toArray.toList.map (SeqAt.readOf s.heap)).countP fun z => PyData.eqv z d := by rw [e2]
        rw [e3, List.countP_map]
        rfl
      refine ⟨.int _, H, I.tok _, ⟨s.toks, ?_⟩, q⟩
      rw [ec]
def rInD' (K : PySem.W.Frag) : R2 := fun x y H Q => ∃ (ds : List PyData) (d : PyData), Dp K H y (.list ds) ∧ Dp K H x d ∧ PyData.plainAll ds = true ∧ d.plain = true ∧ min (PyData.depthAll ds) d.depth ≤ 190 ∧ Q (.bl (ds.any fun z => PyData.eqv z d)) H
theorem op_inL {X : Cx} {k : Nat} (hr : Room k X.A) : OpR X (compareOp .In) (rInD' X.K) := by
  intro pins s σ H x y v u Q I rx ry h
  obtain ⟨ds, d, hl, hy, pl, pd, hm, q⟩ := h
  obtain ⟨as, r1⟩ := Dp.reads I _ _ _ hl ry
  obtain ⟨bs, r2⟩ := Dp.reads I _ _ _ hy rx
  exact SeqAt.in_list_data r1 r2 pl pd (by have := hr.un; omega) ⟨.bl _, H, I, rfl, q⟩

/-- sorted(xs): alike data, each item with what it reads as -/
def rSortedD (K : PySem.W.Frag) : List V → Hp → VK → Prop := fun vs H Q => ∃ (a : Addr) (ps : List (V × PyData)), vs = [V.ref a] ∧ SqL K H a (ps.map (·.1)) ∧ (∀ p ∈ ps, Dp K H p.1 p.2 ∧ p.2.depth ≤ 190) ∧ PySem.W.AllAlike (ps.map (·.2)) ∧ PySem.W.Sortable (ps.map (·.2)) ∧
  ∀ p, H p = none → Q (.ref p) (upd H p (.lst ((ps.mergeSort (PySem.W.dataLe false (·.2))).map (·.1))))
theorem each_of {R : V → Value → Prop} : ∀ {ps : List (V × PyData)} {us : List Value}, Paired R (ps.map (·.1)) us → PySem.W.EachIs (fun (u : Value) (p : V × PyData) => R p.1 u ∧ p ∈ ps) us ps
  | [], [], _ => .nil
  | p :: ps, u :: us, h => by
    cases h with
    | cons a b => exact .cons ⟨a, List.mem_cons_self⟩ ((each_of b).mono fun _ _ z => ⟨z.1, List.mem_cons_of_mem _ z.2⟩)
theorem each_back : ∀ {ps : List (V × PyData)} {us : List Value}, PySem.W.EachIs (fun (u : Value) (p : V × PyData) => RelV p.1 u) us ps → Vals (ps.map (·.1)) us
  | [], [], _ => .nil
  | p :: ps, u :: us, h => by
    cases h with
    | cons a b => exact .cons a (each_back b)
theorem cr_sortedD {X : Cx} {k : Nat} (hr : Room k X.A) : CallR X (.builtin "sorted") (rSortedD X.K) := by
  intro pins s σ H vs us Q I r h
  obtain ⟨a, ps, rfl, hs, hd, hal, hk, q⟩ := h
  obtain ⟨its, rv, hl, hz⟩ := I.list hs
  rw [Vals.ref1 r]
  have e := each_of rv
  have er : PySem.W.EachIs (fun v b => ∃ as, Reads s.heap v b.2 as) its ps := e.mono fun u p ⟨h1, h2⟩ => Dp.reads I _ _ _ (hd p h2).1 h1
  have e' : PySem.W.EachIs (fun (u : Value) (p : V × PyData) => RelV p.1 u) its ps := e.mono fun u p z => z.1
  have hlen : ps.length ≤ sizeLine := by rw [List.length_map] at hz; exact hz
  refine PySem.W.sorted_data (enc := fun p : V × PyData => p.2) hl.isList e' er hal hk hlen (fun b hb => ?_) fun out ho eo => ?_
  · have := hr.un
    have := (hd b hb).2
    omega
  · obtain ⟨ep, he'⟩ := PyProof.Rows.sortedAll_at s.heap its out.toArray
    refine ⟨.ref _, upd H (s.heap.objs.size + 1) (.lst ((ps.mergeSort (PySem.W.dataLe false (·.2))).map (·.1))), I.laid (t' := s.toks) (fun _ _ => PyProof.Rows.sortedAll_old) (Nat.le_succ _) ⟨?_, out, ep, each_back eo, he'⟩, rfl, q _ (I.hok.fresh (Nat.le_succ _))⟩
    rw [List.length_map, List.length_mergeSort]
    exact hlen
/-! ### xs != [], xs == [] (the new list is not tracked) -/
def tNil' (f : Bool → Bool) (K : PySem.W.Frag) (te : TE) : TE := fun σ H Q => te σ H fun x H1 => ∃ a xs, x = .ref a ∧ SqL K H1 a xs ∧ Q (.bl (f xs.isEmpty)) H1
theorem rc_nil {s : Shared} {A : Around} {a b : Addr} {its : List Value} (h1 : s.heap.IsList a its.toArray) (h2 : s.heap.IsList b #[]) (hu : A.units < cLine) : SeqAt.RcAt A s (.ref a) (.ref b) its.isEmpty ∧ SeqAt.RcNeAt A s (.ref a) (.ref b) (!its.isEmpty) := by
  cases its with
  | nil =>
    refine ⟨?_, ?_⟩
    · have q := SeqAt.RcAt.lists (A := A) (s := s) (e := fun _ => true) h1 h2 rfl hu (fun j hj => absurd hj (Nat.not_lt_zero j))
      exact q
    · have q := SeqAt.RcNeAt.lists (A := A) (s := s) (e := fun _ => true) h1 h2 rfl hu (fun j hj => absurd hj (Nat.not_lt_zero j))
      exact q
  | cons x r =>
    have hz : ((x :: r).toArray.size != (#[] : Array Value).size) = true := by simp
    exact ⟨SeqAt.RcAt.lists_lengths h1 h2 hz hu, SeqAt.RcNeAt.lists_lengths h1 h2 hz hu⟩
theorem vals_emp {xs : List V} {us : List Value} (r : Vals xs us) : us.isEmpty = xs.isEmpty := by cases r <;> rfl
section
variable {X : Cx} {e : Expr} {te : TE} {pos p2 : Pos} {k : Nat}
theorem nil_run (f : Bool → Bool) {pins : List (Addr × Obj)} {s : Shared} {σ : St} {H : Hp} {Q : VK} (he : PE X e te) (hu : X.A.units < cLine) (I : Inv X pins σ H s) (h : tNil' f X.K te σ H Q) {op : CmpOp}
    (hop : ∀ (v u : Value) (s : Shared) (its : List Value) (a b : Addr), v = .ref a → u = .ref b → s.heap.IsList a its.toArray → s.heap.IsList b #[] → ∀ Q' E', Q' (.bool (f its.isEmpty)) s → wpAny (model X.prog X.w) X.A (compareOp op v u) Q' E' s) :
    wpAny (model X.prog X.w) X.A (eval e X.env) (fun v s₁ => wpAny (model X.prog X.w) X.A (eval (.List [] p2) X.env) (fun u s₂ => wpAny (model X.prog X.w) X.A (compareOp op v u) (EP X pins σ Q) X.xe s₂) X.xe s₁) X.xe s := by
  refine thn (he.run pins s σ H _ I h) fun v s1 ⟨x, H1, I1, r1, a, xs, ex, hx, q1⟩ => ?_
  subst ex
  obtain rfl : v = .ref a := r1
  refine wpAny_List_spliced (thn (pa_nil.run p2 pins s1 σ H1 (fun vs H2 => vs = [] ∧ H2 = H1) I1 ⟨rfl, rfl⟩) fun us s2 ⟨vs, H2, I2, r2, ev, eH⟩ => ?_)
  subst ev eH
  cases r2
  refine ⟨Nat.zero_le _, ?_⟩
  have I3 : Inv X pins σ H2 { s2 with heap := s2.heap.push { cls := .type "list", data := .seq #[] } } := I2.kept (t' := s2.toks) fun b u z => Heap.get?_push_of_some _ z
  obtain ⟨its, r, ht, hz⟩ := I3.list hx
  refine hop _ _ _ its a s2.heap.objs.size rfl rfl ht.isList ⟨_, Heap.get?_push_size _ rfl, rfl, _, rfl⟩ _ _ ⟨.bl _, H2, I3, rfl, ?_⟩
  rw [vals_emp r]
  exact q1
theorem pc_neNil (hr : Room k X.A) (he : PE X e te) : PC X .NotEq e (.List [] p2) (tNil' (fun b => !b) X.K te) :=
  ⟨fun pins s σ H Q I h => nil_run _ he hr.units0 I h fun v u s its a b e1 e2 h1 h2 Q' E' q => by subst e1 e2; exact (rc_nil h1 h2 hr.units0).2 _ _ _ _ q⟩
theorem pc_eqNil (hr : Room k X.A) (he : PE X e te) : PC X .Eq e (.List [] p2) (tNil' (fun b => b) X.K te) :=
  ⟨fun pins s σ H Q I h => nil_run _ he hr.units0 I h fun v u s its a b e1 e2 h1 h2 Q' E' q => by subst e1 e2; exact (rc_nil h1 h2 hr.units0).1 _ _ _ _ q⟩
end
end Hy
set_option Elab.async false
set_option linter.all false
set_option maxRecDepth 100000
set_option maxHeartbeats 4000000
namespace Hy
/-! trees, their writings, their told forms; reading back (plain Lean) -/
inductive Tr where
  | node (c : Nat) (ts : List Tr)
def Tr.c : Tr → Nat | .node c _ => c
def Tr.ts : Tr → List Tr | .node _ ts => ts
theorem Tr.eta (t : Tr) : t = .node t.c t.ts := by cases t; rfl
mutual
def Tr.size : Tr → Nat
  | .node _ ts => 1 + Tr.sizes ts
def Tr.sizes : List Tr → Nat
  | [] => 0
  | t :: ts => t.size + Tr.sizes ts
end
mutual
def Tr.dep : Tr → Nat
  | .node _ ts => 1 + Tr.deps ts
def Tr.deps : List Tr → Nat
  | [] => 0
  | t :: ts => max t.dep (Tr.deps ts)
end
/-- small letters, by their codes -/
def isL (c : Nat) : Bool := decide (97 ≤ c) && decide (c ≤ 122)
mutual
def Tr.ok : Tr → Bool
  | .node c ts => isL c && Tr.oks ts
def Tr.oks : List Tr → Bool
  | [] => true
  | t :: ts => t.ok && Tr.oks ts
end
mutual
def Tr.W : Tr → List Nat
  | .node c ts => if ts.isEmpty then [c] else c :: 40 :: (Tr.Ws ts ++ [41])
def Tr.Ws : List Tr → List Nat
  | [] => []
  | t :: ts => t.W ++ Tr.Ws ts
end
mutual
/-- all parts, each behind its children -/
def Tr.parts : Tr → List Tr
  | .node c ts => Tr.partss ts ++ [.node c ts]
def Tr.partss : List Tr → List Tr
  | [] => []
  | t :: ts => t.parts ++ Tr.partss ts
end
theorem Tr.size_pos (t : Tr) : 1 ≤ t.size := by cases t; simp only [Tr.size]; omega
theorem Tr.sizes_append : ∀ (a b : List Tr), Tr.sizes (a ++ b) = Tr.sizes a + Tr.sizes b
  | [], b => by simp [Tr.sizes]
  | t :: a, b => by simp only [List.cons_append, Tr.sizes, Tr.sizes_append a b]; omega
theorem Tr.partss_append : ∀ (a b : List Tr), Tr.partss (a ++ b) = Tr.partss a ++ Tr.partss b
  | [], b => by simp [Tr.partss]
  | t :: a, b => by simp only [List.cons_append, Tr.partss, Tr.partss_append a b, List.append_assoc]
theorem Tr.Ws_append : ∀ (a b : List Tr), Tr.Ws (a ++ b) = Tr.Ws a ++ Tr.Ws b
  | [], b => by simp [Tr.Ws]
  | t :: a, b => by simp only [List.cons_append, Tr.Ws, Tr.Ws_append a b, List.append_assoc]
theorem Tr.oks_append : ∀ (a b : List Tr), Tr.oks (a ++ b) = (Tr.oks a && Tr.oks b)
  | [], b => by simp [Tr.oks]
  | t :: a, b => by simp only [List.cons_append, Tr.oks, Tr.oks_append a b, Bool.and_assoc]
theorem Tr.sizes_perm {a b : List Tr} (h : a.Perm b) : Tr.sizes a = Tr.sizes b := by
  induction h with
  | nil => rfl
  | cons x _ ih => simp only [Tr.sizes, ih]
  | swap x y l => simp only [Tr.sizes]; omega
  | trans _ _ h1 h2 => exact h1.trans h2
theorem Tr.deps_perm {a b : List Tr} (h : a.Perm b) : Tr.deps a = Tr.deps b := by
  induction h with
  | nil => rfl
  | cons x _ ih => simp only [Tr.deps, ih]
  | swap x y l => simp only [Tr.deps]; omega
  | trans _ _ h1 h2 => exact h1.trans h2
theorem Tr.oks_iff : ∀ {a : List Tr}, Tr.oks a = true ↔ ∀ t ∈ a, t.ok = true
  | [] => by simp [Tr.oks]
  | t :: a => by simp only [Tr.oks, Bool.and_eq_true, List.mem_cons, forall_eq_or_imp, Tr.oks_iff (a := a)]
theorem Tr.sizes_mem : ∀ {a : List Tr} {t : Tr}, t ∈ a → t.size ≤ Tr.sizes a
  | x :: a, t, h => by
    rcases List.mem_cons.mp h with rfl | h
    · simp only [Tr.sizes]; omega
    · have := Tr.sizes_mem h
      simp only [Tr.sizes]; omega
theorem Tr.deps_mem : ∀ {a : List Tr} {t : Tr}, t ∈ a → t.dep ≤ Tr.deps a
  | x :: a, t, h => by
    rcases List.mem_cons.mp h with rfl | h
    · simp only [Tr.deps]; omega
    · have := Tr.deps_mem h
      simp only [Tr.deps]; omega
theorem Tr.deps_le : ∀ {a : List Tr} {n : Nat}, (∀ t ∈ a, t.dep ≤ n) → Tr.deps a ≤ n
  | [], n, _ => Nat.zero_le _
  | x :: a, n, h => by
    have h1 := h x List.mem_cons_self
    have h2 := Tr.deps_le fun t ht => h t (List.mem_cons_of_mem _ ht)
    simp only [Tr.deps]; omega
theorem Tr.sizes_len : ∀ (a : List Tr), a.length ≤ Tr.sizes a
  | [] => Nat.zero_le _
  | t :: a => by
    have := Tr.sizes_len a
    have := t.size_pos
    simp only [Tr.sizes, List.length_cons]; omega
mutual
theorem Tr.parts_len : ∀ t : Tr, t.parts.length = t.size
  | .node c ts => by simp only [Tr.parts, Tr.size, List.length_append, List.length_singleton, Tr.partss_len ts]; omega
theorem Tr.partss_len : ∀ ts : List Tr, (Tr.partss ts).length = Tr.sizes ts
  | [] => rfl
  | t :: ts => by simp only [Tr.partss, Tr.sizes, List.length_append, Tr.parts_len t, Tr.partss_len ts]
end
mutual
theorem Tr.parts_prop (P : Tr → Prop) (hP : ∀ c ts, P (.node c ts) → ∀ t ∈ ts, P t) : ∀ t : Tr, P t → ∀ q ∈ t.parts, P q
  | .node c ts, h, q, hq => by
    simp only [Tr.parts, List.mem_append, List.mem_singleton] at hq
    rcases hq with hq | rfl
    · exact Tr.partss_prop P hP ts (hP c ts h) q hq
    · exact h
theorem Tr.partss_prop (P : Tr → Prop) (hP : ∀ c ts, P (.node c ts) → ∀ t ∈ ts, P t) : ∀ ts : List Tr, (∀ t ∈ ts, P t) → ∀ q ∈ Tr.partss ts, P q
  | [], _, q, hq => by simp [Tr.partss] at hq
  | t :: ts, h, q, hq => by
    simp only [Tr.partss, List.mem_append] at hq
    rcases hq with hq | hq
    · exact Tr.parts_prop P hP t (h t List.mem_cons_self) q hq
    · exact Tr.partss_prop P hP ts (fun u hu => h u (List.mem_cons_of_mem _ hu)) q hq
end
mutual
theorem Tr.W_len : ∀ t : Tr, t.W.length ≤ 3 * t.size
  | .node c ts => by
    unfold Tr.W Tr.size
    have := Tr.Ws_len ts
    split
    · simp only [List.length_singleton]; omega
    · simp only [List.length_cons, List.length_append, List.length_nil]; omega
theorem Tr.Ws_len : ∀ ts : List Tr, (Tr.Ws ts).length ≤ 3 * Tr.sizes ts
  | [] => Nat.zero_le _
  | t :: ts => by
    have := Tr.W_len t
    have := Tr.Ws_len ts
    simp only [Tr.Ws, Tr.sizes, List.length_append]; omega
end
theorem Tr.W_leaf (c : Nat) : (Tr.node c []).W = [c] := by simp [Tr.W]
theorem Tr.W_node (c : Nat) {ts : List Tr} (h : ts ≠ []) : (Tr.node c ts).W = c :: 40 :: (Tr.Ws ts ++ [41]) := by
  unfold Tr.W
  rw [if_neg (by simpa using h)]
theorem Tr.Ws_flat : ∀ ts : List Tr, Tr.Ws ts = (ts.map Tr.W).flatten
  | [] => rfl
  | t :: ts => by simp only [Tr.Ws, List.map_cons, List.flatten_cons, Tr.Ws_flat ts]

/-! ### the order of writings -/
def leW (a b : Tr) : Bool := decide (a.W ≤ b.W)
theorem leW_total (a b : Tr) : (leW a b || leW b a) = true := by
  unfold leW
  rcases List.le_total (a.W) (b.W) with h | h <;> simp [h]
theorem leW_trans (a b c : Tr) (h1 : leW a b = true) (h2 : leW b c = true) : leW a c = true := by
  unfold leW at *
  exact decide_eq_true (List.le_trans (of_decide_eq_true h1) (of_decide_eq_true h2))
theorem leW_anti {a b : Tr} (h1 : leW a b = true) (h2 : leW b a = true) : a.W = b.W := List.le_antisymm (of_decide_eq_true h1) (of_decide_eq_true h2)
abbrev SrtW (ts : List Tr) : Prop := ts.Pairwise fun a b => leW a b = true
def sortT (ts : List Tr) : List Tr := ts.mergeSort leW
theorem sortT_srt (ts : List Tr) : SrtW (sortT ts) := List.pairwise_mergeSort leW_trans leW_total ts
theorem sortT_perm (ts : List Tr) : (sortT ts).Perm ts := List.mergeSort_perm ts leW

/-! ### reading -/
/-- the sign ahead, the open ones, those here -/
structure RS where
  prev : Nat
  ab : List (Nat × List Tr)
  here : List Tr
def RS.step (s : RS) (x : Nat) : Option RS :=
  if isL x = true then some ⟨x, s.ab, s.here ++ [.node x []]⟩
  else if x = 40 ∧ isL s.prev = true then some ⟨x, s.ab ++ [(s.prev, s.here.dropLast)], []⟩
  else if x = 41 then
    match s.ab.getLast? with
    | none => none
    | some (l, more) => if s.here ≠ [] ∧ SrtW s.here then some ⟨x, s.ab.dropLast, more ++ [.node l s.here]⟩ else none
  else none
def RS.run (s : RS) : List Nat → Option RS
  | [] => some s
  | x :: xs => (s.step x).bind fun s' => s'.run xs
theorem RS.run_append : ∀ (a b : List Nat) (s : RS), s.run (a ++ b) = (s.run a).bind fun s' => s'.run b
  | [], b, s => rfl
  | x :: a, b, s => by
    simp only [List.cons_append, RS.run]
    cases s.step x with
    | none => rfl
    | some s' => exact RS.run_append a b s'
mutual
/-- in told form, of small letters -/
def Tr.told : Tr → Prop
  | .node c ts => isL c = true ∧ SrtW ts ∧ Tr.tolds ts
def Tr.tolds : List Tr → Prop
  | [] => True
  | t :: ts => t.told ∧ Tr.tolds ts
end
theorem Tr.tolds_iff : ∀ {ts : List Tr}, Tr.tolds ts ↔ ∀ t ∈ ts, t.told
  | [] => by simp [Tr.tolds]
  | t :: ts => by simp only [Tr.tolds, List.mem_cons, forall_eq_or_imp, Tr.tolds_iff (ts := ts)]
theorem isL_40 : isL 40 = false := rfl
theorem isL_41 : isL 41 = false := rfl
mutual
theorem RS.run_W : ∀ (t : Tr) (s : RS), t.told → ∃ p, s.run t.W = some ⟨p, s.ab, s.here ++ [t]⟩
  | .node c ts, s, h => by
    obtain ⟨hc, hs, ht⟩ := h
    cases ts with
    | nil =>
      rw [Tr.W_leaf]
      simp only [RS.run, RS.step, if_pos hc, Option.bind_some]
      exact ⟨_, rfl⟩
    | cons t ts =>
      rw [Tr.W_node c (by simp)]
      obtain ⟨p, hp⟩ := RS.run_Ws (t :: ts) ⟨40, s.ab ++ [(c, s.here)], []⟩ ht
      simp only [RS.run, RS.step, if_pos hc, Option.bind_some]
      rw [if_neg (by rw [isL_40]; decide), if_pos (by simp [hc])]
      simp only [Option.bind_some, List.dropLast_concat]
      rw [RS.run_append, hp]
      simp only [Option.bind_some, List.nil_append, RS.run, RS.step, List.getLast?_concat, List.dropLast_concat]
      rw [if_neg (by rw [isL_41]; decide), if_neg (by rintro ⟨h, _⟩; exact absurd h (by decide)), if_pos trivial, if_pos ⟨by simp, hs⟩]
      exact ⟨_, rfl⟩
theorem RS.run_Ws : ∀ (ts : List Tr) (s : RS), Tr.tolds ts → ∃ p, s.run (Tr.Ws ts) = some ⟨p, s.ab, s.here ++ ts⟩
  | [], s, _ => ⟨s.prev, by simp [Tr.Ws, RS.run]⟩
  | t :: ts, s, h => by
    obtain ⟨p, hp⟩ := RS.run_W t s h.1
    obtain ⟨q, hq⟩ := RS.run_Ws ts ⟨p, s.ab, s.here ++ [t]⟩ h.2
    refine ⟨q, ?_⟩
    rw [Tr.Ws, RS.run_append, hp]
    simp only [Option.bind_some]
    rw [hq]
    simp
end
/-- trees in told form have unlike writings -/
theorem told_inj {t u : Tr} (ht : t.told) (hu : u.told) (h : t.W = u.W) : t = u := by
  obtain ⟨p, hp⟩ := RS.run_W t ⟨0, [], []⟩ ht
  obtain ⟨q, hq⟩ := RS.run_W u ⟨0, [], []⟩ hu
  rw [h, hq] at hp
  have e := congrArg RS.here (Option.some.inj hp)
  simpa using e.symm
mutual
def Tr.form : Tr → Tr
  | .node c ts => .node c (sortT (Tr.forms ts))
def Tr.forms : List Tr → List Tr
  | [] => []
  | t :: ts => t.form :: Tr.forms ts
end
theorem Tr.forms_map : ∀ ts : List Tr, Tr.forms ts = ts.map Tr.form
  | [] => rfl
  | t :: ts => by simp only [Tr.forms, List.map_cons, Tr.forms_map ts]
mutual
theorem Tr.form_told : ∀ t : Tr, t.ok = true → t.form.told
  | .node c ts, h => by
    simp only [Tr.ok, Bool.and_eq_true] at h
    refine ⟨h.1, sortT_srt _, Tr.tolds_iff.mpr fun t ht => ?_⟩
    exact Tr.tolds_iff.mp (Tr.forms_told ts h.2) t ((sortT_perm _).mem_iff.mp ht)
theorem Tr.forms_told : ∀ ts : List Tr, Tr.oks ts = true → Tr.tolds (Tr.forms ts)
  | [], _ => trivial
  | t :: ts, h => by
    simp only [Tr.oks, Bool.and_eq_true] at h
    exact ⟨Tr.form_told t h.1, Tr.forms_told ts h.2⟩
end
mutual
theorem Tr.form_size : ∀ t : Tr, t.form.size = t.size
  | .node c ts => by simp only [Tr.form, Tr.size, Tr.sizes_perm (sortT_perm _), Tr.forms_sizes ts]
theorem Tr.forms_sizes : ∀ ts : List Tr, Tr.sizes (Tr.forms ts) = Tr.sizes ts
  | [] => rfl
  | t :: ts => by simp only [Tr.forms, Tr.sizes, Tr.form_size t, Tr.forms_sizes ts]
end
mutual
theorem Tr.form_dep : ∀ t : Tr, t.form.dep = t.dep
  | .node c ts => by simp only [Tr.form, Tr.dep, Tr.deps_perm (sortT_perm _), Tr.forms_deps ts]
theorem Tr.forms_deps : ∀ ts : List Tr, Tr.deps (Tr.forms ts) = Tr.deps ts
  | [] => rfl
  | t :: ts => by simp only [Tr.forms, Tr.deps, Tr.form_dep t, Tr.forms_deps ts]
end
mutual
theorem Tr.form_ok : ∀ t : Tr, t.form.ok = t.ok
  | .node c ts => by
    have h : Tr.oks (sortT (Tr.forms ts)) = Tr.oks (Tr.forms ts) := by
      rw [Bool.eq_iff_iff, Tr.oks_iff, Tr.oks_iff]
      exact ⟨fun a t ht => a t ((sortT_perm _).mem_iff.mpr ht), fun a t ht => a t ((sortT_perm _).mem_iff.mp ht)⟩
    simp only [Tr.form, Tr.ok, h, Tr.forms_ok ts]
theorem Tr.forms_ok : ∀ ts : List Tr, Tr.oks (Tr.forms ts) = Tr.oks ts
  | [] => rfl
  | t :: ts => by simp only [Tr.forms, Tr.oks, Tr.form_ok t, Tr.forms_ok ts]
end
/-- the one sorted list of trees in told form -/
theorem srt_uniq {as bs : List Tr} (ha : SrtW as) (hb : SrtW bs) (h : as.Perm bs) (ht : Tr.tolds as) : as = bs := by
  refine h.eq_of_pairwise (le := fun a b => leW a b = true) (fun a b h1 h2 h3 h4 => ?_) ha hb
  have t1 := Tr.tolds_iff.mp ht a h1
  have t2 := Tr.tolds_iff.mp ht b (h.mem_iff.mpr h2)
  exact told_inj t1 t2 (leW_anti h3 h4)
/-! ### parts worked off by a stack -/
inductive Post : List Tr → List Tr → List Tr → Prop
  | nil (ss : List Tr) : Post ss [] ss
  | cons (ss ts : List Tr) (c : Nat) {l r : List Tr} : Post (ss ++ [.node c ts]) l r → Post (ss ++ ts) (.node c ts :: l) r
mutual
theorem Post.tree : ∀ (t : Tr) (ss l r : List Tr), Post (ss ++ [t]) l r → Post ss (t.parts ++ l) r
  | .node c ts, ss, l, r, h => by
    rw [Tr.parts, List.append_assoc]
    exact Post.trees ts ss _ r (.cons ss ts c h)
theorem Post.trees : ∀ (ts : List Tr) (ss l r : List Tr), Post (ss ++ ts) l r → Post ss (Tr.partss ts ++ l) r
  | [], ss, l, r, h => by simpa [Tr.partss] using h
  | t :: ts, ss, l, r, h => by
    rw [Tr.partss, List.append_assoc]
    refine Post.tree t ss _ r (Post.trees ts (ss ++ [t]) l r ?_)
    simpa using h
end
theorem Post.all (t : Tr) : Post [] t.parts [t] := by
  have h := Post.tree t [] [] [t] (.nil _)
  simpa using h
theorem Post.out {os : List Tr} {q : Tr} {l r : List Tr} (h : Post os (q :: l) r) : ∃ ss, os = ss ++ q.ts ∧ Post (ss ++ [q]) l r := by
  cases h with
  | cons ss ts c h => exact ⟨ss, rfl, h⟩
theorem Post.end_ {os r : List Tr} (h : Post os [] r) : os = r := by
  cases h with
  | nil => rfl
theorem Tr.W_len1 (t : Tr) : 1 ≤ t.W.length := by
  cases t with
  | node c ts =>
    unfold Tr.W
    split <;> simp
/-! ### what reading keeps -/
def RS.tot (s : RS) : Nat := (s.ab.map fun p => 1 + Tr.sizes p.2).sum + Tr.sizes s.here
def RS.Inv (s : RS) : Prop := isL s.prev = true → ∃ hs, s.here = hs ++ [.node s.prev []]
theorem RS.inv0 : RS.Inv ⟨0, [], []⟩ := fun h => absurd h (by decide)
theorem RS.step_inv {s s' : RS} {x : Nat} (h : s.step x = some s') : s'.Inv := by
  unfold RS.step at h
  split at h
  · cases h
    exact fun _ => ⟨s.here, rfl⟩
  · split at h
    · rename_i h1 h2
      cases h
      intro hx
      rw [h2.1] at hx
      exact absurd (show isL 40 = true from hx) (by decide)
    · split at h
      · rename_i h1 h2 h3
        split at h
        · cases h
        · split at h
          · cases h
            intro hx
            rw [show x = 41 from h3] at hx
            exact absurd (show isL 41 = true from hx) (by decide)
          · cases h
      · cases h
theorem RS.step_tot {s s' : RS} {x : Nat} (I : s.Inv) (h : s.step x = some s') : s'.tot ≤ s.tot + 1 := by
  unfold RS.step at h
  split at h
  · cases h
    simp only [RS.tot, Tr.sizes_append, Tr.sizes, Tr.size]
    omega
  · split at h
    · rename_i h1 h2
      cases h
      obtain ⟨hs, e⟩ := I h2.2
      simp only [RS.tot, e, List.dropLast_concat, List.map_append, List.map_cons, List.map_nil, List.sum_append, List.sum_cons, List.sum_nil, Tr.sizes_append, Tr.sizes, Tr.size]
      omega
    · split at h
      · split at h
        · cases h
        · rename_i l more hl
          split at h
          · cases h
            have e : s.ab = s.ab.dropLast ++ [(l, more)] := by
              have hne : s.ab ≠ [] := fun z => by rw [z] at hl; cases hl
              rw [List.getLast?_eq_some_getLast hne] at hl
              have q := List.dropLast_concat_getLast hne
              rw [Option.some.inj hl] at q
              exact q.symm
            have e2 : (s.ab.map fun p => 1 + Tr.sizes p.2).sum = (s.ab.dropLast.map fun p => 1 + Tr.sizes p.2).sum + (1 + Tr.sizes more) := by
              conv => lhs; rw [e]
              simp only [List.map_append, List.map_cons, List.map_nil, List.sum_append, List.sum_cons, List.sum_nil]
              omega
            simp only [RS.tot, Tr.sizes_append, Tr.sizes, Tr.size, e2]
            omega
          · cases h
      · cases h
def parse (l : List Nat) : Option Tr := match RS.run ⟨0, [], []⟩ l with
  | some ⟨_, [], [t]⟩ => some t
  | _ => none
theorem parse_W {t : Tr} (h : t.told) : parse t.W = some t := by
  obtain ⟨p, hp⟩ := RS.run_W t ⟨0, [], []⟩ h
  unfold parse
  rw [hp]
  rfl
theorem take_snoc {α : Type} {l : List α} {i : Nat} {x : α} (h : l[i]? = some x) : l.take (i + 1) = l.take i ++ [x] := by
  rw [List.take_succ, h]
  rfl
theorem RS.run_next {s0 s : RS} {l : List Nat} {i x : Nat} (h : s0.run (l.take i) = some s) (hx : l[i]? = some x) : s0.run (l.take (i + 1)) = s.step x := by
  rw [take_snoc hx, RS.run_append, h]
  simp only [Option.bind_some, RS.run]
  cases s.step x <;> rfl
theorem RS.run_stop {s0 s : RS} {l : List Nat} {i x : Nat} (h : s0.run (l.take i) = some s) (hx : l[i]? = some x) (hn : s.step x = none) : s0.run l = none := by
  have e : l = l.take (i + 1) ++ l.drop (i + 1) := (List.take_append_drop _ _).symm
  rw [e, RS.run_append, RS.run_next h hx, hn]
  rfl
end Hy
set_option Elab.async false
set_option linter.all false
set_option maxRecDepth 100000
set_option maxHeartbeats 4000000
namespace Hy
open PySem L2

/-! ### names of the module -/
/-- the module's name x holds v -/
def GV (mg : Str → Option Value) (x : Str) (v : V) : Prop := ∃ u, mg x = some u ∧ RelV v u
theorem pe_gv {X : Cx} {x : Str} {v : V} {pos : Pos} (h : GV X.mg x v) (hg : Gl X x := by rfl) (hd : (x == ("__debug__" : Str)) = false := by decide) : PE X (.Name x pos) (tC v) := by
  obtain ⟨u, m, r⟩ := h
  exact pe_glob hg m r hd
theorem pe_ty {X : Cx} {x : Str} {n : String} {pos : Pos} (hm : X.mg x = none) (hv : bootBuiltins x = some (.type n)) (hg : Gl X x := by rfl) (hn : x ≠ "__name__" := by decide) (hd : (x == ("__debug__" : Str)) = false := by decide) : PE X (.Name x pos) (tC (.ty n)) :=
  pe_bltn hg hm hv rfl hn hd
/-- an own error class -/
structure ExcF (K : PySem.W.Frag) (mg : Str → Option Value) (x : Str) : Prop where
  ex : ∃ C : Addr, mg x = some (.ref C) ∧ PySem.W.excIn K C [.type "ValueError", .type "Exception", .type "BaseException", .type "object"] "ValueError.__new__" = true ∧ PySem.W.keepIn K (.ref C) = true ∧
    PySem.W.subIn K (.ref C) (.type "BaseException") = some true ∧ PySem.W.typeIn K (.ref C) = some (.type "type")
theorem ps_rs {X : Cx} {W : WX} {x m : Str} {j : Nat} {p p2 pos pos' : Pos} (F : ExcF X.K X.mg x) (hc : X.calm = true) (tk : Takes X W) (hg : Gl X x := by rfl) (hdb : (x == ("__debug__" : Str)) = false := by decide) :
    PS X (.Raise (some (.Call (.Name x p) [.Constant (.str m) j p2] [] pos')) none pos) (fun _ σ H => ∀ c, X.mg x = some c → W c none σ H) := by
  obtain ⟨C, g, e, k, s1, t1⟩ := F.ex
  have h := ps_raise (pos := pos) hc tk (pmk_own (j := j) (p := p) (p2 := p2) (pos := pos') (m := m) PySem.F.excBase_ValueError e g k (raises_own s1 t1) hg hdb)
  exact ⟨fun pins s σ H D I q => h.run pins s σ H D I (q _ g)⟩

/-! ### xs[i] += e -/
def gtL (K : PySem.W.Frag) : V → V → Hp → VK → Prop := fun o i H Q => ∃ p xs j v, o = .ref p ∧ i = .int j ∧ SqL K H p xs ∧ atI xs j = some v ∧ Q v H
theorem pget_list {X : Cx} : PGet X (gtL X.K) := by
  intro pins s σ H o i ov iv Q I ro ri h
  obtain ⟨p, xs, j, v, rfl, rfl, hx, ha, q⟩ := h
  cases ro
  obtain ⟨t, rfl⟩ := ri
  obtain ⟨its, r, pl, hz⟩ := I.list hx
  obtain ⟨k, h1, h2, h3, h4, h5⟩ := atI_get ha
  obtain ⟨w, ew, rw'⟩ := r.get h2
  have hl := r.length
  have hn := line63
  have fin : EP X pins σ Q w s := ⟨v, H, I, rw', q⟩
  by_cases h0 : 0 ≤ j
  · have hj : j.toNat = k := by
      rw [seqIndex_of h0 h5] at h1
      exact Option.some.inj h1
    exact wpAny_getItem_list pl.isList h0 (by omega) (by rw [hj]; simpa using ew) fin
  · have hj : (j + (its.toArray.size : Int)).toNat = k := by
      rw [seqIndex_neg (by omega) h4] at h1
      rw [List.size_toArray, ← hl]
      exact Option.some.inj h1
    exact wpAny_getItem_list_neg pl.isList (by omega) (by rw [List.size_toArray] <;> omega) (by omega) (by rw [hj]; simpa using ew) fin
theorem ps_augI {X : Cx} {o i e : Expr} {to ti te : TE} {pos tpos : Pos} (ho : PE X o to) (hi : PE X i ti) (he : PE X e te)
    (ha : ∀ ov iv new, augStore i ov iv new = (do holding [new, ov, iv] (setItem ov iv new); release [new, ov, iv] []; pure .next) := by intros; rfl) :
    PS X (.AugAssign (.Subscript o i tpos) .Add e pos) (tAugS to ti te (gtL X.K) (ipI fun i j => i + j) rSetL) :=
  ps_augS ho hi pget_list he ip_add set_list ha

/-! ### trees on the heap: v reads as t, its lists (one a part) at as -/
abbrev Fp := V × Tr × List Addr
inductive TF (H : Hp) : Tr → V → List Addr → Prop
  | mk {t : Tr} {v : V} {as : List Addr} (a l : Addr) (ps : List Fp) (ha : H a = some (.tup [.str ⟨#[t.c]⟩, .ref l])) (hl : H l = some (.lst (ps.map (·.1)))) (hp : ∀ p ∈ ps, TF H p.2.1 p.1 p.2.2)
      (ht : t.ts = ps.map (·.2.1)) (hv : v = .ref a) (has : as = l :: ps.flatMap (·.2.2)) : TF H t v as
theorem TF.out {H : Hp} {t : Tr} {v : V} {as : List Addr} (h : TF H t v as) : ∃ (a l : Addr) (ps : List Fp), H a = some (.tup [.str ⟨#[t.c]⟩, .ref l]) ∧ H l = some (.lst (ps.map (·.1))) ∧ (∀ p ∈ ps, TF H p.2.1 p.1 p.2.2) ∧
    t.ts = ps.map (·.2.1) ∧ v = .ref a ∧ as = l :: ps.flatMap (·.2.2) := by
  cases h with
  | mk a l ps ha hl hp ht hv has => exact ⟨a, l, ps, ha, hl, hp, ht, hv, has⟩
theorem TF.stay {H H' : Hp} {t : Tr} {v : V} {as : List Addr} (h : TF H t v as) (ht : ∀ b xs, H b = some (.tup xs) → H' b = some (.tup xs)) (hl : ∀ b ∈ as, ∀ xs, H b = some (.lst xs) → H' b = some (.lst xs)) : TF H' t v as := by
  induction h with
  | mk a l ps ha hl' hp ht' hv has ih =>
    refine .mk a l ps (ht _ _ ha) (hl l (by rw [has]; simp) _ hl') (fun p hm => ih p hm fun b hb xs e => hl b ?_ xs e) ht' hv has
    rw [has]
    exact List.mem_cons_of_mem _ (List.mem_flatMap.mpr ⟨p, hm, hb⟩)
theorem TF.same {H H' : Hp} {t : Tr} {v : V} {as : List Addr} (h : TF H t v as) (s : Same H H') : TF H' t v as := h.stay (fun _ _ e => s _ _ e) fun _ _ _ e => s _ _ e
theorem TF.keep {A : List Addr} {H H' : Hp} {t : Tr} {v : V} {as : List Addr} (h : TF H t v as) (k : Keep A H H') (d : ∀ b ∈ as, b ∉ A) : TF H' t v as := h.stay k.tup fun b hb _ e => k.but b _ (d b hb) e
theorem TF.live {H : Hp} {t : Tr} {v : V} {as : List Addr} (h : TF H t v as) : ∀ b ∈ as, ∃ xs, H b = some (.lst xs) := by
  induction h with
  | mk a l ps ha hl hp ht hv has ih =>
    intro b hb
    rw [has] at hb
    rcases List.mem_cons.mp hb with rfl | hb
    · exact ⟨_, hl⟩
    · obtain ⟨p, hm, hb⟩ := List.mem_flatMap.mp hb
      exact ih p hm b hb
/-- what stands is no new place -/
theorem TF.ne {H : Hp} {t : Tr} {v : V} {as : List Addr} (h : TF H t v as) {p : Addr} (n : H p = none) : p ∉ as := fun hb => by
  obtain ⟨xs, e⟩ := h.live p hb
  rw [n] at e
  cases e
mutual
def Tr.toD : Tr → PyData
  | .node c ts => .tuple [.str ⟨#[c]⟩, .list (Tr.toDs ts)]
def Tr.toDs : List Tr → List PyData
  | [] => []
  | t :: ts => t.toD :: Tr.toDs ts
end
theorem Tr.toDs_map : ∀ ts : List Tr, Tr.toDs ts = ts.map Tr.toD
  | [] => rfl
  | t :: ts => by simp only [Tr.toDs, List.map_cons, Tr.toDs_map ts]
mutual
theorem Tr.toD_plain : ∀ t : Tr, t.toD.plain = true
  | .node c ts => by simp [Tr.toD, PyData.plain, PyData.plainAll, Tr.toDs_plain ts]
theorem Tr.toDs_plain : ∀ ts : List Tr, PyData.plainAll (Tr.toDs ts) = true
  | [] => rfl
  | t :: ts => by simp [Tr.toDs, PyData.plainAll, Tr.toD_plain t, Tr.toDs_plain ts]
end
mutual
theorem Tr.toD_depth : ∀ t : Tr, t.toD.depth = 2 * t.dep
  | .node c ts => by
    simp only [Tr.toD, PyData.depth, PyData.depthAll, Tr.dep, Tr.toDs_depth ts]
    omega
theorem Tr.toDs_depth : ∀ ts : List Tr, PyData.depthAll (Tr.toDs ts) = 2 * Tr.deps ts
  | [] => rfl
  | t :: ts => by
    simp only [Tr.toDs, PyData.depthAll, Tr.deps, Tr.toD_depth t, Tr.toDs_depth ts]
    omega
end
theorem dpAll_of {K : PySem.W.Frag} {H : Hp} {α : Type} (f : α → V) (g : α → PyData) : ∀ {ps : List α}, (∀ p ∈ ps, Dp K H (f p) (g p)) → DpAll K H (ps.map f) (ps.map g)
  | [], _ => .nil
  | p :: ps, h => .cons (h p List.mem_cons_self) (dpAll_of f g fun q hq => h q (List.mem_cons_of_mem _ hq))
theorem TF.dp {K : PySem.W.Frag} {H : Hp} {t : Tr} {v : V} {as : List Addr} (h : TF H t v as) : Dp K H v t.toD := by
  induction h with
  | @mk t v as a l ps ha hl hp ht hv has ih =>
    subst hv
    cases t with
    | node c ts =>
      have e : ts = ps.map (·.2.1) := ht
      rw [Tr.toD, Tr.toDs_map, e, List.map_map]
      exact .tup (SqT.of ha) (.cons (.str _) (.cons (.lst (SqL.of hl) (dpAll_of _ _ ih)) .nil))
/-- the text of some codes -/
abbrev txS (l : List Nat) : Str := ⟨l.toArray⟩
abbrev tx (l : List Nat) : V := .str ⟨l.toArray⟩
theorem tx_inj {a b : List Nat} (h : tx a = tx b) : a = b := by
  have e := V.str.inj h
  simpa using congrArg (fun s : Str => s.cps.toList) e
/-- a tree with its writing, in a pair -/
def FF (H : Hp) (t : Tr) (v : V) (as : List Addr) : Prop := ∃ a u, v = .ref a ∧ H a = some (.tup [tx t.W, u]) ∧ TF H t u as
theorem FF.stay {H H' : Hp} {t : Tr} {v : V} {as : List Addr} (h : FF H t v as) (ht : ∀ b xs, H b = some (.tup xs) → H' b = some (.tup xs)) (hl : ∀ b ∈ as, ∀ xs, H b = some (.lst xs) → H' b = some (.lst xs)) : FF H' t v as :=
  let ⟨a, u, e, ha, hu⟩ := h
  ⟨a, u, e, ht _ _ ha, hu.stay ht hl⟩
theorem FF.same {H H' : Hp} {t : Tr} {v : V} {as : List Addr} (h : FF H t v as) (s : Same H H') : FF H' t v as := h.stay (fun _ _ e => s _ _ e) fun _ _ _ e => s _ _ e
theorem FF.keep {A : List Addr} {H H' : Hp} {t : Tr} {v : V} {as : List Addr} (h : FF H t v as) (k : Keep A H H') (d : ∀ b ∈ as, b ∉ A) : FF H' t v as := h.stay k.tup fun b hb _ e => k.but b _ (d b hb) e
theorem FF.live {H : Hp} {t : Tr} {v : V} {as : List Addr} (h : FF H t v as) : ∀ b ∈ as, ∃ xs, H b = some (.lst xs) := let ⟨_, _, _, _, hu⟩ := h; hu.live
theorem FF.dp {K : PySem.W.Frag} {H : Hp} {t : Tr} {v : V} {as : List Addr} (h : FF H t v as) : Dp K H v (.tuple [.str (txS t.W), t.toD]) := by
  obtain ⟨a, u, rfl, ha, hu⟩ := h
  exact .tup (SqT.of ha) (.cons (.str _) (.cons hu.dp .nil))
/-! ### the rules with the written part told (in a comprehension's block too) -/
section
variable {X : Cx} {e o : Expr} {es : List Expr} {te to : TE} {t : TA} {k : Nat}
theorem ix_listK (K : PySem.W.Frag) (h : X.K = K := by rfl) : IxR X (rIxL K) := h ▸ ix_list
theorem ix_tupK (K : PySem.W.Frag) (h : X.K = K := by rfl) : IxR X (rIxT K) := h ▸ ix_tup
theorem sl_listK (K : PySem.W.Frag) (h : X.K = K := by rfl) : SlR X (rSlL K) := h ▸ sl_list
theorem sl_tupAK (K : PySem.W.Frag) (h : X.K = K := by rfl) : SlR X (rSlA K) := h ▸ sl_tupA
theorem op_catAK (K : PySem.W.Frag) (h : X.K = K := by rfl) : OpR X (binaryOp .Add) (rCatA K) := h ▸ op_catA
theorem op_in_seqK (K : PySem.W.Frag) (h : X.K = K := by rfl) : OpR X (compareOp .In) (rIn K false) := h ▸ op_in_seq
theorem op_notIn_seqK (K : PySem.W.Frag) (h : X.K = K := by rfl) : OpR X (compareOp .NotIn) (rIn K true) := h ▸ op_notIn_seq
theorem op_eqPK (K : PySem.W.Frag) (hr : Room k X.A) (h : X.K = K := by rfl) : OpR X (compareOp .Eq) (rEqP K) := h ▸ op_eqP hr
theorem op_nePK (K : PySem.W.Frag) (hr : Room k X.A) (h : X.K = K := by rfl) : OpR X (compareOp .NotEq) (rNeP K) := h ▸ op_neP hr
theorem op_inLK (K : PySem.W.Frag) (hr : Room k X.A) (h : X.K = K := by rfl) : OpR X (compareOp .In) (rInD' K) := h ▸ op_inL hr
theorem call_lenK (K : PySem.W.Frag) (h : X.K = K := by rfl) : CallR X (.builtin "len") (fun xs H Q => ∃ x n, xs = [x] ∧ LenV K x H n ∧ Q (.int n) H) := h ▸ call_len
theorem call_isiK (K : PySem.W.Frag) (h : X.K = K := by rfl) : CallR X (.builtin "isinstance") (rIsi K) := h ▸ call_isi
theorem call_isiTK (K : PySem.W.Frag) (h : X.K = K := by rfl) : CallR X (.builtin "isinstance") (rIsiT K) := h ▸ call_isiT
theorem cr_sortedDK (K : PySem.W.Frag) (hr : Room k X.A) (h : X.K = K := by rfl) : CallR X (.builtin "sorted") (rSortedD K) := h ▸ cr_sortedD hr
theorem cr_maxK (K : PySem.W.Frag) (hc : X.calm = true) (h : X.K = K := by rfl) : CallR X (.builtin "max") (rMax K) := h ▸ cr_max hc
theorem cr_minK (K : PySem.W.Frag) (hc : X.calm = true) (h : X.K = K := by rfl) : CallR X (.builtin "min") (rMin K) := h ▸ cr_min hc
theorem cr_sumK (K : PySem.W.Frag) (hc : X.calm = true) (h : X.K = K := by rfl) : CallR X (.builtin "sum") (rSum K) := h ▸ cr_sum hc
theorem call_list_ofK (K : PySem.W.Frag) (h : X.K = K := by rfl) : CallR X (.type "list") (fun xs H Q => ∃ p ys, xs = [.ref p] ∧ (SqL K H p ys ∨ SqT K H p ys) ∧ ∀ l, H l = none → Q (.ref l) (upd H l (.lst ys))) := h ▸ call_list_of
theorem call_tuple_ofK (K : PySem.W.Frag) (h : X.K = K := by rfl) : CallR X (.type "tuple") (fun xs H Q => ∃ p ys, xs = [.ref p] ∧ ((SqL K H p ys ∧ ∀ l, H l = none → Q (.ref l) (upd H l (.tup ys))) ∨ (SqT K H p ys ∧ Q (.ref p) H))) := h ▸ call_tuple_of
theorem mt_countDK (K : PySem.W.Frag) (hr : Room k X.A) (h : X.K = K := by rfl) : MtR X "list.count" (rCntD K) := h ▸ mt_countD hr
theorem cbm0 {T : String} {r : V → List V → Hp → VK → Prop} (K : PySem.W.Frag) (hp : PE X e (tBM0 X.K T r to)) (h : X.K = K := by rfl) : PE X e (tBM0 K T r to) := h ▸ hp
theorem cbm {T : String} {r : V → List V → Hp → VK → Prop} (K : PySem.W.Frag) (hp : PE X e (tBM X.K T r to t)) (h : X.K = K := by rfl) : PE X e (tBM K T r to t) := h ▸ hp
theorem pe_revK {pos p2 p3 p4 : Pos} {j : Nat} (K : PySem.W.Frag) (he : PE X e te) (h : X.K = K := by rfl) : PE X (.Subscript e (.Slice none none (some (.UnaryOp .USub (.Constant (.int 1) j p4) p3)) p2) pos) (tRevL K te) := h ▸ pe_rev he
theorem pc_neNilK {p2 : Pos} (K : PySem.W.Frag) (hr : Room k X.A) (he : PE X e te) (h : X.K = K := by rfl) : PC X .NotEq e (.List [] p2) (tNil' (fun b => !b) K te) := h ▸ pc_neNil hr he
theorem pc_eqNilK {p2 : Pos} (K : PySem.W.Frag) (hr : Room k X.A) (he : PE X e te) (h : X.K = K := by rfl) : PC X .Eq e (.List [] p2) (tNil' (fun b => b) K te) := h ▸ pc_eqNil hr he
theorem pi_listK {tg l : Expr} {tl : TE} (K : PySem.W.Frag) (hl : PE X l tl) (h : X.K = K := by rfl) : PI X tg l (iList K tl) := h ▸ pi_list hl
theorem pi_tupK {tg l : Expr} {tl : TE} (K : PySem.W.Frag) (hl : PE X l tl) (h : X.K = K := by rfl) : PI X tg l (iTup K tl) := h ▸ pi_tup hl
theorem pe_fldK {f : Str} {pos : Pos} (K : PySem.W.Frag) (he : PE X e te) (hb : attributeBase e f X.env (eval e X.env) = eval e X.env) (h : X.K = K := by rfl) : PE X (.Attribute e f pos) (tFld K te f) := h ▸ pe_fld he hb
end
/-! ### small things -/
theorem letter_in {c : Nat} : decide (c ∈ (PySem.Str.ofString "abcdefghijklmnopqrstuvwxyz").cps.toList) = isL c := by
  have e : (PySem.Str.ofString "abcdefghijklmnopqrstuvwxyz").cps.toList = [97, 98, 99, 100, 101, 102, 103, 104, 105, 106, 107, 108, 109, 110, 111, 112, 113, 114, 115, 116, 117, 118, 119, 120, 121, 122] := by decide +kernel
  rw [e]
  unfold isL
  rw [Bool.eq_iff_iff]
  simp only [List.mem_cons, List.not_mem_nil, or_false, decide_eq_true_eq, Bool.and_eq_true]
  omega
theorem snoc_cases {α : Type} (l : List α) : l = [] ∨ ∃ q x, l = q ++ [x] := by
  rcases List.eq_nil_or_concat l with h | ⟨q, x, h⟩
  · exact .inl h
  · exact .inr ⟨q, x, by rw [h, List.concat_eq_append]⟩
theorem snoc_get {α : Type} {xs : List α} {y : α} : (xs ++ [y])[(xs ++ [y]).length - 1]? = some y := by simp
theorem ifNe {α : Type} {xs : List α} {A B : Prop} (h : xs ≠ []) (a : A) : if (!xs.isEmpty) = true then A else B := by
  rw [if_pos (by cases xs with | nil => exact absurd rfl h | cons => rfl)]
  exact a
theorem ifNe1 {α : Type} {xs : List α} {y : α} {A B : Prop} (a : A) : if (!(xs ++ [y]).isEmpty) = true then A else B := ifNe (by simp) a
theorem newF {H H' : Hp} {p : Addr} {o : HO} (n : H p = none) (e : upd H p o = H') : Same H H' ∧ H' p = some o := by
  subst e
  exact ⟨same_new n, upd_same⟩
theorem ownF {H0 H H' : Hp} {p : Addr} {o : HO} (S : Same H0 H) (n : H0 p = none) (e : upd H p o = H') : Same H0 H' ∧ H' p = some o := by
  subst e
  exact ⟨Same.upd_own S n, upd_same⟩
theorem atI_end {α : Type} {xs : List α} {y : α} : atI (xs ++ [y]) (-1) = some y := by
  have e : ixN (xs ++ [y]).length (-1) = some xs.length := by
    unfold ixN
    rw [if_neg (by omega), if_pos (by rw [List.length_append, List.length_singleton]; omega), List.length_append, List.length_singleton]
    congr 1
    omega
  unfold atI
  rw [e]
  simp
theorem txS_app (a b : List Nat) : txS a ++ txS b = txS (a ++ b) := by
  show Str.append (txS a) (txS b) = _
  unfold Str.append
  simp
theorem joinL_nil : ∀ ws : List (List Nat), TL.joinL [] ws = ws.flatten
  | [] => rfl
  | [p] => by simp [TL.joinL]
  | p :: q :: r => by
    rw [TL.joinL, joinL_nil (q :: r)]
    simp
theorem join_nil (ws : List (List Nat)) : Txt.join (txS []) (ws.map txS) = txS ws.flatten := by
  rw [TL.join_eq]
  have h := TL.tl_join (txS []) (ws.map txS)
  rw [List.map_map] at h
  have e : ws.map (TL.tl ∘ txS) = ws := by
    have : (TL.tl ∘ txS) = id := funext fun l => by simp [TL.tl]
    rw [this, List.map_id]
  have e0 : TL.tl (txS []) = [] := rfl
  rw [e, e0, joinL_nil] at h
  have h2 : (Str.join (txS []) (ws.map txS)).cps = ws.flatten.toArray := by
    rw [← h]
  calc Str.join (txS []) (ws.map txS) = ⟨(Str.join (txS []) (ws.map txS)).cps⟩ := rfl
    _ = _ := by rw [h2]
theorem txS_len (l : List Nat) : (txS l).length = l.length := by
  show (txS l).cps.size = _
  simp
theorem str_one (c : Nat) : (⟨#[c]⟩ : Str) = txS [c] := rfl
theorem cut_take {xs : List V} {n : Nat} {i : Int} (h : i = (n : Int)) (hn : n ≤ xs.length) : cutV xs none (some i) = xs.take n := by
  subst h
  unfold cutV
  rw [HT.sIx_none, HT.sIx_nat, Nat.min_eq_left hn]
  simp
theorem cut_drop {xs : List V} {n : Nat} {i : Int} (h : i = (n : Int)) (hn : n ≤ xs.length) : cutV xs (some i) none = xs.drop n := by
  subst h
  unfold cutV
  rw [HT.sIx_none, HT.sIx_nat, Nat.min_eq_left hn]
  refine List.take_of_length_le ?_
  rw [List.length_drop]
  exact Nat.le_refl _
theorem iteB {c : Bool} {A B : Prop} (h : c = true) (a : A) : if c = true then A else B := by rw [if_pos h]; exact a
theorem iteC {c : Bool} {A B : Prop} (h : c = false) (b : B) : if c = true then A else B := by rw [if_neg (by rw [h]; decide)]; exact b
end Hy
set_option Elab.async false
set_option linter.all false
set_option maxRecDepth 100000
set_option maxHeartbeats 4000000
namespace Hy
open PySem PySem.Spec PyProof.Rows L2
/-! dicts whose keys are tuples, nested: tracked by HO.ext, the keys told beside -/
mutual
inductive NKv (H : Hp) : NestedKey → V → Prop
  | int (i : Int) : NKv H (.num i) (.int i)
  | text (x : Str) : NKv H (.text x) (.str x)
  | tup {a : Addr} {ks : List NestedKey} {vs : List V} : H a = some (.tup vs) → NKs H ks vs → NKv H (.tup ks) (.ref a)
inductive NKs (H : Hp) : List NestedKey → List V → Prop
  | nil : NKs H [] []
  | cons {k : NestedKey} {v : V} {ks : List NestedKey} {vs : List V} : NKv H k v → NKs H ks vs → NKs H (k :: ks) (v :: vs)
end
mutual
theorem NKv.stay {H H' : Hp} (ht : ∀ b xs, H b = some (.tup xs) → H' b = some (.tup xs)) : ∀ (k : NestedKey) (v : V), NKv H k v → NKv H' k v
  | .none, _, h => nomatch h
  | .num i, _, h => by cases h; exact .int i
  | .text x, _, h => by cases h; exact .text x
  | .tup ks, _, h => by
    cases h with
    | tup ha hs => exact .tup (ht _ _ ha) (NKs.stay ht ks _ hs)
theorem NKs.stay {H H' : Hp} (ht : ∀ b xs, H b = some (.tup xs) → H' b = some (.tup xs)) : ∀ (ks : List NestedKey) (vs : List V), NKs H ks vs → NKs H' ks vs
  | [], _, h => by cases h; exact .nil
  | k :: ks, _, h => by
    cases h with
    | cons h1 h2 => exact .cons (NKv.stay ht k _ h1) (NKs.stay ht ks _ h2)
end
mutual
theorem NKv.is {P : Program} {w : World} {H : Hp} {h : Heap} (ok : HOk P w H h) : ∀ (k : NestedKey) (v : V) (u : Value), NKv H k v → RelV v u → NestedIs h k u
  | .none, _, _, h, _ => nomatch h
  | .num i, _, _, h, r => by
    cases h
    obtain ⟨t, rfl⟩ := r
    exact .int i t
  | .text x, _, _, h, r => by
    cases h
    obtain ⟨t, rfl⟩ := r
    exact .text x t
  | .tup ks, _, _, h, r => by
    cases h with
    | @tup a _ vs ha hs =>
      obtain ⟨_, its, rv, o, h1, h2, n, h3⟩ := (show ObjOk P w H h a (.tup vs) from ok a _ ha)
      cases r
      exact .tup h1 h2 h3 (by simpa using NKs.is ok ks vs its hs rv)
theorem NKs.is {P : Program} {w : World} {H : Hp} {h : Heap} (ok : HOk P w H h) : ∀ (ks : List NestedKey) (vs : List V) (us : List Value), NKs H ks vs → Vals vs us → NestedAll h ks us
  | [], _, _, h, r => by
    cases h
    cases r
    exact .nil
  | k :: ks, _, _, h, r => by
    cases h with
    | cons h1 h2 =>
      cases r with
      | cons r1 r2 => exact .cons (NKv.is ok k _ _ h1 r1) (NKs.is ok ks _ _ h2 r2)
end
mutual
theorem NKv.dp {K : PySem.W.Frag} {H : Hp} : ∀ (k : NestedKey) (v : V), NKv H k v → Dp K H v k.data
  | .none, _, h => nomatch h
  | .num i, _, h => by cases h; exact .int i
  | .text x, _, h => by cases h; exact .str x
  | .tup ks, _, h => by
    cases h with
    | tup ha hs => exact .tup (SqT.of ha) (NKs.dp ks _ hs)
theorem NKs.dp {K : PySem.W.Frag} {H : Hp} : ∀ (ks : List NestedKey) (vs : List V), NKs H ks vs → DpAll K H vs (NestedKey.datas ks)
  | [], _, h => by cases h; exact .nil
  | k :: ks, _, h => by
    cases h with
    | cons h1 h2 => exact .cons (NKv.dp k _ h1) (NKs.dp ks _ h2)
end

/-- an entry: its key, where the key stands, its value -/
abbrev NE := NestedKey × Addr × V
def atN (es : List NE) (k : NestedKey) : Option V := (es.find? fun x => decide (x.1 = k)).map (·.2.2)
def putN (es : List NE) (k : NestedKey) (b : Addr) (v : V) : List NE :=
  if (es.any fun x => decide (x.1 = k)) = true then es.map (fun x => if x.1 = k then (x.1, x.2.1, v) else x) else es ++ [(k, b, v)]
theorem atN_nil {k : NestedKey} : atN [] k = none := rfl
theorem atN_pos {p : NE} {r : List NE} {k : NestedKey} (e : p.1 = k) : atN (p :: r) k = some p.2.2 := by simp [atN, List.find?_cons, e]
theorem atN_neg {p : NE} {r : List NE} {k : NestedKey} (e : ¬ p.1 = k) : atN (p :: r) k = atN r k := by simp [atN, List.find?_cons, e]
theorem atN_any (k : NestedKey) : ∀ es : List NE, (es.any fun x => decide (x.1 = k)) = (atN es k).isSome
  | [] => rfl
  | p :: r => by
    rw [List.any_cons]
    by_cases e : p.1 = k
    · simp only [atN_pos e, decide_eq_true e, Bool.true_or, Option.isSome_some]
    · rw [atN_neg e, decide_eq_false e, Bool.false_or]; exact atN_any k r
theorem putN_new {es : List NE} {k : NestedKey} (b : Addr) (v : V) (h : atN es k = none) : putN es k b v = es ++ [(k, b, v)] := by
  unfold putN
  rw [atN_any, h]
  exact if_neg (by decide)
theorem length_putN (es : List NE) (k : NestedKey) (b : Addr) (v : V) : (putN es k b v).length ≤ es.length + 1 := by
  unfold putN
  split
  · rw [List.length_map]; omega
  · rw [List.length_append, List.length_cons, List.length_nil]; omega
abbrev NX : List NE → List (NestedKey × Addr × Value) → Prop := Paired fun p q => p.1 = q.1 ∧ p.2.1 = q.2.1 ∧ RelV p.2.2 q.2.2
theorem NX.val {es : List NE} {xs : List (NestedKey × Addr × Value)} (r : NX es xs) (k : NestedKey) : RelO (atN es k) ((atKey xs k).map (·.2)) := by
  induction r with
  | nil => exact True.intro
  | @cons p q ps qs h t ih =>
    obtain ⟨h1, _, h2⟩ := h
    by_cases e : p.1 = k
    · have e' : q.1 = k := h1.symm.trans e
      have b : atKey (q :: qs) k = some q.2 := by simp [atKey, List.find?_cons, e']
      rw [atN_pos e, b]; exact h2
    · have e' : ¬ q.1 = k := fun z => e (h1.trans z)
      have b : atKey (q :: qs) k = atKey qs k := by simp [atKey, List.find?_cons, e']
      rw [atN_neg e, b]; exact ih
theorem NX.repl {es : List NE} {xs : List (NestedKey × Addr × Value)} (r : NX es xs) (k : NestedKey) {y : V} {u : Value} (ry : RelV y u) :
    NX (es.map fun x => if x.1 = k then (x.1, x.2.1, y) else x) (xs.map (putAt k u)) := by
  induction r with
  | nil => exact .nil
  | @cons p q ps qs h t ih =>
    rw [List.map_cons, List.map_cons]
    refine .cons ?_ ih
    obtain ⟨h1, h2, h3⟩ := h
    unfold putAt
    by_cases e : p.1 = k
    · rw [if_pos e, if_pos (h1.symm.trans e)]; exact ⟨h1, h2, ry⟩
    · rw [if_neg e, if_neg (fun z => e (h1.trans z))]; exact ⟨h1, h2, h3⟩
theorem NX.put {es : List NE} {xs : List (NestedKey × Addr × Value)} (r : NX es xs) (k : NestedKey) {b : Addr} {y : V} {u : Value} (ry : RelV y u) : NX (putN es k b y) (storedH xs k b u) := by
  have e : (es.any fun kv => decide (kv.1 = k)) = (atKey xs k).isSome := by
    rw [atN_any, (r.val k).isSome_eq, Option.isSome_map]
  unfold putN storedH
  rw [e]
  by_cases q : (atKey xs k).isSome = true
  · rw [if_pos q, if_pos q]; exact r.repl k ry
  · rw [if_neg q, if_neg q]; exact Paired.snoc r ⟨rfl, rfl, ry⟩
theorem NX.keys {es : List NE} {xs : List (NestedKey × Addr × Value)} (r : NX es xs) : ∀ x ∈ xs, ∃ e ∈ es, e.1 = x.1 ∧ e.2.1 = x.2.1 := by
  induction r with
  | nil => intro x hx; cases hx
  | @cons p q ps qs h t ih =>
    intro x hx
    rcases List.mem_cons.mp hx with rfl | hx
    · exact ⟨p, List.mem_cons_self, h.1, h.2.1⟩
    · obtain ⟨e, he, r⟩ := ih x hx
      exact ⟨e, List.mem_cons_of_mem _ he, r⟩
def entN (w : World) (x : NestedKey × Addr × Value) : DictEntry := ⟨x.1.hash w, .ref x.2.1, x.2.2⟩
/-- what is true of the dict's object -/
def isND (w : World) (a : Addr) (es : List NE) (h : Heap) : Prop := es.length ≤ sizeLine ∧ (a == sysModules) = false ∧ ∃ xs : List (NestedKey × Addr × Value), NX es xs ∧
  ∃ (o : Obj) (en : Array DictEntry) (ep : Nat), h.get? a = some o ∧ o.ExactDict ∧ o.data = .dict en ep ∧ en.toList = xs.map (entN w) ∧ (xs.map (·.1)).Nodup
def ndO (w : World) (a : Addr) (es : List NE) : HO := .ext (isND w a es)
/-- the keys stand -/
def NKeys (H : Hp) (es : List NE) : Prop := ∀ x ∈ es, NKv H x.1 (.ref x.2.1) ∧ x.1.depth ≤ 8
structure ND (w : World) (H : Hp) (a : Addr) (es : List NE) : Prop where
  rd : Rd H a (ndO w a es)
  ks : NKeys H es
theorem NKeys.stay {H H' : Hp} {es : List NE} (n : NKeys H es) (ht : ∀ b xs, H b = some (.tup xs) → H' b = some (.tup xs)) : NKeys H' es := fun x hx => ⟨(n x hx).1.stay ht, (n x hx).2⟩
theorem NKeys.nil {H : Hp} : NKeys H [] := fun x hx => nomatch hx
theorem NKeys.put {H : Hp} {es : List NE} {k : NestedKey} {b : Addr} {v : V} (n : NKeys H es) (hk : NKv H k (.ref b)) (hd : k.depth ≤ 8) : NKeys H (putN es k b v) := by
  intro x hx
  unfold putN at hx
  split at hx
  · obtain ⟨y, hy, rfl⟩ := List.mem_map.mp hx
    by_cases e : y.1 = k
    · simp only [e, if_true]
      exact e ▸ n y hy
    · rw [if_neg e]
      exact n y hy
  · rcases List.mem_append.mp hx with hx | hx
    · exact n x hx
    · obtain rfl := List.mem_singleton.mp hx
      exact ⟨hk, hd⟩
theorem ND.same {w : World} {H H' : Hp} {a : Addr} {es : List NE} (n : ND w H a es) (s : Same H H') : ND w H' a es :=
  ⟨n.rd.elim (fun h => .inl (s _ _ h)) fun ⟨o, h⟩ => .inr ⟨o, s _ _ h⟩, n.ks.stay fun _ _ h => s _ _ h⟩
theorem ND.keep {w : World} {A : List Addr} {H H' : Hp} {a : Addr} {es : List NE} (n : ND w H a es) (k : Keep A H H') (ha : a ∉ A) : ND w H' a es :=
  ⟨n.rd.elim (fun h => .inl (k.but _ _ ha h)) fun ⟨o, h⟩ => .inr ⟨o, k.but _ _ ha h⟩, n.ks.stay k.tup⟩
theorem ND.of {w : World} {H : Hp} {a : Addr} {es : List NE} (h : H a = some (ndO w a es)) (n : NKeys H es) : ND w H a es := ⟨.inl h, n⟩
theorem ND.frz {w : World} {H : Hp} {a : Addr} {es : List NE} {o : Obj} (h : H a = some (.frz o (ndO w a es))) (n : NKeys H es) : ND w H a es := ⟨.inr ⟨o, h⟩, n⟩
section
variable {P : Program} {w : World} {H : Hp} {h : Heap} {a : Addr} {es : List NE}
theorem nd_of (ok : HOk P w H h) (n : ND w H a es) : es.length ≤ sizeLine ∧ (a == sysModules) = false ∧ ∃ xs, NX es xs ∧ h.DictOfH (nestedKind P w) a xs := by
  obtain ⟨⟨z, y, xs, r, o, en, ep, h1, h2, h3, h4, h5⟩, _⟩ := (show ObjOk P w H h a (ndO w a es) from n.rd.ok ok)
  refine ⟨z, y, xs, r, o, en, ep, h1, h2, h3, h4, fun x hx => ?_, h5⟩
  obtain ⟨e, he, e1, e2⟩ := r.keys x hx
  obtain ⟨k1, k2⟩ := n.ks e he
  rw [e1, e2] at k1
  rw [e1] at k2
  exact ⟨NKv.is ok _ _ _ k1 rfl, k2⟩
theorem nd_mk {H' : Hp} {h' : Heap} {xs : List (NestedKey × Addr × Value)} (z : es.length ≤ sizeLine) (hd : (a == sysModules) = false) (r : NX es xs) (dd : h'.DictOfH (nestedKind P w) a xs) : ObjOk P w H' h' a (ndO w a es) := by
  obtain ⟨o, en, ep, h1, h2, h3, h4, _, h5⟩ := dd
  exact ⟨⟨z, hd, xs, r, o, en, ep, h1, h2, h3, h4, h5⟩, ⟨o, h1⟩, fun g1 g2 ⟨z, hd, xs, r, o, en, ep, h1, rest⟩ st => ⟨z, hd, xs, r, o, en, ep, st o h1, rest⟩⟩
theorem nd_room {X : Cx} {k : Nat} (hr : Room k X.A) {A : Around} (hA : A.units ≤ X.A.units + 8) : (nestedKind P w).room A := by
  show A.units + 8 < cLine
  have := hr.un
  omega
end
theorem nk_is {P : Program} {w : World} {H : Hp} {h : Heap} {b : Addr} {k : NestedKey} (ok : HOk P w H h) (n : NKv H k (.ref b)) (hd : k.depth ≤ 8) : (nestedKind P w).is h k b := ⟨NKv.is ok _ _ _ n rfl, hd⟩

/-! ### readings -/
def tNGet (w : World) (td ty : TE) : TE := fun σ H Q => td σ H fun x H1 => ty σ H1 fun y H2 => ∃ a es k b v, x = .ref a ∧ y = .ref b ∧ ND w H2 a es ∧ NKv H2 k (.ref b) ∧ k.depth ≤ 8 ∧ atN es k = some v ∧ Q v H2
def rNIn (w : World) (f : Bool → Bool) : R2 := fun y x H Q => ∃ a es k b, x = .ref a ∧ y = .ref b ∧ ND w H a es ∧ NKv H k (.ref b) ∧ k.depth ≤ 8 ∧ Q (.bl (f (atN es k).isSome)) H
def sNPut (w : World) (td ty tv : TE) : TS := fun D σ H => tv σ H fun v H1 => td σ H1 fun x H2 => ty σ H2 fun y H3 => ∃ a es k b, x = .ref a ∧ y = .ref b ∧ H3 a = some (ndO w a es) ∧ NKeys H3 es ∧ NKv H3 k (.ref b) ∧ k.depth ≤ 8 ∧ es.length < sizeLine ∧
  D.nx σ (upd H3 a (ndO w a (putN es k b v)))
def tNNew (w : World) : TE := fun _ H Q => ∀ p, H p = none → Q (.ref p) (upd H p (ndO w p []))
section
variable {X : Cx} {o i e value : Expr} {pos pos' : Pos} {td ty tv : TE} {k : Nat}
theorem pe_nget (w : World) (hr : Room k X.A) (ho : PE X o td) (hi : PE X i ty) (hs : NoSl i := by exact fun _ _ => rfl) (h : X.w = w := by rfl) : PE X (.Subscript o i pos) (tNGet w td ty) := by
  subst h
  refine ⟨fun pins s σ H Q I h => ?_⟩
  refine subD_of PySem.F.slot_dict_getitem.lookup hs (thn (ho.run pins s σ H _ I h) fun u s1 ⟨x, H1, I1, rx, q1⟩ => thn (hi.run pins s1 σ H1 _ I1 q1) fun iv s2 ⟨y, H2, I2, ry, a, es, kk, b, v, ex, ey, nd, nk, hd, hv, q2⟩ => ?_)
  subst ex ey
  obtain rfl : u = Value.ref a := rx
  obtain rfl : iv = Value.ref b := ry
  obtain ⟨z, hdm, xs, rel, dd⟩ := nd_of I2.hok nd
  obtain ⟨w', hw, rw'⟩ := RelO.some_of (v := v) (o := (atKey xs kk).map (·.2)) (by rw [← hv]; exact rel.val kk)
  obtain ⟨p, hp, hp2⟩ := Option.map_eq_some_iff.mp hw
  refine ⟨dd.typeIs, wpAny_getItem_heap (nd_room hr (by rw [Around.in1_units]; omega)) (nk_is I2.hok nk hd) dd hp ?_⟩
  rw [hp2]
  exact ⟨v, H2, I2.tok _, rw', q2⟩
theorem op_in_nd (w : World) (hr : Room k X.A) (h : X.w = w := by rfl) : OpR X (compareOp .In) (rNIn w id) := by
  subst h
  intro pins s σ H y x v u Q I ry rx h
  obtain ⟨a, es, kk, b, rfl, rfl, nd, nk, hd, q⟩ := h
  cases ry
  cases rx
  obtain ⟨z, hdm, xs, rel, dd⟩ := nd_of I.hok nd
  refine wpAny_in_heap (nd_room hr (by rw [Around.in1_units]; omega)) (nk_is I.hok nk hd) hdm dd ?_
  have e := (rel.val kk).isSome_eq
  rw [Option.isSome_map] at e
  rw [← e]
  exact ⟨.bl (atN es kk).isSome, H, I.tok _, rfl, q⟩
theorem op_notIn_nd (w : World) (hr : Room k X.A) (h : X.w = w := by rfl) : OpR X (compareOp .NotIn) (rNIn w fun b => !b) := by
  subst h
  intro pins s σ H y x v u Q I ry rx h
  obtain ⟨a, es, kk, b, rfl, rfl, nd, nk, hd, q⟩ := h
  cases ry
  cases rx
  obtain ⟨z, hdm, xs, rel, dd⟩ := nd_of I.hok nd
  refine wpAny_notIn_heap (nd_room hr (by rw [Around.in1_units]; omega)) (nk_is I.hok nk hd) hdm dd ?_
  have e := (rel.val kk).isSome_eq
  rw [Option.isSome_map] at e
  rw [← e]
  exact ⟨.bl (!(atN es kk).isSome), H, I.tok _, rfl, q⟩
theorem ps_nput (w : World) (hr : Room k X.A) (hv : PE X value tv) (ho : PE X o td) (hi : PE X i ty) (hs : swapsWith value (some (.Subscript o i pos')) pos.line X.env = pure false := by rfl) (h : X.w = w := by rfl) :
    PS X (.Assign [.Subscript o i pos'] value pos) (sNPut w td ty tv) := by
  subst h
  refine ⟨fun pins s σ H D I h => ?_⟩
  refine wpAny_Assign_Subscript (thn (hv.run pins s σ H _ I h) fun r s1 ⟨v, H1, I1, rv, q1⟩ => thn (ho.run pins s1 σ H1 _ I1 q1) fun u s2 ⟨x, H2, I2, rx, q2⟩ => thn (hi.run pins s2 σ H2 _ I2 q2) fun iv s3 ⟨y, H3, I3, ry, a, es, kk, b, ex, ey, ha, ks, nk, hd, hl, q3⟩ => ?_) hs
  subst ex ey
  obtain rfl : u = Value.ref a := rx
  obtain rfl : iv = Value.ref b := ry
  obtain ⟨z, hdm, xs, rel, dd⟩ := nd_of I3.hok (ND.of ha ks)
  have hz : xs.length ≤ sizeLine := by rw [← Paired.length rel]; exact z
  refine wpAny_setItem_heap (hsz := hz) (nd_room hr (by rw [Around.in1_units]; omega)) (nk_is I3.hok nk hd) dd fun h' dd' hsb => ⟨σ, _, ?_, q3⟩
  have he : ∃ q, h'.get? a = some q := let ⟨q, _, _, hq, _⟩ := dd'; ⟨q, hq⟩
  have hl2 : (putN es kk b v).length ≤ sizeLine := by have := length_putN es kk b v; omega
  exact d_write I3 (by rw [ha]; exact True.intro) hsb he (nd_mk hl2 hdm (rel.put kk rv) dd')
theorem pe_dnewN (w : World) (h : X.w = w := by rfl) : PE X (.Dict [] [] pos) (tNNew w) := by
  subst h
  exact ⟨fun pins s σ H Q I h =>
    wpAny_Dict_empty ⟨.ref s.heap.objs.size, _, I.laid (a := s.heap.objs.size) (o := ndO X.w s.heap.objs.size []) (t' := s.toks) (fun _ _ q => Heap.get?_push_of_some _ q) (Nat.le_refl _)
      (nd_mk (P := X.prog) (Nat.zero_le _) (beq_eq_false_iff_ne.mpr (Ne.symm (Nat.ne_of_lt I.big))) .nil (Heap.DictOfH.new s.heap)), rfl, h _ (I.hok.fresh (Nat.le_refl _))⟩⟩
def rLenN (w : World) : List V → Hp → VK → Prop := fun xs H Q => ∃ (p : Addr) (es : List NE), xs = [.ref p] ∧ ND w H p es ∧ Q (.int ((es.length : Nat) : Int)) H
theorem call_len_nd (w : World) (h : X.w = w := by rfl) : CallR X (.builtin "len") (rLenN w) := by
  subst h
  intro pins s σ H xs us Q I r h
  obtain ⟨p, es, rfl, hp, q⟩ := h
  obtain ⟨u, rfl, rx⟩ := vals1 r
  obtain rfl : u = .ref p := rx
  obtain ⟨z, hd, ys, rel, dd⟩ := nd_of I.hok hp
  have hl : es.length = ys.length := Paired.length rel
  refine call_len_dictH hd dd (by rw [← hl]; rw [sizeLine_eq] at z; omega) ?_
  rw [← hl]
  exact ⟨.int ((es.length : Nat) : Int), H, I.tok _, ⟨_, rfl⟩, q⟩
end

/-! ### for k in d (locked) -/
def Itn (w : World) (d : Addr) (o : Obj) (es : List NE) : It :=
  ⟨fun i H => H d = some (.frz o (ndO w d es)) ∧ i < es.length, fun i H x H' => H' = H ∧ ∃ e, es[i]? = some e ∧ x = .ref e.2.1, fun i H => H d = some (.frz o (ndO w d es)) ∧ es.length ≤ i⟩
section
variable {X : Cx} {pins : List (Addr × Obj)} {σ : L2.St} {H : Hp} {s : Shared} {d : Addr} {o : Obj} {ens : List NE}
theorem frzN {w : World} (hw : X.w = w) (I : Inv X pins σ H s) (h : H d = some (.frz o (ndO w d ens))) :
    (d == sysModules) = false ∧ s.heap.get? d = some o ∧ o.ExactDict ∧ ∃ (es : Array DictEntry) (ep : Nat), o.data = .dict es ep ∧ es.size = ens.length ∧
      ∀ (i : Nat) (e : NE), ens[i]? = some e → ∃ en : DictEntry, es[i]? = some en ∧ en.key = .ref e.2.1 := by
  subst hw
  obtain ⟨hd, ⟨z, hs, xs, pr, o', es, ep, ho, hx, hdt, he, _⟩, _⟩ := I.hok d _ h
  rw [hd] at ho
  cases ho
  have hsz : es.size = xs.length := by rw [← Array.length_toList, he, List.length_map]
  refine ⟨hs, hd, hx, es, ep, hdt, ?_, fun i e q => ?_⟩
  · have l2 : ens.length = xs.length := Paired.length pr
    omega
  · obtain ⟨b, hb, e1, e2, _⟩ := paired_get pr q
    refine ⟨entN X.w b, ?_, by rw [e2]; rfl⟩
    rw [← Array.getElem?_toList, he, List.getElem?_map, hb]
    rfl
end
section
variable {P : Program} {w : World} {K : PySem.W.Frag} {tg : Expr} {d : Addr} {o : Obj} {es : Array DictEntry} {ep : Nat}
theorem turn_keysN {ens : List NE} (it : Addr) (hod : o.data = .dict es ep) : Turn P w K tg (Itn w d o ens) [it] it (fun i h => h.IsKeyIter it d i ens.length ep) where
  mem := by simp
  obj := fun i h st b hb => by
    have e : b = it := by simpa using hb
    subst e
    obtain ⟨oi, e, c, dd⟩ := st
    exact ⟨oi, e, fun v z => by rw [dd] at z; cases z⟩
  keep := fun i h h' st k => st.at fun oi e => k it (by simp) oi e
  item := by
    intro X hP hw hK hc i pins s σ H E I hf st hg
    subst hP hw hK
    obtain ⟨hd, hi⟩ := hg
    obtain ⟨f0, f1, f2, f3, f4, f5⟩ := hf it (by simp)
    obtain ⟨hs, hgd, hx, es', ep', hdt, hsz, ent⟩ := frzN rfl I hd
    obtain ⟨rfl, rfl⟩ := dict_ep hod hdt
    obtain ⟨e0, hkv⟩ : ∃ p, ens[i]? = some p := ⟨ens[i], List.getElem?_eq_getElem hi⟩
    obtain ⟨en, hen, hkey⟩ := ent i e0 hkv
    refine next_key_item st hgd hdt hsz hen fun h' st' sb => ?_
    have I1 : Inv X pins σ H { s with heap := h' } := I.turned (t' := s.toks) (fun b ob hb e => (sb.2 b hb).trans e) f0 f1 f3 f4 f5
    obtain ⟨oi, e, c, dd⟩ := id st'
    exact ⟨en.key, rfl, go_of (s := { s with heap := h' }) e c dd (by decide) ⟨.ref e0.2.1, H, I1, hkey, ⟨rfl, e0, hkv, rfl⟩, st', fun b hb => (hf b hb).1⟩⟩
  done := by
    intro X hP hw hK hc i pins s σ H E I hf st hg
    subst hP hw hK
    obtain ⟨hd, hi⟩ := hg
    obtain ⟨f0, f1, f2, f3, f4, f5⟩ := hf it (by simp)
    obtain ⟨hs, hgd, hx, es', ep', hdt, hsz, ent⟩ := frzN rfl I hd
    obtain ⟨rfl, rfl⟩ := dict_ep hod hdt
    exact next_key_end (I.ok.hd hc) st hgd hdt hsz hi fun h' eb => ⟨rfl, I.turned (t' := s.toks) (fun b ob hb e => eb b ob hb e) f0 f1 f3 f4 f5⟩
  self := fun A i s Q E st h => by
    refine wpAny_pyIter_slot st.typeIs F.slot_dict_keyiterator_iter (wpAny_call_entry F.slot_dict_keyiterator_iter st.typeIs F.entry_dict_keyiterator_iter ?_ (F.args_dict_keyiterator_iter_1 _))
    show wpAny _ _ (ret (.ref it)) _ _ s
    exact wpAny_pure ⟨_, rfl, "dict_keyiterator", _, st.typeIs, F.slot_dict_keyiterator_next.lookup, h⟩
end
def iNKeys (w : World) (td : TE) : TI := fun σ H R => td σ H fun x H1 => ∃ d o es, x = .ref d ∧ H1 d = some (.frz o (ndO w d es)) ∧ R (Itn w d o es) H1
theorem pi_nkeys {X : Cx} {tg e : Expr} {td : TE} (w : World) (he : PE X e td) (h : X.w = w := by rfl) : PI X tg e (iNKeys w td) := by
  subst h
  refine ⟨fun pins s σ H R I h => ?_⟩
  refine thn (he.run pins s σ H _ I h) fun u s1 ⟨x, H1, I1, rx, d, o, ens, ex, hd, q⟩ => ?_
  subst ex
  obtain rfl : u = Value.ref d := rx
  obtain ⟨hs, hgd, hx, es, ep, hdt, hsz, ent⟩ := frzN rfl I1 hd
  refine iter_keys hs hgd hx hdt (pi_one (tk := s1.toks) I1 _ (turn_keysN _ hdt) ⟨_, Heap.get?_push_size _ rfl, rfl, ?_⟩ q)
  rw [hsz] <;> rfl
end Hy
set_option Elab.async false
set_option linter.all false
set_option maxRecDepth 100000
set_option maxHeartbeats 4000000
namespace Hy
open PySem PySem.Spec PyProof.Rows L2
/-! more rules over dicts with nested keys; list(text), sum(tuple), text.index -/
section
variable {w : World} {en : Array DictEntry} {xs : List (NestedKey × Addr × Value)} {es : List NE}
theorem ent_at (he : en.toList = xs.map (entN w)) (r : NX es xs) {j : Nat} {d : DictEntry} (hd : en[j]? = some d) : ∃ e, es[j]? = some e ∧ d.key = .ref e.2.1 := by
  rw [← Array.getElem?_toList, he, List.getElem?_map] at hd
  cases hx : xs[j]? with
  | none =>
    rw [hx] at hd
    cases hd
  | some x =>
    rw [hx] at hd
    cases hd
    have hl : es.length = xs.length := Paired.length r
    have hj : j < es.length := by
      rw [hl]
      exact (List.getElem?_eq_some_iff.mp hx).1
    obtain ⟨b, hb, _, e2, _⟩ := paired_get r (List.getElem?_eq_getElem hj)
    rw [hx] at hb
    cases hb
    exact ⟨_, List.getElem?_eq_getElem hj, by rw [e2]; rfl⟩
theorem keys_of_items (he : en.toList = xs.map (entN w)) (r : NX es xs) {acc : Array Value} (hacc : ItemsOf (fun i v => ∃ d : DictEntry, en[i]? = some d ∧ v = d.key) acc en.size) : acc.toList = es.map fun e => Value.ref e.2.1 := by
  have hl : es.length = xs.length := Paired.length r
  have hz : en.size = xs.length := by rw [← Array.length_toList, he, List.length_map]
  apply List.ext_getElem?
  intro j
  rw [List.getElem?_map]
  cases hj : acc.toList[j]? with
  | none =>
    have h1 := List.getElem?_eq_none_iff.mp hj
    rw [Array.length_toList, hacc.1] at h1
    rw [List.getElem?_eq_none (by omega)]
    rfl
  | some v =>
    obtain ⟨d, hd, hv⟩ := hacc.2 j v (by rw [← Array.getElem?_toList]; exact hj)
    obtain ⟨e, q, hk⟩ := ent_at he r hd
    rw [q, hv, hk]
    rfl
end
theorem vals_keys : ∀ es : List NE, Vals (es.map fun e => V.ref e.2.1) (es.map fun e => Value.ref e.2.1)
  | [] => .nil
  | _ :: r => .cons rfl (vals_keys r)
def rListN (w : World) : List V → Hp → VK → Prop := fun vs H Q => ∃ d es, vs = [V.ref d] ∧ ND w H d es ∧ ∀ p, H p = none → Q (.ref p) (upd H p (.lst (es.map fun e => .ref e.2.1)))
def rListS : List V → Hp → VK → Prop := fun vs H Q => ∃ x : Str, vs = [V.str x] ∧ x.cps.size ≤ sizeLine ∧ ∀ p, H p = none → Q (.ref p) (upd H p (.lst (x.cps.toList.map fun c => .str ⟨#[c]⟩)))
def rSumT (K : PySem.W.Frag) : List V → Hp → VK → Prop := fun vs H Q => ∃ (a : Addr) (ns : List Int), vs = [V.ref a] ∧ SqT K H a (ns.map V.int) ∧ Q (.int ns.sum) H
def rSortedN (w : World) : List V → Hp → VK → Prop := fun vs H Q => ∃ d es, vs = [V.ref d] ∧ ND w H d es ∧ PySem.W.AllAlike (es.map fun e => e.1.data) ∧ PySem.W.Sortable (es.map fun e => e.1.data) ∧ (∀ e ∈ es, e.1.data.depth ≤ 100) ∧
  ∀ p, H p = none → Q (.ref p) (upd H p (.lst ((es.mergeSort (PySem.W.dataLe false fun e => e.1.data)).map fun e => .ref e.2.1)))
def rIsiN (w : World) (K : PySem.W.Frag) : List V → Hp → VK → Prop := fun xs H Q => ∃ (a : Addr) (es : List NE) (c : V) (u : Value) (b : Bool), xs = [.ref a, c] ∧ ND w H a es ∧ ClsV c u ∧ PySem.W.kitOne K (.type "dict") u = some b ∧ Q (.bl b) H
def rIsiTN (w : World) (K : PySem.W.Frag) : List V → Hp → VK → Prop := fun xs H Q => ∃ (a tp : Addr) (es : List NE) (cs : List V) (us : List Value) (b : Bool), xs = [.ref a, .ref tp] ∧ H tp = some (.tup cs) ∧ Paired ClsV cs us ∧ ND w H a es ∧ PySem.W.kitAny K (.type "dict") us = some b ∧ Q (.bl b) H
section
variable {X : Cx}
theorem callR_or {f : Value} {r1 r2 : List V → Hp → VK → Prop} (h1 : CallR X f r1) (h2 : CallR X f r2) : CallR X f (fun xs H Q => r1 xs H Q ∨ r2 xs H Q) := by
  intro pins s σ H xs us Q I r h
  rcases h with h | h
  · exact h1 pins s σ H xs us Q I r h
  · exact h2 pins s σ H xs us Q I r h
theorem call_list_nd (w : World) (hc : X.calm = true) (h : X.w = w := by rfl) : CallR X (.type "list") (rListN w) := by
  subst h
  intro pins s σ H vs us Q I r h
  obtain ⟨d, es, rfl, nd, q⟩ := h
  obtain ⟨u, rfl, rx⟩ := r.one
  cases rx
  obtain ⟨⟨z, hs, ks, pr, o, en, ep, ho, hx, hdt, he, hn⟩, _⟩ := (show ObjOk X.prog X.w H s.heap d (ndO X.w d es) from nd.rd.ok I.hok)
  have l1 : en.size = ks.length := by rw [← Array.length_toList, he, List.length_map]
  have l2 : es.length = ks.length := Paired.length pr
  refine PySem.W.kdl_call (kdl_raw hs hx hdt) (I.ok.hd hc) ho (by omega) fun h' tk acc' c' kp e it => ?_
  have ea := keys_of_items he pr it
  refine ⟨.ref s.heap.objs.size, _, I.laid (t' := tk) (o := .lst (es.map fun e => .ref e.2.1)) kp (Nat.le_refl _) ?_, rfl, q _ (I.hok.fresh (Nat.le_refl _))⟩
  exact ⟨by rw [List.length_map]; exact z, acc'.toList, c', by rw [ea]; exact vals_keys es, by rw [Array.toArray_toList]; exact e⟩
theorem call_list_s (hc : X.calm = true) : CallR X (.type "list") rListS := by
  intro pins s σ H vs us Q I r h
  obtain ⟨x, rfl, hz, q⟩ := h
  obtain ⟨u, rfl, t, rfl⟩ := r.one
  refine PySem.call_list_str (hn := hz) (I.ok.hd hc) x t fun h' tk acc' c' kp e it => ?_
  refine ⟨.ref s.heap.objs.size, _, I.laid (t' := tk) (o := .lst (x.cps.toList.map fun c => .str ⟨#[c]⟩)) kp (Nat.le_refl _) ⟨by rw [List.length_map, Array.length_toList]; exact hz, acc'.toList, c', ?_, by rw [Array.toArray_toList]; exact e⟩, rfl, q _ (I.hok.fresh (Nat.le_refl _))⟩
  refine vals_of_at (by rw [List.length_map, Array.length_toList, Array.length_toList, it.1]) fun j y v h1 h2 => ?_
  obtain ⟨c, t2, hcx, rfl⟩ := it.2 j v (by rw [← Array.getElem?_toList]; exact h2)
  rw [List.getElem?_map, Array.getElem?_toList, hcx] at h1
  cases h1
  exact ⟨t2, rfl⟩
theorem cr_sumT (hc : X.calm = true) : CallR X (.builtin "sum") (rSumT X.K) := by
  intro pins s σ H vs us Q I r h
  obtain ⟨a, ns, rfl, hs, q⟩ := h
  obtain ⟨its, rv, hl, _⟩ := I.tuple hs
  rw [Vals.ref1 r]
  obtain ⟨xs, e⟩ := rv.ints.allInts.items
  have hn : numsOf (intItems xs).toList = ns := by rw [← e]; exact rv.ints.numsOf
  rw [nums_intItems] at hn
  have hl' : s.heap.IsTuple a (intItems xs) := by rw [← e]; exact hl
  refine PySem.W.ktm_sumG (I.ok.hd hc) hl' fun h' tk t' hk => ?_
  rw [preSum_eq, List.take_of_length_le (by simp), hn]
  exact ⟨.int _, H, I.kept hk, ⟨_, rfl⟩, q⟩
theorem call_isiN (w : World) (h : X.w = w := by rfl) : CallR X (.builtin "isinstance") (rIsiN w X.K) := by
  subst h
  intro pins s σ H xs us Q I r h
  obtain ⟨a, es, c, u, b, rfl, nd, k, e, q⟩ := h
  obtain ⟨u1, u2, rfl, r1, r2⟩ := vals2 r
  cases (show u1 = Value.ref a from r1)
  have e2 := k.eq r2
  subst e2
  obtain ⟨⟨z, hs, ks, pr, o, en, ep, ho, hx, hdt, he, hn⟩, _⟩ := (show ObjOk X.prog X.w H s.heap a (ndO X.w a es) from nd.rd.ok I.hok)
  exact PySem.W.kia_one PySem.W.kitx_dict I.kIn ⟨o, ho, hx.1⟩ e (fun z => nomatch z) fun tk => ⟨.bl b, H, I.tok tk, rfl, q⟩
theorem call_isiTN (w : World) (h : X.w = w := by rfl) : CallR X (.builtin "isinstance") (rIsiTN w X.K) := by
  subst h
  intro pins s σ H xs us Q I r h
  obtain ⟨a, tp, es, cs, ws, b, rfl, hT, k, nd, e, q⟩ := h
  obtain ⟨u1, u2, rfl, r1, r2⟩ := vals2 r
  cases (show u1 = Value.ref a from r1)
  cases (show u2 = Value.ref tp from r2)
  obtain ⟨_, its, rv, o2, h1, h2, n, h3⟩ := (show ObjOk X.prog X.w H s.heap tp (.tup cs) from I.hok tp _ hT)
  have e3 := ClsV.all k rv
  subst e3
  obtain ⟨oc, od, dt, sl⟩ := o2
  simp only at h2 h3
  subst h2 h3
  obtain ⟨⟨z, hs, ks, pr, o, en, ep, ho, hx, hdt, he, hn⟩, _⟩ := (show ObjOk X.prog X.w H s.heap a (ndO X.w a es) from nd.rd.ok I.hok)
  exact PySem.W.kia_tup PySem.W.kitx_dict I.kIn ⟨o, ho, hx.1⟩ h1 e (fun z => nomatch z) fun tk => ⟨.bl b, H, I.tok tk, rfl, q⟩
theorem call_sortedN {k : Nat} (w : World) (hc : X.calm = true) (hr : Room k X.A) (h : X.w = w := by rfl) : CallR X (.builtin "sorted") (rSortedN w) := by
  subst h
  intro pins s σ H vs us Q I r h
  obtain ⟨d, es, rfl, nd, hal, hso, hde, q⟩ := h
  obtain ⟨u, rfl, rx⟩ := r.one
  cases rx
  obtain ⟨⟨z, hs, ks, pr, o, en, ep, ho, hx, hdt, he, hn⟩, _⟩ := (show ObjOk X.prog X.w H s.heap d (ndO X.w d es) from nd.rd.ok I.hok)
  have l1 : en.size = ks.length := by rw [← Array.length_toList, he, List.length_map]
  have l2 : es.length = ks.length := Paired.length pr
  refine Calls.call_function_entry PyProof.Rows.kind_sorted PyProof.Rows.plain_sorted PyProof.Rows.entry_sorted (PyProof.Rows.args_sorted1 _) ?_
  unfold Builtin.«sorted»
  refine wpAny_bind (m := checkCount "sorted" 1 1 _) (wpAny_pure ?_)
  refine wpAny_bind (PySem.W.kdu_collect (A := X.A.in1) (kdl_raw hs hx hdt) (I.ok.hd hc) ho (by omega) fun h' tk acc hk hacc => ?_)
  have ea := keys_of_items he pr hacc
  have hal' : acc.toList.length = es.length := by rw [ea, List.length_map]
  have I1 : Inv X pins σ H { s with heap := h', toks := tk } := I.kept hk
  refine wpAny_bind (wpAny_newList ?_ (by omega))
  have hoL : (h'.push (seqObj "list" acc.toList.toArray 0)).get? h'.objs.size = some (seqObj "list" acc.toList.toArray 0) := Heap.get?_push_size _ rfl
  show wpAny _ _ _ _ _ { s with heap := h'.push (seqObj "list" acc.toList.toArray 0), toks := tk }
  have I2 : Inv X pins σ H { s with heap := h'.push (seqObj "list" acc.toList.toArray 0), toks := tk } := I1.kept (t' := tk) fun b ob e => Heap.get?_push_of_some _ e
  have en0 : PySem.W.EachIs (fun (v : Value) (e : NE) => v = .ref e.2.1 ∧ e ∈ es) acc.toList es := by
    rw [ea]
    have main : ∀ l : List NE, (∀ e ∈ l, e ∈ es) → PySem.W.EachIs (fun (v : Value) (e : NE) => v = .ref e.2.1 ∧ e ∈ es) (l.map fun e => Value.ref e.2.1) l := by
      intro l
      induction l with
      | nil => intro _; exact .nil
      | cons e l ih => intro hl; exact .cons ⟨rfl, hl e List.mem_cons_self⟩ (ih fun x hx => hl x (List.mem_cons_of_mem _ hx))
    exact main es fun _ h => h
  have er : PySem.W.EachIs (fun (v : Value) (e : NE) => ∃ as, Reads (h'.push (seqObj "list" acc.toList.toArray 0)) v e.1.data as ∧ h'.objs.size ∉ as) acc.toList es := by
    refine en0.mono fun v e ⟨h1, h2⟩ => ?_
    subst h1
    obtain ⟨k1, _⟩ := nd.ks e h2
    obtain ⟨as, ra⟩ := Dp.reads I1 _ _ _ (NKv.dp (K := X.K) _ _ k1) (show RelV (.ref e.2.1) (.ref e.2.1) from rfl)
    refine ⟨as, PyProof.Rows.Reads.keeps (fun b ob e => Heap.get?_push_of_some _ e) ra, fun hm => ?_⟩
    obtain ⟨ob, hob⟩ := PyProof.On.reads_mem_get ra _ hm
    exact absurd (Heap.lt_size hob) (Nat.lt_irrefl _)
  refine wpAny_bind (wpAny_holding (PySem.W.list_sort_data (R := fun (v : Value) (e : NE) => v = .ref e.2.1 ∧ e ∈ es) (enc := fun e : NE => e.1.data) (s := { s with heap := h'.push (seqObj "list" acc.toList.toArray 0), toks := tk }) hoL en0 er hal hso (by omega) (fun b hb => ?_) fun out hlo ho2 => ?_))
  · have := hr.un
    have := hde b hb
    rw [Around.in1_units]
    omega
  obtain ⟨e', he'⟩ := PyProof.Rows.sortedHeap_at (vs := acc.toList) (out := out.toArray) hoL
  refine wpAny_pure ⟨_, rfl, .ref h'.objs.size, upd H h'.objs.size (.lst ((es.mergeSort (PySem.W.dataLe false fun e => e.1.data)).map fun e => .ref e.2.1)), I1.laid (t' := tk) (fun b u e => ?_) (Nat.le_refl _)
    ⟨?_, out, e', ?_, he'⟩, rfl, q _ (I1.hok.fresh (Nat.le_refl _))⟩
  · have hb : b < h'.objs.size := Heap.lt_size e
    rw [PyProof.Rows.sortedHeap_old (Nat.ne_of_lt hb) (by rw [size_push']; exact Nat.lt_succ_of_lt hb)]
    exact Heap.get?_push_of_some _ e
  · rw [List.length_map, List.length_mergeSort]
    exact z
  · have main : ∀ {us : List Value} {l : List NE}, PySem.W.EachIs (fun (v : Value) (e : NE) => v = .ref e.2.1 ∧ e ∈ es) us l → Vals (l.map fun e => V.ref e.2.1) us := by
      intro us l hh
      induction hh with
      | nil => exact .nil
      | cons a _ ih => exact .cons a.1 ih
    exact main ho2
end
end Hy
set_option Elab.async false
set_option linter.all false
set_option maxRecDepth 100000
set_option maxHeartbeats 4000000
namespace Hy
open PySem PySem.Spec PyProof.Rows L2
/-! == of dicts with nested keys (equal ones), != of tuples of such, d.clear(), d != {}, dict(zip(xs, ys)) -/
section
variable {prog : Program} {w : World} {K : Type} [DecidableEq K] {knd : HeapKind prog w K} {A : Around} {E : Value → Shared → Prop} {s : Shared}
theorem samePairsN {nm : String} {a b : Addr} {ka kb : List (K × Addr × Value)} {Q : Bool → Shared → Prop} (hu : knd.room A) (ha : (a == sysModules) = false) (hb : (b == sysModules) = false)
    (da : s.heap.DictOfH knd a ka) (db : s.heap.DictOfH knd b kb) (hl : ka.length = kb.length) (hits : ∀ p ∈ ka, ∃ q, atKey kb p.1 = some q ∧ SeqAt.EqP prog w A s p.2.2 q.2 true) (h : Q true s) :
    wpAny (model prog w) A (Builtin.Dict.samePairs nm a b) Q E s := by
  obtain ⟨oa, es, ep, hoa, _, hda, hea, hia, hna⟩ := da
  obtain ⟨ob, es', ep', hob, _, hdb, heb, hib, hnb⟩ := db
  have hla : es.size = ka.length := size_of_entries hea
  have hlb : es'.size = kb.length := size_of_entries heb
  have hsz : es.size = es'.size := by omega
  unfold Builtin.Dict.samePairs Builtin.Dict.showsAll
  rw [if_neg (show ¬ (a == sysModules) = true by rw [ha]; exact Bool.false_ne_true)]
  rw [if_neg (show ¬ (b == sysModules) = true by rw [hb]; exact Bool.false_ne_true)]
  refine wpAny_bind (wpAny_pure (wpAny_bind (wpAny_pure ?_)))
  refine wpAny_bind (wpAny_dictEntries hoa hda ?_)
  dsimp only
  refine wpAny_bind (wpAny_dictEntries hob hdb ?_)
  rw [if_neg (by rw [hsz]; simp)]
  refine wpAny_bind (wpAny_dictEpoch hoa hda ?_)
  refine wpAny_bind ?_
  rw [Std.Legacy.Range.forIn_eq_forIn_range']
  simp only [Std.Legacy.Range.size, Nat.sub_zero, Nat.add_sub_cancel, Nat.div_one]
  refine wpAny_forIn_list _ (fun rest q s' => s' = s ∧ q = (none, ()) ∧ ∃ i, rest = List.range' i (es.size - i) ∧ i ≤ es.size) _ ?_ ?_ _ _ ⟨rfl, rfl, 0, by simp, Nat.zero_le _⟩
  · rintro x rest q s' ⟨rfl, rfl, i, hr, hi⟩
    have hlt : i < es.size := by
      rcases Nat.lt_or_ge i es.size with h | h
      · exact h
      · rw [Nat.sub_eq_zero_of_le h] at hr; simp at hr
    obtain ⟨rfl, hrest⟩ : x = i ∧ rest = List.range' (i + 1) (es.size - (i + 1)) := by
      have e : es.size - i = (es.size - (i + 1)) + 1 := by omega
      rw [e, List.range'_succ] at hr
      injection hr with h1 h2
      exact ⟨h1, h2⟩
    refine wpAny_bind (wpAny_dictEntries hoa hda ?_)
    have hlt' : x < ka.length := by omega
    have hkv : ka[x]? = some ka[x] := List.getElem?_eq_getElem hlt'
    have hm : ka[x] ∈ ka := List.getElem_mem hlt'
    rw [entry_at hea x, hkv]
    obtain ⟨qv, hq, he⟩ := hits _ hm
    show wpAny _ _ (holding [.ref ka[x].2.1, ka[x].2.2] _ >>= _) _ _ _
    refine wpAny_bind (wpAny_holding (wpAny_bind (wpAny_dictFind_heap hu (hia _ hm) hob hdb heb hib hnb (fun hno => ?_) fun j p hj => ?_)))
    · unfold atKey at hq
      cases hf : kb.find? (fun x_1 => decide (x_1.1 = ka[x].1)) with
      | none => rw [hf] at hq; cases hq
      | some y =>
        have h1 := List.mem_of_find?_eq_some hf
        have h2 : y.1 = ka[x].1 := by simpa using List.find?_some hf
        obtain ⟨j, hj1, hj2⟩ := List.getElem_of_mem h1
        exact absurd (show kb[j]? = some (ka[x].1, y.2) by rw [List.getElem?_eq_getElem hj1, hj2, ← h2]) (hno j y.2)
    · have e1 : p = qv := Option.some.inj ((atKey_of_get hnb hj).symm.trans hq)
      subst e1
      refine wpAny_bind (wpAny_dictEntries hob hdb ?_)
      rw [entry_at heb j, hj]
      refine wpAny_holding (he _ _ ?_)
      show wpAny _ _ (if (!true) = true then _ else _) _ _ _
      rw [if_neg (by decide)]
      refine wpAny_bind (wpAny_dictEpoch hoa hda ?_)
      rw [if_neg (by simp)]
      exact wpAny_pure ⟨rfl, rfl, x + 1, hrest, hlt⟩
  · rintro q s' ⟨rfl, rfl, i, hr, hi⟩
    exact wpAny_pure h
theorem rcN_dicts {a b : Addr} {ka kb : List (K × Addr × Value)} (hr : knd.room A.in1) (ha : (a == sysModules) = false) (hb : (b == sysModules) = false)
    (da : s.heap.DictOfH knd a ka) (db : s.heap.DictOfH knd b kb) (hu : A.units < cLine) (hl : ka.length = kb.length) (hits : ∀ p ∈ ka, ∃ q, atKey kb p.1 = some q ∧ SeqAt.EqP prog w A.in1 s p.2.2 q.2 true) (E Q : Value → Shared → Prop) (h : Q (.bool true) s) :
    wpAny (model prog w) A (richCompare .Eq (.ref a) (.ref b)) Q E s := by
  refine wpAny_richCompare_same_room (op := .Eq) da.typeIs db.typeIs PySem.F.slot_dict_eq (wpAny_call_entry PySem.F.slot_dict_eq da.typeIs PySem.F.entry_dict_eq ?_ (PySem.F.args_dict_eq_2 _ _)) hu
  show wpAny _ _ (Builtin.Dict.dictSlotArgs "__eq__" ⟨[.ref a, .ref b], []⟩ >>= _) _ _ s
  refine wpAny_bind ?_
  unfold Builtin.Dict.dictSlotArgs
  refine wpAny_bind (wpAny_notOrdered_dict da.typeIs ?_)
  show wpAny _ _ (pure (Value.ref a, Value.ref b)) _ _ s
  refine wpAny_pure ?_
  refine wpAny_bind (wpAny_isInstance (T := "dict") db.typeIs PySem.F.sub_dict_dict ?_)
  simp only [Bool.not_true, Bool.false_eq_true, if_false]
  refine wpAny_bind (wpAny_pure (wpAny_bind (wpAny_pure ?_)))
  refine wpAny_bind (samePairsN hr ha hb da db hl hits ?_)
  exact wpAny_pure ⟨_, rfl, (fun x => nomatch x), h⟩
/-- two empty dicts: != -/
theorem rcN_nil {a b : Addr} (hr : knd.room A.in1) (ha : (a == sysModules) = false) (hb : (b == sysModules) = false) (da : s.heap.DictOfH knd a []) (db : s.heap.DictOfH knd b []) (hu : A.units < cLine) (E Q : Value → Shared → Prop) (h : Q (.bool false) s) :
    wpAny (model prog w) A (richCompare .NotEq (.ref a) (.ref b)) Q E s := by
  refine wpAny_richCompare_same_room (op := .NotEq) da.typeIs db.typeIs PySem.F.slot_dict_ne (wpAny_call_entry PySem.F.slot_dict_ne da.typeIs PySem.F.entry_dict_ne ?_ (PySem.F.args_dict_ne_2 _ _)) hu
  show wpAny _ _ (Builtin.Dict.dictSlotArgs "__ne__" ⟨[.ref a, .ref b], []⟩ >>= _) _ _ s
  refine wpAny_bind ?_
  unfold Builtin.Dict.dictSlotArgs
  refine wpAny_bind (wpAny_notOrdered_dict da.typeIs ?_)
  show wpAny _ _ (pure (Value.ref a, Value.ref b)) _ _ s
  refine wpAny_pure ?_
  refine wpAny_bind (wpAny_isInstance (T := "dict") db.typeIs PySem.F.sub_dict_dict ?_)
  simp only [Bool.not_true, Bool.false_eq_true, if_false]
  refine wpAny_bind (wpAny_pure (wpAny_bind (wpAny_pure ?_)))
  refine wpAny_bind (samePairsN hr ha hb da db rfl (fun p hp => (nomatch hp)) ?_)
  exact wpAny_pure ⟨_, rfl, (fun x => nomatch x), h⟩
/-- equal tuples: != -/
theorem tuple_neP (l b : Addr) (items items2 : Array Value) (n n2 : Nat) (dd dd2 : Option Addr) (sl sl2 : Array (Option Value)) :
    MeetsIn prog w (Builtin.«tuple.__ne__» ⟨[.ref l, .ref b], []⟩)
      (fun A R s => s.heap.get? l = some { cls := .type "tuple", dict := dd, data := .seq items n, slots := sl } ∧ s.heap.get? b = some { cls := .type "tuple", dict := dd2, data := .seq items2 n2, slots := sl2 } ∧ items.size = items2.size ∧
        (∀ j (h1 : j < items.size) (h2 : j < items2.size), SeqAt.EqP prog w A.in1 s items[j] items2[j] true) ∧ R (.ok (.ret (.bool false))) s) :=
  .of_wp fun A R s h => by
    obtain ⟨hp, g, d, tk, os⟩ := s; obtain ⟨hl, hb, hz, he, h⟩ := h
    have f2 := AutoSeq1.sub_tuple_tuple
    have hZ : (items.toList.zip items2.toList).length = min items.size items2.size := by simp
    wp_walk using wpAny_loadPart' hl, wpAny_loadPart' hb, wpAny_forIn_list _ (fun rest b s' => b.1 = none ∧ s' = ⟨hp, g, d, tk, os⟩ ∧ ∃ i, rest = (items.toList.zip items2.toList).drop i) _
    case turn =>
      rintro ⟨y, x⟩ rest b s' ⟨hb', rfl, i, hz2⟩
      have hlt : i < (items.toList.zip items2.toList).length := by
        rcases Nat.lt_or_ge i (items.toList.zip items2.toList).length with h' | h'
        · exact h'
        · rw [List.drop_of_length_le h'] at hz2; cases hz2
      have hm : i < min items.size items2.size := hZ ▸ hlt
      have h1 : i < items.size := Nat.lt_of_lt_of_le hm (Nat.min_le_left _ _)
      have h2 : i < items2.size := Nat.lt_of_lt_of_le hm (Nat.min_le_right _ _)
      rw [List.drop_eq_getElem_cons hlt] at hz2
      injection hz2 with hyx hrest
      have hy : y = items[i] := by have := congrArg Prod.fst hyx; simpa using this
      have hx : x = items2[i] := by have := congrArg Prod.snd hyx; simpa using this
      subst hy hx
      refine wpAny_bind (he i h1 h2 _ _ ?_)
      wp_walk
      exact ⟨rfl, rfl, i + 1, hrest⟩
    case fin =>
      rintro ⟨b1, b2⟩ s' ⟨hb', rfl, i, hz2⟩
      simp only at hb'
      subst hb'
      wp_walk
      exact ⟨_, rfl, by simpa [Builtin.Tuple.tupleCompareSizes, bne, hz] using h⟩
    case h =>
      exact ⟨rfl, rfl, 0, rfl⟩
theorem rcNeP_tuples {l b : Addr} {items items2 : Array Value} (hl : s.heap.IsTuple l items) (hb : s.heap.IsTuple b items2) (hz : items.size = items2.size) (hu : A.units < cLine)
    (he : ∀ j (h1 : j < items.size) (h2 : j < items2.size), SeqAt.EqP prog w A.in1 s items[j] items2[j] true) (E Q : Value → Shared → Prop) (h : Q (.bool false) s) : wpAny (model prog w) A (richCompare .NotEq (.ref l) (.ref b)) Q E s := by
  obtain ⟨⟨cls, dd, data, sl⟩, ho, hc, n, hd⟩ := id hl
  obtain ⟨⟨cls2, dd2, data2, sl2⟩, ho2, hc2, n2, hd2⟩ := id hb
  simp only at hc hd hc2 hd2
  subst hc hd hc2 hd2
  exact wpAny_richCompare_same_room (T := "tuple") (op := .NotEq) ⟨_, ho, rfl⟩ ⟨_, ho2, rfl⟩ PySem.F.slot_tuple_ne (call_meetsIn PySem.F.slot_tuple_ne ⟨_, ho, rfl⟩ PySem.F.entry_tuple_ne (PySem.F.args_tuple_ne_2 _ _) (tuple_neP l b items items2 n n2 dd dd2 sl sl2)
    ⟨ho, ho2, hz, he, show Value.bool false ≠ Value.notImplemented ∧ Q (.bool false) s from ⟨(fun x => nomatch x), h⟩⟩) hu
end
/-- two dicts with the same entries, their values the same ints -/
def SameT (es fs : List NE) : Prop := es.length = fs.length ∧ ∀ e ∈ es, ∃ i : Int, e.2.2 = .int i ∧ atN fs e.1 = some (.int i)
/-- equal items: data, or such dicts -/
def EqI (w : World) (K : PySem.W.Frag) (H : Hp) (x y : V) : Prop := (∃ d : PyData, d.plain = true ∧ d.depth ≤ 60 ∧ Dp K H x d ∧ Dp K H y d) ∨ ∃ a b es fs, x = .ref a ∧ y = .ref b ∧ ND w H a es ∧ ND w H b fs ∧ SameT es fs
def rNeT (w : World) (K : PySem.W.Frag) : R2 := fun x y H Q => ∃ a b xs ys, x = .ref a ∧ y = .ref b ∧ SqT K H a xs ∧ SqT K H b ys ∧ Paired (EqI w K H) xs ys ∧ Q (.bl false) H
section
variable {X : Cx} {pins : List (Addr × Obj)} {σ : L2.St} {H : Hp} {s : Shared} {k : Nat}
theorem eqI_run (I : Inv X pins σ H s) (hr : Room k X.A) {A : Around} (hA : A.units ≤ X.A.units + 6) {x y : V} {v u : Value} (h : EqI X.w X.K H x y) (rx : RelV x v) (ry : RelV y u) : SeqAt.EqP X.prog X.w A s v u true := by
  have hun := hr.un
  rcases h with ⟨d, pd, dd, h1, h2⟩ | ⟨a, b, es, fs, rfl, rfl, n1, n2, hl, hs⟩
  · obtain ⟨as, r1⟩ := Dp.reads I d x v h1 rx
    obtain ⟨bs, r2⟩ := Dp.reads I d y u h2 ry
    have q := SeqAt.eqAt_plain d d A s v u as bs r1 r2 pd pd (by omega)
    rw [SeqAt.eqv_refl_plain d pd] at q
    exact q.eqP
  · cases (show v = Value.ref a from rx)
    cases (show u = Value.ref b from ry)
    by_cases e : a = b
    · subst e
      exact (SeqAt.EqAt.same _).eqP
    refine SeqAt.eqP_refs e fun E Q q => ?_
    obtain ⟨_, ya, xs, ra, da⟩ := nd_of I.hok n1
    obtain ⟨_, yb, ys, rb, db⟩ := nd_of I.hok n2
    refine rcN_dicts (knd := nestedKind X.prog X.w) (show A.in1.units + 8 < cLine by rw [Around.in1_units]; omega) ya yb da db (by omega) (by rw [← ra.length, ← rb.length]; exact hl) (fun p hp => ?_) E Q q
    obtain ⟨j, hj1, hj2⟩ := List.getElem_of_mem hp
    have hj3 : j < es.length := by rw [ra.length]; exact hj1
    obtain ⟨p2, hp2, e1, e2, e3⟩ := paired_get ra (List.getElem?_eq_getElem hj3)
    rw [List.getElem?_eq_getElem hj1, hj2] at hp2
    cases hp2
    obtain ⟨i, hi1, hi2⟩ := hs _ (List.getElem_mem hj3)
    have rr := rb.val p.1
    rw [← e1, hi2] at rr
    obtain ⟨w', hw, rw'⟩ := RelO.some_of rr
    obtain ⟨q2, hq2, e4⟩ := Option.map_eq_some_iff.mp hw
    refine ⟨q2, by rw [← e1]; exact hq2, ?_⟩
    rw [e4]
    rw [hi1] at e3
    obtain ⟨t1, ht1⟩ := e3
    obtain ⟨t2, ht2⟩ := rw'
    rw [ht1, ht2]
    have q3 := SeqAt.EqAt.int_int (A := A.in1) (s := s) i t1 i t2
    rw [beq_self_eq_true] at q3
    exact q3.eqP
theorem op_neT (w : World) (hr : Room k X.A) (h : X.w = w := by rfl) : OpR X (compareOp .NotEq) (rNeT w X.K) := by
  subst h
  intro pins s σ H x y v u Q I rx ry h
  obtain ⟨a, b, xs, ys, rfl, rfl, ha, hb, hp, q⟩ := h
  cases (show v = Value.ref a from rx)
  cases (show u = Value.ref b from ry)
  obtain ⟨us, r1, p1, _⟩ := I.tuple ha
  obtain ⟨ws, r2, p2, _⟩ := I.tuple hb
  have hun := hr.un
  have hl : us.length = ws.length := by rw [← r1.length, ← r2.length]; exact Paired.length hp
  refine rcNeP_tuples (prog := X.prog) (w := X.w) p1 p2 (by simpa using hl) (by omega) (fun j h1 h2 => ?_) _ _ ⟨.bl false, H, I, rfl, q⟩
  have k := items_run (F := EqI X.w X.K H) (A := X.A.in1) (s := s) (fun x y v u e rx ry => eqI_run I hr (by rw [Around.in1_units]; omega) e rx ry) hp r1 r2 j (by simpa using h1) (by simpa using h2)
  simpa using k
end
/-! ### d.clear() -/
def tNClear (w : World) (td : TE) : TE := fun σ H Q => td σ H fun x H1 => ∃ a es, x = .ref a ∧ H1 a = some (ndO w a es) ∧ Q .non (upd H1 a (ndO w a []))
theorem pe_nclear {X : Cx} {o : Expr} {td : TE} {apos cpos : Pos} (w : World) (ho : PE X o td) (hbase : attributeBase o "clear" X.env (eval o X.env) = eval o X.env := by rfl) (hline : (apos.endLine == cpos.line) = true := by rfl) (h : X.w = w := by rfl) :
    PE X (.Call (.Attribute o "clear" apos) [] [] cpos) (tNClear w td) := by
  subst h
  refine ⟨fun pins s σ H Q I h => ?_⟩
  refine wpAny_Call_method0_late hbase hline (thn (ho.run pins s σ H _ I h) fun v s1 ⟨x, H1, I1, rx, a, es, ex, ha, q1⟩ => ?_)
  subst ex
  cases (show v = Value.ref a from rx)
  obtain ⟨⟨z, hs, ks, pr, ob, en, ep, hob, hx, hdt, he, hn⟩, _⟩ := (show ObjOk X.prog X.w H1 s1.heap a (ndO X.w a es) from I1.hok a _ ha)
  have l1 : en.size = ks.length := by rw [← Array.length_toList, he, List.length_map]
  have l2 : es.length = ks.length := Paired.length pr
  refine ⟨"dict", "dict.clear", PySem.F.plainAttrs_dict, PySem.F.slot_dict_clear, PySem.F.type_dict_clear, ⟨ob, hob, hx.1⟩, fun b e => ?_, Calls.callWith_builtin rfl (PySem.evalArgs_none ?_)⟩
  · cases e
    exact ⟨ob, hob, hx.2.1⟩
  · refine call_meetsIn PySem.F.slot_dict_clear ⟨ob, hob, hx.1⟩ PySem.F.entry_dict_clear (PySem.F.args_dict_clear_1 _) (meets_dict_clear_raw a) ⟨en, ep, ⟨ob, hob, hx, hdt⟩, by omega, fun h' hr' hsb => ?_⟩
    obtain ⟨o2, g1, g2, g3⟩ := hr'
    refine ⟨.non, _, d_write (t' := s1.toks) I1 (by rw [ha]; exact True.intro) hsb ⟨o2, g1⟩ (nd_mk (P := X.prog) (Nat.zero_le _) hs .nil ⟨o2, _, _, g1, g2, g3, rfl, (fun x hx => (nomatch hx)), List.nodup_nil⟩), rfl, q1⟩
/-! ### d != {} of an empty d -/
def tNeNew (w : World) (td : TE) : TE := fun σ H Q => td σ H fun x H1 => ∃ a, x = .ref a ∧ ND w H1 a [] ∧ Q (.bl false) H1
theorem pc_neNew {X : Cx} {o : Expr} {td : TE} {p2 : Pos} {k : Nat} (w : World) (hr : Room k X.A) (ho : PE X o td) (h : X.w = w := by rfl) : PC X .NotEq o (.Dict [] [] p2) (tNeNew w td) := by
  subst h
  refine ⟨fun pins s σ H Q I h => ?_⟩
  have hun := hr.un
  refine thn (ho.run pins s σ H _ I h) fun v s1 ⟨x, H1, I1, rx, a, ex, nd, q1⟩ => ?_
  subst ex
  cases (show v = Value.ref a from rx)
  refine wpAny_Dict_empty ?_
  have I2 : Inv X pins σ H1 { s1 with heap := s1.heap.push { cls := .type "dict", data := .dict #[] } } := I1.kept (t' := s1.toks) fun b u z => Heap.get?_push_of_some _ z
  obtain ⟨_, ya, xs, ra, da⟩ := nd_of I2.hok nd
  cases ra
  exact rcN_nil (knd := nestedKind X.prog X.w) (show X.A.in1.units + 8 < cLine by rw [Around.in1_units]; omega) ya (beq_eq_false_iff_ne.mpr (Ne.symm (Nat.ne_of_lt I1.big))) da (Heap.DictOfH.new s1.heap) (by omega) _ _ ⟨.bl false, H1, I2, rfl, q1⟩
/-! ### dict(zip(xs, ys)) of unlike keys -/
def foldN (acc es : List NE) : List NE := es.foldl (fun l e => putN l e.1 e.2.1 e.2.2) acc
theorem NX.fold : ∀ {es acc : List NE} {xs ys : List (NestedKey × Addr × Value)}, NX acc ys → NX es xs → NX (foldN acc es) (storedAllH ys xs) := by
  intro es acc xs ys h r
  induction r generalizing acc ys with
  | nil => exact h
  | @cons p q ps qs a _ ih =>
    obtain ⟨a1, a2, a3⟩ := a
    have e : NX (putN acc p.1 p.2.1 p.2.2) (storedH ys q.1 q.2.1 q.2.2) := by
      rw [← a1, ← a2]
      exact NX.put h p.1 a3
    exact ih e
theorem NKeys.fold {H : Hp} : ∀ {es acc : List NE}, NKeys H acc → NKeys H es → NKeys H (foldN acc es) := by
  intro es
  induction es with
  | nil => intro acc h _; exact h
  | cons e es ih =>
    intro acc h g
    exact ih (h.put (g e List.mem_cons_self).1 (g e List.mem_cons_self).2) fun x hx => g x (List.mem_cons_of_mem _ hx)
theorem foldN_len : ∀ (es acc : List NE), (foldN acc es).length ≤ acc.length + es.length
  | [], acc => Nat.le_refl _
  | e :: es, acc => by
    have h1 := foldN_len es (putN acc e.1 e.2.1 e.2.2)
    have h2 := length_putN acc e.1 e.2.1 e.2.2
    show (foldN (putN acc e.1 e.2.1 e.2.2) es).length ≤ _
    rw [List.length_cons]
    omega
theorem atN_none {k : NestedKey} : ∀ {es : List NE}, k ∉ es.map (·.1) → atN es k = none
  | [], _ => rfl
  | e :: es, h => by
    rw [List.map_cons, List.mem_cons, not_or] at h
    rw [atN_neg (Ne.symm h.1)]
    exact atN_none h.2
theorem foldN_new : ∀ (es acc : List NE), ((acc ++ es).map (·.1)).Nodup → foldN acc es = acc ++ es
  | [], acc, _ => by simp [foldN]
  | e :: es, acc, h => by
    have hn : e.1 ∉ acc.map (·.1) := by
      rw [List.map_append, List.nodup_append] at h
      exact fun hm => h.2.2 _ hm e.1 (by simp) rfl
    show foldN (putN acc e.1 e.2.1 e.2.2) es = _
    rw [putN_new _ _ (atN_none hn), foldN_new es _ (by simpa using h)]
    simp
def tDictZip (w : World) (K : PySem.W.Frag) (ta : TA) : TE := fun σ H Q => ta σ H fun vs H1 => ∃ (a b : Addr) (es : List NE), vs = [V.ref a, V.ref b] ∧ SqL K H1 a (es.map fun e => .ref e.2.1) ∧ SqL K H1 b (es.map fun e => e.2.2) ∧ NKeys H1 es ∧
  ∀ p, H1 p = none → Q (.ref p) (upd H1 p (ndO w p (foldN [] es)))
theorem pe_dictZip {X : Cx} {e e2 : Expr} {ta : TA} {p p2 pos pos2 : Pos} {k : Nat} (w : World) (hr : Room k X.A) (hc : X.calm = true) (hm : X.mg "dict" = none) (hmz : X.mg "zip" = none) (ha : PA X [e, e2] ta) (hg : Gl X "dict" := by rfl) (hgz : Gl X "zip" := by rfl)
    (hs : starEach [e, e2] X.env = (false, eval e X.env) :: starEach [e2] X.env := by rfl) (hpl : (backTo pos2 (starEach [e2] X.env)).any (·.1) = false := by rfl)
    (hs1 : starEach [Expr.Call (.Name "zip" p2) [e, e2] [] pos2] X.env = [(false, eval (Expr.Call (.Name "zip" p2) [e, e2] [] pos2) X.env)] := by rfl)
    (hb1 : backTo pos (starEach [Expr.Call (.Name "zip" p2) [e, e2] [] pos2] X.env) = [(false, eval (Expr.Call (.Name "zip" p2) [e, e2] [] pos2) X.env)] := by rfl) (h : X.w = w := by rfl) :
    PE X (.Call (.Name "dict" p) [.Call (.Name "zip" p2) [e, e2] [] pos2] [] pos) (tDictZip w X.K ta) := by
  subst h
  refine ⟨fun pins s σ H Q I h => ?_⟩
  have hun := hr.un
  refine Call_ (ld_blt I hg hm (show bootBuiltins "dict" = some (.type "dict") by decide +kernel) (PyProof.Rows.callWith_type1 ?_ hs1 rfl))
  rw [hb1]
  refine Calls.spliced_cons (Call_ (ld_blt I hgz hmz PyProof.Rows.boot_zip (PyProof.Rows.callWith_type1 (thn (ha.run pos2 pins s σ H _ I h) fun us s1 ⟨vs, H1, I1, r1, q1⟩ => ?_) hs hpl)))
  obtain ⟨a, b, es, rfl, hqx, hqy, ks, q⟩ := q1
  cases r1 with
  | cons r rr =>
    cases rr with
    | cons r' rr =>
      cases rr
      cases r
      cases r'
      obtain ⟨its, rv, p1, hz1⟩ := I1.list hqx
      obtain ⟨its2, rv2, p2', _⟩ := I1.list hqy
      have la : a < s1.heap.objs.size := p1.lt
      have lb : b < s1.heap.objs.size := p2'.lt
      refine call_zip_2 p1.isList p2'.isList fun h' hz hTI hTO h1 h2 hsz hk => Calls.spliced_nil ?_
      have I2 : Inv X pins σ H1 { s1 with heap := h' } := I1.kept (t' := s1.toks) hk
      have l1 : es.length = its.length := by have := rv.length; rw [List.length_map] at this; exact this
      have l2 : es.length = its2.length := by have := rv2.length; rw [List.length_map] at this; exact this
      have hx : ∃ xs : List (NestedKey × Addr × Value), NX es xs ∧ xs.length = es.length ∧ ∀ (i : Nat) (key v : Value), its.toArray[i]? = some key → its2.toArray[i]? = some v → ∃ (k : NestedKey) (b : Addr), xs[i]? = some (k, b, v) ∧ key = Value.ref b := by
        have main : ∀ (es : List NE) (its its2 : List Value), Vals (es.map fun e => V.ref e.2.1) its → Vals (es.map fun e => e.2.2) its2 → ∃ xs : List (NestedKey × Addr × Value), NX es xs ∧ xs.length = es.length ∧
            ∀ (i : Nat) (key v : Value), its[i]? = some key → its2[i]? = some v → ∃ (k : NestedKey) (b : Addr), xs[i]? = some (k, b, v) ∧ key = Value.ref b := by
          intro es
          induction es with
          | nil =>
            intro its its2 h1 h2
            cases h1
            exact ⟨[], .nil, rfl, fun i key v h1 _ => by simp at h1⟩
          | cons e es ih =>
            intro its its2 h1 h2
            rw [List.map_cons] at h1 h2
            cases h1 with
            | cons a1 b1 =>
              cases h2 with
              | @cons _ u2 _ _ a2 b2 =>
                obtain ⟨xs, n1, n2, n3⟩ := ih _ _ b1 b2
                cases a1
                refine ⟨(e.1, e.2.1, u2) :: xs, .cons ⟨rfl, rfl, a2⟩ n1, by simp [n2], fun i key v h1 h2 => ?_⟩
                cases i with
                | zero =>
                  simp only [List.getElem?_cons_zero, Option.some.injEq] at h1 h2
                  subst h1 h2
                  exact ⟨_, _, rfl, rfl⟩
                | succ i =>
                  simp only [List.getElem?_cons_succ] at h1 h2 ⊢
                  exact n3 i key v h1 h2
        obtain ⟨xs, n1, n2, n3⟩ := main es its its2 rv rv2
        exact ⟨xs, n1, n2, fun i key v h1 h2 => n3 i key v (by simpa using h1) (by simpa using h2)⟩
      obtain ⟨xs, nx, nl, nr⟩ := hx
      have hkeys : xs.map (·.1) = es.map (·.1) := by
        have main : ∀ {es : List NE} {xs : List (NestedKey × Addr × Value)}, NX es xs → xs.map (·.1) = es.map (·.1) := by
          intro es xs n
          induction n with
          | nil => rfl
          | cons h _ ih => rw [List.map_cons, List.map_cons, ih, h.1]
        exact main nx
      have his : ∀ (h2 : Heap), HOk X.prog X.w H1 h2 → ∀ x ∈ xs, (nestedKind X.prog X.w).is h2 x.1 x.2.1 := fun h2 ok x hx => by
        obtain ⟨e, he, e1, e2⟩ := nx.keys x hx
        obtain ⟨k1, k2⟩ := ks e he
        rw [e1, e2] at k1
        rw [e1] at k2
        exact ⟨NKv.is ok _ _ _ k1 rfl, k2⟩
      refine call_dict_pairsH (knd := nestedKind X.prog X.w) (ps := xs) (PairArg.zip (s1.heap.objs.size + 4) (s1.heap.objs.size + 2) (s1.heap.objs.size + 3) s1.heap.objs.size (s1.heap.objs.size + 1) a b (PySem.W.ktu_apart s1.heap.objs.size a b la lb) its.toArray its2.toArray) (I.ok.hd hc)
        (show X.A.in1.in1.units + 8 < cLine by rw [Around.in1_units, Around.in1_units]; omega) ⟨hz, hTI, ⟨_, _, hTO⟩, h1, h2, p1.isList.at (fun o e => hk _ o e), p2'.isList.at (fun o e => hk _ o e)⟩
        ⟨by rw [nl, List.size_toArray, List.size_toArray]; omega, fun i key v hr => nr i key v hr.1 hr.2⟩ (fun h2 hk2 x hx => ?_) (by rw [List.size_toArray, List.size_toArray]; rw [List.length_map] at hz1; omega) fun h2 tk hd2 hk2 => ?_
      · obtain ⟨e, he, e1, e2⟩ := nx.keys x hx
        obtain ⟨k1, k2⟩ := ks e he
        rw [e1, e2] at k1
        rw [e1] at k2
        refine ⟨NestedIs.at (fun c o vs n hc _ => hk2 c o (Nat.ne_of_lt (Heap.lt_size (hk _ _ hc))) (fun hm => ?_) (hk _ _ hc)) _ _ (NKv.is I1.hok _ _ _ k1 rfl), k2⟩
        have hlt : c < s1.heap.objs.size := Heap.lt_size hc
        simp only [List.mem_cons, List.not_mem_nil, or_false] at hm
        rcases hm with z | z | z | z <;> (rw [z] at hlt; first | exact absurd hlt (Nat.lt_irrefl _) | exact absurd hlt (Nat.not_lt.mpr (Nat.le_add_right _ _)))
      · have hle : s1.heap.objs.size ≤ h'.objs.size := by omega
        have hfl := foldN_len es []
        refine ⟨.ref h'.objs.size, _, I1.laid (t' := tk) (o := ndO X.w h'.objs.size (foldN [] es)) (fun c o hc => hk2 c o (fun hm => ?_) (hk _ _ hc)) hle (nd_mk (P := X.prog) (by rw [List.length_map] at hz1; simp at hfl; omega) (beq_eq_false_iff_ne.mpr (fun z => ?_)) (NX.fold .nil nx) hd2), rfl, q _ (I1.hok.fresh hle)⟩
        · have hlt : c < s1.heap.objs.size := Heap.lt_size hc
          simp only [List.mem_cons, List.not_mem_nil, or_false] at hm
          rcases hm with z | z | z | z <;> (rw [z] at hlt; first | exact absurd hlt (Nat.lt_irrefl _) | exact absurd hlt (Nat.not_lt.mpr (Nat.le_add_right _ _)))
        · rw [z] at hle
          exact absurd I1.big (Nat.not_lt.mpr hle)
end Hy
set_option Elab.async false
set_option linter.all false
set_option maxRecDepth 100000
set_option maxHeartbeats 4000000
namespace Hy
open PySem L2
/-! plain judges -/
def rowsL (m : Nat) : Nat → List (List Nat)
  | 0 => [[]]
  | s + 1 => (rowsL m s).flatMap fun r => (List.range m).map fun c => r ++ [c]
theorem flatMap_len {α β : Type} (f : α → List β) (n : Nat) : ∀ l : List α, (∀ x ∈ l, (f x).length = n) → (l.flatMap f).length = l.length * n
  | [], _ => by simp
  | x :: l, h => by
    rw [List.flatMap_cons, List.length_append, flatMap_len f n l (fun y hy => h y (List.mem_cons_of_mem _ hy)), h x List.mem_cons_self, List.length_cons, Nat.succ_mul, Nat.add_comm]
theorem rowsL_len (m : Nat) : ∀ s, (rowsL m s).length = m ^ s
  | 0 => rfl
  | s + 1 => by
    rw [rowsL, flatMap_len _ m _ (fun x _ => by simp), rowsL_len m s, Nat.pow_succ]
theorem rowsL_mem {m : Nat} : ∀ {s : Nat} {r : List Nat}, r ∈ rowsL m s ↔ r.length = s ∧ ∀ c ∈ r, c < m
  | 0, r => by
    rw [rowsL, List.mem_singleton]
    constructor
    · rintro rfl
      exact ⟨rfl, fun c hc => nomatch hc⟩
    · rintro ⟨h, _⟩
      exact List.length_eq_zero_iff.mp h
  | s + 1, r => by
    rw [rowsL, List.mem_flatMap]
    constructor
    · rintro ⟨q, hq, hr⟩
      obtain ⟨c, hc, rfl⟩ := List.mem_map.mp hr
      obtain ⟨h1, h2⟩ := rowsL_mem.mp hq
      refine ⟨by rw [List.length_append, h1]; rfl, fun d hd => ?_⟩
      rcases List.mem_append.mp hd with hd | hd
      · exact h2 d hd
      · rw [List.mem_singleton.mp hd]
        exact List.mem_range.mp hc
    · rintro ⟨h1, h2⟩
      rcases List.eq_nil_or_concat r with e | ⟨q, c, e⟩
      · rw [e] at h1
        cases h1
      · rw [List.concat_eq_append] at e
        subst e
        refine ⟨q, rowsL_mem.mpr ⟨by simpa using h1, fun d hd => h2 d (List.mem_append_left _ hd)⟩, List.mem_map.mpr ⟨c, List.mem_range.mpr (h2 c (by simp)), rfl⟩⟩
theorem nodup_flatMap' {α β : Type} (f : α → List β) : ∀ l : List α, l.Nodup → (∀ x ∈ l, (f x).Nodup) → (∀ x ∈ l, ∀ y ∈ l, x ≠ y → ∀ z ∈ f x, z ∉ f y) → (l.flatMap f).Nodup
  | [], _, _, _ => List.nodup_nil
  | x :: l, hn, h1, h2 => by
    rw [List.flatMap_cons, List.nodup_append]
    have hx := List.nodup_cons.mp hn
    refine ⟨h1 x List.mem_cons_self, nodup_flatMap' f l hx.2 (fun y hy => h1 y (List.mem_cons_of_mem _ hy)) (fun y hy z hz => h2 y (List.mem_cons_of_mem _ hy) z (List.mem_cons_of_mem _ hz)), fun a ha b hb e => ?_⟩
    obtain ⟨y, hy, hb⟩ := List.mem_flatMap.mp hb
    exact h2 x List.mem_cons_self y (List.mem_cons_of_mem _ hy) (fun z => hx.1 (z ▸ hy)) a ha (e ▸ hb)
theorem nodup_map' {α β : Type} {f : α → β} (hf : ∀ a b, f a = f b → a = b) {l : List α} (h : l.Nodup) : (l.map f).Nodup := by
  induction l with
  | nil => exact List.nodup_nil
  | cons x l ih =>
    obtain ⟨h1, h2⟩ := List.nodup_cons.mp h
    rw [List.map_cons, List.nodup_cons]
    refine ⟨fun hm => ?_, ih h2⟩
    obtain ⟨y, hy, e⟩ := List.mem_map.mp hm
    exact h1 (hf _ _ e ▸ hy)
theorem snoc_inj {α : Type} {a b : List α} {x y : α} (h : a ++ [x] = b ++ [y]) : a = b ∧ x = y := by
  have := List.append_inj' h rfl
  exact ⟨this.1, by simpa using this.2⟩
theorem rowsL_nodup (m : Nat) : ∀ s, (rowsL m s).Nodup
  | 0 => by rw [rowsL]; simp
  | s + 1 => by
    rw [rowsL]
    refine nodup_flatMap' _ _ (rowsL_nodup m s) (fun x _ => nodup_map' (fun a b e => (snoc_inj e).2) List.nodup_range) fun x _ y _ hne z hz hz2 => ?_
    obtain ⟨c, _, rfl⟩ := List.mem_map.mp hz
    obtain ⟨d, _, e⟩ := List.mem_map.mp hz2
    exact hne (snoc_inj e).1.symm
def keysL (ls : List Nat) (m s : Nat) : List (Nat × List Nat) := ls.flatMap fun c => (rowsL m s).map fun r => (c, r)
theorem keysL_len (ls : List Nat) (m s : Nat) : (keysL ls m s).length = ls.length * m ^ s := by
  rw [keysL, flatMap_len _ (m ^ s) _ (fun x _ => by rw [List.length_map, rowsL_len])]
theorem keysL_nodup {ls : List Nat} (h : ls.Nodup) (m s : Nat) : (keysL ls m s).Nodup := by
  refine nodup_flatMap' _ _ h (fun x _ => nodup_map' (fun a b e => (Prod.mk.inj e).2) (rowsL_nodup m s)) fun x _ y _ hne z hz hz2 => ?_
  obtain ⟨c, _, rfl⟩ := List.mem_map.mp hz
  obtain ⟨d, _, e⟩ := List.mem_map.mp hz2
  exact hne (Prod.mk.inj e).1.symm
theorem keysL_mem {ls : List Nat} {m s : Nat} {p : Nat × List Nat} : p ∈ keysL ls m s ↔ p.1 ∈ ls ∧ p.2 ∈ rowsL m s := by
  unfold keysL
  rw [List.mem_flatMap]
  constructor
  · rintro ⟨c, hc, h⟩
    obtain ⟨r, hr, rfl⟩ := List.mem_map.mp h
    exact ⟨hc, hr⟩
  · rintro ⟨h1, h2⟩
    exact ⟨p.1, h1, List.mem_map.mpr ⟨p.2, h2, rfl⟩⟩
/-- a row, a key, as the dict's keys -/
def kR (r : List Nat) : NestedKey := .tup (r.map fun n : Nat => .num (n : Int))
def kJ (p : Nat × List Nat) : NestedKey := .tup [.text ⟨#[p.1]⟩, kR p.2]
theorem nums_inj : ∀ {a b : List Nat}, (a.map fun n : Nat => NestedKey.num (n : Int)) = (b.map fun n : Nat => NestedKey.num (n : Int)) → a = b
  | [], [], _ => rfl
  | [], _ :: _, h => nomatch h
  | _ :: _, [], h => nomatch h
  | x :: a, y :: b, h => by
    rw [List.map_cons, List.map_cons] at h
    injection h with e1 e2
    have e3 : (x : Int) = (y : Int) := NestedKey.num.inj e1
    rw [nums_inj e2, show x = y by omega]
theorem kR_inj {a b : List Nat} (h : kR a = kR b) : a = b := nums_inj (NestedKey.tup.inj h)
theorem kJ_inj {p q : Nat × List Nat} (h : kJ p = kJ q) : p = q := by
  have h' := NestedKey.tup.inj h
  injection h' with e1 e2
  injection e2 with e2 _
  have e3 := NestedKey.text.inj e1
  have e4 : p.1 = q.1 := by
    have := congrArg (fun s : Str => s.cps.toList) e3
    simpa using this
  exact Prod.ext e4 (kR_inj e2)
theorem nums_depth : ∀ r : List Nat, NestedKey.depthAll (r.map fun n : Nat => NestedKey.num (n : Int)) = 0
  | [] => rfl
  | x :: r => by rw [List.map_cons, NestedKey.depthAll, NestedKey.depth, nums_depth r]; rfl
theorem kR_depth (r : List Nat) : (kR r).depth = 1 := by
  rw [kR, NestedKey.depth, nums_depth]
theorem kJ_depth (p : Nat × List Nat) : (kJ p).depth = 2 := by
  rw [kJ, NestedKey.depth, NestedKey.depthAll, NestedKey.depthAll, NestedKey.depthAll, kR_depth, NestedKey.depth]
  rfl
/-! rising lists -/
def riseB : List Nat → Bool
  | a :: b :: r => decide (a < b) && riseB (b :: r)
  | _ => true
theorem riseB_pair : ∀ {l : List Nat}, riseB l = true → l.Pairwise (· < ·)
  | [], _ => .nil
  | [a], _ => by simp
  | a :: b :: r, h => by
    rw [riseB, Bool.and_eq_true, decide_eq_true_eq] at h
    have ih := riseB_pair h.2
    refine List.pairwise_cons.mpr ⟨fun x hx => ?_, ih⟩
    rcases List.mem_cons.mp hx with rfl | hx
    · exact h.1
    · exact Nat.lt_trans h.1 ((List.pairwise_cons.mp ih).1 x hx)
theorem pair_riseB : ∀ {l : List Nat}, l.Pairwise (· < ·) → riseB l = true
  | [], _ => rfl
  | [a], _ => rfl
  | a :: b :: r, h => by
    obtain ⟨h1, h2⟩ := List.pairwise_cons.mp h
    rw [riseB, Bool.and_eq_true, decide_eq_true_eq]
    exact ⟨h1 b List.mem_cons_self, pair_riseB h2⟩
theorem riseB_nodup {l : List Nat} (h : riseB l = true) : l.Nodup := (riseB_pair h).imp fun h => Nat.ne_of_lt h
/-- as the code asks: no place whose item is not above the one ahead -/
theorem riseB_at : ∀ l : List Nat, riseB l = (List.range (l.length - 1)).all fun i => decide ((l[i]?).getD 0 < (l[i + 1]?).getD 0)
  | [] => rfl
  | [a] => rfl
  | a :: b :: r => by
    rw [riseB, riseB_at (b :: r)]
    have e : (a :: b :: r).length - 1 = ((b :: r).length - 1) + 1 := by simp
    rw [e, List.range_succ_eq_map, List.all_cons, List.all_map]
    rfl
/-! judges -/
structure Jd where
  ls : List Nat
  st : Nat
  few : Nat
  turn : Nat
  tb : List Nat
  gd : List Nat
def Jd.m (J : Jd) : Nat := J.few + J.turn
def Jd.keys (J : Jd) : List (Nat × List Nat) := keysL J.ls J.m J.st
structure Jd.Ok (J : Jd) : Prop where
  ls1 : J.ls ≠ []
  lsL : ∀ c ∈ J.ls, isL c = true
  lsR : riseB J.ls = true
  st1 : 1 ≤ J.st
  st6 : J.st ≤ 6
  few4 : J.few ≤ 4
  turn1 : 1 ≤ J.turn
  turn4 : J.turn ≤ 4
  tbl : J.tb.length = J.ls.length * J.m ^ J.st
  size : J.tb.length ≤ 600
  tbv : ∀ v ∈ J.tb, v < J.st
  gdv : ∀ g ∈ J.gd, g < J.st
  gdR : riseB J.gd = true
theorem Jd.Ok.nodup {J : Jd} (h : J.Ok) : J.ls.Nodup := riseB_nodup h.lsR
theorem Jd.Ok.klen {J : Jd} (h : J.Ok) : J.keys.length = J.tb.length := by rw [Jd.keys, keysL_len, h.tbl]
theorem Jd.Ok.knodup {J : Jd} (h : J.Ok) : J.keys.Nodup := keysL_nodup h.nodup _ _
/-- its table: keys and values in order -/
def Jd.tab (J : Jd) : List ((Nat × List Nat) × Nat) := J.keys.zip J.tb
/-- words of its writing -/
def dig (n : Nat) : Nat := 48 + n
def goodW (g : List Nat) : Str := if g = [] then txS [45] else Txt.join (txS [44]) (g.map fun n => txS [dig n])
def Jd.words (J : Jd) : List Str := [txS J.ls, txS [dig J.st], txS [dig J.few], txS [dig J.turn], goodW J.gd, txS (J.tb.map dig)]
def Jd.text (J : Jd) : Str := Txt.join (txS [32]) J.words
/-! on the heap -/
/-- the dict's entries are those of the table -/
def TabP (es : List NE) (J : Jd) : Prop := (es.map fun e => (e.1, e.2.2)).Perm (J.tab.map fun p => (kJ p.1, V.int (p.2 : Nat)))
def TabE (es : List NE) (J : Jd) : Prop := (es.map fun e => (e.1, e.2.2)) = (J.tab.map fun p => (kJ p.1, V.int (p.2 : Nat)))
theorem TabE.p {es : List NE} {J : Jd} (h : TabE es J) : TabP es J := by rw [TabP, h]
theorem atN_of_mem {k : NestedKey} {v : V} : ∀ {es : List NE}, (es.map (·.1)).Nodup → (k, v) ∈ (es.map fun e => (e.1, e.2.2)) → atN es k = some v
  | [], _, h => nomatch h
  | e :: es, hn, h => by
    rw [List.map_cons, List.nodup_cons] at hn
    rw [List.map_cons] at h
    rcases List.mem_cons.mp h with h | h
    · obtain ⟨h1, h2⟩ := Prod.mk.inj h
      rw [atN_pos h1.symm, h2]
    · have hk : ¬ e.1 = k := fun z => by
        obtain ⟨x, hx, e2⟩ := List.mem_map.mp h
        exact hn.1 (List.mem_map.mpr ⟨x, hx, by rw [(Prod.mk.inj e2).1, z]⟩)
      rw [atN_neg hk]
      exact atN_of_mem hn.2 h
theorem TabP.keys {es : List NE} {J : Jd} (h : TabP es J) : (es.map (·.1)).Perm (J.tab.map fun p => kJ p.1) := by
  have q := h.map Prod.fst
  rw [List.map_map, List.map_map] at q
  exact q
theorem zip_fst {α β : Type} : ∀ (a : List α) (b : List β), a.length = b.length → (a.zip b).map (·.1) = a
  | [], _, _ => by simp
  | x :: a, [], h => by simp at h
  | x :: a, y :: b, h => by
    rw [List.zip_cons_cons, List.map_cons, zip_fst a b (by simpa using h)]
theorem zip_snd {α β : Type} : ∀ (a : List α) (b : List β), a.length = b.length → (a.zip b).map (·.2) = b
  | [], [], _ => by simp
  | [], y :: b, h => by simp at h
  | x :: a, [], h => by simp at h
  | x :: a, y :: b, h => by
    rw [List.zip_cons_cons, List.map_cons, zip_snd a b (by simpa using h)]
theorem tab_keys {J : Jd} (h : J.Ok) : (J.tab.map fun p => kJ p.1) = J.keys.map kJ := by
  have e := zip_fst J.keys J.tb h.klen
  calc (J.tab.map fun p => kJ p.1) = (J.tab.map (·.1)).map kJ := by rw [List.map_map]; rfl
    _ = _ := by rw [Jd.tab, e]
theorem TabP.nodup {es : List NE} {J : Jd} (h : TabP es J) (ok : J.Ok) : (es.map (·.1)).Nodup := by
  refine h.keys.nodup_iff.mpr ?_
  rw [tab_keys ok]
  exact nodup_map' (fun _ _ => kJ_inj) ok.knodup
theorem TabP.at {es : List NE} {J : Jd} (h : TabP es J) (ok : J.Ok) {p : (Nat × List Nat) × Nat} (hp : p ∈ J.tab) : atN es (kJ p.1) = some (.int (p.2 : Nat)) :=
  atN_of_mem (h.nodup ok) (h.mem_iff.mpr (List.mem_map.mpr ⟨p, hp, rfl⟩))
theorem TabP.len {es : List NE} {J : Jd} (h : TabP es J) (ok : J.Ok) : es.length = J.tb.length := by
  have := h.length_eq
  rw [List.length_map, List.length_map, Jd.tab, List.length_zip, ok.klen, Nat.min_self] at this
  exact this
theorem TabP.same {es fs : List NE} {J : Jd} (h : TabP es J) (g : TabP fs J) (ok : J.Ok) : Hy.SameT es fs := by
  refine ⟨by rw [h.len ok, g.len ok], fun e he => ?_⟩
  have hm := h.mem_iff.mp (List.mem_map.mpr ⟨e, he, rfl⟩)
  obtain ⟨p, hp, e2⟩ := List.mem_map.mp hm
  obtain ⟨e3, e4⟩ := Prod.mk.inj e2
  exact ⟨p.2, e4.symm, by rw [← e3]; exact g.at ok hp⟩
/-- a judge on the heap: its tuple, its dict and its list -/
structure JAt (w : World) (H : Hp) (J : Jd) (a d g : Addr) (es : List NE) : Prop where
  tup : H a = some (.tup [.str (txS J.ls), .int (J.st : Nat), .int (J.few : Nat), .int (J.turn : Nat), .ref d, .ref g])
  dic : ND w H d es
  lst : H g = some (.lst (J.gd.map fun n => V.int (n : Nat)))
theorem JAt.same {w : World} {H H' : Hp} {J : Jd} {a d g : Addr} {es : List NE} (h : JAt w H J a d g es) (s : Same H H') : JAt w H' J a d g es := ⟨s _ _ h.tup, h.dic.same s, s _ _ h.lst⟩
theorem JAt.keep {w : World} {A : List Addr} {H H' : Hp} {J : Jd} {a d g : Addr} {es : List NE} (h : JAt w H J a d g es) (k : Keep A H H') (hd : d ∉ A) (hg : g ∉ A) : JAt w H' J a d g es := ⟨k.tup _ _ h.tup, h.dic.keep k hd, k.but _ _ hg h.lst⟩
/-- rows of numbers on the heap -/
abbrev RowsV (H : Hp) (vs : List V) (rs : List (List Nat)) : Prop := Paired (fun v r => NKv H (kR r) v) vs rs
theorem RowsV.stay {H H' : Hp} {vs : List V} {rs : List (List Nat)} (h : RowsV H vs rs) (ht : ∀ b xs, H b = some (.tup xs) → H' b = some (.tup xs)) : RowsV H' vs rs := Paired.mapP h fun _ _ k => k.stay ht
theorem RowsV.app {H : Hp} {vs ws : List V} {rs qs : List (List Nat)} (h : RowsV H vs rs) (g : RowsV H ws qs) : RowsV H (vs ++ ws) (rs ++ qs) := by
  induction h with
  | nil => exact g
  | cons a _ ih => exact .cons a ih
theorem row_of {H : Hp} {v : V} {r : List Nat} (h : NKv H (kR r) v) : ∃ b, v = .ref b ∧ H b = some (.tup (r.map fun n => V.int (n : Nat))) := by
  unfold kR at h
  cases h with
  | @tup b _ vs hb hs =>
    refine ⟨b, rfl, ?_⟩
    have main : ∀ {r : List Nat} {vs : List V}, NKs H (r.map fun n : Nat => NestedKey.num (n : Int)) vs → vs = r.map fun n => V.int (n : Nat) := by
      intro r
      induction r with
      | nil => intro vs h; cases h; rfl
      | cons x r ih =>
        intro vs h
        rw [List.map_cons] at h
        cases h with
        | cons h1 h2 =>
          cases h1
          rw [ih h2]
          rfl
    rw [hb, main hs]
theorem row_mk {H : Hp} {b : Addr} {r : List Nat} (h : H b = some (.tup (r.map fun n => V.int (n : Nat)))) : NKv H (kR r) (.ref b) := by
  refine .tup h ?_
  clear h
  induction r with
  | nil => exact .nil
  | cons x r ih => exact .cons (.int _) ih
theorem keyJ_mk {H : Hp} {b : Addr} {v : V} {c : Nat} {r : List Nat} (h : H b = some (.tup [.str ⟨#[c]⟩, v])) (hr : NKv H (kR r) v) : NKv H (kJ (c, r)) (.ref b) := .tup h (.cons (.text _) (.cons hr .nil))
end Hy
set_option Elab.async false
set_option linter.all false
set_option maxRecDepth 100000
set_option maxHeartbeats 4000000
namespace Hy
open PySem L2
/-! helpers of comprehensions -/
theorem walk_nkeys {w : World} {d : Addr} {o : Obj} {es : List NE} : Walk (Itn w d o es) es.length (fun H => H d = some (.frz o (ndO w d es))) (fun i H x H' => H' = H ∧ ∃ e, es[i]? = some e ∧ x = .ref e.2.1) :=
  ⟨fun _ _ hi q => ⟨q, hi⟩, fun _ q => ⟨q, Nat.le_refl _⟩, fun _ _ _ _ _ _ y => y⟩
theorem iteJ {b c : Bool} {A B : Prop} (e : b = c) (h1 : c = true → A) (h2 : c = false → B) : if b = true then A else B := by
  subst e
  cases b with
  | true => exact h1 rfl
  | false => exact h2 rfl
/-- [x for x in .. if c]: of it only whether it is empty is told -/
structure PvE (H0 : Hp) (D : Addr) (c : Nat → Bool) (i : Nat) (H : Hp) : Prop where
  S : Same H0 H
  ac : ∃ acc, H D = some (.lst acc) ∧ acc.length ≤ i ∧ acc.isEmpty = (List.range i).all fun j => !c j
section
variable {H0 H H' : Hp} {D : Addr} {c : Nat → Bool} {i : Nat}
theorem PvE.start (n : H0 D = none) : PvE H0 D c 0 (upd H0 D (.lst [])) := ⟨same_new n, [], upd_same, Nat.le_refl _, rfl⟩
theorem PvE.skip (p : PvE H0 D c i H) (S : Same H H') (h : c i = false) : PvE H0 D c (i + 1) H' := by
  obtain ⟨S0, acc, h1, h2, h3⟩ := p
  refine ⟨S0.trans S, acc, S _ _ h1, by omega, ?_⟩
  rw [List.range_succ, List.all_append, ← h3]
  simp [h]
theorem PvE.push (p : PvE H0 D c i H) (S : Same H H') (n : H0 D = none) (h : c i = true) (hi : i < sizeLine) {y : V} : ∃ acc, H' D = some (.lst acc) ∧ acc.length < sizeLine ∧ PvE H0 D c (i + 1) (upd H' D (.lst (acc ++ [y]))) := by
  obtain ⟨S0, acc, h1, h2, h3⟩ := p
  refine ⟨acc, S _ _ h1, by omega, Same.upd_own (S0.trans S) n, _, upd_same, by rw [List.length_append]; simpa using h2, ?_⟩
  rw [List.range_succ, List.all_append]
  simp [h]
end
/-- [f i for ..]: values that need no heap -/
structure PvM (H0 : Hp) (D : Addr) (f : Nat → V) (i : Nat) (H : Hp) : Prop where
  S : Same H0 H
  ac : H D = some (.lst ((List.range i).map f))
section
variable {H0 H H' : Hp} {D : Addr} {f : Nat → V} {i : Nat}
theorem PvM.start (n : H0 D = none) : PvM H0 D f 0 (upd H0 D (.lst [])) := ⟨same_new n, upd_same⟩
theorem PvM.push (p : PvM H0 D f i H) (S : Same H H') (n : H0 D = none) (hi : i < sizeLine) {y : V} (hy : y = f i) : ∃ acc, H' D = some (.lst acc) ∧ acc.length < sizeLine ∧ PvM H0 D f (i + 1) (upd H' D (.lst (acc ++ [y]))) := by
  subst hy
  refine ⟨_, S _ _ p.ac, by rw [List.length_map, List.length_range]; exact hi, Same.upd_own (p.S.trans S) n, ?_⟩
  rw [upd_same, List.range_succ, List.map_append]
  rfl
end
theorem map_range {α β : Type} (l : List α) (f : Nat → β) (g : α → β) (h : ∀ i x, l[i]? = some x → f i = g x) : (List.range l.length).map f = l.map g := by
  apply List.ext_getElem?
  intro i
  rw [List.getElem?_map, List.getElem?_map]
  by_cases hi : i < l.length
  · rw [List.getElem?_range hi, List.getElem?_eq_getElem hi]
    exact congrArg some (h i _ (List.getElem?_eq_getElem hi))
  · rw [List.getElem?_eq_none (by simpa using hi), List.getElem?_eq_none (by omega)]
    rfl
theorem sum_ones {α : Type} (f : α → Nat) (c : Nat) : ∀ l : List α, (∀ x ∈ l, f x ≤ c) → (l.map f).sum ≤ l.length * c
  | [], _ => by simp
  | x :: l, h => by
    have h1 := sum_ones f c l fun y hy => h y (List.mem_cons_of_mem _ hy)
    have h2 := h x List.mem_cons_self
    rw [List.map_cons, List.sum_cons, List.length_cons, Nat.succ_mul]
    omega
theorem all_range {α : Type} (l : List α) (f : α → Bool) (g : Nat → Bool) (h : ∀ i x, l[i]? = some x → g i = f x) : ((List.range l.length).all g) = l.all f := by
  rw [Bool.eq_iff_iff, List.all_eq_true, List.all_eq_true]
  constructor
  · intro hg x hx
    obtain ⟨i, hi, rfl⟩ := List.getElem_of_mem hx
    rw [← h i _ (List.getElem?_eq_getElem hi)]
    exact hg i (List.mem_range.mpr hi)
  · intro hf i hi
    have hi' := List.mem_range.mp hi
    rw [h i _ (List.getElem?_eq_getElem hi')]
    exact hf _ (List.getElem_mem hi')
theorem big_of {n m : Nat} (h : n ≤ m) (hm : m ≤ 100000) : n < sizeLine := Nat.lt_of_le_of_lt (Nat.le_trans h hm) (by decide)
end Hy
namespace Hy
open PySem L2
section
variable {X : Cx}
theorem call_isiNK (w : World) (K : PySem.W.Frag) (h : X.w = w := by rfl) (hK : X.K = K := by rfl) : CallR X (.builtin "isinstance") (rIsiN w K) := hK ▸ call_isiN w h
theorem call_isiTNK (w : World) (K : PySem.W.Frag) (h : X.w = w := by rfl) (hK : X.K = K := by rfl) : CallR X (.builtin "isinstance") (rIsiTN w K) := hK ▸ call_isiTN w h
theorem cr_sumTK (K : PySem.W.Frag) (hc : X.calm = true) (hK : X.K = K := by rfl) : CallR X (.builtin "sum") (rSumT K) := hK ▸ cr_sumT hc
theorem op_neTK {k : Nat} (w : World) (K : PySem.W.Frag) (hr : Room k X.A) (h : X.w = w := by rfl) (hK : X.K = K := by rfl) : OpR X (compareOp .NotEq) (rNeT w K) := hK ▸ op_neT w hr h
end
section
variable {X : Cx}
theorem pg_unlK {es : List Expr} {k : Nat} {pos : Pos} {t : TGs} {n : Nat} (K : PySem.W.Frag) (hc : X.calm = true) (h : PGs X es t) (hn : (assignEach es X.env).length = n := by rfl) (hst : (assignEach es X.env).findIdx? (·.1) = none := by rfl) (hK : X.K = K := by rfl) :
    PG X (.Tuple es k pos) (gUnl K n t) := hK ▸ pg_unl hc h hn hst
theorem pe_dictZipK {e e2 : Expr} {ta : TA} {p p2 pos pos2 : Pos} {k : Nat} (w : World) (K : PySem.W.Frag) (hr : Room k X.A) (hc : X.calm = true) (hm : X.mg "dict" = none) (hmz : X.mg "zip" = none) (ha : PA X [e, e2] ta) (hg : Gl X "dict" := by rfl) (hgz : Gl X "zip" := by rfl)
    (hs : starEach [e, e2] X.env = (false, eval e X.env) :: starEach [e2] X.env := by rfl) (hpl : (backTo pos2 (starEach [e2] X.env)).any (·.1) = false := by rfl)
    (hs1 : starEach [Expr.Call (.Name "zip" p2) [e, e2] [] pos2] X.env = [(false, eval (Expr.Call (.Name "zip" p2) [e, e2] [] pos2) X.env)] := by rfl)
    (hb1 : backTo pos (starEach [Expr.Call (.Name "zip" p2) [e, e2] [] pos2] X.env) = [(false, eval (Expr.Call (.Name "zip" p2) [e, e2] [] pos2) X.env)] := by rfl) (h : X.w = w := by rfl) (hK : X.K = K := by rfl) :
    PE X (.Call (.Name "dict" p) [.Call (.Name "zip" p2) [e, e2] [] pos2] [] pos) (tDictZip w K ta) := hK ▸ pe_dictZip w hr hc hm hmz ha hg hgz hs hpl hs1 hb1 h
end
theorem lock_same {H H2 : Hp} {d : Addr} {f u : HO} (h : H d = some u) (S : Same (upd H d f) H2) : Same H (upd H2 d u) := fun c o hc => by
  by_cases e : c = d
  · subst e
    rw [h] at hc
    cases hc
    exact upd_same
  · rw [upd_ne e]
    exact S c o (by rw [upd_ne e]; exact hc)
theorem frz_tup {H : Hp} {d : Addr} {w : World} {es : List NE} {f : HO} (h : H d = some (ndO w d es)) (b : Addr) (xs : List V) (e : H b = some (.tup xs)) : upd H d f b = some (.tup xs) := by
  rw [upd_ne (ne_of e h (fun z => nomatch z))]
  exact e
theorem nd_own {w : World} {H H2 : Hp} {d : Addr} {es : List NE} (h : H d = some (ndO w d es)) (n : NKeys H es) (od : Obj) (S : Same (upd H d (.frz od (ndO w d es))) H2) : ND w H2 d es :=
  ND.frz (S _ _ upd_same) (n.stay fun b xs e => S _ _ (frz_tup h b xs e))
end Hy
set_option Elab.async false
set_option linter.all false
set_option maxRecDepth 100000
set_option maxHeartbeats 4000000
namespace Hy
open PySem L2
def top (i : Nat) : Stmt := PySem.Challenge.pw_heaptrees_k77_judges_written.main.body.getD i (.Pass ⟨0, 0, 0, 0⟩)
structure Txt (K : PySem.W.Frag) (mg : Str → Option Value) : Prop where
  n_len : mg "len" = none
  n_range : mg "range" = none
  n_dict : mg "dict" = none
  n_list : mg "list" = none
  n_isinstance : mg "isinstance" = none
  n_str : mg "str" = none
  n_int : mg "int" = none
  n_min : mg "min" = none
  n_zip : mg "zip" = none
  n_tuple : mg "tuple" = none
  n_bool : mg "bool" = none
  n_max : mg "max" = none
  n_sorted : mg "sorted" = none
  n_sum : mg "sum" = none
  g_LETTERS : GV mg "LETTERS" (.str "abcdefghijklmnopqrstuvwxyz")
  g_MOST_STATES : GV mg "MOST_STATES" (.int 6)
  g_MOST_FEW : GV mg "MOST_FEW" (.int 4)
  g_MOST_TURN : GV mg "MOST_TURN" (.int 4)
  g_MOST_TUPLES_judges : GV mg "MOST_TUPLES_judges" (.int 600)
  g_FIGURES : GV mg "FIGURES" (.str "0123456789")
  g_MOST_TUPLES_texts : GV mg "MOST_TUPLES_texts" (.int 600)
  x_HeapError : ExcF K mg "HeapError"
  x_NoText : ExcF K mg "NoText"

local macro_rules | `(tactic| walk_at "hp") => `(tactic| first
  | assumption | exact upd_same
  | (refine (upd_ne ?_).trans ?_ <;> first | assumption | (exact Ne.symm (by assumption)) | walk_at "ne" | walk_at "hp")
  | (refine (by assumption : Same _ _) _ _ ?_; assumption))
local macro_rules | `(tactic| walk_at "ne") => `(tactic| first
  | assumption | (exact Ne.symm (by assumption))
  | exact ne_of_none (by assumption) (by assumption) | exact Ne.symm (ne_of_none (by assumption) (by assumption)))
local macro_rules | `(tactic| walk_at "sz") => `(tactic| first | assumption | (show 0 ≤ sizeLine; decide) | (show 1 ≤ sizeLine; decide) | (show 2 ≤ sizeLine; decide) | (show 3 ≤ sizeLine; decide))
local macro_rules | `(tactic| walk_at "ar") => `(tactic| first
  | ((with_reducible show (0 : Int) < _); first | decide | omega)
  | ((with_reducible show CMul _ _); first | exact Or.inr (And.intro (by decide) (by decide)) | exact Or.inl (And.intro (by decide) (by decide)) | (refine Or.inl (And.intro ?_ ?_) <;> omega) | (refine Or.inr (And.intro ?_ ?_) <;> omega))
  | ((with_reducible show CPow _ _); exact And.intro (by decide) (And.intro (by decide) (by decide)))
  | ((with_reducible show CDiv _ _); first | exact And.intro (by decide) (by decide) | (refine And.intro ?_ ?_ <;> omega)))
/- one step of a reading -/
local macro_rules | `(tactic| walk_at "r1") => `(tactic| first
  | refine ⟨_, rfl, ?_⟩
  | refine iteB (by rfl) ?_ | refine iteC (by rfl) ?_
  | refine ⟨_, _, rfl, rfl, ?_⟩
  | refine ⟨rfl, ?_⟩
  | refine ⟨⟨_, rfl⟩, ?_⟩
  | refine ⟨_, _, _, _, true, rfl, .ty _, .base (.str _), kit_ty (by decide +kernel), ?_⟩
  | refine ⟨_, _, _, _, false, rfl, .ty _, .base (.str _), kit_ty (by decide +kernel), ?_⟩
  | refine ⟨_, _, _, _, true, rfl, .ty _, .base (.tup (by walk_at "hp")), kit_ty (by decide +kernel), ?_⟩
  | refine ⟨_, _, _, _, false, rfl, .ty _, .base (.tup (by walk_at "hp")), kit_ty (by decide +kernel), ?_⟩
  | refine ⟨_, _, _, _, true, rfl, .ty _, .base (.lst (by walk_at "hp")), kit_ty (by decide +kernel), ?_⟩
  | refine ⟨_, _, _, _, false, rfl, .ty _, .base (.lst (by walk_at "hp")), kit_ty (by decide +kernel), ?_⟩
  | refine ⟨_, _, rfl, ⟨by walk_at "sz", rfl⟩, ?_⟩
  | refine ⟨_, _, _, _, rfl, rfl, SqT.of (by walk_at "hp"), by rfl, ?_⟩
  | refine ⟨_, _, _, _, rfl, rfl, SqL.of (by walk_at "hp"), by rfl, ?_⟩
  | refine ⟨.inl ⟨rfl, _, SqL.of (by walk_at "hp")⟩, ?_⟩
  | refine ⟨_, _, _, rfl, rfl, (by walk_at "hp"), snoc_get, ?_⟩
  | refine ⟨_, _, _, _, rfl, rfl, (by walk_at "hp"), by rfl, ?_⟩
  | refine ⟨_, _, rfl, SqL.of (by walk_at "hp"), ?_⟩
  | refine ⟨_, _, rfl, SqT.of (by walk_at "hp"), by rfl, ?_⟩
  | refine ⟨_, (_ : List V), rfl, ?_⟩
  | refine ⟨_, _, rfl, .inl ⟨_, (by assumption), rfl⟩, ?_⟩
  | refine ⟨_, _, rfl, .inl ⟨_, SqL.of (by walk_at "hp"), rfl⟩, ?_⟩
  | refine ⟨_, _, rfl, .inr ⟨_, SqT.of (by walk_at "hp"), rfl⟩, ?_⟩
  | refine Or.inl ⟨(_ : Int), rfl, ?_⟩ | refine Or.inr ⟨(_ : Bool), rfl, ?_⟩
  | refine And.intro (by walk_at "ar") ?_)
local macro_rules | `(tactic| walk_at "rd") => `(tactic| repeat walk_at "r1")

section
variable {P : Program} {w : World} {K : PySem.W.Frag} {mg : Str → Option Value} {base : Heap}
abbrev G' (P : Program) (w : World) (K : PySem.W.Frag) (mg : Str → Option Value) (base : Heap) := Gd P w K mg base

/-! ### is_letter -/

/-! ### is_part, is_tree, need_tree: of trees -/
/-! ### parts_in_order: the parts themselves -/
/-- the values vs are the trees ts, at some lists -/
def TVs (H : Hp) (ts : List Tr) (vs : List V) : Prop := ∃ ps : List Fp, ts = ps.map (·.2.1) ∧ vs = ps.map (·.1) ∧ ∀ p ∈ ps, TF H p.2.1 p.1 p.2.2
end
end Hy
set_option Elab.async false
set_option linter.all false
set_option maxRecDepth 100000
set_option maxHeartbeats 4000000
namespace Hy
open PySem L2
local macro_rules | `(tactic| walk_at "hp") => `(tactic| first
  | assumption | exact upd_same
  | (refine (upd_ne ?_).trans ?_ <;> first | assumption | (exact Ne.symm (by assumption)) | walk_at "ne" | walk_at "hp")
  | (refine (by assumption : Same _ _) _ _ ?_; assumption))
local macro_rules | `(tactic| walk_at "ne") => `(tactic| first
  | assumption | (exact Ne.symm (by assumption))
  | exact ne_of_none (by assumption) (by assumption) | exact Ne.symm (ne_of_none (by assumption) (by assumption)))
local macro_rules | `(tactic| walk_at "sz") => `(tactic| first | assumption | (show 0 ≤ sizeLine; decide) | (show 1 ≤ sizeLine; decide) | (show 2 ≤ sizeLine; decide) | (show 3 ≤ sizeLine; decide))
local macro_rules | `(tactic| walk_at "ar") => `(tactic| first
  | ((with_reducible show (0 : Int) < _); first | decide | omega)
  | ((with_reducible show CMul _ _); first | exact Or.inr (And.intro (by decide) (by decide)) | exact Or.inl (And.intro (by decide) (by decide)) | (refine Or.inl (And.intro ?_ ?_) <;> omega) | (refine Or.inr (And.intro ?_ ?_) <;> omega))
  | ((with_reducible show CPow _ _); exact And.intro (by decide) (And.intro (by decide) (by decide)))
  | ((with_reducible show CDiv _ _); first | exact And.intro (by decide) (by decide) | (refine And.intro ?_ ?_ <;> omega)))
/- one step of a reading -/
local macro_rules | `(tactic| walk_at "r1") => `(tactic| first
  | refine ⟨_, rfl, ?_⟩
  | refine iteB (by rfl) ?_ | refine iteC (by rfl) ?_
  | refine ⟨_, _, rfl, rfl, ?_⟩
  | refine ⟨rfl, ?_⟩
  | refine ⟨⟨_, rfl⟩, ?_⟩
  | refine ⟨_, _, _, _, true, rfl, .ty _, .base (.str _), kit_ty (by decide +kernel), ?_⟩
  | refine ⟨_, _, _, _, false, rfl, .ty _, .base (.str _), kit_ty (by decide +kernel), ?_⟩
  | refine ⟨_, _, _, _, true, rfl, .ty _, .base (.tup (by walk_at "hp")), kit_ty (by decide +kernel), ?_⟩
  | refine ⟨_, _, _, _, false, rfl, .ty _, .base (.tup (by walk_at "hp")), kit_ty (by decide +kernel), ?_⟩
  | refine ⟨_, _, _, _, true, rfl, .ty _, .base (.lst (by walk_at "hp")), kit_ty (by decide +kernel), ?_⟩
  | refine ⟨_, _, _, _, false, rfl, .ty _, .base (.lst (by walk_at "hp")), kit_ty (by decide +kernel), ?_⟩
  | refine ⟨_, _, rfl, ⟨by walk_at "sz", rfl⟩, ?_⟩
  | refine ⟨_, _, _, _, rfl, rfl, SqT.of (by walk_at "hp"), by rfl, ?_⟩
  | refine ⟨_, _, _, _, rfl, rfl, SqL.of (by walk_at "hp"), by rfl, ?_⟩
  | refine ⟨.inl ⟨rfl, _, SqL.of (by walk_at "hp")⟩, ?_⟩
  | refine ⟨_, _, _, rfl, rfl, (by walk_at "hp"), snoc_get, ?_⟩
  | refine ⟨_, _, _, _, rfl, rfl, (by walk_at "hp"), by rfl, ?_⟩
  | refine ⟨_, _, rfl, SqL.of (by walk_at "hp"), ?_⟩
  | refine ⟨_, _, rfl, SqT.of (by walk_at "hp"), by rfl, ?_⟩
  | refine ⟨_, (_ : List V), rfl, ?_⟩
  | refine ⟨_, _, rfl, .inl ⟨_, (by assumption), rfl⟩, ?_⟩
  | refine ⟨_, _, rfl, .inl ⟨_, SqL.of (by walk_at "hp"), rfl⟩, ?_⟩
  | refine ⟨_, _, rfl, .inr ⟨_, SqT.of (by walk_at "hp"), rfl⟩, ?_⟩
  | refine Or.inl ⟨(_ : Int), rfl, ?_⟩ | refine Or.inr ⟨(_ : Bool), rfl, ?_⟩
  | refine And.intro (by walk_at "ar") ?_)
local macro_rules | `(tactic| walk_at "rd") => `(tactic| repeat walk_at "r1")

abbrev Fp.v (p : Fp) : V := p.1
abbrev Fp.t (p : Fp) : Tr := p.2.1
abbrev Fp.as (p : Fp) : List Addr := p.2.2
/-- the writings' order, told of pairs (writing, place) -/
theorem le_pair {a b : Tr} {i j : Int} (h : PySem.W.dataLe false (fun p : V × PyData => p.2) (x, .tuple [.str (txS a.W), .int i]) (y, .tuple [.str (txS b.W), .int j]) = true) : leW a b = true := by
  have h' : (!PySem.W.dataLt (.tuple [.str (txS b.W), .int j]) (.tuple [.str (txS a.W), .int i])) = true := h
  rw [PySem.W.dataLt_pair (by simp [PySem.W.alike]) (by simp [PySem.W.alike])] at h'
  unfold leW
  by_cases e : PyData.eqv (.str (txS b.W)) (.str (txS a.W)) = true
  · have e' : txS b.W = txS a.W := by simpa [PyData.eqv] using e
    have e2 : b.W = a.W := by simpa using congrArg (fun s : Str => s.cps.toList) e'
    rw [e2]
    exact decide_eq_true (List.le_refl _)
  · rw [if_neg e, PySem.W.dataLt_str] at h'
    have h2 : ¬ (b.W < a.W) := by simpa using h'
    exact decide_eq_true (List.not_lt.mp h2)
theorem alike_pair (a b : Tr) (i j : Int) : PySem.W.alike (.tuple [.str (txS a.W), .int i]) (.tuple [.str (txS b.W), .int j]) = true := by simp [PySem.W.alike, PySem.W.alikeAll]
theorem dataLe_total {β : Type} (k : β → PyData) : PySem.W.TotalLe (PySem.W.dataLe false k) := PySem.W.sortLe_total _ _ _
def d0 : Fp := (.non, .node 0 [], [])
theorem getD_some {ps : List Fp} {i : Nat} (h : i < ps.length) : ps[i]? = some (ps.getD i d0) := by
  rw [List.getD_eq_getElem?_getD, List.getElem?_eq_getElem h]
  rfl
theorem map_getD {ps : List Fp} : (List.range ps.length).map (fun i => ps.getD i d0) = ps := by
  refine List.ext_getElem? fun i => ?_
  rw [List.getElem?_map]
  by_cases h : i < ps.length
  · rw [List.getElem?_range h, getD_some h]
    rfl
  · rw [List.getElem?_eq_none (by simp; omega), List.getElem?_eq_none (by omega)]
    rfl

theorem wipe2 {σ : St} {a b : Nat} (x y : Option V) : wipe (((wipe σ [a, b]).set a x).set b y) [a, b] = wipe σ [a, b] := by
  refine List.ext_getElem? fun i => ?_
  simp only [wipe, List.getElem?_set, List.length_set]
  by_cases h1 : a = i
  · simp [h1]
  · by_cases h2 : b = i
    · simp [h1, h2]
    · simp [h1, h2]
/-! ### [more for more, child in xs], [child for more, child in xs] -/
/-- what a comprehension over a list asks, behind its list -/
abbrev LcR (g : TG) (tt : TT) (te : TE) (vs : List Nat) (σ : St) (Qd : Addr → Hp → Prop) (J : It) (H1 : Hp) : Prop := ∀ D, H1 D = none → ∃ W : Nat → Nat → Hp → Prop, (∃ m, W 0 m (upd H1 D (.lst []))) ∧
  ∀ i m H, W i m H → (J.stop i H ∧ Qd D H) ∨ (J.go i H ∧ ∃ Nx : Hp → Prop, (∀ H', Nx H' → ∃ m', m' < m ∧ W (i + 1) m' H') ∧
    ∀ x H', J.yld i H x H' → g x (wipe σ vs) H' fun σ2 H2 => wipe σ2 vs = wipe σ vs ∧ tt σ2 H2 fun b H3 => if b = true then te σ2 H3 fun y H4 => ∃ acc, H4 D = some (.lst acc) ∧ acc.length < sizeLine ∧ Nx (upd H4 D (.lst (acc ++ [y]))) else Nx H3)
theorem lc_more {K : PySem.W.Frag} {σ : St} {H : Hp} {Qd : Addr → Hp → Prop} {p : Addr} {qs : List Fp} {a b : Nat} (ha : a < σ.length) (hb : b < σ.length) (hab : a ≠ b) (hp : H p = some (.lst (qs.map Fp.v))) (hF : ∀ q ∈ qs, FF H q.t q.v q.as) (hn : qs.length ≤ 100000)
    (k : ∀ (D : Addr) (H' : Hp), Same H H' → H D = none → H' D = some (.lst (qs.map fun q => tx q.t.W)) → Qd D H') : (∃ xs, SqL K H p xs) ∧ LcR (gTup K 2 (gCons (gName a) (gCons (gName b) gNil))) tYes (tVar a) [a, b] σ Qd (Itl K p) H := by
  refine ⟨⟨_, SqL.of hp⟩, fun D nD => lc_list (xs := qs.map Fp.v) (fun j H' => Same H H' ∧ H' D = some (.lst ((qs.take j).map fun q => tx q.t.W))) ⟨same_new nD, upd_same⟩ (fun j H' _ h => SqL.of (h.1 _ _ hp)) ?_ ?_⟩
  · rintro j x H3 hx ⟨S3, hD⟩
    rw [List.getElem?_map] at hx
    obtain ⟨q, hj, rfl⟩ := Option.map_eq_some_iff.mp hx
    obtain ⟨c, u, e, hc, hu⟩ := hF q (List.mem_of_getElem? hj)
    refine ⟨c, _, e, SqT.of (S3 _ _ hc), rfl, _, _, rfl, _, _, rfl, rfl, ?_⟩
    refine ⟨wipe2 _ _, tx q.t.W, ?_, _, hD, ?_, Same.upd_own S3 nD, ?_⟩
    · show (((wipe σ [a, b]).set a (some (tx q.t.W))).set b (some u))[a]? = _
      rw [List.getElem?_set_ne (Ne.symm hab), List.getElem?_set_self (by simpa [wipe] using ha)]
    · rw [List.length_map, List.length_take]
      exact Nat.lt_of_le_of_lt (Nat.le_trans (Nat.min_le_right _ _) hn) (by decide)
    · rw [upd_same, List.take_succ, List.map_append, hj]
      rfl
  · rintro H3 ⟨S3, hD⟩
    refine k D _ S3 nD ?_
    rw [hD, List.take_of_length_le (by simp)]
theorem lc_child {K : PySem.W.Frag} {σ : St} {H : Hp} {Qd : Addr → Hp → Prop} {p : Addr} {qs : List Fp} {a b : Nat} (ha : a < σ.length) (hb : b < σ.length) (hab : a ≠ b) (hp : H p = some (.lst (qs.map Fp.v))) (hF : ∀ q ∈ qs, FF H q.t q.v q.as) (hn : qs.length ≤ 100000)
    (k : ∀ (D : Addr) (H' : Hp) (us : List Fp), Same H H' → H D = none → H' D = some (.lst (us.map Fp.v)) → us.map Fp.t = qs.map Fp.t → us.map Fp.as = qs.map Fp.as → (∀ u ∈ us, TF H u.t u.v u.as) → Qd D H') : (∃ xs, SqL K H p xs) ∧ LcR (gTup K 2 (gCons (gName a) (gCons (gName b) gNil))) tYes (tVar b) [a, b] σ Qd (Itl K p) H := by
  refine ⟨⟨_, SqL.of hp⟩, fun D nD => lc_list (xs := qs.map Fp.v) (fun j H' => Same H H' ∧ ∃ us : List Fp, H' D = some (.lst (us.map Fp.v)) ∧ us.map Fp.t = (qs.take j).map Fp.t ∧ us.map Fp.as = (qs.take j).map Fp.as ∧ ∀ u ∈ us, TF H u.t u.v u.as) ⟨same_new nD, [], upd_same, rfl, rfl, fun u hu => by cases hu⟩ (fun j H' _ h => SqL.of (h.1 _ _ hp)) ?_ ?_⟩
  · rintro j x H3 hx ⟨S3, us, hD, h1, h2, h3⟩
    rw [List.getElem?_map] at hx
    obtain ⟨q, hj, rfl⟩ := Option.map_eq_some_iff.mp hx
    obtain ⟨c, u, e, hc, hu⟩ := hF q (List.mem_of_getElem? hj)
    refine ⟨c, _, e, SqT.of (S3 _ _ hc), rfl, _, _, rfl, _, _, rfl, rfl, ?_⟩
    refine ⟨wipe2 _ _, u, ?_, _, hD, ?_, Same.upd_own S3 nD, us ++ [(u, q.t, q.as)], ?_, ?_, ?_, ?_⟩
    · show (((wipe σ [a, b]).set a (some (tx q.t.W))).set b (some u))[b]? = _
      rw [List.getElem?_set_self (by simpa [wipe] using hb)]
    · have q := congrArg List.length h1
      rw [List.length_map, List.length_map, List.length_take] at q
      rw [List.length_map, q]
      exact Nat.lt_of_le_of_lt (Nat.le_trans (Nat.min_le_right _ _) hn) (by decide)
    · rw [upd_same, List.map_append]
      rfl
    · rw [List.take_succ, List.map_append, List.map_append, h1, hj]
      rfl
    · rw [List.take_succ, List.map_append, List.map_append, h2, hj]
      rfl
    · intro w hw
      rcases List.mem_append.mp hw with hw | hw
      · exact h3 w hw
      · obtain rfl := List.mem_singleton.mp hw
        exact hu
  · rintro H3 ⟨S3, us, hD, h1, h2, h3⟩
    rw [List.take_of_length_le (by simp)] at h1 h2
    exact k D _ us S3 nD hD h1 h2 h3
section
variable {P : Program} {w : World} {K : PySem.W.Frag} {mg : Str → Option Value} {base : Heap}

/-! ### formed_part -/
end
end Hy
set_option Elab.async false
set_option linter.all false
set_option maxRecDepth 100000
set_option maxHeartbeats 4000000
namespace Hy
open PySem L2
local macro_rules | `(tactic| walk_at "hp") => `(tactic| first
  | assumption | exact upd_same
  | (refine (upd_ne ?_).trans ?_ <;> first | assumption | (exact Ne.symm (by assumption)) | walk_at "ne" | walk_at "hp")
  | (refine (by assumption : Same _ _) _ _ ?_; assumption))
local macro_rules | `(tactic| walk_at "ne") => `(tactic| first
  | assumption | (exact Ne.symm (by assumption))
  | exact ne_of_none (by assumption) (by assumption) | exact Ne.symm (ne_of_none (by assumption) (by assumption)))
local macro_rules | `(tactic| walk_at "sz") => `(tactic| first | assumption | (show 0 ≤ sizeLine; decide) | (show 1 ≤ sizeLine; decide) | (show 2 ≤ sizeLine; decide) | (show 3 ≤ sizeLine; decide))
local macro_rules | `(tactic| walk_at "ar") => `(tactic| first
  | ((with_reducible show (0 : Int) < _); first | decide | omega)
  | ((with_reducible show CMul _ _); first | exact Or.inr (And.intro (by decide) (by decide)) | exact Or.inl (And.intro (by decide) (by decide)) | (refine Or.inl (And.intro ?_ ?_) <;> omega) | (refine Or.inr (And.intro ?_ ?_) <;> omega))
  | ((with_reducible show CPow _ _); exact And.intro (by decide) (And.intro (by decide) (by decide)))
  | ((with_reducible show CDiv _ _); first | exact And.intro (by decide) (by decide) | (refine And.intro ?_ ?_ <;> omega)))
/- one step of a reading -/
local macro_rules | `(tactic| walk_at "r1") => `(tactic| first
  | refine ⟨_, rfl, ?_⟩
  | refine iteB (by rfl) ?_ | refine iteC (by rfl) ?_
  | refine ⟨_, _, rfl, rfl, ?_⟩
  | refine ⟨rfl, ?_⟩
  | refine ⟨⟨_, rfl⟩, ?_⟩
  | refine ⟨_, _, _, _, true, rfl, .ty _, .base (.str _), kit_ty (by decide +kernel), ?_⟩
  | refine ⟨_, _, _, _, false, rfl, .ty _, .base (.str _), kit_ty (by decide +kernel), ?_⟩
  | refine ⟨_, _, _, _, true, rfl, .ty _, .base (.tup (by walk_at "hp")), kit_ty (by decide +kernel), ?_⟩
  | refine ⟨_, _, _, _, false, rfl, .ty _, .base (.tup (by walk_at "hp")), kit_ty (by decide +kernel), ?_⟩
  | refine ⟨_, _, _, _, true, rfl, .ty _, .base (.lst (by walk_at "hp")), kit_ty (by decide +kernel), ?_⟩
  | refine ⟨_, _, _, _, false, rfl, .ty _, .base (.lst (by walk_at "hp")), kit_ty (by decide +kernel), ?_⟩
  | refine ⟨_, _, rfl, ⟨by walk_at "sz", rfl⟩, ?_⟩
  | refine ⟨_, _, _, _, rfl, rfl, SqT.of (by walk_at "hp"), by rfl, ?_⟩
  | refine ⟨_, _, _, _, rfl, rfl, SqL.of (by walk_at "hp"), by rfl, ?_⟩
  | refine ⟨.inl ⟨rfl, _, SqL.of (by walk_at "hp")⟩, ?_⟩
  | refine ⟨_, _, _, rfl, rfl, (by walk_at "hp"), snoc_get, ?_⟩
  | refine ⟨_, _, _, _, rfl, rfl, (by walk_at "hp"), by rfl, ?_⟩
  | refine ⟨_, _, rfl, SqL.of (by walk_at "hp"), ?_⟩
  | refine ⟨_, _, rfl, SqT.of (by walk_at "hp"), by rfl, ?_⟩
  | refine ⟨_, (_ : List V), rfl, ?_⟩
  | refine ⟨_, _, rfl, .inl ⟨_, (by assumption), rfl⟩, ?_⟩
  | refine ⟨_, _, rfl, .inl ⟨_, SqL.of (by walk_at "hp"), rfl⟩, ?_⟩
  | refine ⟨_, _, rfl, .inr ⟨_, SqT.of (by walk_at "hp"), rfl⟩, ?_⟩
  | refine Or.inl ⟨(_ : Int), rfl, ?_⟩ | refine Or.inr ⟨(_ : Bool), rfl, ?_⟩
  | refine And.intro (by walk_at "ar") ?_)
local macro_rules | `(tactic| walk_at "rd") => `(tactic| repeat walk_at "r1")

theorem Tr.parts_size (t : Tr) : ∀ q ∈ t.parts, q.size ≤ t.size := by
  refine Tr.parts_prop (fun q => q.size ≤ t.size) (fun c ts h u hu => ?_) t (Nat.le_refl _)
  have := Tr.sizes_mem hu
  simp only [Tr.size] at h
  omega
theorem Tr.parts_ok (t : Tr) (h : t.ok = true) : ∀ q ∈ t.parts, q.ok = true := by
  refine Tr.parts_prop (fun q => q.ok = true) (fun c ts h u hu => ?_) t h
  simp only [Tr.ok, Bool.and_eq_true] at h
  exact Tr.oks_iff.mp h.2 u hu
section
variable {P : Program} {w : World} {K : PySem.W.Frag} {mg : Str → Option Value} {base : Heap}

theorem rep_one {α : Type} (m : Nat) (v : α) : (List.replicate m [v]).flatten = List.replicate m v := by
  induction m with
  | zero => rfl
  | succ n ih => rw [List.replicate_succ, List.flatten_cons, ih]; rfl
/-- a child, and how often -/
abbrev Hv := Fp × Addr × Nat
def kids (hs : List Hv) : List Fp := hs.flatMap fun h => List.replicate h.2.2 h.1
theorem kids_snoc (hs : List Hv) (h : Hv) : kids (hs ++ [h]) = kids hs ++ List.replicate h.2.2 h.1 := by simp [kids]
theorem kids_take (hs : List Hv) (i : Nat) : (kids (hs.take i)).length ≤ (kids hs).length := by
  conv => rhs; rw [← List.take_append_drop i hs]
  unfold kids
  rw [List.flatMap_append, List.length_append]
  omega
end
end Hy
set_option Elab.async false
set_option linter.all false
set_option maxRecDepth 100000
set_option maxHeartbeats 4000000
namespace Hy
open PySem L2
local macro_rules | `(tactic| walk_at "hp") => `(tactic| first
  | assumption | exact upd_same
  | (refine (upd_ne ?_).trans ?_ <;> first | assumption | (exact Ne.symm (by assumption)) | walk_at "ne" | walk_at "hp")
  | (refine (by assumption : Same _ _) _ _ ?_; assumption))
local macro_rules | `(tactic| walk_at "ne") => `(tactic| first
  | assumption | (exact Ne.symm (by assumption))
  | exact ne_of_none (by assumption) (by assumption) | exact Ne.symm (ne_of_none (by assumption) (by assumption)))
local macro_rules | `(tactic| walk_at "sz") => `(tactic| first | assumption | (show 0 ≤ sizeLine; decide) | (show 1 ≤ sizeLine; decide) | (show 2 ≤ sizeLine; decide) | (show 3 ≤ sizeLine; decide))
local macro_rules | `(tactic| walk_at "ar") => `(tactic| first
  | ((with_reducible show (0 : Int) < _); first | decide | omega)
  | ((with_reducible show CMul _ _); first | exact Or.inr (And.intro (by decide) (by decide)) | exact Or.inl (And.intro (by decide) (by decide)) | (refine Or.inl (And.intro ?_ ?_) <;> omega) | (refine Or.inr (And.intro ?_ ?_) <;> omega))
  | ((with_reducible show CPow _ _); exact And.intro (by decide) (And.intro (by decide) (by decide)))
  | ((with_reducible show CDiv _ _); first | exact And.intro (by decide) (by decide) | (refine And.intro ?_ ?_ <;> omega)))
/- one step of a reading -/
local macro_rules | `(tactic| walk_at "r1") => `(tactic| first
  | refine ⟨_, rfl, ?_⟩
  | refine iteB (by rfl) ?_ | refine iteC (by rfl) ?_
  | refine ⟨_, _, rfl, rfl, ?_⟩
  | refine ⟨rfl, ?_⟩
  | refine ⟨⟨_, rfl⟩, ?_⟩
  | refine ⟨_, _, _, _, true, rfl, .ty _, .base (.str _), kit_ty (by decide +kernel), ?_⟩
  | refine ⟨_, _, _, _, false, rfl, .ty _, .base (.str _), kit_ty (by decide +kernel), ?_⟩
  | refine ⟨_, _, _, _, true, rfl, .ty _, .base (.tup (by walk_at "hp")), kit_ty (by decide +kernel), ?_⟩
  | refine ⟨_, _, _, _, false, rfl, .ty _, .base (.tup (by walk_at "hp")), kit_ty (by decide +kernel), ?_⟩
  | refine ⟨_, _, _, _, true, rfl, .ty _, .base (.lst (by walk_at "hp")), kit_ty (by decide +kernel), ?_⟩
  | refine ⟨_, _, _, _, false, rfl, .ty _, .base (.lst (by walk_at "hp")), kit_ty (by decide +kernel), ?_⟩
  | refine ⟨_, _, rfl, ⟨by walk_at "sz", rfl⟩, ?_⟩
  | refine ⟨_, _, _, _, rfl, rfl, SqT.of (by walk_at "hp"), by rfl, ?_⟩
  | refine ⟨_, _, _, _, rfl, rfl, SqL.of (by walk_at "hp"), by rfl, ?_⟩
  | refine ⟨.inl ⟨rfl, _, SqL.of (by walk_at "hp")⟩, ?_⟩
  | refine ⟨_, _, _, rfl, rfl, (by walk_at "hp"), snoc_get, ?_⟩
  | refine ⟨_, _, _, _, rfl, rfl, (by walk_at "hp"), by rfl, ?_⟩
  | refine ⟨_, _, rfl, SqL.of (by walk_at "hp"), ?_⟩
  | refine ⟨_, _, rfl, SqT.of (by walk_at "hp"), by rfl, ?_⟩
  | refine ⟨_, (_ : List V), rfl, ?_⟩
  | refine ⟨_, _, rfl, .inl ⟨_, (by assumption), rfl⟩, ?_⟩
  | refine ⟨_, _, rfl, .inl ⟨_, SqL.of (by walk_at "hp"), rfl⟩, ?_⟩
  | refine ⟨_, _, rfl, .inr ⟨_, SqT.of (by walk_at "hp"), rfl⟩, ?_⟩
  | refine Or.inl ⟨(_ : Int), rfl, ?_⟩ | refine Or.inr ⟨(_ : Bool), rfl, ?_⟩
  | refine And.intro (by walk_at "ar") ?_)
local macro_rules | `(tactic| walk_at "rd") => `(tactic| repeat walk_at "r1")

def leL (a b : List Nat) : Bool := decide (a ≤ b)
theorem leL_total (a b : List Nat) : (leL a b || leL b a) = true := by
  unfold leL
  rcases List.le_total a b with h | h <;> simp [h]
theorem leL_trans (a b c : List Nat) (h1 : leL a b = true) (h2 : leL b c = true) : leL a c = true := decide_eq_true (List.le_trans (of_decide_eq_true h1) (of_decide_eq_true h2))
theorem leL_anti {a b : List Nat} (h1 : leL a b = true) (h2 : leL b a = true) : a = b := List.le_antisymm (of_decide_eq_true h1) (of_decide_eq_true h2)
def sortL (ws : List (List Nat)) : List (List Nat) := ws.mergeSort leL
theorem sortL_iff (ws : List (List Nat)) : sortL ws = ws ↔ ws.Pairwise fun a b => leL a b = true := by
  constructor
  · intro h
    rw [← h]
    exact List.pairwise_mergeSort leL_trans leL_total ws
  · intro h
    exact List.mergeSort_of_pairwise h
theorem srt_strs (ws : List (List Nat)) : ((ws.map fun l => (tx l, PyData.str (txS l))).mergeSort (PySem.W.dataLe false fun p : V × PyData => p.2)).map (·.1) = (sortL ws).map tx := by
  rw [← PySem.W.sort_maps (r := leL) (fun l => (tx l, PyData.str (txS l))) (fun a _ b _ => ?_), List.map_map]
  · rfl
  · show leL a b = PySem.W.dataLe false (fun l : List Nat => PyData.str (txS l)) a b
    rw [PySem.W.dataLe_str]
    show leL a b = decide ((txS a).cps.toList ≤ (txS b).cps.toList)
    simp [leL]
theorem fst_strs (ws : List (List Nat)) : (ws.map fun l => (tx l, PyData.str (txS l))).map (·.1) = ws.map tx := by rw [List.map_map]; rfl
theorem txs_strs (ws : List (List Nat)) : (ws.map txS).map V.str = ws.map tx := by rw [List.map_map]; rfl
theorem eqv_strs : ∀ (a b : List (List Nat)), PyData.eqvAll (a.map fun l => PyData.str (txS l)) (b.map fun l => PyData.str (txS l)) = decide (a = b)
  | [], [] => by simp [PyData.eqvAll]
  | [], _ :: _ => by simp [PyData.eqvAll]
  | _ :: _, [] => by simp [PyData.eqvAll]
  | x :: a, y :: b => by
    have e : (txS x = txS y) = (x = y) := by
      refine propext ⟨fun h => ?_, fun h => by rw [h]⟩
      simpa using congrArg (fun s : Str => s.cps.toList) h
    simp only [List.map_cons, PyData.eqvAll, eqv_strs a b, PyData.eqv]
    by_cases h1 : x = y
    · by_cases h2 : a = b <;> simp [h1, h2]
    · have : ¬ txS x = txS y := by rw [e]; exact h1
      simp [h1, this]
theorem plain_strs : ∀ a : List (List Nat), PyData.plainAll (a.map fun l => PyData.str (txS l)) = true
  | [] => rfl
  | x :: a => by simp only [List.map_cons, PyData.plainAll, PyData.plain, plain_strs a, Bool.and_self]
theorem depth_strs : ∀ a : List (List Nat), PyData.depthAll (a.map fun l => PyData.str (txS l)) = 0
  | [] => rfl
  | x :: a => by simp only [List.map_cons, PyData.depthAll, PyData.depth, depth_strs a]; rfl
theorem dp_strs {K : PySem.W.Frag} {H : Hp} {p : Addr} {a : List (List Nat)} (h : H p = some (.lst (a.map tx))) : Dp K H (.ref p) (.list (a.map fun l => PyData.str (txS l))) := .lst (SqL.of h) (dpAll_of _ _ fun l _ => .str _)
theorem srtW_iff (ts : List Tr) : SrtW ts ↔ (ts.map Tr.W).Pairwise fun a b => leL a b = true := by rw [List.pairwise_map]; rfl
section
variable {P : Program} {w : World} {K : PySem.W.Frag} {mg : Str → Option Value} {base : Heap}

end
end Hy
set_option Elab.async false
set_option linter.all false
set_option maxRecDepth 100000
set_option maxHeartbeats 4000000
namespace Hy
open PySem L2
local macro_rules | `(tactic| walk_at "hp") => `(tactic| first
  | assumption | exact upd_same
  | (refine (upd_ne ?_).trans ?_ <;> first | assumption | (exact Ne.symm (by assumption)) | walk_at "ne" | walk_at "hp")
  | (refine (by assumption : Same _ _) _ _ ?_; assumption))
local macro_rules | `(tactic| walk_at "ne") => `(tactic| first
  | assumption | (exact Ne.symm (by assumption))
  | exact ne_of_none (by assumption) (by assumption) | exact Ne.symm (ne_of_none (by assumption) (by assumption)))
local macro_rules | `(tactic| walk_at "sz") => `(tactic| first | assumption | (show 0 ≤ sizeLine; decide) | (show 1 ≤ sizeLine; decide) | (show 2 ≤ sizeLine; decide) | (show 3 ≤ sizeLine; decide))
local macro_rules | `(tactic| walk_at "ar") => `(tactic| first
  | ((with_reducible show (0 : Int) < _); first | decide | omega)
  | ((with_reducible show CMul _ _); first | exact Or.inr (And.intro (by decide) (by decide)) | exact Or.inl (And.intro (by decide) (by decide)) | (refine Or.inl (And.intro ?_ ?_) <;> omega) | (refine Or.inr (And.intro ?_ ?_) <;> omega))
  | ((with_reducible show CPow _ _); exact And.intro (by decide) (And.intro (by decide) (by decide)))
  | ((with_reducible show CDiv _ _); first | exact And.intro (by decide) (by decide) | (refine And.intro ?_ ?_ <;> omega)))
/- one step of a reading -/
local macro_rules | `(tactic| walk_at "r1") => `(tactic| first
  | refine ⟨_, rfl, ?_⟩
  | refine iteB (by rfl) ?_ | refine iteC (by rfl) ?_
  | refine ⟨_, _, rfl, rfl, ?_⟩
  | refine ⟨rfl, ?_⟩
  | refine ⟨⟨_, rfl⟩, ?_⟩
  | refine ⟨_, _, _, _, true, rfl, .ty _, .base (.str _), kit_ty (by decide +kernel), ?_⟩
  | refine ⟨_, _, _, _, false, rfl, .ty _, .base (.str _), kit_ty (by decide +kernel), ?_⟩
  | refine ⟨_, _, _, _, true, rfl, .ty _, .base (.tup (by walk_at "hp")), kit_ty (by decide +kernel), ?_⟩
  | refine ⟨_, _, _, _, false, rfl, .ty _, .base (.tup (by walk_at "hp")), kit_ty (by decide +kernel), ?_⟩
  | refine ⟨_, _, _, _, true, rfl, .ty _, .base (.lst (by walk_at "hp")), kit_ty (by decide +kernel), ?_⟩
  | refine ⟨_, _, _, _, false, rfl, .ty _, .base (.lst (by walk_at "hp")), kit_ty (by decide +kernel), ?_⟩
  | refine ⟨_, _, rfl, ⟨by walk_at "sz", rfl⟩, ?_⟩
  | refine ⟨_, _, _, _, rfl, rfl, SqT.of (by walk_at "hp"), by rfl, ?_⟩
  | refine ⟨_, _, _, _, rfl, rfl, SqL.of (by walk_at "hp"), by rfl, ?_⟩
  | refine ⟨.inl ⟨rfl, _, SqL.of (by walk_at "hp")⟩, ?_⟩
  | refine ⟨_, _, _, rfl, rfl, (by walk_at "hp"), snoc_get, ?_⟩
  | refine ⟨_, _, _, _, rfl, rfl, (by walk_at "hp"), by rfl, ?_⟩
  | refine ⟨_, _, rfl, SqL.of (by walk_at "hp"), ?_⟩
  | refine ⟨_, _, rfl, SqT.of (by walk_at "hp"), by rfl, ?_⟩
  | refine ⟨_, (_ : List V), rfl, ?_⟩
  | refine ⟨_, _, rfl, .inl ⟨_, (by assumption), rfl⟩, ?_⟩
  | refine ⟨_, _, rfl, .inl ⟨_, SqL.of (by walk_at "hp"), rfl⟩, ?_⟩
  | refine ⟨_, _, rfl, .inr ⟨_, SqT.of (by walk_at "hp"), rfl⟩, ?_⟩
  | refine Or.inl ⟨(_ : Int), rfl, ?_⟩ | refine Or.inr ⟨(_ : Bool), rfl, ?_⟩
  | refine And.intro (by walk_at "ar") ?_)
local macro_rules | `(tactic| walk_at "rd") => `(tactic| repeat walk_at "r1")

theorem sign_eq {c d : Nat} : decide (V.str ⟨#[c]⟩ = V.str ⟨#[d]⟩) = decide (c = d) := by
  by_cases h : c = d
  · rw [h, decide_eq_true rfl, decide_eq_true rfl]
  · rw [decide_eq_false h, decide_eq_false fun z => h ?_]
    have z2 : (⟨#[c]⟩ : Str) = ⟨#[d]⟩ := V.str.inj z
    have z3 := congrArg (fun s : Str => s.cps.toList) z2
    simpa using z3
theorem sign_op {c : Nat} : decide (V.str ⟨#[c]⟩ = V.str (PySem.Str.ofString "(")) = decide (c = 40) := by
  have e : PySem.Str.ofString "(" = ⟨#[40]⟩ := by decide +kernel
  rw [e, sign_eq]
theorem sign_cl {c : Nat} : decide (V.str ⟨#[c]⟩ = V.str (PySem.Str.ofString ")")) = decide (c = 41) := by
  have e : PySem.Str.ofString ")" = ⟨#[41]⟩ := by decide +kernel
  rw [e, sign_eq]
theorem RS.step40 {s : RS} (h : isL s.prev = false) : s.step 40 = none := by
  unfold RS.step
  rw [if_neg (by decide), if_neg (fun z => by rw [h] at z; exact absurd z.2 (by decide)), if_neg (by decide)]
theorem RS.step40_ok {s : RS} (h : isL s.prev = true) : s.step 40 = some ⟨40, s.ab ++ [(s.prev, s.here.dropLast)], []⟩ := by
  unfold RS.step
  rw [if_neg (by decide), if_pos ⟨rfl, h⟩]
theorem RS.step_other {s : RS} {x : Nat} (h1 : isL x = false) (h2 : x ≠ 40) (h3 : x ≠ 41) : s.step x = none := by
  unfold RS.step
  rw [if_neg (by rw [h1]; decide), if_neg (fun z => h2 z.1), if_neg h3]
theorem RS.step41_none {s : RS} (h : s.ab = []) : s.step 41 = none := by
  unfold RS.step
  rw [if_neg (by decide), if_neg (fun z => absurd z.1 (by decide)), if_pos rfl, h]
  rfl
theorem RS.step41 {prev l : Nat} {ab : List (Nat × List Tr)} {more here : List Tr} : RS.step ⟨prev, ab ++ [(l, more)], here⟩ 41 = if here ≠ [] ∧ SrtW here then some ⟨41, ab, more ++ [.node l here]⟩ else none := by
  unfold RS.step
  rw [if_neg (by decide), if_neg (fun z => absurd z.1 (by decide)), if_pos rfl]
  simp only [List.getLast?_concat, List.dropLast_concat]
theorem sum_ge {α : Type} (g : α → Nat) (h : ∀ x, 1 ≤ g x) : ∀ l : List α, l.length ≤ (l.map g).sum
  | [] => Nat.zero_le _
  | x :: l => by
    have := sum_ge g h l
    have := h x
    simp only [List.length_cons, List.map_cons, List.sum_cons]
    omega
/-- an open part: its tuple, its letter, its list, what stands in it -/
structure Op where
  tup : Addr
  c : Nat
  lst : Addr
  ps : List Fp
def fpO (fs : List Op) : List Addr := fs.flatMap fun f => f.lst :: f.ps.flatMap Fp.as
def fpR (al hh : Addr) (fs : List Op) (hs : List Fp) : List Addr := al :: (fpO fs ++ (hh :: hs.flatMap Fp.as))
structure RepR (H0 H : Hp) (al hh : Addr) (fs : List Op) (hs : List Fp) : Prop where
  ab : H al = some (.lst (fs.map fun f => V.ref f.tup))
  op : ∀ f ∈ fs, H f.tup = some (.tup [.str ⟨#[f.c]⟩, .ref f.lst]) ∧ H f.lst = some (.lst (f.ps.map Fp.v)) ∧ ∀ p ∈ f.ps, FF H p.t p.v p.as
  he : H hh = some (.lst (hs.map Fp.v))
  hp : ∀ p ∈ hs, FF H p.t p.v p.as
  nd : (fpR al hh fs hs).Nodup
  fr : ∀ a ∈ fpR al hh fs hs, H0 a = none
def rsOf (prev : Nat) (fs : List Op) (hs : List Fp) : RS := ⟨prev, fs.map fun f => (f.c, f.ps.map Fp.t), hs.map Fp.t⟩
theorem nodup_swap {A B : List Addr} {x y : Addr} (h : (A ++ x :: B).Nodup) (hy : y ∉ A ++ B) : (A ++ y :: B).Nodup := by
  have h1 := List.perm_middle.nodup_iff.mp h
  exact List.perm_middle.nodup_iff.mpr (List.nodup_cons.mpr ⟨hy, (List.nodup_cons.mp h1).2⟩)
theorem fpR_app (al hh : Addr) (fs : List Op) (hs : List Fp) (p : Fp) : fpR al hh fs (hs ++ [p]) = fpR al hh fs hs ++ p.as := by
  simp [fpR, List.flatMap_append]
theorem RepR.live {H0 H : Hp} {al hh : Addr} {fs : List Op} {hs : List Fp} (R : RepR H0 H al hh fs hs) : ∀ a ∈ fpR al hh fs hs, ∃ xs, H a = some (.lst xs) := by
  intro a ha
  unfold fpR fpO at ha
  rcases List.mem_cons.mp ha with rfl | ha
  · exact ⟨_, R.ab⟩
  rcases List.mem_append.mp ha with ha | ha
  · obtain ⟨f, hf, ha⟩ := List.mem_flatMap.mp ha
    obtain ⟨h1, h2, h3⟩ := R.op f hf
    rcases List.mem_cons.mp ha with rfl | ha
    · exact ⟨_, h2⟩
    · obtain ⟨p, hp, ha⟩ := List.mem_flatMap.mp ha
      exact (h3 p hp).live a ha
  · rcases List.mem_cons.mp ha with rfl | ha
    · exact ⟨_, R.he⟩
    · obtain ⟨p, hp, ha⟩ := List.mem_flatMap.mp ha
      exact (R.hp p hp).live a ha
theorem RepR.new {H0 H : Hp} {al hh a : Addr} {fs : List Op} {hs : List Fp} (R : RepR H0 H al hh fs hs) (n : H a = none) : a ∉ fpR al hh fs hs := fun h => by
  obtain ⟨xs, e⟩ := R.live a h
  rw [n] at e
  cases e
theorem RepR.same {H0 H H' : Hp} {al hh : Addr} {fs : List Op} {hs : List Fp} (R : RepR H0 H al hh fs hs) (S : Same H H') : RepR H0 H' al hh fs hs :=
  ⟨S _ _ R.ab, fun f hf => ⟨S _ _ (R.op f hf).1, S _ _ (R.op f hf).2.1, fun p hp => ((R.op f hf).2.2 p hp).same S⟩, S _ _ R.he, fun p hp => (R.hp p hp).same S, R.nd, R.fr⟩
theorem mem_op {al hh a : Addr} {fs : List Op} {hs : List Fp} {f : Op} (hf : f ∈ fs) (h : a = f.lst ∨ ∃ p ∈ f.ps, a ∈ p.as) : a ∈ fpO fs := by
  refine List.mem_flatMap.mpr ⟨f, hf, ?_⟩
  rcases h with rfl | ⟨p, hp, ha⟩
  · exact List.mem_cons_self
  · exact List.mem_cons_of_mem _ (List.mem_flatMap.mpr ⟨p, hp, ha⟩)
/-- the list of those here is changed -/
theorem RepR.here {H0 H H' : Hp} {al hh : Addr} {fs : List Op} {hs hs' : List Fp} (R : RepR H0 H al hh fs hs) (k : Keep [hh] H H') (e : H' hh = some (.lst (hs'.map Fp.v))) (hp : ∀ p ∈ hs', FF H' p.t p.v p.as) (nd : (fpR al hh fs hs').Nodup)
    (fr : ∀ a ∈ fpR al hh fs hs', H0 a = none) : RepR H0 H' al hh fs hs' := by
  have nd0 := R.nd
  unfold fpR at nd0
  obtain ⟨n1, n2⟩ := List.nodup_cons.mp nd0
  obtain ⟨n3, n4, n5⟩ := List.nodup_append.mp n2
  have nah : al ∉ [hh] := fun z => n1 (by rw [List.mem_singleton.mp z]; exact List.mem_append_right _ List.mem_cons_self)
  have nO : ∀ a ∈ fpO fs, a ∉ [hh] := fun a ha z => n5 a ha hh List.mem_cons_self (List.mem_singleton.mp z)
  refine ⟨k.but _ _ nah R.ab, fun f hf => ?_, e, hp, nd, fr⟩
  obtain ⟨h1, h2, h3⟩ := R.op f hf
  exact ⟨k.tup _ _ h1, k.but _ _ (nO _ (mem_op (al := al) (hh := hh) (hs := hs) hf (.inl rfl))) h2, fun p hp => (h3 p hp).keep k fun b hb => nO _ (mem_op (al := al) (hh := hh) (hs := hs) hf (.inr ⟨p, hp, hb⟩))⟩
theorem RepR.put {H0 H H' : Hp} {al hh : Addr} {fs : List Op} {hs : List Fp} {p : Fp} (R : RepR H0 H al hh fs hs) (k : Keep [hh] H H') (e : H' hh = some (.lst ((hs ++ [p]).map Fp.v))) (hp : FF H' p.t p.v p.as) (h1 : ∀ a ∈ p.as, a ∉ fpR al hh fs hs) (h2 : p.as.Nodup)
    (h3 : ∀ a ∈ p.as, H0 a = none) : RepR H0 H' al hh fs (hs ++ [p]) := by
  have nd0 := R.nd
  unfold fpR at nd0
  obtain ⟨_, n2⟩ := List.nodup_cons.mp nd0
  obtain ⟨_, n4, _⟩ := List.nodup_append.mp n2
  obtain ⟨n6, _⟩ := List.nodup_cons.mp n4
  refine R.here k e (fun q hq => ?_) ?_ ?_
  · rcases List.mem_append.mp hq with hq | hq
    · exact (R.hp q hq).keep k fun b hb z => n6 (by rw [← List.mem_singleton.mp z]; exact List.mem_flatMap.mpr ⟨q, hq, hb⟩)
    · obtain rfl := List.mem_singleton.mp hq
      exact hp
  · rw [fpR_app]
    exact List.nodup_append.mpr ⟨R.nd, h2, fun a ha b hb z => h1 b hb (z ▸ ha)⟩
  · intro a ha
    rw [fpR_app] at ha
    rcases List.mem_append.mp ha with ha | ha
    · exact R.fr a ha
    · exact h3 a ha
theorem RepR.pop {H0 H H' : Hp} {al hh : Addr} {fs : List Op} {hs : List Fp} {p : Fp} (R : RepR H0 H al hh fs (hs ++ [p])) (k : Keep [hh] H H') (e : H' hh = some (.lst (hs.map Fp.v))) : RepR H0 H' al hh fs hs := by
  have nd0 := R.nd
  have nd1 := nd0
  unfold fpR at nd0
  obtain ⟨_, n2⟩ := List.nodup_cons.mp nd0
  obtain ⟨_, n4, _⟩ := List.nodup_append.mp n2
  obtain ⟨n6, _⟩ := List.nodup_cons.mp n4
  rw [fpR_app] at nd1
  refine R.here k e (fun q hq => ?_) (List.nodup_append.mp nd1).1 fun a ha => R.fr a (by rw [fpR_app]; exact List.mem_append_left _ ha)
  exact (R.hp q (List.mem_append_left _ hq)).keep k fun b hb z => n6 (by rw [← List.mem_singleton.mp z]; exact List.mem_flatMap.mpr ⟨q, List.mem_append_left _ hq, hb⟩)
/-- the list of the open ones is changed: all else stands -/
theorem RepR.away {H0 H H' : Hp} {al hh : Addr} {fs : List Op} {hs : List Fp} (R : RepR H0 H al hh fs hs) (k : Keep [al] H H') :
    (∀ f ∈ fs, H' f.tup = some (.tup [.str ⟨#[f.c]⟩, .ref f.lst]) ∧ H' f.lst = some (.lst (f.ps.map Fp.v)) ∧ ∀ p ∈ f.ps, FF H' p.t p.v p.as) ∧ H' hh = some (.lst (hs.map Fp.v)) ∧ ∀ p ∈ hs, FF H' p.t p.v p.as := by
  have nd0 := R.nd
  unfold fpR at nd0
  obtain ⟨n1, _⟩ := List.nodup_cons.mp nd0
  have nO : ∀ a ∈ fpO fs, a ∉ [al] := fun a ha z => n1 (by rw [← List.mem_singleton.mp z]; exact List.mem_append_left _ ha)
  have nH : ∀ a ∈ hh :: hs.flatMap Fp.as, a ∉ [al] := fun a ha z => n1 (by rw [← List.mem_singleton.mp z]; exact List.mem_append_right _ ha)
  refine ⟨fun f hf => ?_, k.but _ _ (nH _ List.mem_cons_self) R.he, fun p hp => (R.hp p hp).keep k fun b hb => nH _ (List.mem_cons_of_mem _ (List.mem_flatMap.mpr ⟨p, hp, hb⟩))⟩
  obtain ⟨h1, h2', h3⟩ := R.op f hf
  exact ⟨k.tup _ _ h1, k.but _ _ (nO _ (mem_op (al := al) (hh := hh) (hs := hs) hf (.inl rfl))) h2', fun p hp => (h3 p hp).keep k fun b hb => nO _ (mem_op (al := al) (hh := hh) (hs := hs) hf (.inr ⟨p, hp, hb⟩))⟩
/-- a part is opened -/
theorem RepR.opened {H0 H H' : Hp} {al hh h2 t : Addr} {c : Nat} {fs : List Op} {hs : List Fp} (R : RepR H0 H al hh fs hs) (k : Keep [al] H H') (ht : H t = some (.tup [.str ⟨#[c]⟩, .ref hh])) (ea : H' al = some (.lst ((fs ++ [(⟨t, c, hh, hs⟩ : Op)]).map fun f => V.ref f.tup)))
    (e2 : H' h2 = some (.lst [])) (n2 : H h2 = none) (n0 : H0 h2 = none) : RepR H0 H' al h2 (fs ++ [⟨t, c, hh, hs⟩]) [] := by
  have nd0 := R.nd
  unfold fpR at nd0
  obtain ⟨n1, _⟩ := List.nodup_cons.mp nd0
  have nO : ∀ a ∈ fpO fs, a ∉ [al] := fun a ha z => n1 (by rw [← List.mem_singleton.mp z]; exact List.mem_append_left _ ha)
  have nH : ∀ a ∈ hh :: hs.flatMap Fp.as, a ∉ [al] := fun a ha z => n1 (by rw [← List.mem_singleton.mp z]; exact List.mem_append_right _ ha)
  have ef : fpR al h2 (fs ++ [⟨t, c, hh, hs⟩]) [] = fpR al hh fs hs ++ [h2] := by simp [fpR, fpO, List.flatMap_append]
  refine ⟨ea, fun f hf => ?_, e2, fun p hp => (by cases hp), ?_, ?_⟩
  · rcases List.mem_append.mp hf with hf | hf
    · obtain ⟨h1, h2', h3⟩ := R.op f hf
      exact ⟨k.tup _ _ h1, k.but _ _ (nO _ (mem_op (al := al) (hh := hh) (hs := hs) hf (.inl rfl))) h2', fun p hp => (h3 p hp).keep k fun b hb => nO _ (mem_op (al := al) (hh := hh) (hs := hs) hf (.inr ⟨p, hp, hb⟩))⟩
    · obtain rfl := List.mem_singleton.mp hf
      exact ⟨k.tup _ _ ht, k.but _ _ (nH _ List.mem_cons_self) R.he, fun p hp => (R.hp p hp).keep k fun b hb => nH _ (List.mem_cons_of_mem _ (List.mem_flatMap.mpr ⟨p, hp, hb⟩))⟩
  · rw [ef]
    exact List.nodup_append.mpr ⟨R.nd, by simp, fun a ha b hb z => R.new n2 (by rw [← List.mem_singleton.mp hb, ← z]; exact ha)⟩
  · intro a ha
    rw [ef] at ha
    rcases List.mem_append.mp ha with ha | ha
    · exact R.fr a ha
    · rw [List.mem_singleton.mp ha]
      exact n0
/-- a part is closed -/
theorem RepR.closed {H0 H H' : Hp} {al hh ml t l : Addr} {c : Nat} {u : Tr} {v : V} {fs : List Op} {hs ms : List Fp} (R : RepR H0 H al hh (fs ++ [⟨t, c, ml, ms⟩]) hs) (k : Keep [al, ml] H H') (ea : H' al = some (.lst (fs.map fun f => V.ref f.tup)))
    (em : H' ml = some (.lst ((ms ++ [(v, u, l :: hs.flatMap Fp.as)]).map Fp.v))) (hF : FF H' u v (l :: hs.flatMap Fp.as)) (nl : H l = none) (n0 : H0 l = none) : RepR H0 H' al ml fs (ms ++ [(v, u, l :: hs.flatMap Fp.as)]) := by
  have eO : fpR al hh (fs ++ [⟨t, c, ml, ms⟩]) hs = (al :: (fpO fs ++ (ml :: ms.flatMap Fp.as))) ++ (hh :: hs.flatMap Fp.as) := by simp [fpR, fpO, List.flatMap_append]
  have eN : fpR al ml fs (ms ++ [(v, u, l :: hs.flatMap Fp.as)]) = (al :: (fpO fs ++ (ml :: ms.flatMap Fp.as))) ++ (l :: hs.flatMap Fp.as) := by simp [fpR, fpO, List.flatMap_append]
  have nd0 := R.nd
  have hl := R.new nl
  rw [eO] at nd0 hl
  obtain ⟨n1, _, _⟩ := List.nodup_append.mp nd0
  obtain ⟨n2, n3⟩ := List.nodup_cons.mp n1
  obtain ⟨_, n4, n5⟩ := List.nodup_append.mp n3
  obtain ⟨n6, _⟩ := List.nodup_cons.mp n4
  have nO : ∀ a ∈ fpO fs, a ∉ [al, ml] := fun a ha z => by
    rcases List.mem_cons.mp z with rfl | z
    · exact n2 (List.mem_append_left _ ha)
    · exact n5 a ha ml List.mem_cons_self (List.mem_singleton.mp z)
  have nM : ∀ a ∈ ms.flatMap Fp.as, a ∉ [al, ml] := fun a ha z => by
    rcases List.mem_cons.mp z with rfl | z
    · exact n2 (List.mem_append_right _ (List.mem_cons_of_mem _ ha))
    · exact n6 (by rw [← List.mem_singleton.mp z]; exact ha)
  have op := (R.op ⟨t, c, ml, ms⟩ (by simp)).2.2
  refine ⟨ea, fun f hf => ?_, em, fun p hp => ?_, ?_, ?_⟩
  · obtain ⟨h1, h2', h3⟩ := R.op f (List.mem_append_left _ hf)
    exact ⟨k.tup _ _ h1, k.but _ _ (nO _ (mem_op (al := al) (hh := hh) (hs := hs) hf (.inl rfl))) h2', fun p hp => (h3 p hp).keep k fun b hb => nO _ (mem_op (al := al) (hh := hh) (hs := hs) hf (.inr ⟨p, hp, hb⟩))⟩
  · rcases List.mem_append.mp hp with hp | hp
    · exact (op p hp).keep k fun b hb => nM _ (List.mem_flatMap.mpr ⟨p, hp, hb⟩)
    · obtain rfl := List.mem_singleton.mp hp
      exact hF
  · rw [eN]
    refine nodup_swap nd0 fun z => hl ?_
    rcases List.mem_append.mp z with z | z
    · exact List.mem_append_left _ z
    · exact List.mem_append_right _ (List.mem_cons_of_mem _ z)
  · intro a ha
    rw [eN] at ha
    rcases List.mem_append.mp ha with ha | ha
    · exact R.fr a (by rw [eO]; exact List.mem_append_left _ ha)
    · rcases List.mem_cons.mp ha with rfl | ha
      · exact n0
      · exact R.fr a (by rw [eO]; exact List.mem_append_right _ (List.mem_cons_of_mem _ ha))
section
variable {P : Program} {w : World} {K : PySem.W.Frag} {mg : Str → Option Value} {base : Heap}

end
end Hy
set_option Elab.async false
set_option linter.all false
set_option maxRecDepth 100000
set_option maxHeartbeats 4000000
namespace Hy
open PySem L2
local macro_rules | `(tactic| walk_at "hp") => `(tactic| first
  | assumption | exact upd_same
  | (refine (upd_ne ?_).trans ?_ <;> first | assumption | (exact Ne.symm (by assumption)) | walk_at "ne" | walk_at "hp")
  | (refine (by assumption : Same _ _) _ _ ?_; assumption))
local macro_rules | `(tactic| walk_at "ne") => `(tactic| first
  | assumption | (exact Ne.symm (by assumption))
  | exact ne_of_none (by assumption) (by assumption) | exact Ne.symm (ne_of_none (by assumption) (by assumption)))
local macro_rules | `(tactic| walk_at "sz") => `(tactic| first | assumption | (show 0 ≤ sizeLine; decide) | (show 1 ≤ sizeLine; decide) | (show 2 ≤ sizeLine; decide) | (show 3 ≤ sizeLine; decide))
local macro_rules | `(tactic| walk_at "ar") => `(tactic| first
  | ((with_reducible show (0 : Int) < _); first | decide | omega)
  | ((with_reducible show CMul _ _); first | exact Or.inr (And.intro (by decide) (by decide)) | exact Or.inl (And.intro (by decide) (by decide)) | (refine Or.inl (And.intro ?_ ?_) <;> omega) | (refine Or.inr (And.intro ?_ ?_) <;> omega))
  | ((with_reducible show CPow _ _); exact And.intro (by decide) (And.intro (by decide) (by decide)))
  | ((with_reducible show CDiv _ _); first | exact And.intro (by decide) (by decide) | (refine And.intro ?_ ?_ <;> omega)))
/- one step of a reading -/
local macro_rules | `(tactic| walk_at "r1") => `(tactic| first
  | refine ⟨_, rfl, ?_⟩
  | refine iteB (by rfl) ?_ | refine iteC (by rfl) ?_
  | refine ⟨_, _, rfl, rfl, ?_⟩
  | refine ⟨rfl, ?_⟩
  | refine ⟨⟨_, rfl⟩, ?_⟩
  | refine ⟨_, _, _, _, true, rfl, .ty _, .base (.str _), kit_ty (by decide +kernel), ?_⟩
  | refine ⟨_, _, _, _, false, rfl, .ty _, .base (.str _), kit_ty (by decide +kernel), ?_⟩
  | refine ⟨_, _, _, _, true, rfl, .ty _, .base (.tup (by walk_at "hp")), kit_ty (by decide +kernel), ?_⟩
  | refine ⟨_, _, _, _, false, rfl, .ty _, .base (.tup (by walk_at "hp")), kit_ty (by decide +kernel), ?_⟩
  | refine ⟨_, _, _, _, true, rfl, .ty _, .base (.lst (by walk_at "hp")), kit_ty (by decide +kernel), ?_⟩
  | refine ⟨_, _, _, _, false, rfl, .ty _, .base (.lst (by walk_at "hp")), kit_ty (by decide +kernel), ?_⟩
  | refine ⟨_, _, rfl, ⟨by walk_at "sz", rfl⟩, ?_⟩
  | refine ⟨_, _, _, _, rfl, rfl, SqT.of (by walk_at "hp"), by rfl, ?_⟩
  | refine ⟨_, _, _, _, rfl, rfl, SqL.of (by walk_at "hp"), by rfl, ?_⟩
  | refine ⟨.inl ⟨rfl, _, SqL.of (by walk_at "hp")⟩, ?_⟩
  | refine ⟨_, _, _, rfl, rfl, (by walk_at "hp"), snoc_get, ?_⟩
  | refine ⟨_, _, _, _, rfl, rfl, (by walk_at "hp"), by rfl, ?_⟩
  | refine ⟨_, _, rfl, SqL.of (by walk_at "hp"), ?_⟩
  | refine ⟨_, _, rfl, SqT.of (by walk_at "hp"), by rfl, ?_⟩
  | refine ⟨_, (_ : List V), rfl, ?_⟩
  | refine ⟨_, _, rfl, .inl ⟨_, (by assumption), rfl⟩, ?_⟩
  | refine ⟨_, _, rfl, .inl ⟨_, SqL.of (by walk_at "hp"), rfl⟩, ?_⟩
  | refine ⟨_, _, rfl, .inr ⟨_, SqT.of (by walk_at "hp"), rfl⟩, ?_⟩
  | refine Or.inl ⟨(_ : Int), rfl, ?_⟩ | refine Or.inr ⟨(_ : Bool), rfl, ?_⟩
  | refine And.intro (by walk_at "ar") ?_)
local macro_rules | `(tactic| walk_at "rd") => `(tactic| repeat walk_at "r1")

section
variable {P : Program} {w : World} {K : PySem.W.Frag} {mg : Str → Option Value} {base : Heap}
abbrev s__law_cell : Stmt := top 26
theorem sc__law_cell : FnScope ["script", "k"] ["script", "k"] (defScope s__law_cell) := ⟨rfl, rfl, rfl, by decide +kernel, rfl, by decide +kernel, by decide +kernel⟩
abbrev s__law_store : Stmt := top 27
theorem sc__law_store : FnScope ["cell", "great"] ["cell"] (defScope s__law_store) := ⟨rfl, rfl, rfl, by decide +kernel, rfl, by decide +kernel, by decide +kernel⟩
abbrev s__law_take : Stmt := top 28
theorem sc__law_take : FnScope ["store", "many", "told", "one"] ["store", "many"] (defScope s__law_take) := ⟨rfl, rfl, rfl, by decide +kernel, rfl, by decide +kernel, by decide +kernel⟩

def sp__law_cell : Sp := fun vs H Q _ => ∃ (a : Addr) (ns : List Int) (k : Nat), vs = [.ref a, .int (k : Int)] ∧ SqL K H a (ns.map V.int) ∧ k < 1000 ∧ ∀ z : Int, Q (.int z) H
theorem ok__law_cell (D : Df K mg "_law_cell" s__law_cell ["script", "k"]) (T : Txt K mg) : G' P w K mg base "_law_cell" 1 ["script", "k"] (sp__law_cell (K := K)) := by
  refine D.ok fun f fd F => F.okX sc__law_cell (fun vs H Q E h => ?_) (fun cdv A outer s H vs Q E hr h => ?_)
  · obtain ⟨a, ns, k, rfl, _⟩ := h
    rfl
  · obtain ⟨a, ns, k, rfl, hs, hk, q⟩ := h
    refine ⟨_, (pss_cons (ps_if (pt_cmpR op_lt (pv 1) (pe_callB (call_lenK K) (by rfl) T.n_len PySem.boot_len (pa_cons (pv 0) pa_nil)) (nomark _)) (pss_one (ps_ret (pe_ix (ix_listK K) (pv 0) (pv 1) (fun _ _ => rfl)))) pss_nil)
  (pss_one (ps_ret (pe_op op_add (pe_op op_add (pe_op op_mul (pe_op op_mul pe_int (pv 1)) (pv 1)) (pe_op op_mul pe_int (pv 1))) pe_int)))), ?_⟩
    walk_at "rd"
    rw [List.length_map]
    by_cases h : k < ns.length
    · refine iteB (decide_eq_true (by omega)) ?_
      walk_at "rd"
      refine ⟨_, _, _, _, rfl, rfl, hs, atI_nat (by rw [List.getElem?_map, List.getElem?_eq_getElem h]; rfl), ?_⟩
      exact q _
    · refine iteC (decide_eq_false (by omega)) ?_
      walk_at "rd"
      exact q _
def sp__law_store : Sp := fun vs H Q _ => ∃ c : Int, vs = [.int c] ∧ ∀ (H' : Hp) (p : Addr) (g x : Int), Same H H' → H p = none → H' p = some (.lst [.int g, .int x, .int 1]) → Q (.ref p) H'
theorem ok__law_store (D : Df K mg "_law_store" s__law_store ["cell"]) (T : Txt K mg) : G' P w K mg base "_law_store" 1 ["cell"] sp__law_store := by
  refine D.ok fun f fd F => F.okX sc__law_store (fun vs H Q E h => ?_) (fun cdv A outer s H vs Q E hr h => ?_)
  · obtain ⟨c, rfl, _⟩ := h
    rfl
  · obtain ⟨c, rfl, q⟩ := h
    refine ⟨_, (pss_cons (ps_set (i := 1) sc__law_store.nd rfl (by first | exact Or.inl rfl | exact Or.inr rfl) pe_int)
  (pss_cons (ps_if (pt_cmpR op_ge (pv 0) (pe_op op_pow pe_int pe_int) (nomark _)) (pss_one (ps_set (i := 1) sc__law_store.nd rfl (by first | exact Or.inl rfl | exact Or.inr rfl) (pv 0))) pss_nil)
  (pss_one (ps_ret (pe_lst (pa_cons (pv 1) (pa_cons (pe_op op_mod (pv 0) pe_int) (pa_cons pe_int pa_nil)))))))), ?_⟩
    walk_at "rd"
    have fin : ∀ (g : Int) (p : Addr), H p = none → Q (.ref p) (upd H p (.lst [.int g, .int (c % 2147483629), .int 1])) := fun g p np => q _ p _ _ (same_new np) np upd_same
    by_cases h : c ≥ 1000000000000000000
    · refine iteB (decide_eq_true (by first | exact h | omega)) ?_
      walk_at "rd"
      exact ⟨(by walk_at "sz"), fun p np => fin _ p np⟩
    · refine iteC (decide_eq_false (by first | exact h | omega)) ?_
      walk_at "rd"
      exact ⟨(by walk_at "sz"), fun p np => fin _ p np⟩
/-- the store of draws -/
def StoreAt (H : Hp) (s : Addr) : Prop := ∃ g x n : Int, H s = some (.lst [.int g, .int x, .int n])
def sp__law_take : Sp := fun vs H Q _ => ∃ (s : Addr) (m : Int), vs = [.ref s, .int m] ∧ StoreAt H s ∧ 1 ≤ m ∧ m ≤ 1000000 ∧ ∀ (H' : Hp) (r : Int), Keep [s] H H' → StoreAt H' s → 0 ≤ r → r < m → Q (.int r) H'
theorem ok__law_take (D : Df K mg "_law_take" s__law_take ["store", "many"]) (T : Txt K mg) : G' P w K mg base "_law_take" 1 ["store", "many"] sp__law_take := by
  refine D.ok fun f fd F => F.okX sc__law_take (fun vs H Q E h => ?_) (fun cdv A outer s H vs Q E hr h => ?_)
  · obtain ⟨s, m, rfl, _⟩ := h
    rfl
  · obtain ⟨st, m, rfl, ⟨g, x, n, hst⟩, h1, h2, q⟩ := h
    refine ⟨_, (pss_cons (ps_if (pt_cmpR op_gt (pe_ix (ix_listK K) (pv 0) pe_int (fun _ _ => rfl)) pe_int (nomark _)) (pss_cons (ps_set (i := 2) sc__law_take.nd rfl (by first | exact Or.inl rfl | exact Or.inr rfl) (pe_op op_mod (pe_ix (ix_listK K) (pv 0) pe_int (fun _ _ => rfl)) (pv 1)))
  (pss_cons (ps_asg (pe_op op_fdiv (pe_ix (ix_listK K) (pv 0) pe_int (fun _ _ => rfl)) (pv 1)) (pg_sub (pv 0) pe_int set_list))
  (pss_one (ps_ret (pv 2))))) pss_nil)
  (pss_cons (ps_asg (pe_op op_add (pe_ix (ix_listK K) (pv 0) pe_int (fun _ _ => rfl)) pe_int) (pg_sub (pv 0) pe_int set_list))
  (pss_cons (ps_set (i := 3) sc__law_take.nd rfl (by first | exact Or.inl rfl | exact Or.inr rfl) (pe_op op_mod (pe_op op_mul (pe_op op_add (pe_ix (ix_listK K) (pv 0) pe_int (fun _ _ => rfl)) (pe_op op_mul pe_int (pe_ix (ix_listK K) (pv 0) pe_int (fun _ _ => rfl)))) pe_int) pe_int))
  (pss_cons (ps_set (i := 3) sc__law_take.nd rfl (by first | exact Or.inl rfl | exact Or.inr rfl) (pe_op op_mod (pe_op op_mul (pv 3) (pv 3)) pe_int))
  (pss_cons (ps_set (i := 3) sc__law_take.nd rfl (by first | exact Or.inl rfl | exact Or.inr rfl) (pe_op op_mod (pe_op op_mul (pe_op op_add (pv 3) (pe_op op_mul pe_int (pe_ix (ix_listK K) (pv 0) pe_int (fun _ _ => rfl)))) pe_int) pe_int))
  (pss_one (ps_ret (pe_op op_mod (pe_op op_fdiv (pv 3) pe_int) (pv 1))))))))), ?_⟩
    walk_at "rd"
    by_cases h : g > 0
    · refine iteB (decide_eq_true (by omega)) ?_
      walk_at "rd"
      exact q _ _ ((Keep.refl _ _).upd (by simp) hst) ⟨_, _, _, upd_same⟩ (Int.emod_nonneg _ (by omega)) (Int.emod_lt_of_pos _ (by omega))
    · refine iteC (decide_eq_false (by omega)) ?_
      walk_at "rd"
      exact q _ _ ((Keep.refl _ _).upd (by simp) hst) ⟨_, _, _, upd_same⟩ (Int.emod_nonneg _ (by omega)) (Int.emod_lt_of_pos _ (by omega))
end
end Hy
set_option Elab.async false
set_option linter.all false
set_option maxRecDepth 100000
set_option maxHeartbeats 4000000
namespace Hy
open PySem L2
local macro_rules | `(tactic| walk_at "hp") => `(tactic| first
  | assumption | exact upd_same
  | (refine (upd_ne ?_).trans ?_ <;> first | assumption | (exact Ne.symm (by assumption)) | walk_at "ne" | walk_at "hp")
  | (refine (by assumption : Same _ _) _ _ ?_; assumption))
local macro_rules | `(tactic| walk_at "ne") => `(tactic| first
  | assumption | (exact Ne.symm (by assumption))
  | exact ne_of_none (by assumption) (by assumption) | exact Ne.symm (ne_of_none (by assumption) (by assumption)))
local macro_rules | `(tactic| walk_at "sz") => `(tactic| first | assumption | (show 0 ≤ sizeLine; decide) | (show 1 ≤ sizeLine; decide) | (show 2 ≤ sizeLine; decide) | (show 3 ≤ sizeLine; decide))
local macro_rules | `(tactic| walk_at "ar") => `(tactic| first
  | ((with_reducible show (0 : Int) < _); first | decide | omega)
  | ((with_reducible show CMul _ _); first | exact Or.inr (And.intro (by decide) (by decide)) | exact Or.inl (And.intro (by decide) (by decide)) | (refine Or.inl (And.intro ?_ ?_) <;> omega) | (refine Or.inr (And.intro ?_ ?_) <;> omega))
  | ((with_reducible show CPow _ _); exact And.intro (by decide) (And.intro (by decide) (by decide)))
  | ((with_reducible show CDiv _ _); first | exact And.intro (by decide) (by decide) | (refine And.intro ?_ ?_ <;> omega)))
/- one step of a reading -/
local macro_rules | `(tactic| walk_at "r1") => `(tactic| first
  | refine ⟨_, rfl, ?_⟩
  | refine iteB (by rfl) ?_ | refine iteC (by rfl) ?_
  | refine ⟨_, _, rfl, rfl, ?_⟩
  | refine ⟨rfl, ?_⟩
  | refine ⟨⟨_, rfl⟩, ?_⟩
  | refine ⟨_, _, _, _, true, rfl, .ty _, .base (.str _), kit_ty (by decide +kernel), ?_⟩
  | refine ⟨_, _, _, _, false, rfl, .ty _, .base (.str _), kit_ty (by decide +kernel), ?_⟩
  | refine ⟨_, _, _, _, true, rfl, .ty _, .base (.int _), kit_ty (by decide +kernel), ?_⟩
  | refine ⟨_, _, _, _, false, rfl, .ty _, .base (.int _), kit_ty (by decide +kernel), ?_⟩
  | refine ⟨_, _, _, _, true, rfl, .ty _, .base (.tup (by walk_at "hp")), kit_ty (by decide +kernel), ?_⟩
  | refine ⟨_, _, _, _, false, rfl, .ty _, .base (.tup (by walk_at "hp")), kit_ty (by decide +kernel), ?_⟩
  | refine ⟨_, _, _, _, true, rfl, .ty _, .base (.lst (by walk_at "hp")), kit_ty (by decide +kernel), ?_⟩
  | refine ⟨_, _, _, _, false, rfl, .ty _, .base (.lst (by walk_at "hp")), kit_ty (by decide +kernel), ?_⟩
  | refine ⟨_, _, rfl, ⟨by walk_at "sz", rfl⟩, ?_⟩
  | refine ⟨_, _, _, _, rfl, rfl, SqT.of (by walk_at "hp"), by rfl, ?_⟩
  | refine ⟨_, _, _, _, rfl, rfl, SqL.of (by walk_at "hp"), by rfl, ?_⟩
  | refine ⟨.inl ⟨rfl, _, SqL.of (by walk_at "hp")⟩, ?_⟩
  | refine ⟨_, _, _, rfl, rfl, (by walk_at "hp"), snoc_get, ?_⟩
  | refine ⟨_, _, _, _, rfl, rfl, (by walk_at "hp"), by rfl, ?_⟩
  | refine ⟨_, _, rfl, SqL.of (by walk_at "hp"), ?_⟩
  | refine ⟨_, _, rfl, SqT.of (by walk_at "hp"), by rfl, ?_⟩
  | refine ⟨_, (_ : List V), rfl, ?_⟩
  | refine ⟨_, _, rfl, .inl ⟨_, (by assumption), rfl⟩, ?_⟩
  | refine ⟨_, _, rfl, .inl ⟨_, SqL.of (by walk_at "hp"), rfl⟩, ?_⟩
  | refine ⟨_, _, rfl, .inr ⟨_, SqT.of (by walk_at "hp"), rfl⟩, ?_⟩
  | refine Or.inl ⟨(_ : Int), rfl, ?_⟩ | refine Or.inr ⟨(_ : Bool), rfl, ?_⟩
  | refine ⟨_, _, _, _, true, rfl, (by assumption : ND _ _ _ _), .ty _, kit_ty (by decide +kernel), ?_⟩
  | refine ⟨_, _, _, _, false, rfl, (by assumption : ND _ _ _ _), .ty _, kit_ty (by decide +kernel), ?_⟩
  | refine ⟨_, _, rfl, (by assumption : ND _ _ _ _), ?_⟩
  | refine And.intro (by walk_at "ar") ?_)
local macro_rules | `(tactic| walk_at "rd") => `(tactic| repeat walk_at "r1")

theorem tup_upd {H : Hp} {D : Addr} {ys : List V} {o : HO} (h : H D = some (.lst ys)) (b : Addr) (xs : List V) (e : H b = some (.tup xs)) : upd H D o b = some (.tup xs) := by
  rw [upd_ne (ne_of e h (fun z => nomatch z))]
  exact e
theorem row_snoc {K : PySem.W.Frag} {H : Hp} {b p : Addr} {r : List Nat} {q : Nat} {z : Int} {Q : V → Hp → Prop} (hb : H b = some (.tup (r.map fun n => V.int (n : Nat)))) (hp : H p = some (.tup [.int z])) (hz : z = (q : Int)) (hl : r.length + 1 ≤ sizeLine)
    (k : ∀ H' v, Same H H' → NKv H' (kR (r ++ [q])) v → Q v H') : rCatA K (.ref b) (.ref p) H Q := by
  subst hz
  refine ⟨b, p, _, _, rfl, rfl, SqT.of hb, SqT.of hp, by rw [List.length_map]; exact hl, fun e => ?_, (fun _ e => (nomatch e)), fun _ _ u nu => ?_⟩
  · have : r = [] := List.map_eq_nil_iff.mp e
    subst this
    exact k _ _ (Same.refl _) (row_mk hp)
  · refine k _ _ (same_new nu) (row_mk ?_)
    rw [upd_same, List.map_append]
    rfl
section
variable {P : Program} {w : World} {K : PySem.W.Frag} {mg : Str → Option Value} {base : Heap}
abbrev s_class_rows : Stmt := top 19
theorem sc_class_rows : FnScope ["states", "classes", "rows", "turn", "longer", "row", "one"] ["states", "classes"] (defScope s_class_rows) := ⟨rfl, rfl, rfl, by decide +kernel, rfl, by decide +kernel, by decide +kernel⟩
abbrev s__law_classes : Stmt := top 29
theorem sc__law_classes : FnScope ["many", "states", "rows", "k", "longer", "row", "one"] ["many", "states"] (defScope s__law_classes) := ⟨rfl, rfl, rfl, by decide +kernel, rfl, by decide +kernel, by decide +kernel⟩

def sp_class_rows : Sp := fun vs H Q _ => ∃ s m : Nat, vs = [.int (s : Int), .int (m : Int)] ∧ s ≤ 1000 ∧ m ≤ 1000 ∧ (∀ i, i ≤ s → m ^ i ≤ 3000) ∧ ∀ (H' : Hp) (p : Addr) (ws : List V), Same H H' → H p = none → H' p = some (.lst ws) → RowsV H' ws (rowsL m s) → Q (.ref p) H'
theorem ok_class_rows (D : Df K mg "class_rows" s_class_rows ["states", "classes"]) (T : Txt K mg) : G' P w K mg base "class_rows" 1 ["states", "classes"] sp_class_rows := by
  refine D.ok fun f fd F => F.okX sc_class_rows (fun vs H Q E h => ?_) (fun cdv A outer s H vs Q E hr h => ?_)
  · obtain ⟨s, m, rfl, _⟩ := h
    rfl
  · obtain ⟨st, m, rfl, hst, hm, hpow, k⟩ := h
    refine ⟨_, (pss_cons (ps_set (i := 2) sc_class_rows.nd rfl (by first | exact Or.inl rfl | exact Or.inr rfl) (pe_lst (pa_cons (pe_tup pa_nil) pa_nil)))
  (pss_cons (ps_for (passes_of rfl) rfl (pi_range1 (by rfl) T.n_range (pa_cons (pv 0) pa_nil)) (pg_name (i := 3) sc_class_rows.nd rfl (by first | exact Or.inl rfl | exact Or.inr rfl)) (pss_cons (ps_set (i := 4) sc_class_rows.nd rfl (by first | exact Or.inl rfl | exact Or.inr rfl) (pe_lst pa_nil))
  (pss_cons (ps_for (passes_of rfl) rfl (pi_listK K (pv 2)) (pg_name (i := 5) sc_class_rows.nd rfl (by first | exact Or.inl rfl | exact Or.inr rfl)) (pss_one (ps_expr (cbm K (pe_bm PySem.F.plainAttrs_list PySem.F.slot_list_extend PySem.F.type_list_extend mt_extend (pv 4) (pa_cons (pe_lc (own := [("one", 6)]) rfl sc_class_rows.nd (pi_range1 (by rfl) T.n_range (pa_cons (pv 1) pa_nil)) (blkOk_by (own := [("one", 6)]) (N := ["states", "classes", "rows", "turn", "longer", "row", "one"]) (sc := defScope s_class_rows) (by decide +kernel)) (fun _ _ _ _ _ => (pg_name (i := 6) sc_class_rows.nd rfl (by first | exact Or.inl rfl | exact Or.inr rfl))) (fun _ _ _ _ _ => pts_nil) (fun _ _ _ _ _ => (pe_op (op_catAK K) (pv 5) (pe_tup (pa_cons (pv 6) pa_nil))))) pa_nil))))))
  (pss_one (ps_set (i := 2) sc_class_rows.nd rfl (by first | exact Or.inl rfl | exact Or.inr rfl) (pv 4))))))
  (pss_one (ps_ret (pv 2))))), ?_⟩
    walk_at "rd"
    refine ⟨(by walk_at "sz"), fun t0 nt0 => ?_⟩
    generalize e0 : upd H t0 _ = H0
    obtain ⟨S0, h0⟩ := newF nt0 e0
    walk_at "rd"
    refine ⟨(by walk_at "sz"), fun r0 nr0 => ?_⟩
    generalize e1 : upd H0 r0 _ = H1
    obtain ⟨S1, h1⟩ := newF nr0 e1
    walk_at "rd"
    refine ⟨by omega, by omega, ?_⟩
    refine for_range (lo := 0) (n := st) (fun i σ H' => ∃ (rl : Addr) (vs : List V) (tv lv rv : Option V), σ = [some (.int (st : Int)), some (.int (m : Int)), some (.ref rl), tv, lv, rv, none] ∧ Same H H' ∧ H rl = none ∧ H' rl = some (.lst vs) ∧ RowsV H' vs (rowsL m i))
      ⟨r0, [.ref t0], none, none, none, rfl, S0.trans S1, S0.free nr0, h1, .cons (row_mk (S1 _ _ h0)) .nil⟩ ?_ ?_
    · rintro i σ H2 hi ⟨rl, vs, tv, lv, rv, rfl, S2, nrl, hrl, hvs⟩
      refine ⟨(by walk_at "sz"), fun l1 n1 => ?_⟩
      generalize e2 : upd H2 l1 _ = H3
      obtain ⟨S23, hl1⟩ := newF n1 e2
      have S3 := S2.trans S23
      have hrl3 := S23 _ _ hrl
      have hvs3 := hvs.stay fun _ _ h => S23 _ _ h
      have nl1 : H l1 = none := S2.free n1
      walk_at "rd"
      refine ⟨⟨_, SqL.of hrl3⟩, for_list (K := K) (a := rl) (xs := vs) (fun j σ H' => ∃ (ws : List V) (rv : Option V), σ = [some (.int (st : Int)), some (.int (m : Int)), some (.ref rl), some (.int (0 + (i : Int))), some (.ref l1), rv, none] ∧ Same H2 H' ∧ H' l1 = some (.lst ws) ∧ RowsV H' ws (((rowsL m i).take j).flatMap fun r => (List.range m).map fun c => r ++ [c]))
        ⟨[], rv, rfl, S23, hl1, .nil⟩ (fun j σ H' _ ⟨_, _, _, S, _⟩ => SqL.of (S _ _ hrl)) ?_ ?_⟩
      · rintro j x σ H4 hx ⟨ws, rv, rfl, S4, hl4, hws⟩
        obtain ⟨r, hr2, hxr⟩ := paired_get hvs hx
        have hj : j < (rowsL m i).length := (List.getElem?_eq_some_iff.mp hr2).1
        have hlen := rowsL_len m i
        have hpi := hpow (i + 1) (by omega)
        rw [Nat.pow_succ] at hpi
        have hwl : ws.length = j * m := by
          rw [Paired.length hws, flatMap_len _ m _ (fun x _ => by simp), List.length_take]
          congr 1
          omega
        have hjm : j * m + m ≤ 3000 := by
          have : (j + 1) * m ≤ (rowsL m i).length * m := Nat.mul_le_mul_right m (by omega)
          rw [Nat.succ_mul, hlen] at this
          omega
        obtain ⟨b, rfl, hb⟩ := row_of hxr
        have hb4 := S4 _ _ hb
        walk_at "rd"
        refine ⟨by omega, by omega, ?_⟩
        refine fun D nD => lc_range (lo := 0) (n := m) (fun q H' => Same H4 H' ∧ ∃ acc, H' D = some (.lst acc) ∧ RowsV H' acc ((List.range q).map fun c => r ++ [c])) ⟨same_new nD, [], upd_same, .nil⟩ ?_ ?_
        · rintro q H5 hq ⟨S5, acc, hD, hacc⟩
          have hb5 := S5 _ _ hb4
          have hrl : r.length = i := (rowsL_mem.mp (List.mem_of_getElem? hr2)).1
          walk_at "rd"
          refine ⟨(by walk_at "sz"), fun p1 n1 => row_snoc (q := q) (by rw [upd_ne (ne_of_none hb5 n1)]; exact hb5) upd_same (by omega) (by rw [hrl]; exact Nat.le_trans (show i + 1 ≤ 1001 by omega) (by decide)) fun H6 v S6 hv => ?_⟩
          have S56 : Same H5 H6 := (same_new n1).trans S6
          have hD6 := S56 _ _ hD
          refine ⟨acc, hD6, ?_, Same.upd_own (S5.trans S56) nD, _, upd_same, ?_⟩
          · rw [Paired.length hacc, List.length_map, List.length_range]
            exact Nat.lt_of_lt_of_le (show q < 3000 by omega) (by decide)
          · rw [List.range_succ, List.map_append]
            exact ((hacc.stay fun _ _ h => S56 _ _ h).app (.cons hv .nil)).stay fun b xs e => tup_upd hD6 b xs e
        · rintro H5 ⟨S5, acc, hD, hacc⟩
          walk_at "rd"
          have hl5 := S5 _ _ hl4
          refine ⟨l1, D, ws, acc, rfl, rfl, hl5, hD, ?_, ?_⟩
          · rw [hwl, Paired.length hacc, List.length_map, List.length_range]
            exact Nat.le_trans hjm (by decide)
          · refine ⟨_, _, rfl, Same.upd_own (S4.trans S5) n1, upd_same, ?_⟩
            rw [List.take_succ, hr2, List.flatMap_append]
            refine RowsV.stay (RowsV.app (hws.stay fun _ _ h => S5 _ _ h) ?_) fun b xs e => tup_upd hl5 b xs e
            simpa using hacc
      · rintro σ H4 ⟨ws, rv, rfl, S4, hl4, hws⟩
        walk_at "rd"
        refine ⟨l1, ws, _, _, _, rfl, S2.trans S4, nl1, hl4, ?_⟩
        rw [Paired.length hvs, List.take_length] at hws
        exact hws
    · rintro σ H2 ⟨rl, vs, tv, lv, rv, rfl, S2, nrl, hrl, hvs⟩
      walk_at "rd"
      exact k _ _ _ S2 nrl hrl hvs
def sp__law_classes : Sp := fun vs H Q _ => ∃ s m : Nat, vs = [.int (m : Int), .int (s : Int)] ∧ s ≤ 1000 ∧ m ≤ 1000 ∧ (∀ i, i ≤ s → m ^ i ≤ 3000) ∧ ∀ (H' : Hp) (p : Addr) (ws : List V), Same H H' → H p = none → H' p = some (.lst ws) → RowsV H' ws (rowsL m s) → Q (.ref p) H'
theorem ok__law_classes (D : Df K mg "_law_classes" s__law_classes ["many", "states"]) (T : Txt K mg) : G' P w K mg base "_law_classes" 1 ["many", "states"] sp__law_classes := by
  refine D.ok fun f fd F => F.okX sc__law_classes (fun vs H Q E h => ?_) (fun cdv A outer s H vs Q E hr h => ?_)
  · obtain ⟨s, m, rfl, _⟩ := h
    rfl
  · obtain ⟨st, m, rfl, hst, hm, hpow, k⟩ := h
    refine ⟨_, (pss_cons (ps_set (i := 2) sc__law_classes.nd rfl (by first | exact Or.inl rfl | exact Or.inr rfl) (pe_lst (pa_cons (pe_tup pa_nil) pa_nil)))
  (pss_cons (ps_for (passes_of rfl) rfl (pi_range1 (by rfl) T.n_range (pa_cons (pv 1) pa_nil)) (pg_name (i := 3) sc__law_classes.nd rfl (by first | exact Or.inl rfl | exact Or.inr rfl)) (pss_cons (ps_set (i := 4) sc__law_classes.nd rfl (by first | exact Or.inl rfl | exact Or.inr rfl) (pe_lst pa_nil))
  (pss_cons (ps_for (passes_of rfl) rfl (pi_listK K (pv 2)) (pg_name (i := 5) sc__law_classes.nd rfl (by first | exact Or.inl rfl | exact Or.inr rfl)) (pss_one (ps_expr (cbm K (pe_bm PySem.F.plainAttrs_list PySem.F.slot_list_extend PySem.F.type_list_extend mt_extend (pv 4) (pa_cons (pe_lc (own := [("one", 6)]) rfl sc__law_classes.nd (pi_range1 (by rfl) T.n_range (pa_cons (pv 0) pa_nil)) (blkOk_by (own := [("one", 6)]) (N := ["many", "states", "rows", "k", "longer", "row", "one"]) (sc := defScope s__law_classes) (by decide +kernel)) (fun _ _ _ _ _ => (pg_name (i := 6) sc__law_classes.nd rfl (by first | exact Or.inl rfl | exact Or.inr rfl))) (fun _ _ _ _ _ => pts_nil) (fun _ _ _ _ _ => (pe_op (op_catAK K) (pv 5) (pe_tup (pa_cons (pv 6) pa_nil))))) pa_nil))))))
  (pss_one (ps_set (i := 2) sc__law_classes.nd rfl (by first | exact Or.inl rfl | exact Or.inr rfl) (pv 4))))))
  (pss_one (ps_ret (pv 2))))), ?_⟩
    walk_at "rd"
    refine ⟨(by walk_at "sz"), fun t0 nt0 => ?_⟩
    generalize e0 : upd H t0 _ = H0
    obtain ⟨S0, h0⟩ := newF nt0 e0
    walk_at "rd"
    refine ⟨(by walk_at "sz"), fun r0 nr0 => ?_⟩
    generalize e1 : upd H0 r0 _ = H1
    obtain ⟨S1, h1⟩ := newF nr0 e1
    walk_at "rd"
    refine ⟨by omega, by omega, ?_⟩
    refine for_range (lo := 0) (n := st) (fun i σ H' => ∃ (rl : Addr) (vs : List V) (tv lv rv : Option V), σ = [some (.int (m : Int)), some (.int (st : Int)), some (.ref rl), tv, lv, rv, none] ∧ Same H H' ∧ H rl = none ∧ H' rl = some (.lst vs) ∧ RowsV H' vs (rowsL m i))
      ⟨r0, [.ref t0], none, none, none, rfl, S0.trans S1, S0.free nr0, h1, .cons (row_mk (S1 _ _ h0)) .nil⟩ ?_ ?_
    · rintro i σ H2 hi ⟨rl, vs, tv, lv, rv, rfl, S2, nrl, hrl, hvs⟩
      refine ⟨(by walk_at "sz"), fun l1 n1 => ?_⟩
      generalize e2 : upd H2 l1 _ = H3
      obtain ⟨S23, hl1⟩ := newF n1 e2
      have S3 := S2.trans S23
      have hrl3 := S23 _ _ hrl
      have hvs3 := hvs.stay fun _ _ h => S23 _ _ h
      have nl1 : H l1 = none := S2.free n1
      walk_at "rd"
      refine ⟨⟨_, SqL.of hrl3⟩, for_list (K := K) (a := rl) (xs := vs) (fun j σ H' => ∃ (ws : List V) (rv : Option V), σ = [some (.int (m : Int)), some (.int (st : Int)), some (.ref rl), some (.int (0 + (i : Int))), some (.ref l1), rv, none] ∧ Same H2 H' ∧ H' l1 = some (.lst ws) ∧ RowsV H' ws (((rowsL m i).take j).flatMap fun r => (List.range m).map fun c => r ++ [c]))
        ⟨[], rv, rfl, S23, hl1, .nil⟩ (fun j σ H' _ ⟨_, _, _, S, _⟩ => SqL.of (S _ _ hrl)) ?_ ?_⟩
      · rintro j x σ H4 hx ⟨ws, rv, rfl, S4, hl4, hws⟩
        obtain ⟨r, hr2, hxr⟩ := paired_get hvs hx
        have hj : j < (rowsL m i).length := (List.getElem?_eq_some_iff.mp hr2).1
        have hlen := rowsL_len m i
        have hpi := hpow (i + 1) (by omega)
        rw [Nat.pow_succ] at hpi
        have hwl : ws.length = j * m := by
          rw [Paired.length hws, flatMap_len _ m _ (fun x _ => by simp), List.length_take]
          congr 1
          omega
        have hjm : j * m + m ≤ 3000 := by
          have : (j + 1) * m ≤ (rowsL m i).length * m := Nat.mul_le_mul_right m (by omega)
          rw [Nat.succ_mul, hlen] at this
          omega
        obtain ⟨b, rfl, hb⟩ := row_of hxr
        have hb4 := S4 _ _ hb
        walk_at "rd"
        refine ⟨by omega, by omega, ?_⟩
        refine fun D nD => lc_range (lo := 0) (n := m) (fun q H' => Same H4 H' ∧ ∃ acc, H' D = some (.lst acc) ∧ RowsV H' acc ((List.range q).map fun c => r ++ [c])) ⟨same_new nD, [], upd_same, .nil⟩ ?_ ?_
        · rintro q H5 hq ⟨S5, acc, hD, hacc⟩
          have hb5 := S5 _ _ hb4
          have hrl : r.length = i := (rowsL_mem.mp (List.mem_of_getElem? hr2)).1
          walk_at "rd"
          refine ⟨(by walk_at "sz"), fun p1 n1 => row_snoc (q := q) (by rw [upd_ne (ne_of_none hb5 n1)]; exact hb5) upd_same (by omega) (by rw [hrl]; exact Nat.le_trans (show i + 1 ≤ 1001 by omega) (by decide)) fun H6 v S6 hv => ?_⟩
          have S56 : Same H5 H6 := (same_new n1).trans S6
          have hD6 := S56 _ _ hD
          refine ⟨acc, hD6, ?_, Same.upd_own (S5.trans S56) nD, _, upd_same, ?_⟩
          · rw [Paired.length hacc, List.length_map, List.length_range]
            exact Nat.lt_of_lt_of_le (show q < 3000 by omega) (by decide)
          · rw [List.range_succ, List.map_append]
            exact ((hacc.stay fun _ _ h => S56 _ _ h).app (.cons hv .nil)).stay fun b xs e => tup_upd hD6 b xs e
        · rintro H5 ⟨S5, acc, hD, hacc⟩
          walk_at "rd"
          have hl5 := S5 _ _ hl4
          refine ⟨l1, D, ws, acc, rfl, rfl, hl5, hD, ?_, ?_⟩
          · rw [hwl, Paired.length hacc, List.length_map, List.length_range]
            exact Nat.le_trans hjm (by decide)
          · refine ⟨_, _, rfl, Same.upd_own (S4.trans S5) n1, upd_same, ?_⟩
            rw [List.take_succ, hr2, List.flatMap_append]
            refine RowsV.stay (RowsV.app (hws.stay fun _ _ h => S5 _ _ h) ?_) fun b xs e => tup_upd hl5 b xs e
            simpa using hacc
      · rintro σ H4 ⟨ws, rv, rfl, S4, hl4, hws⟩
        walk_at "rd"
        refine ⟨l1, ws, _, _, _, rfl, S2.trans S4, nl1, hl4, ?_⟩
        rw [Paired.length hvs, List.take_length] at hws
        exact hws
    · rintro σ H2 ⟨rl, vs, tv, lv, rv, rfl, S2, nrl, hrl, hvs⟩
      walk_at "rd"
      exact k _ _ _ S2 nrl hrl hvs
end
end Hy
set_option Elab.async false
set_option linter.all false
set_option maxRecDepth 100000
set_option maxHeartbeats 4000000
namespace Hy
open PySem L2
local macro_rules | `(tactic| walk_at "hp") => `(tactic| first
  | assumption | exact upd_same
  | (refine (upd_ne ?_).trans ?_ <;> first | assumption | (exact Ne.symm (by assumption)) | walk_at "ne" | walk_at "hp")
  | (refine (by assumption : Same _ _) _ _ ?_; assumption))
local macro_rules | `(tactic| walk_at "ne") => `(tactic| first
  | assumption | (exact Ne.symm (by assumption))
  | exact ne_of_none (by assumption) (by assumption) | exact Ne.symm (ne_of_none (by assumption) (by assumption)))
local macro_rules | `(tactic| walk_at "sz") => `(tactic| first | assumption | (show 0 ≤ sizeLine; decide) | (show 1 ≤ sizeLine; decide) | (show 2 ≤ sizeLine; decide) | (show 3 ≤ sizeLine; decide))
local macro_rules | `(tactic| walk_at "ar") => `(tactic| first
  | ((with_reducible show (0 : Int) < _); first | decide | omega)
  | ((with_reducible show CMul _ _); first | exact Or.inr (And.intro (by decide) (by decide)) | exact Or.inl (And.intro (by decide) (by decide)) | (refine Or.inl (And.intro ?_ ?_) <;> omega) | (refine Or.inr (And.intro ?_ ?_) <;> omega))
  | ((with_reducible show CPow _ _); exact And.intro (by decide) (And.intro (by decide) (by decide)))
  | ((with_reducible show CDiv _ _); first | exact And.intro (by decide) (by decide) | (refine And.intro ?_ ?_ <;> omega)))
/- one step of a reading -/
local macro_rules | `(tactic| walk_at "r1") => `(tactic| first
  | refine ⟨_, rfl, ?_⟩
  | refine iteB (by rfl) ?_ | refine iteC (by rfl) ?_
  | refine ⟨_, _, rfl, rfl, ?_⟩
  | refine ⟨rfl, ?_⟩
  | refine ⟨⟨_, rfl⟩, ?_⟩
  | refine ⟨_, _, _, _, true, rfl, .ty _, .base (.str _), kit_ty (by decide +kernel), ?_⟩
  | refine ⟨_, _, _, _, false, rfl, .ty _, .base (.str _), kit_ty (by decide +kernel), ?_⟩
  | refine ⟨_, _, _, _, true, rfl, .ty _, .base (.int _), kit_ty (by decide +kernel), ?_⟩
  | refine ⟨_, _, _, _, false, rfl, .ty _, .base (.int _), kit_ty (by decide +kernel), ?_⟩
  | refine ⟨_, _, _, _, true, rfl, .ty _, .base (.tup (by walk_at "hp")), kit_ty (by decide +kernel), ?_⟩
  | refine ⟨_, _, _, _, false, rfl, .ty _, .base (.tup (by walk_at "hp")), kit_ty (by decide +kernel), ?_⟩
  | refine ⟨_, _, _, _, true, rfl, .ty _, .base (.lst (by walk_at "hp")), kit_ty (by decide +kernel), ?_⟩
  | refine ⟨_, _, _, _, false, rfl, .ty _, .base (.lst (by walk_at "hp")), kit_ty (by decide +kernel), ?_⟩
  | refine ⟨_, _, rfl, ⟨by walk_at "sz", rfl⟩, ?_⟩
  | refine ⟨_, _, _, _, rfl, rfl, SqT.of (by walk_at "hp"), by rfl, ?_⟩
  | refine ⟨_, _, _, _, rfl, rfl, SqL.of (by walk_at "hp"), by rfl, ?_⟩
  | refine ⟨.inl ⟨rfl, _, SqL.of (by walk_at "hp")⟩, ?_⟩
  | refine ⟨_, _, _, rfl, rfl, (by walk_at "hp"), snoc_get, ?_⟩
  | refine ⟨_, _, _, _, rfl, rfl, (by walk_at "hp"), by rfl, ?_⟩
  | refine ⟨_, _, rfl, SqL.of (by walk_at "hp"), ?_⟩
  | refine ⟨_, _, rfl, SqT.of (by walk_at "hp"), by rfl, ?_⟩
  | refine ⟨_, (_ : List V), rfl, ?_⟩
  | refine ⟨_, _, rfl, .inl ⟨_, (by assumption), rfl⟩, ?_⟩
  | refine ⟨_, _, rfl, .inl ⟨_, SqL.of (by walk_at "hp"), rfl⟩, ?_⟩
  | refine ⟨_, _, rfl, .inr ⟨_, SqT.of (by walk_at "hp"), rfl⟩, ?_⟩
  | refine Or.inl ⟨(_ : Int), rfl, ?_⟩ | refine Or.inr ⟨(_ : Bool), rfl, ?_⟩
  | refine ⟨_, _, _, _, true, rfl, (by assumption : ND _ _ _ _), .ty _, kit_ty (by decide +kernel), ?_⟩
  | refine ⟨_, _, _, _, false, rfl, (by assumption : ND _ _ _ _), .ty _, kit_ty (by decide +kernel), ?_⟩
  | refine ⟨_, _, rfl, (by assumption : ND _ _ _ _), ?_⟩
  | refine And.intro (by walk_at "ar") ?_)
local macro_rules | `(tactic| walk_at "rd") => `(tactic| repeat walk_at "r1")

section
variable {P : Program} {w : World} {K : PySem.W.Frag} {mg : Str → Option Value} {base : Heap}
abbrev s_is_whole_within : Stmt := top 9
theorem sc_is_whole_within : FnScope ["thing", "low", "high"] ["thing", "low", "high"] (defScope s_is_whole_within) := ⟨rfl, rfl, rfl, by decide +kernel, rfl, by decide +kernel, by decide +kernel⟩
abbrev s_are_letters : Stmt := top 10
theorem sc_are_letters : FnScope ["thing", "sign", "k"] ["thing"] (defScope s_are_letters) := ⟨rfl, rfl, rfl, by decide +kernel, rfl, by decide +kernel, by decide +kernel⟩
abbrev s_how_many_tuples : Stmt := top 11
theorem sc_how_many_tuples : FnScope ["letters", "states", "classes", "found", "turn"] ["letters", "states", "classes"] (defScope s_how_many_tuples) := ⟨rfl, rfl, rfl, by decide +kernel, rfl, by decide +kernel, by decide +kernel⟩
abbrev s_are_good : Stmt := top 14
theorem sc_are_good : FnScope ["thing", "states", "one", "k"] ["thing", "states"] (defScope s_are_good) := ⟨rfl, rfl, rfl, by decide +kernel, rfl, by decide +kernel, by decide +kernel⟩

def sp_is_whole_within : Sp := fun vs H Q _ => ∃ x lo hi : Int, vs = [.int x, .int lo, .int hi] ∧ Q (.bl (decide (lo ≤ x) && decide (x ≤ hi))) H
theorem ok_is_whole_within (D : Df K mg "is_whole_within" s_is_whole_within ["thing", "low", "high"]) (T : Txt K mg) : G' P w K mg base "is_whole_within" 1 ["thing", "low", "high"] sp_is_whole_within := by
  refine D.ok fun f fd F => F.okX sc_is_whole_within (fun vs H Q E h => ?_) (fun cdv A outer s H vs Q E hr h => ?_)
  · obtain ⟨x, lo, hi, rfl, _⟩ := h
    rfl
  · obtain ⟨x, lo, hi, rfl, k⟩ := h
    refine ⟨_, (pss_one (ps_ret (pe_and (pe_callB (call_isiK K) (by rfl) T.n_isinstance (by decide +kernel) (pa_cons (pv 0) (pa_cons (pe_ty (n := "int") T.n_int (by decide +kernel)) pa_nil))) (pe_and (pe_not (pe_callB (call_isiK K) (by rfl) T.n_isinstance (by decide +kernel) (pa_cons (pv 0) (pa_cons (pe_ty (n := "bool") T.n_bool (by decide +kernel)) pa_nil)))) (pe_one (pe_chain op_le op_le (pv 1) (pv 0) (pv 2))))))), ?_⟩
    walk_at "rd"
    by_cases h1 : lo ≤ x
    · rw [decide_eq_true h1] at k ⊢
      walk_at "rd"
      exact k
    · rw [decide_eq_false h1] at k ⊢
      walk_at "rd"
      exact k
def lettersB (l : List Nat) : Bool := !l.isEmpty && l.all isL && riseB l
def sp_are_letters : Sp := fun vs H Q _ => ∃ l : List Nat, vs = [tx l] ∧ l.length ≤ 3000 ∧ ∀ H', Same H H' → Q (.bl (lettersB l)) H'
theorem ok_are_letters (D : Df K mg "are_letters" s_are_letters ["thing"]) (T : Txt K mg) : G' P w K mg base "are_letters" 1 ["thing"] sp_are_letters := by
  refine D.ok fun f fd F => F.okX sc_are_letters (fun vs H Q E h => ?_) (fun cdv A outer s H vs Q E hr h => ?_)
  · obtain ⟨l, rfl, _⟩ := h
    rfl
  · obtain ⟨l, rfl, hl, k⟩ := h
    have hz : (txS l).length ≤ sizeLine := by rw [txS_len]; exact Nat.le_of_lt (big_of hl (by decide))
    refine ⟨_, (pss_cons (ps_if (PW.pt (pw_or (pt_not (pt_val (pe_callB (call_isiK K) (by rfl) T.n_isinstance (by decide +kernel) (pa_cons (pv 0) (pa_cons (pe_ty (n := "str") T.n_str (by decide +kernel)) pa_nil))))) (pw_or (pt_cmpR op_eq (pv 0) pe_str (nomark _)) (pw_or1 (pt_cmp (pc_neNilK K hr (pe_lc (own := [("sign", 1)]) rfl sc_are_letters.nd (pi_str (pv 0)) (blkOk_by (own := [("sign", 1)]) (N := ["thing", "sign", "k"]) (sc := defScope s_are_letters) (by decide +kernel)) (fun _ _ _ _ _ => (pg_name (i := 1) sc_are_letters.nd rfl (by first | exact Or.inl rfl | exact Or.inr rfl))) (fun _ _ _ _ _ => (pts_one (pt_cmpR op_notIn_sign (pv 1) (pe_gv T.g_LETTERS) (by rfl)))) (fun _ _ _ _ _ => (pv 1))))))))) (pss_one (ps_ret pe_bl)) pss_nil)
  (pss_one (ps_ret (pe_cmp (pc_eqNilK K hr (pe_lc (own := [("k", 2)]) rfl sc_are_letters.nd (pi_range2 (by rfl) T.n_range (pa_cons pe_int (pa_cons (pe_callB (call_lenK K) (by rfl) T.n_len PySem.boot_len (pa_cons (pv 0) pa_nil)) pa_nil))) (blkOk_by (own := [("k", 2)]) (N := ["thing", "sign", "k"]) (sc := defScope s_are_letters) (by decide +kernel)) (fun _ _ _ _ _ => (pg_name (i := 2) sc_are_letters.nd rfl (by first | exact Or.inl rfl | exact Or.inr rfl))) (fun _ _ _ _ _ => (pts_one (pt_cmpR op_le_str (pe_ix ix_str (pv 0) (pv 2) (fun _ _ => rfl)) (pe_ix ix_str (pv 0) (pe_op op_sub (pv 2) pe_int) (fun _ _ => rfl)) (nomark _)))) (fun _ _ _ _ _ => (pv 2)))))))), ?_⟩
    walk_at "rd"
    by_cases h0 : l = []
    · subst h0
      walk_at "rd"
      exact k _ (Same.refl _)
    refine iteC (decide_eq_false fun z => h0 (tx_inj z)) ?_
    walk_at "rd"
    have hat : ∀ i : Nat, (txS l).cps[i]? = l[i]? := fun i => by show l.toArray[i]? = _; simp
    refine fun D nD => lc_it walk_str (PvE H D fun i => !isL ((l[i]?).getD 0)) (PvE.start nD) (fun i H' _ p => trivial) ?_ ?_
    · rintro i x H1 H2 hi p ⟨rfl, c, hc, rfl⟩
      rw [hat] at hc
      walk_at "rd"
      rw [letter_in]
      refine iteJ (c := !isL ((l[i]?).getD 0)) (by rw [hc]; rfl) (fun hc => ?_) fun hc => ?_
      · walk_at "rd"
        exact p.push (Same.refl _) nD hc (big_of (Nat.le_trans (Nat.le_of_lt (by simpa using hi)) hl) (by decide))
      · exact p.skip (Same.refl _) hc
    · rintro H1 ⟨S1, acc, hD, _, hacc⟩
      rw [show (txS l).cps.size = l.length by simp, all_range l isL _ (fun i x hx => by rw [hx]; simp)] at hacc
      walk_at "rd"
      rw [hacc]
      refine iteJ rfl (fun hc => ?_) fun hc => ?_
      · have hc' : l.all isL = false := by simpa using hc
        rw [lettersB, hc', Bool.and_false, Bool.false_and] at k
        walk_at "rd"
        exact k _ S1
      · have hc' : l.all isL = true := by simpa using hc
        have hl0 : 1 ≤ l.length := by
          cases l with
          | nil => exact absurd rfl h0
          | cons => simp
        have hemp : l.isEmpty = false := by
          cases l with
          | nil => exact absurd rfl h0
          | cons => rfl
        rw [lettersB, hc', hemp] at k
        walk_at "rd"
        rw [txS_len]
        refine ⟨_, _, rfl, ⟨by omega, by omega, by omega, by omega⟩, ?_⟩
        have e1 : ((l.length : Int) - 1).toNat = l.length - 1 := by omega
        rw [e1]
        refine fun D2 nD2 => lc_range (lo := 1) (n := l.length - 1) (PvE H1 D2 fun i => !decide ((l[i]?).getD 0 < (l[i + 1]?).getD 0)) (PvE.start nD2) ?_ ?_
        · rintro i H2 hi p
          have x1 : l[i + 1]? = some l[i + 1] := List.getElem?_eq_getElem (by omega)
          have x0 : l[i]? = some l[i] := List.getElem?_eq_getElem (by omega)
          have i1 : (1 : Int) + (i : Int) = ((i + 1 : Nat) : Int) := by omega
          have i0 : (1 : Int) + (i : Int) - 1 = ((i : Nat) : Int) := by omega
          have el : (txS l).cps.toList = l := by simp
          walk_at "rd"
          refine ⟨_, _, l[i + 1], rfl, rfl, hz, (by rw [el, i1]; exact atI_nat x1), ?_⟩
          walk_at "rd"
          refine ⟨_, _, l[i], rfl, rfl, hz, (by rw [el, i0]; exact atI_nat x0), ?_⟩
          walk_at "rd"
          refine iteJ (c := !decide ((l[i]?).getD 0 < (l[i + 1]?).getD 0)) ?_ (fun hc => ?_) fun hc => ?_
          · rw [x0, x1]
            show (!decide ([l[i]] < [l[i + 1]])) = !decide (l[i] < l[i + 1])
            simp [List.cons_lt_cons_iff]
          · walk_at "rd"
            exact p.push (Same.refl _) nD2 hc (big_of (show i ≤ 3000 by omega) (by decide))
          · exact p.skip (Same.refl _) hc
        · rintro H2 ⟨S2, acc2, hD2, _, hacc2⟩
          walk_at "rd"
          rw [hacc2]
          have e3 : ((List.range (l.length - 1)).all fun j => !!decide ((l[j]?).getD 0 < (l[j + 1]?).getD 0)) = riseB l := by
            rw [riseB_at]
            simp
          rw [e3]
          exact k _ (S1.trans S2)
def manyT (n : Nat) (c : Nat) : Nat → Nat
  | 0 => n
  | s + 1 => min 601 (manyT n c s * c)
def sp_how_many_tuples : Sp := fun vs H Q _ => ∃ (l : List Nat) (s c : Nat), vs = [tx l, .int (s : Int), .int (c : Int)] ∧ l.length ≤ 3000 ∧ s ≤ 1000 ∧ c ≤ 1000 ∧ Q (.int (manyT l.length c s : Nat)) H
theorem ok_how_many_tuples (D : Df K mg "how_many_tuples" s_how_many_tuples ["letters", "states", "classes"]) (T : Txt K mg) : G' P w K mg base "how_many_tuples" 1 ["letters", "states", "classes"] sp_how_many_tuples := by
  refine D.ok fun f fd F => F.okX sc_how_many_tuples (fun vs H Q E h => ?_) (fun cdv A outer s H vs Q E hr h => ?_)
  · obtain ⟨l, s, c, rfl, _⟩ := h
    rfl
  · obtain ⟨l, s, c, rfl, hl, hs, hc, k⟩ := h
    have hz : (txS l).length ≤ sizeLine := by rw [txS_len]; exact Nat.le_of_lt (big_of hl (by decide))
    refine ⟨_, (pss_cons (ps_set (i := 3) sc_how_many_tuples.nd rfl (by first | exact Or.inl rfl | exact Or.inr rfl) (pe_callB (call_lenK K) (by rfl) T.n_len PySem.boot_len (pa_cons (pv 0) pa_nil)))
  (pss_cons (ps_for (passes_of rfl) rfl (pi_range1 (by rfl) T.n_range (pa_cons (pv 1) pa_nil)) (pg_name (i := 4) sc_how_many_tuples.nd rfl (by first | exact Or.inl rfl | exact Or.inr rfl)) (pss_one (ps_set (i := 3) sc_how_many_tuples.nd rfl (by first | exact Or.inl rfl | exact Or.inr rfl) (pe_callB (call_min2 rfl) (by rfl) T.n_min (by decide +kernel) (pa_cons (pe_op op_add (pe_gv T.g_MOST_TUPLES_judges) pe_int) (pa_cons (pe_op op_mul (pv 3) (pv 2)) pa_nil))))))
  (pss_one (ps_ret (pv 3))))), ?_⟩
    walk_at "rd"
    rw [txS_len]
    refine ⟨by omega, by omega, ?_⟩
    refine for_range (lo := 0) (n := s) (fun i σ H' => ∃ x4 : Option V, σ = [some (tx l), some (.int (s : Int)), some (.int (c : Int)), some (.int (manyT l.length c i : Nat)), x4] ∧ H' = H) ⟨none, rfl, rfl⟩ ?_ ?_
    · rintro i σ H' hi ⟨x4, rfl, rfl⟩
      walk_at "rd"
      refine ⟨_, _, rfl, ?_⟩
      walk_at "rd"
      refine ⟨some (.int (0 + (i : Int))), ?_, rfl⟩
      have e : (if ((manyT l.length c i : Nat) : Int) * (c : Int) < 600 + 1 then ((manyT l.length c i : Nat) : Int) * (c : Int) else 600 + 1) = ((manyT l.length c (i + 1) : Nat) : Int) := by
        rw [manyT]
        have e2 : ((manyT l.length c i : Nat) : Int) * (c : Int) = ((manyT l.length c i * c : Nat) : Int) := by simp
        rw [e2]
        split <;> omega
      rw [e]
      rfl
    · rintro σ H' ⟨x4, rfl, rfl⟩
      walk_at "rd"
      exact k
def sp_are_good : Sp := fun vs H Q _ => ∃ (g : Addr) (l : List Nat) (s : Nat), vs = [.ref g, .int (s : Int)] ∧ H g = some (.lst (l.map fun n => V.int (n : Nat))) ∧ l.length ≤ 3000 ∧ ∀ H', Same H H' → Q (.bl (l.all (fun n => decide (n < s)) && riseB l)) H'
theorem ok_are_good (D : Df K mg "are_good" s_are_good ["thing", "states"]) (T : Txt K mg) (G_is_whole_within : G' P w K mg base "is_whole_within" 1 ["thing", "low", "high"] sp_is_whole_within) : G' P w K mg base "are_good" 2 ["thing", "states"] sp_are_good := by
  refine D.ok fun f fd F => F.okX sc_are_good (fun vs H Q E h => ?_) (fun cdv A outer s H vs Q E hr h => ?_)
  · obtain ⟨g, l, s, rfl, _⟩ := h
    rfl
  · obtain ⟨g, l, s, rfl, hg, hl, k⟩ := h
    refine ⟨_, (pss_cons (ps_if (PW.pt (pw_or (pt_not (pt_val (pe_callB (call_isiK K) (by rfl) T.n_isinstance (by decide +kernel) (pa_cons (pv 0) (pa_cons (pe_ty (n := "list") T.n_list (by decide +kernel)) pa_nil))))) (pw_or1 (pt_cmp (pc_neNilK K hr (pe_lc (own := [("one", 2)]) rfl sc_are_good.nd (pi_listK K (pv 0)) (blkOk_by (own := [("one", 2)]) (N := ["thing", "states", "one", "k"]) (sc := defScope s_are_good) (by decide +kernel)) (fun _ _ _ _ _ => (pg_name (i := 2) sc_are_good.nd rfl (by first | exact Or.inl rfl | exact Or.inr rfl))) (fun _ _ _ _ _ => (pts_one (pt_not (pt_val (pe_cl G_is_whole_within (hr.mono (by omega)) passF (pa_cons (pv 2) (pa_cons pe_int (pa_cons (pe_op op_sub (pv 1) pe_int) pa_nil)))))))) (fun _ _ _ _ _ => (pv 2)))))))) (pss_one (ps_ret pe_bl)) pss_nil)
  (pss_one (ps_ret (pe_cmp (pc_eqNilK K hr (pe_lc (own := [("k", 3)]) rfl sc_are_good.nd (pi_range2 (by rfl) T.n_range (pa_cons pe_int (pa_cons (pe_callB (call_lenK K) (by rfl) T.n_len PySem.boot_len (pa_cons (pv 0) pa_nil)) pa_nil))) (blkOk_by (own := [("k", 3)]) (N := ["thing", "states", "one", "k"]) (sc := defScope s_are_good) (by decide +kernel)) (fun _ _ _ _ _ => (pg_name (i := 3) sc_are_good.nd rfl (by first | exact Or.inl rfl | exact Or.inr rfl))) (fun _ _ _ _ _ => (pts_one (pt_cmpR op_le (pe_ix (ix_listK K) (pv 0) (pv 3) (fun _ _ => rfl)) (pe_ix (ix_listK K) (pv 0) (pe_op op_sub (pv 3) pe_int) (fun _ _ => rfl)) (nomark _)))) (fun _ _ _ _ _ => (pv 3)))))))), ?_⟩
    walk_at "rd"
    refine ⟨⟨_, SqL.of hg⟩, fun D nD => lc_it walk_list (PvE H D fun i => !decide ((l[i]?).getD 0 < s)) (PvE.start nD) (fun i H' _ p => SqL.of (p.S _ _ hg)) ?_ ?_⟩
    · rintro i x H1 H2 hi p ⟨rfl, hx⟩
      rw [List.length_map] at hi
      rw [List.getElem?_map, List.getElem?_eq_getElem hi] at hx
      cases hx
      walk_at "rd"
      refine ⟨_, _, _, rfl, ?_⟩
      walk_at "rd"
      have e : (l[i]?).getD 0 = l[i] := by rw [List.getElem?_eq_getElem hi]; rfl
      refine iteJ (c := !decide ((l[i]?).getD 0 < s)) ?_ (fun hc => ?_) fun hc => ?_
      · rw [e]
        by_cases h : l[i] < s
        · rw [decide_eq_true h, decide_eq_true (show (l[i] : Int) ≤ (s : Int) - 1 by omega), decide_eq_true (show (0 : Int) ≤ (l[i] : Int) by omega)]
          rfl
        · rw [decide_eq_false h, decide_eq_false (show ¬ (l[i] : Int) ≤ (s : Int) - 1 by omega), Bool.and_false]
      · walk_at "rd"
        exact p.push (Same.refl _) nD hc (big_of (Nat.le_trans (Nat.le_of_lt hi) hl) (by decide))
      · exact p.skip (Same.refl _) hc
    · rintro H1 ⟨S1, acc, hD, _, hacc⟩
      rw [List.length_map, all_range l (fun n => decide (n < s)) _ (fun i x hx => by rw [hx]; simp)] at hacc
      walk_at "rd"
      rw [hacc]
      have hg1 := S1 _ _ hg
      refine iteJ rfl (fun hc => ?_) fun hc => ?_
      · have hc' : l.all (fun n => decide (n < s)) = false := by simpa using hc
        rw [hc'] at k
        walk_at "rd"
        exact k _ S1
      · have hc' : l.all (fun n => decide (n < s)) = true := by simpa using hc
        rw [hc'] at k
        walk_at "rd"
        rw [List.length_map]
        refine ⟨_, _, rfl, ⟨by omega, by omega, by omega, by omega⟩, ?_⟩
        have e1 : ((l.length : Int) - 1).toNat = l.length - 1 := by omega
        rw [e1]
        refine fun D2 nD2 => lc_range (lo := 1) (n := l.length - 1) (PvE H1 D2 fun i => !decide ((l[i]?).getD 0 < (l[i + 1]?).getD 0)) (PvE.start nD2) ?_ ?_
        · rintro i H2 hi p
          have hg2 := p.S _ _ hg1
          have x1 : l[i + 1]? = some l[i + 1] := List.getElem?_eq_getElem (by omega)
          have x0 : l[i]? = some l[i] := List.getElem?_eq_getElem (by omega)
          have i1 : (1 : Int) + (i : Int) = ((i + 1 : Nat) : Int) := by omega
          have i0 : (1 : Int) + (i : Int) - 1 = ((i : Nat) : Int) := by omega
          walk_at "rd"
          refine ⟨_, _, _, _, rfl, rfl, SqL.of hg2, (by rw [i1]; exact atI_nat (by rw [List.getElem?_map, x1]; rfl)), ?_⟩
          walk_at "rd"
          refine ⟨_, _, _, _, rfl, rfl, SqL.of hg2, (by rw [i0]; exact atI_nat (by rw [List.getElem?_map, x0]; rfl)), ?_⟩
          walk_at "rd"
          refine iteJ (c := !decide ((l[i]?).getD 0 < (l[i + 1]?).getD 0)) ?_ (fun hc => ?_) fun hc => ?_
          · rw [x0, x1]
            show decide ((l[i + 1] : Int) ≤ (l[i] : Int)) = !decide (l[i] < l[i + 1])
            by_cases h : l[i] < l[i + 1]
            · rw [decide_eq_true h, decide_eq_false (by omega)]; rfl
            · rw [decide_eq_false h, decide_eq_true (by omega)]; rfl
          · walk_at "rd"
            exact p.push (Same.refl _) nD2 hc (big_of (show i ≤ 3000 by omega) (by decide))
          · exact p.skip (Same.refl _) hc
        · rintro H2 ⟨S2, acc2, hD2, _, hacc2⟩
          walk_at "rd"
          rw [hacc2]
          have e3 : ((List.range (l.length - 1)).all fun j => !!decide ((l[j]?).getD 0 < (l[j + 1]?).getD 0)) = riseB l := by
            rw [riseB_at]
            simp
          rw [e3]
          exact k _ (S1.trans S2)
end
end Hy
set_option Elab.async false
set_option linter.all false
set_option maxRecDepth 100000
set_option maxHeartbeats 4000000
namespace Hy
open PySem L2
local macro_rules | `(tactic| walk_at "hp") => `(tactic| first
  | assumption | exact upd_same
  | (refine (upd_ne ?_).trans ?_ <;> first | assumption | (exact Ne.symm (by assumption)) | walk_at "ne" | walk_at "hp")
  | (refine (by assumption : Same _ _) _ _ ?_; assumption))
local macro_rules | `(tactic| walk_at "ne") => `(tactic| first
  | assumption | (exact Ne.symm (by assumption))
  | exact ne_of_none (by assumption) (by assumption) | exact Ne.symm (ne_of_none (by assumption) (by assumption)))
local macro_rules | `(tactic| walk_at "sz") => `(tactic| first | assumption | (show 0 ≤ sizeLine; decide) | (show 1 ≤ sizeLine; decide) | (show 2 ≤ sizeLine; decide) | (show 3 ≤ sizeLine; decide))
local macro_rules | `(tactic| walk_at "ar") => `(tactic| first
  | ((with_reducible show (0 : Int) < _); first | decide | omega)
  | ((with_reducible show CMul _ _); first | exact Or.inr (And.intro (by decide) (by decide)) | exact Or.inl (And.intro (by decide) (by decide)) | (refine Or.inl (And.intro ?_ ?_) <;> omega) | (refine Or.inr (And.intro ?_ ?_) <;> omega))
  | ((with_reducible show CPow _ _); exact And.intro (by decide) (And.intro (by decide) (by decide)))
  | ((with_reducible show CDiv _ _); first | exact And.intro (by decide) (by decide) | (refine And.intro ?_ ?_ <;> omega)))
/- one step of a reading -/
local macro_rules | `(tactic| walk_at "r1") => `(tactic| first
  | refine ⟨_, rfl, ?_⟩
  | refine iteB (by rfl) ?_ | refine iteC (by rfl) ?_
  | refine ⟨_, _, rfl, rfl, ?_⟩
  | refine ⟨rfl, ?_⟩
  | refine ⟨⟨_, rfl⟩, ?_⟩
  | refine ⟨_, _, _, _, true, rfl, .ty _, .base (.str _), kit_ty (by decide +kernel), ?_⟩
  | refine ⟨_, _, _, _, false, rfl, .ty _, .base (.str _), kit_ty (by decide +kernel), ?_⟩
  | refine ⟨_, _, _, _, true, rfl, .ty _, .base (.int _), kit_ty (by decide +kernel), ?_⟩
  | refine ⟨_, _, _, _, false, rfl, .ty _, .base (.int _), kit_ty (by decide +kernel), ?_⟩
  | refine ⟨_, _, _, _, true, rfl, .ty _, .base (.tup (by walk_at "hp")), kit_ty (by decide +kernel), ?_⟩
  | refine ⟨_, _, _, _, false, rfl, .ty _, .base (.tup (by walk_at "hp")), kit_ty (by decide +kernel), ?_⟩
  | refine ⟨_, _, _, _, true, rfl, .ty _, .base (.lst (by walk_at "hp")), kit_ty (by decide +kernel), ?_⟩
  | refine ⟨_, _, _, _, false, rfl, .ty _, .base (.lst (by walk_at "hp")), kit_ty (by decide +kernel), ?_⟩
  | refine ⟨_, _, rfl, ⟨by walk_at "sz", rfl⟩, ?_⟩
  | refine ⟨_, _, _, _, rfl, rfl, SqT.of (by walk_at "hp"), by rfl, ?_⟩
  | refine ⟨_, _, _, _, rfl, rfl, SqL.of (by walk_at "hp"), by rfl, ?_⟩
  | refine ⟨.inl ⟨rfl, _, SqL.of (by walk_at "hp")⟩, ?_⟩
  | refine ⟨_, _, _, rfl, rfl, (by walk_at "hp"), snoc_get, ?_⟩
  | refine ⟨_, _, _, _, rfl, rfl, (by walk_at "hp"), by rfl, ?_⟩
  | refine ⟨_, _, rfl, SqL.of (by walk_at "hp"), ?_⟩
  | refine ⟨_, _, rfl, SqT.of (by walk_at "hp"), by rfl, ?_⟩
  | refine ⟨_, (_ : List V), rfl, ?_⟩
  | refine ⟨_, _, rfl, .inl ⟨_, (by assumption), rfl⟩, ?_⟩
  | refine ⟨_, _, rfl, .inl ⟨_, SqL.of (by walk_at "hp"), rfl⟩, ?_⟩
  | refine ⟨_, _, rfl, .inr ⟨_, SqT.of (by walk_at "hp"), rfl⟩, ?_⟩
  | refine Or.inl ⟨(_ : Int), rfl, ?_⟩ | refine Or.inr ⟨(_ : Bool), rfl, ?_⟩
  | refine ⟨_, _, _, _, true, rfl, (by assumption : ND _ _ _ _), .ty _, kit_ty (by decide +kernel), ?_⟩
  | refine ⟨_, _, _, _, false, rfl, (by assumption : ND _ _ _ _), .ty _, kit_ty (by decide +kernel), ?_⟩
  | refine ⟨_, _, rfl, (by assumption : ND _ _ _ _), ?_⟩
  | refine And.intro (by walk_at "ar") ?_)
local macro_rules | `(tactic| walk_at "rd") => `(tactic| repeat walk_at "r1")

theorem manyT_le (n c : Nat) : ∀ s, manyT n c s ≤ 600 → manyT n c s = n * c ^ s
  | 0, _ => by simp [manyT]
  | s + 1, h => by
    rw [manyT] at h ⊢
    have h1 : manyT n c s * c ≤ 600 := by omega
    rw [Nat.min_eq_right (by omega)]
    by_cases hc : c = 0
    · subst hc
      simp
    · have : manyT n c s ≤ manyT n c s * c := Nat.le_mul_of_pos_right _ (by omega)
      rw [manyT_le n c s (by omega), Nat.pow_succ, Nat.mul_assoc]
theorem manyT_eq (n c s : Nat) (h : n * c ^ s ≤ 600) : manyT n c s = n * c ^ s := by
  induction s with
  | zero => simp [manyT]
  | succ s ih =>
    rw [manyT]
    by_cases hc : c = 0
    · subst hc
      simp
    · have h2 : n * c ^ s ≤ n * c ^ (s + 1) := Nat.mul_le_mul_left n (Nat.pow_le_pow_right (by omega) (by omega))
      rw [ih (by omega), Nat.mul_assoc, ← Nat.pow_succ, Nat.min_eq_right (Nat.le_trans h (by decide))]
section
variable {P : Program} {w : World} {K : PySem.W.Frag} {mg : Str → Option Value} {base : Heap}
abbrev s_is_key : Stmt := top 12
theorem sc_is_key : FnScope ["thing", "letters", "states", "classes", "one"] ["thing", "letters", "states", "classes"] (defScope s_is_key) := ⟨rfl, rfl, rfl, by decide +kernel, rfl, by decide +kernel, by decide +kernel⟩
abbrev s_is_table : Stmt := top 13
theorem sc_is_table : FnScope ["thing", "letters", "states", "classes", "key"] ["thing", "letters", "states", "classes"] (defScope s_is_table) := ⟨rfl, rfl, rfl, by decide +kernel, rfl, by decide +kernel, by decide +kernel⟩
abbrev s_is_judge : Stmt := top 15
theorem sc_is_judge : FnScope ["thing", "letters", "states", "few", "turn", "table", "good"] ["thing"] (defScope s_is_judge) := ⟨rfl, rfl, rfl, by decide +kernel, rfl, by decide +kernel, by decide +kernel⟩

def sp_is_key : Sp := fun vs H Q _ => ∃ (v : V) (c : Nat) (r ls : List Nat) (st m : Nat), vs = [v, tx ls, .int (st : Int), .int (m : Int)] ∧ NKv H (kJ (c, r)) v ∧ c ∈ ls ∧ r.length = st ∧ st ≤ 3000 ∧ (∀ x ∈ r, x < m) ∧ ∀ H', Same H H' → Q (.bl true) H'
theorem ok_is_key (D : Df K mg "is_key" s_is_key ["thing", "letters", "states", "classes"]) (T : Txt K mg) (G_is_whole_within : G' P w K mg base "is_whole_within" 1 ["thing", "low", "high"] sp_is_whole_within) : G' P w K mg base "is_key" 2 ["thing", "letters", "states", "classes"] sp_is_key := by
  refine D.ok fun f fd F => F.okX sc_is_key (fun vs H Q E h => ?_) (fun cdv A outer s H vs Q E hr h => ?_)
  · obtain ⟨v, c, r, ls, st, m, rfl, _⟩ := h
    rfl
  · obtain ⟨v, c, r, ls, st, m, rfl, hv, hc, hr2, hst, hm, k⟩ := h
    obtain ⟨b, t, rfl, hb, ht⟩ : ∃ b t, v = .ref b ∧ H b = some (.tup [.str ⟨#[c]⟩, .ref t]) ∧ H t = some (.tup (r.map fun n => V.int (n : Nat))) := by
      unfold kJ at hv
      cases hv with
      | @tup b _ vs hb hs =>
        cases hs with
        | cons h1 h2 =>
          cases h2 with
          | cons h3 h4 =>
            cases h4
            cases h1
            obtain ⟨t, rfl, ht⟩ := row_of h3
            exact ⟨b, t, rfl, hb, ht⟩
    refine ⟨_, (pss_cons (ps_if (PW.pt (pw_or (pt_not (pt_val (pe_callB (call_isiK K) (by rfl) T.n_isinstance (by decide +kernel) (pa_cons (pv 0) (pa_cons (pe_ty (n := "tuple") T.n_tuple (by decide +kernel)) pa_nil))))) (pw_or (pt_cmpR op_ne (pe_callB (call_lenK K) (by rfl) T.n_len PySem.boot_len (pa_cons (pv 0) pa_nil)) pe_int (nomark _)) (pw_or (pt_not (pt_val (pe_callB (call_isiK K) (by rfl) T.n_isinstance (by decide +kernel) (pa_cons (pe_ix (ix_tupK K) (pv 0) pe_int (fun _ _ => rfl)) (pa_cons (pe_ty (n := "str") T.n_str (by decide +kernel)) pa_nil))))) (pw_or1 (pt_cmpR op_ne (pe_callB (call_lenK K) (by rfl) T.n_len PySem.boot_len (pa_cons (pe_ix (ix_tupK K) (pv 0) pe_int (fun _ _ => rfl)) pa_nil)) pe_int (nomark _))))))) (pss_one (ps_ret pe_bl)) pss_nil)
  (pss_cons (ps_if (PW.pt (pw_or (pt_cmpR op_notIn_sign (pe_ix (ix_tupK K) (pv 0) pe_int (fun _ _ => rfl)) (pv 1) (by rfl)) (pw_or (pt_not (pt_val (pe_callB (call_isiK K) (by rfl) T.n_isinstance (by decide +kernel) (pa_cons (pe_ix (ix_tupK K) (pv 0) pe_int (fun _ _ => rfl)) (pa_cons (pe_ty (n := "tuple") T.n_tuple (by decide +kernel)) pa_nil))))) (pw_or1 (pt_cmpR op_ne (pe_callB (call_lenK K) (by rfl) T.n_len PySem.boot_len (pa_cons (pe_ix (ix_tupK K) (pv 0) pe_int (fun _ _ => rfl)) pa_nil)) (pv 2) (nomark _)))))) (pss_one (ps_ret pe_bl)) pss_nil)
  (pss_one (ps_ret (pe_cmp (pc_eqNilK K hr (pe_lc (own := [("one", 4)]) rfl sc_is_key.nd (pi_tupK K (pe_ix (ix_tupK K) (pv 0) pe_int (fun _ _ => rfl))) (blkOk_by (own := [("one", 4)]) (N := ["thing", "letters", "states", "classes", "one"]) (sc := defScope s_is_key) (by decide +kernel)) (fun _ _ _ _ _ => (pg_name (i := 4) sc_is_key.nd rfl (by first | exact Or.inl rfl | exact Or.inr rfl))) (fun _ _ _ _ _ => (pts_one (pt_not (pt_val (pe_cl G_is_whole_within (hr.mono (by omega)) passF (pa_cons (pv 4) (pa_cons pe_int (pa_cons (pe_op op_sub (pv 3) pe_int) pa_nil)))))))) (fun _ _ _ _ _ => (pv 4))))))))), ?_⟩
    walk_at "rd"
    have e1 : decide (c ∈ (txS ls).cps.toList) = true := by simpa using hc
    rw [e1]
    walk_at "rd"
    rw [List.length_map, hr2]
    refine iteC (by simp) ?_
    walk_at "rd"
    refine ⟨⟨_, SqT.of ht⟩, fun D nD => lc_it walk_tup (PvE H D fun _ => false) (PvE.start nD) (fun i H' _ p => SqT.of (p.S _ _ ht)) ?_ ?_⟩
    · rintro i x H1 H2 hi p ⟨rfl, hx⟩
      rw [List.length_map] at hi
      rw [List.getElem?_map, List.getElem?_eq_getElem hi] at hx
      cases hx
      have hmi := hm _ (List.getElem_mem hi)
      walk_at "rd"
      refine ⟨_, _, _, rfl, ?_⟩
      walk_at "rd"
      refine iteC (by rw [decide_eq_true (show (r[i] : Int) ≤ (m : Int) - 1 by omega), decide_eq_true (show (0 : Int) ≤ (r[i] : Int) by omega)]; rfl) ?_
      exact p.skip (Same.refl _) rfl
    · rintro H1 ⟨S1, acc, hD, _, hacc⟩
      walk_at "rd"
      rw [hacc]
      have e2 : ((List.range (r.map fun n : Nat => V.int (n : Nat)).length).all fun j => !false) = true := by simp
      rw [e2]
      exact k _ S1
def sp_is_table (w : World) : Sp := fun vs H Q _ => ∃ (d : Addr) (es : List NE) (ls tb : List Nat) (st m : Nat), vs = [.ref d, tx ls, .int (st : Int), .int (m : Int)] ∧ H d = some (ndO w d es) ∧ NKeys H es ∧ ls.length ≤ 3000 ∧ st ≤ 1000 ∧ m ≤ 1000 ∧
  es.map (·.1) = (keysL ls m st).map kJ ∧ es.map (·.2.2) = tb.map (fun n => V.int (n : Nat)) ∧ tb.length ≤ 600 ∧ (∀ v ∈ tb, v ≤ 1000) ∧ ls.Nodup ∧ ∀ H', Same H H' → Q (.bl (tb.all fun v => decide (v < st))) H'
theorem ok_is_table (D : Df K mg "is_table" s_is_table ["thing", "letters", "states", "classes"]) (T : Txt K mg) (G_is_whole_within : G' P w K mg base "is_whole_within" 1 ["thing", "low", "high"] sp_is_whole_within)
    (G_how_many_tuples : G' P w K mg base "how_many_tuples" 1 ["letters", "states", "classes"] sp_how_many_tuples) (G_is_key : G' P w K mg base "is_key" 2 ["thing", "letters", "states", "classes"] sp_is_key) : G' P w K mg base "is_table" 3 ["thing", "letters", "states", "classes"] (sp_is_table w) := by
  refine D.ok fun f fd F => F.okX sc_is_table (fun vs H Q E h => ?_) (fun cdv A outer s H vs Q E hr h => ?_)
  · obtain ⟨d, es, ls, tb, st, m, rfl, _⟩ := h
    rfl
  · obtain ⟨d, es, ls, tb, st, m, rfl, hd, hks, hls, hst, hm, hek, hev, htb, htv, hlsn, k⟩ := h
    have hnd := ND.of hd hks
    refine ⟨_, (pss_cons (ps_if (PW.pt (pw_or (pt_not (pt_val (pe_callB (call_isiNK w K) (by rfl) T.n_isinstance (by decide +kernel) (pa_cons (pv 0) (pa_cons (pe_ty (n := "dict") T.n_dict (by decide +kernel)) pa_nil))))) (pw_or1 (pt_cmpR op_ne (pe_callB (call_len_nd w) (by rfl) T.n_len PySem.boot_len (pa_cons (pv 0) pa_nil)) (pe_cl G_how_many_tuples (hr.mono (by omega)) passF (pa_cons (pv 1) (pa_cons (pv 2) (pa_cons (pv 3) pa_nil)))) (nomark _))))) (pss_one (ps_ret pe_bl)) pss_nil)
  (pss_cons (ps_if (PW.pt (pw_or (pt_cmpR op_gt (pe_callB (call_len_nd w) (by rfl) T.n_len PySem.boot_len (pa_cons (pv 0) pa_nil)) (pe_gv T.g_MOST_TUPLES_judges) (nomark _)) (pw_or1 (pt_cmp (pc_neNilK K hr (pe_lock (pe_lc (own := [("key", 4)]) rfl sc_is_table.nd (pi_nkeys w (pv 0)) (blkOk_by (own := [("key", 4)]) (N := ["thing", "letters", "states", "classes", "key"]) (sc := defScope s_is_table) (by decide +kernel)) (fun _ _ _ _ _ => (pg_name (i := 4) sc_is_table.nd rfl (by first | exact Or.inl rfl | exact Or.inr rfl))) (fun _ _ _ _ _ => (pts_one (pt_not (pt_val (pe_cl G_is_key (hr.mono (by omega)) passF (pa_cons (pv 4) (pa_cons (pv 1) (pa_cons (pv 2) (pa_cons (pv 3) pa_nil))))))))) (fun _ _ _ _ _ => (pv 4))))))))) (pss_one (ps_ret pe_bl)) pss_nil)
  (pss_one (ps_ret (pe_cmp (pc_eqNilK K hr (pe_lock (pe_lc (own := [("key", 4)]) rfl sc_is_table.nd (pi_nkeys w (pv 0)) (blkOk_by (own := [("key", 4)]) (N := ["thing", "letters", "states", "classes", "key"]) (sc := defScope s_is_table) (by decide +kernel)) (fun _ _ _ _ _ => (pg_name (i := 4) sc_is_table.nd rfl (by first | exact Or.inl rfl | exact Or.inr rfl))) (fun _ _ _ _ _ => (pts_one (pt_not (pt_val (pe_cl G_is_whole_within (hr.mono (by omega)) passF (pa_cons (pe_nget w hr (pv 0) (pv 4)) (pa_cons pe_int (pa_cons (pe_op op_sub (pv 2) pe_int) pa_nil)))))))) (fun _ _ _ _ _ => (pv 4)))))))))), ?_⟩
    walk_at "rd"
    refine ⟨_, _, _, rfl, hls, hst, hm, ?_⟩
    walk_at "rd"
    have hlen : es.length = tb.length := by
      have := congrArg List.length hev
      rw [List.length_map, List.length_map] at this
      exact this
    have hlen2 : es.length = ls.length * m ^ st := by
      have := congrArg List.length hek
      rw [List.length_map, List.length_map, keysL_len] at this
      exact this
    have hmt : manyT ls.length m st = es.length := by rw [manyT_eq _ _ _ (by omega), hlen2]
    rw [hmt]
    refine iteC (by simp) ?_
    walk_at "rd"
    refine iteC (decide_eq_false (show ¬ (600 : Int) < (es.length : Int) by omega)) ?_
    walk_at "rd"
    have nx : ∀ (i : Nat), i < es.length → ∃ c r v, (c, r) ∈ keysL ls m st ∧ v ∈ tb ∧ tb[i]? = some v ∧ ∃ b, es[i]? = some (kJ (c, r), b, .int (v : Nat)) := by
      intro i hi
      have h1 : (es.map (·.1))[i]? = some es[i].1 := by rw [List.getElem?_map, List.getElem?_eq_getElem hi]; rfl
      rw [hek, List.getElem?_map] at h1
      obtain ⟨⟨c, r⟩, hcr, e1⟩ := Option.map_eq_some_iff.mp h1
      have h2 : (es.map (·.2.2))[i]? = some es[i].2.2 := by rw [List.getElem?_map, List.getElem?_eq_getElem hi]; rfl
      rw [hev, List.getElem?_map] at h2
      obtain ⟨v, hv, e2⟩ := Option.map_eq_some_iff.mp h2
      refine ⟨c, r, v, List.mem_of_getElem? hcr, List.mem_of_getElem? hv, hv, es[i].2.1, ?_⟩
      rw [List.getElem?_eq_getElem hi, e1, e2]
    refine ⟨d, _, hd, trivial, fun od => ?_⟩
    generalize eF : upd H d (.frz od _) = HF
    have hF : ∀ H2, Same HF H2 → ND w H2 d es := fun H2 S => nd_own hd hks od (by rw [eF]; exact S)
    have hFd : HF d = some (.frz od (ndO w d es)) := by rw [← eF]; exact upd_same
    walk_at "rd"
    refine ⟨_, _, _, rfl, hFd, fun D nD => lc_it walk_nkeys (PvE HF D fun _ => false) (PvE.start nD) (fun i H' _ p => p.S _ _ hFd) ?_ ?_⟩
    · rintro i x H1 H2 hi p ⟨rfl, e, he, rfl⟩
      obtain ⟨c, r, v, hcr, hv, hvi, b, he2⟩ := nx i hi
      rw [he] at he2
      cases he2
      obtain ⟨m1, m2⟩ := keysL_mem.mp hcr
      obtain ⟨m3, m4⟩ := rowsL_mem.mp m2
      walk_at "rd"
      refine ⟨_, c, r, ls, st, m, rfl, ((hF _ p.S).ks _ (List.mem_of_getElem? he)).1, m1, m3, by omega, m4, fun H3 S3 => ?_⟩
      walk_at "rd"
      exact p.skip S3 rfl
    · rintro H1 ⟨S1, acc, hD, _, hacc⟩
      have hd1 := S1 _ _ hFd
      refine ⟨hd1, ?_⟩
      generalize eU : upd H1 d _ = H2
      have S2 : Same H H2 := by rw [← eU]; exact lock_same hd (by rw [eF]; exact S1)
      have hD2 : H2 D = some (.lst acc) := by rw [← eU, upd_ne (ne_of hD hd1 (fun z => nomatch z))]; exact hD
      have hd2 : H2 d = some (ndO w d es) := by rw [← eU]; exact upd_same
      have hks2 : NKeys H2 es := hks.stay fun _ _ h => S2 _ _ h
      walk_at "rd"
      rw [hacc]
      refine iteC (by simp) ?_
      walk_at "rd"
      refine ⟨d, _, hd2, trivial, fun od2 => ?_⟩
      generalize eF2 : upd H2 d (.frz od2 _) = HF2
      have hF2 : ∀ H3, Same HF2 H3 → ND w H3 d es := fun H3 S => nd_own hd2 hks2 od2 (by rw [eF2]; exact S)
      have hFd2 : HF2 d = some (.frz od2 (ndO w d es)) := by rw [← eF2]; exact upd_same
      walk_at "rd"
      refine ⟨_, _, _, rfl, hFd2, fun D2 nD2 => lc_it walk_nkeys (PvE HF2 D2 fun i => !decide ((tb[i]?).getD 0 < st)) (PvE.start nD2) (fun i H' _ p => p.S _ _ hFd2) ?_ ?_⟩
      · rintro i x H3 H4 hi p ⟨rfl, e, he, rfl⟩
        obtain ⟨c, r, v, hcr, hv, hvi, b, he2⟩ := nx i hi
        rw [he] at he2
        cases he2
        have hN := hF2 _ p.S
        have hnod : (es.map (·.1)).Nodup := by
          rw [hek]
          exact nodup_map' (fun _ _ => kJ_inj) (keysL_nodup hlsn _ _)
        have hat : atN es (kJ (c, r)) = some (.int (v : Nat)) := atN_of_mem hnod (List.mem_map.mpr ⟨_, List.mem_of_getElem? he, rfl⟩)
        walk_at "rd"
        refine ⟨_, _, _, _, _, rfl, rfl, hN, (hN.ks _ (List.mem_of_getElem? he)).1, by rw [kJ_depth]; decide, hat, ?_⟩
        walk_at "rd"
        refine ⟨_, _, _, rfl, ?_⟩
        walk_at "rd"
        refine iteJ (c := !decide ((tb[i]?).getD 0 < st)) ?_ (fun hc => ?_) fun hc => ?_
        · rw [hvi]
          show (!(decide ((0 : Int) ≤ (v : Int)) && decide ((v : Int) ≤ (st : Int) - 1))) = !decide (v < st)
          by_cases h : v < st
          · rw [decide_eq_true h, decide_eq_true (show (v : Int) ≤ (st : Int) - 1 by omega), decide_eq_true (show (0 : Int) ≤ (v : Int) by omega)]
            rfl
          · rw [decide_eq_false h, decide_eq_false (show ¬ (v : Int) ≤ (st : Int) - 1 by omega), Bool.and_false]
        · walk_at "rd"
          exact p.push (Same.refl _) nD2 hc (big_of (show i ≤ 600 by omega) (by decide))
        · exact p.skip (Same.refl _) hc
      · rintro H3 ⟨S3, acc3, hD3, _, hacc3⟩
        have hd3 := S3 _ _ hFd2
        refine ⟨hd3, ?_⟩
        generalize eU3 : upd H3 d _ = H4
        have S4 : Same H H4 := S2.trans (by rw [← eU3]; exact lock_same hd2 (by rw [eF2]; exact S3))
        have hD4 : H4 D2 = some (.lst acc3) := by rw [← eU3, upd_ne (ne_of hD3 hd3 (fun z => nomatch z))]; exact hD3
        walk_at "rd"
        rw [hacc3, hlen, all_range tb (fun v => decide (v < st)) _ (fun i x hx => by rw [hx]; simp)]
        exact k _ S4
def Jd.okB (J : Jd) : Bool := lettersB J.ls && (decide (1 ≤ J.st) && decide (J.st ≤ 6)) && decide (J.few ≤ 4) && (decide (1 ≤ J.turn) && decide (J.turn ≤ 4)) && J.tb.all (fun v => decide (v < J.st)) && (J.gd.all (fun g => decide (g < J.st)) && riseB J.gd)
/-- a tuple of a judge's form -/
structure JForm (w : World) (H : Hp) (J : Jd) (a d g : Addr) (es : List NE) : Prop where
  tup : H a = some (.tup [.str (txS J.ls), .int (J.st : Nat), .int (J.few : Nat), .int (J.turn : Nat), .ref d, .ref g])
  dic : H d = some (ndO w d es)
  ks : NKeys H es
  lst : H g = some (.lst (J.gd.map fun n => V.int (n : Nat)))
  ek : lettersB J.ls = true → es.map (·.1) = J.keys.map kJ
  ev : lettersB J.ls = true → es.map (·.2.2) = J.tb.map (fun n => V.int (n : Nat))
  l3 : J.ls.length ≤ 3000
  st9 : J.st ≤ 9
  few9 : J.few ≤ 9
  turn9 : J.turn ≤ 9
  tb6 : J.tb.length ≤ 600
  tb9 : ∀ v ∈ J.tb, v ≤ 9
  gd3 : J.gd.length ≤ 3000
theorem JForm.same {w : World} {H H' : Hp} {J : Jd} {a d g : Addr} {es : List NE} (h : JForm w H J a d g es) (s : Same H H') : JForm w H' J a d g es :=
  { h with tup := s _ _ h.tup, dic := s _ _ h.dic, ks := h.ks.stay fun _ _ e => s _ _ e, lst := s _ _ h.lst }
def sp_is_judge (w : World) : Sp := fun vs H Q _ => ∃ (J : Jd) (a d g : Addr) (es : List NE), vs = [.ref a] ∧ JForm w H J a d g es ∧ ∀ H', Same H H' → Q (.bl J.okB) H'
theorem ok_is_judge (D : Df K mg "is_judge" s_is_judge ["thing"]) (T : Txt K mg) (G_are_letters : G' P w K mg base "are_letters" 1 ["thing"] sp_are_letters) (G_is_whole_within : G' P w K mg base "is_whole_within" 1 ["thing", "low", "high"] sp_is_whole_within)
    (G_is_table : G' P w K mg base "is_table" 3 ["thing", "letters", "states", "classes"] (sp_is_table w)) (G_are_good : G' P w K mg base "are_good" 2 ["thing", "states"] sp_are_good) : G' P w K mg base "is_judge" 4 ["thing"] (sp_is_judge w) := by
  refine D.ok fun f fd F => F.okX sc_is_judge (fun vs H Q E h => ?_) (fun cdv A outer s H vs Q E hr h => ?_)
  · obtain ⟨J, a, d, g, es, rfl, _⟩ := h
    rfl
  · obtain ⟨J, a, d, g, es, rfl, hj, k⟩ := h
    have htup := hj.tup
    refine ⟨_, (pss_cons (ps_if (PW.pt (pw_or (pt_not (pt_val (pe_callB (call_isiK K) (by rfl) T.n_isinstance (by decide +kernel) (pa_cons (pv 0) (pa_cons (pe_ty (n := "tuple") T.n_tuple (by decide +kernel)) pa_nil))))) (pw_or1 (pt_cmpR op_ne (pe_callB (call_lenK K) (by rfl) T.n_len PySem.boot_len (pa_cons (pv 0) pa_nil)) pe_int (nomark _))))) (pss_one (ps_ret pe_bl)) pss_nil)
  (pss_cons (ps_asg (pv 0) (pg_tup (by rfl) (pgs_cons (pg_name (i := 1) sc_is_judge.nd rfl (by first | exact Or.inl rfl | exact Or.inr rfl)) (pgs_cons (pg_name (i := 2) sc_is_judge.nd rfl (by first | exact Or.inl rfl | exact Or.inr rfl)) (pgs_cons (pg_name (i := 3) sc_is_judge.nd rfl (by first | exact Or.inl rfl | exact Or.inr rfl)) (pgs_cons (pg_name (i := 4) sc_is_judge.nd rfl (by first | exact Or.inl rfl | exact Or.inr rfl)) (pgs_cons (pg_name (i := 5) sc_is_judge.nd rfl (by first | exact Or.inl rfl | exact Or.inr rfl)) (pgs_cons (pg_name (i := 6) sc_is_judge.nd rfl (by first | exact Or.inl rfl | exact Or.inr rfl)) pgs_nil))))))))
  (pss_cons (ps_if (PW.pt (pw_or (pt_not (pt_val (pe_cl G_are_letters (hr.mono (by omega)) passF (pa_cons (pv 1) pa_nil)))) (pw_or1 (pt_not (pt_val (pe_cl G_is_whole_within (hr.mono (by omega)) passF (pa_cons (pv 2) (pa_cons pe_int (pa_cons (pe_gv T.g_MOST_STATES) pa_nil))))))))) (pss_one (ps_ret pe_bl)) pss_nil)
  (pss_cons (ps_if (PW.pt (pw_or (pt_not (pt_val (pe_cl G_is_whole_within (hr.mono (by omega)) passF (pa_cons (pv 3) (pa_cons pe_int (pa_cons (pe_gv T.g_MOST_FEW) pa_nil)))))) (pw_or1 (pt_not (pt_val (pe_cl G_is_whole_within (hr.mono (by omega)) passF (pa_cons (pv 4) (pa_cons pe_int (pa_cons (pe_gv T.g_MOST_TURN) pa_nil))))))))) (pss_one (ps_ret pe_bl)) pss_nil)
  (pss_one (ps_ret (pe_and (pe_cl G_is_table (hr.mono (by omega)) passF (pa_cons (pv 5) (pa_cons (pv 1) (pa_cons (pv 2) (pa_cons (pe_op op_add (pv 3) (pv 4)) pa_nil))))) (pe_one (pe_cl G_are_good (hr.mono (by omega)) passF (pa_cons (pv 6) (pa_cons (pv 2) pa_nil))))))))))), ?_⟩
    walk_at "rd"
    refine ⟨hj.l3, fun H1 S1 => ?_⟩
    have fin : ∀ (b : Bool) H', b = J.okB → Same H H' → Q (.bl b) H' := fun b H' e S => by rw [e]; exact k H' S
    cases hA : lettersB J.ls with
    | false =>
      walk_at "rd"
      exact fin false _ (by simp [Jd.okB, hA]) S1
    | true =>
      walk_at "rd"
      refine ⟨_, _, _, rfl, ?_⟩
      walk_at "rd"
      have e1 : (decide ((1 : Int) ≤ (J.st : Int)) && decide ((J.st : Int) ≤ 6)) = (decide (1 ≤ J.st) && decide (J.st ≤ 6)) := by rw [Bool.eq_iff_iff]; simp; omega
      rw [e1]
      cases hB : (decide (1 ≤ J.st) && decide (J.st ≤ 6)) with
      | false =>
        walk_at "rd"
        exact fin false _ (by simp only [Jd.okB, hA, hB]; simp) S1
      | true =>
        walk_at "rd"
        refine ⟨_, _, _, rfl, ?_⟩
        walk_at "rd"
        have e2 : (decide ((0 : Int) ≤ (J.few : Int)) && decide ((J.few : Int) ≤ 4)) = decide (J.few ≤ 4) := by rw [Bool.eq_iff_iff]; simp; omega
        rw [e2]
        cases hC : decide (J.few ≤ 4) with
        | false =>
          walk_at "rd"
          exact fin false _ (by simp only [Jd.okB, hA, hB, hC]; simp) S1
        | true =>
          walk_at "rd"
          refine ⟨_, _, _, rfl, ?_⟩
          walk_at "rd"
          have e3 : (decide ((1 : Int) ≤ (J.turn : Int)) && decide ((J.turn : Int) ≤ 4)) = (decide (1 ≤ J.turn) && decide (J.turn ≤ 4)) := by rw [Bool.eq_iff_iff]; simp; omega
          rw [e3]
          cases hD : (decide (1 ≤ J.turn) && decide (J.turn ≤ 4)) with
          | false =>
            walk_at "rd"
            exact fin false _ (by simp only [Jd.okB, hA, hB, hC, hD]; simp) S1
          | true =>
            have hj1 := hj.same S1
            have hn : J.ls.Nodup := by
              rw [lettersB, Bool.and_eq_true] at hA
              exact riseB_nodup hA.2
            have := hj.few9
            have := hj.turn9
            have := hj.st9
            walk_at "rd"
            refine ⟨d, es, J.ls, J.tb, J.st, J.m, by rw [Jd.m]; rfl, hj1.dic, hj1.ks, hj.l3, by omega, by rw [Jd.m]; omega, hj.ek hA, hj.ev hA, hj.tb6, fun v hv => Nat.le_trans (hj.tb9 v hv) (by decide), hn, fun H2 S2 => ?_⟩
            cases hE : (J.tb.all fun v => decide (v < J.st)) with
            | false =>
              walk_at "rd"
              exact fin false _ (by simp only [Jd.okB, hA, hB, hC, hD, hE]; simp) (S1.trans S2)
            | true =>
              walk_at "rd"
              refine ⟨g, J.gd, J.st, rfl, (hj1.same S2).lst, hj.gd3, fun H3 S3 => ?_⟩
              refine fin _ _ (by simp only [Jd.okB, hA, hB, hC, hD, hE]; simp) ((S1.trans S2).trans S3)
end
end Hy
set_option Elab.async false
set_option linter.all false
set_option maxRecDepth 100000
set_option maxHeartbeats 4000000
namespace Hy
open PySem L2
local macro_rules | `(tactic| walk_at "hp") => `(tactic| first
  | assumption | exact upd_same
  | (refine (upd_ne ?_).trans ?_ <;> first | assumption | (exact Ne.symm (by assumption)) | walk_at "ne" | walk_at "hp")
  | (refine (by assumption : Same _ _) _ _ ?_; assumption))
local macro_rules | `(tactic| walk_at "ne") => `(tactic| first
  | assumption | (exact Ne.symm (by assumption))
  | exact ne_of_none (by assumption) (by assumption) | exact Ne.symm (ne_of_none (by assumption) (by assumption)))
local macro_rules | `(tactic| walk_at "sz") => `(tactic| first | assumption | (show 0 ≤ sizeLine; decide) | (show 1 ≤ sizeLine; decide) | (show 2 ≤ sizeLine; decide) | (show 3 ≤ sizeLine; decide))
local macro_rules | `(tactic| walk_at "ar") => `(tactic| first
  | ((with_reducible show (0 : Int) < _); first | decide | omega)
  | ((with_reducible show CMul _ _); first | exact Or.inr (And.intro (by decide) (by decide)) | exact Or.inl (And.intro (by decide) (by decide)) | (refine Or.inl (And.intro ?_ ?_) <;> omega) | (refine Or.inr (And.intro ?_ ?_) <;> omega))
  | ((with_reducible show CPow _ _); exact And.intro (by decide) (And.intro (by decide) (by decide)))
  | ((with_reducible show CDiv _ _); first | exact And.intro (by decide) (by decide) | (refine And.intro ?_ ?_ <;> omega)))
/- one step of a reading -/
local macro_rules | `(tactic| walk_at "r1") => `(tactic| first
  | refine ⟨_, rfl, ?_⟩
  | refine iteB (by rfl) ?_ | refine iteC (by rfl) ?_
  | refine ⟨_, _, rfl, rfl, ?_⟩
  | refine ⟨rfl, ?_⟩
  | refine ⟨⟨_, rfl⟩, ?_⟩
  | refine ⟨_, _, _, _, true, rfl, .ty _, .base (.str _), kit_ty (by decide +kernel), ?_⟩
  | refine ⟨_, _, _, _, false, rfl, .ty _, .base (.str _), kit_ty (by decide +kernel), ?_⟩
  | refine ⟨_, _, _, _, true, rfl, .ty _, .base (.int _), kit_ty (by decide +kernel), ?_⟩
  | refine ⟨_, _, _, _, false, rfl, .ty _, .base (.int _), kit_ty (by decide +kernel), ?_⟩
  | refine ⟨_, _, _, _, true, rfl, .ty _, .base (.tup (by walk_at "hp")), kit_ty (by decide +kernel), ?_⟩
  | refine ⟨_, _, _, _, false, rfl, .ty _, .base (.tup (by walk_at "hp")), kit_ty (by decide +kernel), ?_⟩
  | refine ⟨_, _, _, _, true, rfl, .ty _, .base (.lst (by walk_at "hp")), kit_ty (by decide +kernel), ?_⟩
  | refine ⟨_, _, _, _, false, rfl, .ty _, .base (.lst (by walk_at "hp")), kit_ty (by decide +kernel), ?_⟩
  | refine ⟨_, _, rfl, ⟨by walk_at "sz", rfl⟩, ?_⟩
  | refine ⟨_, _, _, _, rfl, rfl, SqT.of (by walk_at "hp"), by rfl, ?_⟩
  | refine ⟨_, _, _, _, rfl, rfl, SqL.of (by walk_at "hp"), by rfl, ?_⟩
  | refine ⟨.inl ⟨rfl, _, SqL.of (by walk_at "hp")⟩, ?_⟩
  | refine ⟨_, _, _, rfl, rfl, (by walk_at "hp"), snoc_get, ?_⟩
  | refine ⟨_, _, _, _, rfl, rfl, (by walk_at "hp"), by rfl, ?_⟩
  | refine ⟨_, _, rfl, SqL.of (by walk_at "hp"), ?_⟩
  | refine ⟨_, _, rfl, SqT.of (by walk_at "hp"), by rfl, ?_⟩
  | refine ⟨_, (_ : List V), rfl, ?_⟩
  | refine ⟨_, _, rfl, .inl ⟨_, (by assumption), rfl⟩, ?_⟩
  | refine ⟨_, _, rfl, .inl ⟨_, SqL.of (by walk_at "hp"), rfl⟩, ?_⟩
  | refine ⟨_, _, rfl, .inr ⟨_, SqT.of (by walk_at "hp"), rfl⟩, ?_⟩
  | refine Or.inl ⟨(_ : Int), rfl, ?_⟩ | refine Or.inr ⟨(_ : Bool), rfl, ?_⟩
  | refine ⟨_, _, _, _, true, rfl, (by assumption : ND _ _ _ _), .ty _, kit_ty (by decide +kernel), ?_⟩
  | refine ⟨_, _, _, _, false, rfl, (by assumption : ND _ _ _ _), .ty _, kit_ty (by decide +kernel), ?_⟩
  | refine ⟨_, _, rfl, (by assumption : ND _ _ _ _), ?_⟩
  | refine And.intro (by walk_at "ar") ?_)
local macro_rules | `(tactic| walk_at "rd") => `(tactic| repeat walk_at "r1")

theorem str_dig : ∀ n : Nat, n ≤ 9 → (PySem.Str.ofString (toString ((n : Nat) : Int))) = txS [dig n]
  | 0, _ => by decide +kernel
  | 1, _ => by decide +kernel
  | 2, _ => by decide +kernel
  | 3, _ => by decide +kernel
  | 4, _ => by decide +kernel
  | 5, _ => by decide +kernel
  | 6, _ => by decide +kernel
  | 7, _ => by decide +kernel
  | 8, _ => by decide +kernel
  | 9, _ => by decide +kernel
  | n + 10, h => by omega
def figV (x : Str) : Option Nat := match x.cps.toList with
  | [c] => if 48 ≤ c ∧ c ≤ 57 then some (c - 48) else none
  | _ => none
theorem figV_dig {n : Nat} (h : n ≤ 9) : figV (txS [dig n]) = some n := by
  show (if 48 ≤ 48 + n ∧ 48 + n ≤ 57 then some (48 + n - 48) else none) = some n
  rw [if_pos (by omega), Nat.add_sub_cancel_left]
theorem join_txS (s : List Nat) (ws : List (List Nat)) : Txt.join (txS s) (ws.map txS) = txS (TL.joinL s ws) := by
  rw [TL.join_eq]
  have h := TL.tl_join (txS s) (ws.map txS)
  rw [List.map_map] at h
  have e : ws.map (TL.tl ∘ txS) = ws := by
    have : (TL.tl ∘ txS) = id := funext fun l => by simp [TL.tl]
    rw [this, List.map_id]
  have e0 : TL.tl (txS s) = s := by simp [TL.tl]
  rw [e, e0] at h
  have h2 : (Str.join (txS s) (ws.map txS)).cps = (TL.joinL s ws).toArray := by
    rw [← h]
  calc Str.join (txS s) (ws.map txS) = ⟨(Str.join (txS s) (ws.map txS)).cps⟩ := rfl
    _ = _ := by rw [h2]
theorem joinL_len (s : List Nat) : ∀ ws : List (List Nat), (TL.joinL s ws).length ≤ (ws.map (·.length)).sum + ws.length * s.length
  | [] => by simp [TL.joinL]
  | [p] => by simp [TL.joinL]
  | p :: q :: r => by
    have ih := joinL_len s (q :: r)
    rw [TL.joinL]
    simp only [List.length_append, List.map_cons, List.sum_cons, List.length_cons] at ih ⊢
    rw [Nat.succ_mul]
    omega
def goodL (g : List Nat) : List Nat := if g = [] then [45] else TL.joinL [44] (g.map fun n => [dig n])
theorem goodW_eq (g : List Nat) : goodW g = txS (goodL g) := by
  unfold goodW goodL
  split
  · rfl
  · rw [← join_txS, List.map_map]
    rfl
theorem goodL_len (g : List Nat) : (goodL g).length ≤ 2 * g.length + 1 := by
  unfold goodL
  split
  · simp
  · have h := joinL_len [44] (g.map fun n => [dig n])
    have h2 := sum_ones ((fun x : List Nat => x.length) ∘ fun n => [dig n]) 1 g (fun x _ => Nat.le_refl _)
    rw [List.map_map, List.length_map] at h
    simp only [List.length_cons, List.length_nil] at h
    omega
theorem rise_len : ∀ (l : List Nat) (k n : Nat), l.Pairwise (· < ·) → (∀ x ∈ l, k ≤ x ∧ x < n) → l = [] ∨ l.length + k ≤ n
  | [], _, _, _, _ => .inl rfl
  | x :: l, k, n, hp, hx => by
    obtain ⟨h1, h2⟩ := List.pairwise_cons.mp hp
    have hx1 := hx x List.mem_cons_self
    rcases rise_len l (x + 1) n h2 (fun y hy => ⟨h1 y hy, (hx y (List.mem_cons_of_mem _ hy)).2⟩) with e | e
    · subst e
      exact .inr (by simp; omega)
    · exact .inr (by rw [List.length_cons]; omega)
theorem Jd.Ok.gd6 {J : Jd} (ok : J.Ok) : J.gd.length ≤ 6 := by
  have := ok.st6
  rcases rise_len J.gd 0 J.st (riseB_pair ok.gdR) (fun x hx => ⟨Nat.zero_le _, ok.gdv x hx⟩) with e | e
  · rw [e]; simp
  · omega
theorem log_small {n : Nat} (h : n ≤ 9) : ((n : Nat) : Int).natAbs.log2 < 1920 := by
  rw [Int.natAbs_natCast]
  exact Nat.lt_of_le_of_lt (Nat.log2_le_self _) (by omega)
theorem flat_ones {α : Type} (f : α → Nat) : ∀ l : List α, (l.map fun x => [f x]).flatten = l.map f
  | [] => rfl
  | x :: l => by rw [List.map_cons, List.flatten_cons, flat_ones f l]; rfl
theorem join_ones (l : List Nat) : Txt.join (txS []) (l.map fun n => txS [dig n]) = txS (l.map dig) := by
  have e : (l.map fun n => txS [dig n]) = (l.map fun n => [dig n]).map txS := by rw [List.map_map]; rfl
  rw [e, join_nil, flat_ones]
theorem mul_add_lt {i j N n : Nat} (hi : i < n) (hj : j < N) : i * N + j < n * N := by
  have : (i + 1) * N ≤ n * N := Nat.mul_le_mul_right N hi
  rw [Nat.succ_mul] at this
  omega
theorem flat_at {α β : Type} (f : α → List β) (N : Nat) : ∀ (l : List α), (∀ x ∈ l, (f x).length = N) → ∀ (i j : Nat) (x : α) (y : β), l[i]? = some x → (f x)[j]? = some y → (l.flatMap f)[i * N + j]? = some y
  | [], _, i, j, x, y, h, _ => by simp at h
  | a :: l, hN, 0, j, x, y, h1, h2 => by
    simp only [List.getElem?_cons_zero, Option.some.injEq] at h1
    subst h1
    rw [List.flatMap_cons, Nat.zero_mul, Nat.zero_add, List.getElem?_append_left (List.getElem?_eq_some_iff.mp h2).1]
    exact h2
  | a :: l, hN, i + 1, j, x, y, h1, h2 => by
    simp only [List.getElem?_cons_succ] at h1
    have ha := hN a List.mem_cons_self
    rw [List.flatMap_cons, List.getElem?_append_right (by rw [ha, Nat.succ_mul]; omega), ha, show (i + 1) * N + j - N = i * N + j by rw [Nat.succ_mul]; omega]
    exact flat_at f N l (fun z hz => hN z (List.mem_cons_of_mem _ hz)) i j x y h1 h2
theorem keysL_at {ls : List Nat} {m s i j c : Nat} {r : List Nat} (h1 : ls[i]? = some c) (h2 : (rowsL m s)[j]? = some r) : (keysL ls m s)[i * m ^ s + j]? = some (c, r) :=
  flat_at _ (m ^ s) ls (fun x _ => by rw [List.length_map, rowsL_len]) i j c (c, r) h1 (by rw [List.getElem?_map, h2]; rfl)
theorem Jd.Ok.tab_at {J : Jd} (ok : J.Ok) {i j c : Nat} {r : List Nat} (h1 : J.ls[i]? = some c) (h2 : (rowsL J.m J.st)[j]? = some r) : ∃ v, J.tb[i * J.m ^ J.st + j]? = some v ∧ ((c, r), v) ∈ J.tab := by
  have hk := keysL_at h1 h2
  have hlt : i * J.m ^ J.st + j < J.tb.length := by
    rw [← ok.klen]
    exact (List.getElem?_eq_some_iff.mp hk).1
  refine ⟨J.tb[i * J.m ^ J.st + j], List.getElem?_eq_getElem hlt, List.mem_of_getElem? (i := i * J.m ^ J.st + j) ?_⟩
  rw [Jd.tab, List.getElem?_zip_eq_some]
  exact ⟨hk, List.getElem?_eq_getElem hlt⟩
theorem Jd.Ok.pow {J : Jd} (ok : J.Ok) : ∀ i, i ≤ J.st → J.m ^ i ≤ 600 := by
  intro i hi
  have h1 : J.m ^ i ≤ J.m ^ J.st := Nat.pow_le_pow_right (by have := ok.turn1; rw [Jd.m]; omega) hi
  have h2 : 1 ≤ J.ls.length := by
    have := ok.ls1
    cases h : J.ls with
    | nil => exact absurd h this
    | cons => simp
  have h3 := ok.tbl
  have h4 := ok.size
  have h5 : J.m ^ J.st ≤ J.ls.length * J.m ^ J.st := Nat.le_mul_of_pos_left _ h2
  omega
theorem Jd.Ok.ls26 {J : Jd} (ok : J.Ok) : J.ls.length ≤ 600 := by
  have h3 := ok.tbl
  have h4 := ok.size
  have h0 := ok.turn1
  have h1 : 1 ≤ J.m ^ J.st := Nat.pow_pos (by rw [Jd.m]; omega)
  have h5 : J.ls.length ≤ J.ls.length * J.m ^ J.st := Nat.le_mul_of_pos_right _ h1
  omega
theorem words_sum {J : Jd} (ok : J.Ok) : (J.words.map (·.length)).sum + J.words.length * (txS [32]).length ≤ 16777216 := by
  have h1 := ok.ls26
  have h2 := ok.size
  have h3 := goodL_len J.gd
  have h4 := ok.gd6
  simp only [Jd.words, List.map_cons, List.map_nil, List.sum_cons, List.sum_nil, List.length_cons, List.length_nil, goodW_eq, txS_len, List.length_map]
  omega
theorem take_next {α : Type} (l : List α) (i N : Nat) : l.take (i * N) ++ (l.drop (i * N)).take N = l.take ((i + 1) * N) := by
  rw [Nat.succ_mul, List.take_add]
section
variable {P : Program} {w : World} {K : PySem.W.Frag} {mg : Str → Option Value} {base : Heap}
abbrev s_written_good : Stmt := top 20
theorem sc_written_good : FnScope ["good", "one"] ["good"] (defScope s_written_good) := ⟨rfl, rfl, rfl, by decide +kernel, rfl, by decide +kernel, by decide +kernel⟩
abbrev s_show_judge : Stmt := top 21
theorem sc_show_judge : FnScope ["judge", "letters", "states", "few", "turn", "table", "good", "told", "letter", "row"] ["judge"] (defScope s_show_judge) := ⟨rfl, rfl, rfl, by decide +kernel, rfl, by decide +kernel, by decide +kernel⟩
abbrev s__law_shown : Stmt := top 32
theorem sc__law_shown : FnScope ["judge", "letters", "states", "few", "turn", "table", "good", "told", "letter", "row", "some", "state"] ["judge"] (defScope s__law_shown) := ⟨rfl, rfl, rfl, by decide +kernel, rfl, by decide +kernel, by decide +kernel⟩
abbrev s_figure_of : Stmt := top 22
theorem sc_figure_of : FnScope ["word"] ["word"] (defScope s_figure_of) := ⟨rfl, rfl, rfl, by decide +kernel, rfl, by decide +kernel, by decide +kernel⟩
abbrev s_read_good : Stmt := top 23
theorem sc_read_good : FnScope ["word", "one"] ["word"] (defScope s_read_good) := ⟨rfl, rfl, rfl, by decide +kernel, rfl, by decide +kernel, by decide +kernel⟩
abbrev s_read_judge : Stmt := top 24
theorem sc_read_judge : FnScope ["text", "letters", "states", "few", "turn", "good", "told", "numbers", "many", "keys", "letter", "row", "table", "sign", "judge"] ["text"] (defScope s_read_judge) := ⟨rfl, rfl, rfl, by decide +kernel, rfl, by decide +kernel, by decide +kernel⟩

def sp_written_good : Sp := fun vs H Q _ => ∃ (g : Addr) (l : List Nat), vs = [.ref g] ∧ H g = some (.lst (l.map fun n => V.int (n : Nat))) ∧ l.length ≤ 3000 ∧ (∀ n ∈ l, n ≤ 9) ∧ ∀ H', Same H H' → Q (.str (goodW l)) H'
theorem ok_written_good (D : Df K mg "written_good" s_written_good ["good"]) (T : Txt K mg) : G' P w K mg base "written_good" 1 ["good"] sp_written_good := by
  refine D.ok fun f fd F => F.okX sc_written_good (fun vs H Q E h => ?_) (fun cdv A outer s H vs Q E hr h => ?_)
  · obtain ⟨g, l, rfl, _⟩ := h
    rfl
  · obtain ⟨g, l, rfl, hg, hl, h9, k⟩ := h
    refine ⟨_, (pss_cons (ps_if (pt_cmp (pc_eqNilK K hr (pv 0))) (pss_one (ps_ret pe_str)) pss_nil)
  (pss_one (ps_ret (pe_join pe_str (pe_lc (own := [("one", 1)]) rfl sc_written_good.nd (pi_listK K (pv 0)) (blkOk_by (own := [("one", 1)]) (N := ["good", "one"]) (sc := defScope s_written_good) (by decide +kernel)) (fun _ _ _ _ _ => (pg_name (i := 1) sc_written_good.nd rfl (by first | exact Or.inl rfl | exact Or.inr rfl))) (fun _ _ _ _ _ => pts_nil) (fun _ _ _ _ _ => (pe_callTy call_str_int (by rfl) T.n_str (by decide +kernel) (pa_cons (pv 1) pa_nil)))))))), ?_⟩
    walk_at "rd"
    have e0 : PySem.Str.ofString "-" = txS [45] := by decide +kernel
    have e1 : PySem.Str.ofString "," = txS [44] := by decide +kernel
    by_cases h0 : l = []
    · subst h0
      walk_at "rd"
      rw [e0]
      exact k _ (Same.refl _)
    · refine iteC (by rw [List.isEmpty_map]; cases l with | nil => exact absurd rfl h0 | cons => rfl) ?_
      walk_at "rd"
      refine ⟨⟨_, SqL.of hg⟩, fun D nD => lc_it walk_list (PvM H D fun i => .str (txS [dig ((l[i]?).getD 0)])) (PvM.start nD) (fun i H' _ p => SqL.of (p.S _ _ hg)) ?_ ?_⟩
      · rintro i x H1 H2 hi p ⟨rfl, hx⟩
        rw [List.length_map] at hi
        rw [List.getElem?_map, List.getElem?_eq_getElem hi] at hx
        cases hx
        have h9' := h9 _ (List.getElem_mem hi)
        walk_at "rd"
        refine ⟨?_, ?_⟩
        · rw [Int.natAbs_natCast]
          exact Nat.lt_of_le_of_lt (Nat.log2_le_self _) (by omega)
        rw [str_dig _ h9']
        exact p.push (Same.refl _) nD (big_of (Nat.le_trans (Nat.le_of_lt hi) hl) (by decide)) (by rw [List.getElem?_eq_getElem hi]; rfl)
      · rintro H1 ⟨S1, hD⟩
        rw [List.length_map, map_range l _ (fun n => V.str (txS [dig n])) (fun i x hx => by rw [hx]; rfl)] at hD
        walk_at "rd"
        refine ⟨_, D, l.map fun n => txS [dig n], rfl, rfl, .inl (SqL.of (by rw [List.map_map]; exact hD)), ?_, ?_⟩
        · rw [List.length_map, List.map_map]
          have := sum_ones ((fun x : Str => x.length) ∘ fun n => txS [dig n]) 1 l (fun x _ => by show (txS [dig x]).length ≤ 1; rw [txS_len]; exact Nat.le_refl _)
          rw [e1, txS_len]
          show _ + l.length * 1 ≤ _
          omega
        · rw [e1]
          have := k _ S1
          rw [goodW, if_neg h0] at this
          exact this
def sp_show_judge (w : World) : Sp := fun vs H Q _ => ∃ (J : Jd) (a d g : Addr) (es : List NE), vs = [.ref a] ∧ JAt w H J a d g es ∧ TabP es J ∧ J.Ok ∧ ∀ H', Same H H' → Q (.str J.text) H'
theorem ok_show_judge (D : Df K mg "show_judge" s_show_judge ["judge"]) (T : Txt K mg) (G_class_rows : G' P w K mg base "class_rows" 1 ["states", "classes"] sp_class_rows) (G_written_good : G' P w K mg base "written_good" 1 ["good"] sp_written_good) : G' P w K mg base "show_judge" 2 ["judge"] (sp_show_judge w) := by
  refine D.ok fun f fd F => F.okX sc_show_judge (fun vs H Q E h => ?_) (fun cdv A outer s H vs Q E hr h => ?_)
  · obtain ⟨J, a, d, g, es, rfl, _⟩ := h
    rfl
  · obtain ⟨J, a, d, g, es, rfl, hj, htab, ok, k⟩ := h
    have htup := hj.tup
    refine ⟨_, (pss_cons (ps_asg (pv 0) (pg_tup (by rfl) (pgs_cons (pg_name (i := 1) sc_show_judge.nd rfl (by first | exact Or.inl rfl | exact Or.inr rfl)) (pgs_cons (pg_name (i := 2) sc_show_judge.nd rfl (by first | exact Or.inl rfl | exact Or.inr rfl)) (pgs_cons (pg_name (i := 3) sc_show_judge.nd rfl (by first | exact Or.inl rfl | exact Or.inr rfl)) (pgs_cons (pg_name (i := 4) sc_show_judge.nd rfl (by first | exact Or.inl rfl | exact Or.inr rfl)) (pgs_cons (pg_name (i := 5) sc_show_judge.nd rfl (by first | exact Or.inl rfl | exact Or.inr rfl)) (pgs_cons (pg_name (i := 6) sc_show_judge.nd rfl (by first | exact Or.inl rfl | exact Or.inr rfl)) pgs_nil))))))))
  (pss_cons (ps_set (i := 7) sc_show_judge.nd rfl (by first | exact Or.inl rfl | exact Or.inr rfl) pe_str)
  (pss_cons (ps_for (passes_of rfl) rfl (pi_str (pv 1)) (pg_name (i := 8) sc_show_judge.nd rfl (by first | exact Or.inl rfl | exact Or.inr rfl)) (pss_one (ps_set (i := 7) sc_show_judge.nd rfl (by first | exact Or.inl rfl | exact Or.inr rfl) (pe_op op_add_str (pv 7) (pe_join pe_str (pe_lc (own := [("row", 9)]) rfl sc_show_judge.nd (pi_listK K (pe_cl G_class_rows (hr.mono (by omega)) passF (pa_cons (pv 2) (pa_cons (pe_op op_add (pv 3) (pv 4)) pa_nil)))) (blkOk_by (own := [("row", 9)]) (N := ["judge", "letters", "states", "few", "turn", "table", "good", "told", "letter", "row"]) (sc := defScope s_show_judge) (by decide +kernel)) (fun _ _ _ _ _ => (pg_name (i := 9) sc_show_judge.nd rfl (by first | exact Or.inl rfl | exact Or.inr rfl))) (fun _ _ _ _ _ => pts_nil) (fun _ _ _ _ _ => (pe_callTy call_str_int (by rfl) T.n_str (by decide +kernel) (pa_cons (pe_nget w hr (pv 5) (pe_tup (pa_cons (pv 8) (pa_cons (pv 9) pa_nil)))) pa_nil)))))))))
  (pss_one (ps_ret (pe_join pe_str (pe_lst (pa_cons (pv 1) (pa_cons (pe_callTy call_str_int (by rfl) T.n_str (by decide +kernel) (pa_cons (pv 2) pa_nil)) (pa_cons (pe_callTy call_str_int (by rfl) T.n_str (by decide +kernel) (pa_cons (pv 3) pa_nil)) (pa_cons (pe_callTy call_str_int (by rfl) T.n_str (by decide +kernel) (pa_cons (pv 4) pa_nil)) (pa_cons (pe_cl G_written_good (hr.mono (by omega)) passF (pa_cons (pv 6) pa_nil)) (pa_cons (pv 7) pa_nil))))))))))))), ?_⟩
    have e00 : PySem.Str.ofString "" = txS [] := by decide +kernel
    have hlen := ok.ls26
    have htl := ok.tbl
    have hts := ok.size
    have hst6 := ok.st6
    have hm8 : J.m ≤ 8 := by rw [Jd.m]; have := ok.few4; have := ok.turn4; omega
    walk_at "rd"
    rw [e00]
    have hat : ∀ i : Nat, (txS J.ls).cps[i]? = J.ls[i]? := fun i => by show J.ls.toArray[i]? = _; simp
    refine for_it walk_str (fun i σ H' => ∃ x8 : Option V, σ = [some (.ref a), some (tx J.ls), some (.int (J.st : Nat)), some (.int (J.few : Nat)), some (.int (J.turn : Nat)), some (.ref d), some (.ref g), some (tx ((J.tb.take (i * J.m ^ J.st)).map dig)), x8, none] ∧ Same H H')
      ⟨none, by rw [Nat.zero_mul]; rfl, Same.refl _⟩ (fun _ _ _ _ _ => trivial) ?_ ?_
    · rintro i x σ H1 H2 hi ⟨x8, rfl, S1⟩ ⟨rfl, c, hc, rfl⟩
      rw [hat] at hc
      have hil : i < J.ls.length := (List.getElem?_eq_some_iff.mp hc).1
      walk_at "rd"
      refine ⟨J.st, J.m, by rw [Jd.m]; rfl, by omega, by omega, fun q hq => Nat.le_trans (ok.pow q hq) (by decide), fun H3 p ws S3 np hp hrows => ?_⟩
      have S13 := S1.trans S3
      have hj3 := hj.same S13
      have hwl : ws.length = J.m ^ J.st := by rw [Paired.length hrows, rowsL_len]
      walk_at "rd"
      refine ⟨⟨_, SqL.of hp⟩, fun D nD => lc_it walk_list (PvM H3 D fun q => .str (txS [dig ((J.tb[i * J.m ^ J.st + q]?).getD 0)])) (PvM.start nD) (fun q H' _ p' => SqL.of (p'.S _ _ hp)) ?_ ?_⟩
      · rintro q x H4 H5 hq p' ⟨rfl, hx⟩
        obtain ⟨r, hr1, hr2⟩ := paired_get hrows hx
        obtain ⟨v, hv1, hv2⟩ := ok.tab_at hc hr1
        have hv9 : v ≤ 9 := by
          have := ok.tbv v (List.mem_of_getElem? hv1)
          omega
        have hat2 := htab.at ok hv2
        obtain ⟨b, rfl, hb⟩ := row_of hr2
        walk_at "rd"
        refine ⟨(by walk_at "sz"), fun t nt => ?_⟩
        generalize et : upd H5 t _ = H6
        obtain ⟨S5, ht⟩ := newF nt et
        have hj5 := hj3.same (p'.S.trans S5)
        have hr5 : NKv H6 (kR r) (.ref b) := hr2.stay fun _ _ h => S5 _ _ (p'.S _ _ h)
        refine ⟨_, _, _, _, _, rfl, rfl, hj5.dic, keyJ_mk ht hr5, by rw [kJ_depth]; decide, hat2, ?_⟩
        walk_at "rd"
        refine ⟨?_, ?_⟩
        · rw [Int.natAbs_natCast]
          exact Nat.lt_of_le_of_lt (Nat.log2_le_self _) (by omega)
        rw [str_dig _ hv9]
        exact p'.push S5 nD (big_of (show q ≤ 600 by have := ok.pow J.st (Nat.le_refl _); omega) (by decide)) (by rw [hv1]; rfl)
      · rintro H4 ⟨S4, hD⟩
        have hm600 := ok.pow J.st (Nat.le_refl _)
        have hsl : ((J.tb.drop (i * J.m ^ J.st)).take (J.m ^ J.st)).length = ws.length := by
          rw [List.length_take, List.length_drop, hwl, htl]
          have : i * J.m ^ J.st + J.m ^ J.st ≤ J.ls.length * J.m ^ J.st := by
            have := Nat.mul_le_mul_right (J.m ^ J.st) hil
            rw [Nat.succ_mul] at this
            exact this
          omega
        rw [← hsl, map_range _ _ (fun n => V.str (txS [dig n])) (fun q x hx => by
          rw [List.getElem?_take] at hx
          split at hx
          · rw [List.getElem?_drop] at hx
            rw [hx]
            rfl
          · cases hx)] at hD
        walk_at "rd"
        refine ⟨_, D, ((J.tb.drop (i * J.m ^ J.st)).take (J.m ^ J.st)).map fun n => txS [dig n], rfl, rfl, .inl (SqL.of (by rw [List.map_map]; exact hD)), ?_, ?_⟩
        · rw [List.length_map, List.map_map]
          have := sum_ones ((fun x : Str => x.length) ∘ fun n => txS [dig n]) 1 ((J.tb.drop (i * J.m ^ J.st)).take (J.m ^ J.st)) (fun x _ => by show (txS [dig x]).length ≤ 1; rw [txS_len]; exact Nat.le_refl _)
          rw [txS_len]
          rw [hsl] at this ⊢
          show _ + ws.length * 0 ≤ _
          omega
        rw [join_ones]
        walk_at "rd"
        refine ⟨?_, ?_⟩
        · show (txS _).length + (txS _).length ≤ _
          rw [txS_len, txS_len, List.length_map, List.length_map, List.length_take, List.length_take]
          exact Nat.le_trans (show _ ≤ 1200 by omega) (by decide)
        have e : V.str (txS ((J.tb.take (i * J.m ^ J.st)).map dig) ++ txS (((J.tb.drop (i * J.m ^ J.st)).take (J.m ^ J.st)).map dig)) = tx ((J.tb.take ((i + 1) * J.m ^ J.st)).map dig) := by
          rw [txS_app, ← List.map_append, take_next]
        refine ⟨some (.str ⟨#[c]⟩), ?_, S13.trans S4⟩
        rw [← e]
        rfl
    · rintro σ H1 ⟨x8, rfl, S1⟩
      have hj1 := hj.same S1
      have hcs : (txS J.ls).cps.size = J.ls.length := by simp
      rw [hcs, ← htl, List.take_length]
      have := ok.few4
      have := ok.turn4
      walk_at "rd"
      refine ⟨log_small (by omega), ?_⟩
      rw [str_dig _ (by omega)]
      walk_at "rd"
      refine ⟨log_small (by omega), ?_⟩
      rw [str_dig _ (by omega)]
      walk_at "rd"
      refine ⟨log_small (by omega), ?_⟩
      rw [str_dig _ (by omega)]
      walk_at "rd"
      refine ⟨g, J.gd, rfl, hj1.lst, ?_, fun n hn => by have := ok.gdv n hn; omega, fun H2 S2 => ?_⟩
      · have := ok.gd6
        omega
      walk_at "rd"
      refine ⟨(by show 6 ≤ sizeLine; decide), fun p np => ?_⟩
      generalize ep : upd H2 p _ = H3
      obtain ⟨S3, hp⟩ := newF np ep
      have e32 : PySem.Str.ofString " " = txS [32] := by decide +kernel
      rw [e32]
      refine ⟨txS [32], p, J.words, rfl, rfl, .inl (SqL.of hp), words_sum ok, ?_⟩
      exact k _ ((S1.trans S2).trans S3)
end
end Hy
set_option Elab.async false
set_option linter.all false
set_option maxRecDepth 100000
set_option maxHeartbeats 4000000
namespace Hy
open PySem L2
local macro_rules | `(tactic| walk_at "hp") => `(tactic| first
  | assumption | exact upd_same
  | (refine (upd_ne ?_).trans ?_ <;> first | assumption | (exact Ne.symm (by assumption)) | walk_at "ne" | walk_at "hp")
  | (refine (by assumption : Same _ _) _ _ ?_; assumption))
local macro_rules | `(tactic| walk_at "ne") => `(tactic| first
  | assumption | (exact Ne.symm (by assumption))
  | exact ne_of_none (by assumption) (by assumption) | exact Ne.symm (ne_of_none (by assumption) (by assumption)))
local macro_rules | `(tactic| walk_at "sz") => `(tactic| first | assumption | (show 0 ≤ sizeLine; decide) | (show 1 ≤ sizeLine; decide) | (show 2 ≤ sizeLine; decide) | (show 3 ≤ sizeLine; decide))
local macro_rules | `(tactic| walk_at "ar") => `(tactic| first
  | ((with_reducible show (0 : Int) < _); first | decide | omega)
  | ((with_reducible show CMul _ _); first | exact Or.inr (And.intro (by decide) (by decide)) | exact Or.inl (And.intro (by decide) (by decide)) | (refine Or.inl (And.intro ?_ ?_) <;> omega) | (refine Or.inr (And.intro ?_ ?_) <;> omega))
  | ((with_reducible show CPow _ _); exact And.intro (by decide) (And.intro (by decide) (by decide)))
  | ((with_reducible show CDiv _ _); first | exact And.intro (by decide) (by decide) | (refine And.intro ?_ ?_ <;> omega)))
/- one step of a reading -/
local macro_rules | `(tactic| walk_at "r1") => `(tactic| first
  | refine ⟨_, rfl, ?_⟩
  | refine iteB (by rfl) ?_ | refine iteC (by rfl) ?_
  | refine ⟨_, _, rfl, rfl, ?_⟩
  | refine ⟨rfl, ?_⟩
  | refine ⟨⟨_, rfl⟩, ?_⟩
  | refine ⟨_, _, _, _, true, rfl, .ty _, .base (.str _), kit_ty (by decide +kernel), ?_⟩
  | refine ⟨_, _, _, _, false, rfl, .ty _, .base (.str _), kit_ty (by decide +kernel), ?_⟩
  | refine ⟨_, _, _, _, true, rfl, .ty _, .base (.int _), kit_ty (by decide +kernel), ?_⟩
  | refine ⟨_, _, _, _, false, rfl, .ty _, .base (.int _), kit_ty (by decide +kernel), ?_⟩
  | refine ⟨_, _, _, _, true, rfl, .ty _, .base (.tup (by walk_at "hp")), kit_ty (by decide +kernel), ?_⟩
  | refine ⟨_, _, _, _, false, rfl, .ty _, .base (.tup (by walk_at "hp")), kit_ty (by decide +kernel), ?_⟩
  | refine ⟨_, _, _, _, true, rfl, .ty _, .base (.lst (by walk_at "hp")), kit_ty (by decide +kernel), ?_⟩
  | refine ⟨_, _, _, _, false, rfl, .ty _, .base (.lst (by walk_at "hp")), kit_ty (by decide +kernel), ?_⟩
  | refine ⟨_, _, rfl, ⟨by walk_at "sz", rfl⟩, ?_⟩
  | refine ⟨_, _, _, _, rfl, rfl, SqT.of (by walk_at "hp"), by rfl, ?_⟩
  | refine ⟨_, _, _, _, rfl, rfl, SqL.of (by walk_at "hp"), by rfl, ?_⟩
  | refine ⟨.inl ⟨rfl, _, SqL.of (by walk_at "hp")⟩, ?_⟩
  | refine ⟨_, _, _, rfl, rfl, (by walk_at "hp"), snoc_get, ?_⟩
  | refine ⟨_, _, _, _, rfl, rfl, (by walk_at "hp"), by rfl, ?_⟩
  | refine ⟨_, _, rfl, SqL.of (by walk_at "hp"), ?_⟩
  | refine ⟨_, _, rfl, SqT.of (by walk_at "hp"), by rfl, ?_⟩
  | refine ⟨_, (_ : List V), rfl, ?_⟩
  | refine ⟨_, _, rfl, .inl ⟨_, (by assumption), rfl⟩, ?_⟩
  | refine ⟨_, _, rfl, .inl ⟨_, SqL.of (by walk_at "hp"), rfl⟩, ?_⟩
  | refine ⟨_, _, rfl, .inr ⟨_, SqT.of (by walk_at "hp"), rfl⟩, ?_⟩
  | refine Or.inl ⟨(_ : Int), rfl, ?_⟩ | refine Or.inr ⟨(_ : Bool), rfl, ?_⟩
  | refine ⟨_, _, _, _, true, rfl, (by assumption : ND _ _ _ _), .ty _, kit_ty (by decide +kernel), ?_⟩
  | refine ⟨_, _, _, _, false, rfl, (by assumption : ND _ _ _ _), .ty _, kit_ty (by decide +kernel), ?_⟩
  | refine ⟨_, _, rfl, (by assumption : ND _ _ _ _), ?_⟩
  | refine And.intro (by walk_at "ar") ?_)
local macro_rules | `(tactic| walk_at "rd") => `(tactic| repeat walk_at "r1")

section
variable {P : Program} {w : World} {K : PySem.W.Frag} {mg : Str → Option Value} {base : Heap}
def sp__law_shown (w : World) : Sp := fun vs H Q _ => ∃ (J : Jd) (a d g : Addr) (es : List NE), vs = [.ref a] ∧ JAt w H J a d g es ∧ TabP es J ∧ J.Ok ∧ ∀ H', Same H H' → Q (.str J.text) H'
theorem ok__law_shown (D : Df K mg "_law_shown" s__law_shown ["judge"]) (T : Txt K mg) (G__law_classes : G' P w K mg base "_law_classes" 1 ["many", "states"] sp__law_classes) : G' P w K mg base "_law_shown" 2 ["judge"] (sp__law_shown w) := by
  refine D.ok fun f fd F => F.okX sc__law_shown (fun vs H Q E h => ?_) (fun cdv A outer s H vs Q E hr h => ?_)
  · obtain ⟨J, a, d, g, es, rfl, _⟩ := h
    rfl
  · obtain ⟨J, a, d, g, es, rfl, hj, htab, ok, k⟩ := h
    have htup := hj.tup
    refine ⟨_, (pss_cons (ps_asg (pv 0) (pg_tup (by rfl) (pgs_cons (pg_name (i := 1) sc__law_shown.nd rfl (by first | exact Or.inl rfl | exact Or.inr rfl)) (pgs_cons (pg_name (i := 2) sc__law_shown.nd rfl (by first | exact Or.inl rfl | exact Or.inr rfl)) (pgs_cons (pg_name (i := 3) sc__law_shown.nd rfl (by first | exact Or.inl rfl | exact Or.inr rfl)) (pgs_cons (pg_name (i := 4) sc__law_shown.nd rfl (by first | exact Or.inl rfl | exact Or.inr rfl)) (pgs_cons (pg_name (i := 5) sc__law_shown.nd rfl (by first | exact Or.inl rfl | exact Or.inr rfl)) (pgs_cons (pg_name (i := 6) sc__law_shown.nd rfl (by first | exact Or.inl rfl | exact Or.inr rfl)) pgs_nil))))))))
  (pss_cons (ps_set (i := 7) sc__law_shown.nd rfl (by first | exact Or.inl rfl | exact Or.inr rfl) pe_str)
  (pss_cons (ps_for (passes_of rfl) rfl (pi_str (pv 1)) (pg_name (i := 8) sc__law_shown.nd rfl (by first | exact Or.inl rfl | exact Or.inr rfl)) (pss_one (ps_set (i := 7) sc__law_shown.nd rfl (by first | exact Or.inl rfl | exact Or.inr rfl) (pe_op op_add_str (pv 7) (pe_join pe_str (pe_lc (own := [("row", 9)]) rfl sc__law_shown.nd (pi_listK K (pe_cl G__law_classes (hr.mono (by omega)) passF (pa_cons (pe_op op_add (pv 3) (pv 4)) (pa_cons (pv 2) pa_nil)))) (blkOk_by (own := [("row", 9)]) (N := ["judge", "letters", "states", "few", "turn", "table", "good", "told", "letter", "row", "some", "state"]) (sc := defScope s__law_shown) (by decide +kernel)) (fun _ _ _ _ _ => (pg_name (i := 9) sc__law_shown.nd rfl (by first | exact Or.inl rfl | exact Or.inr rfl))) (fun _ _ _ _ _ => pts_nil) (fun _ _ _ _ _ => (pe_callTy call_str_int (by rfl) T.n_str (by decide +kernel) (pa_cons (pe_nget w hr (pv 5) (pe_tup (pa_cons (pv 8) (pa_cons (pv 9) pa_nil)))) pa_nil)))))))))
  (pss_cons (ps_set (i := 10) sc__law_shown.nd rfl (by first | exact Or.inl rfl | exact Or.inr rfl) (pe_ix (ix_listK K) (pe_lst (pa_cons (pe_lst (pa_cons pe_str pa_nil)) (pa_cons (pe_lst (pa_cons (pe_join pe_str (pe_lc (own := [("state", 11)]) rfl sc__law_shown.nd (pi_listK K (pv 6)) (blkOk_by (own := [("state", 11)]) (N := ["judge", "letters", "states", "few", "turn", "table", "good", "told", "letter", "row", "some", "state"]) (sc := defScope s__law_shown) (by decide +kernel)) (fun _ _ _ _ _ => (pg_name (i := 11) sc__law_shown.nd rfl (by first | exact Or.inl rfl | exact Or.inr rfl))) (fun _ _ _ _ _ => pts_nil) (fun _ _ _ _ _ => (pe_callTy call_str_int (by rfl) T.n_str (by decide +kernel) (pa_cons (pv 11) pa_nil))))) pa_nil)) pa_nil))) (pe_callTy call_int1 (by rfl) T.n_int (by decide +kernel) (pa_cons (pe_cmp (pc_neNilK K hr (pv 6))) pa_nil)) (fun _ _ => rfl)))
  (pss_one (ps_ret (pe_join pe_str (pe_lst (pa_cons (pv 1) (pa_cons (pe_callTy call_str_int (by rfl) T.n_str (by decide +kernel) (pa_cons (pv 2) pa_nil)) (pa_cons (pe_callTy call_str_int (by rfl) T.n_str (by decide +kernel) (pa_cons (pv 3) pa_nil)) (pa_cons (pe_callTy call_str_int (by rfl) T.n_str (by decide +kernel) (pa_cons (pv 4) pa_nil)) (pa_cons (pe_ix (ix_listK K) (pv 10) pe_int (fun _ _ => rfl)) (pa_cons (pv 7) pa_nil)))))))))))))), ?_⟩
    have e00 : PySem.Str.ofString "" = txS [] := by decide +kernel
    have hlen := ok.ls26
    have htl := ok.tbl
    have hts := ok.size
    have hst6 := ok.st6
    have hm8 : J.m ≤ 8 := by rw [Jd.m]; have := ok.few4; have := ok.turn4; omega
    walk_at "rd"
    rw [e00]
    have hat : ∀ i : Nat, (txS J.ls).cps[i]? = J.ls[i]? := fun i => by show J.ls.toArray[i]? = _; simp
    refine for_it walk_str (fun i σ H' => ∃ x8 : Option V, σ = [some (.ref a), some (tx J.ls), some (.int (J.st : Nat)), some (.int (J.few : Nat)), some (.int (J.turn : Nat)), some (.ref d), some (.ref g), some (tx ((J.tb.take (i * J.m ^ J.st)).map dig)), x8, none, none, none] ∧ Same H H')
      ⟨none, by rw [Nat.zero_mul]; rfl, Same.refl _⟩ (fun _ _ _ _ _ => trivial) ?_ ?_
    · rintro i x σ H1 H2 hi ⟨x8, rfl, S1⟩ ⟨rfl, c, hc, rfl⟩
      rw [hat] at hc
      have hil : i < J.ls.length := (List.getElem?_eq_some_iff.mp hc).1
      walk_at "rd"
      refine ⟨J.st, J.m, by rw [Jd.m]; rfl, by omega, by omega, fun q hq => Nat.le_trans (ok.pow q hq) (by decide), fun H3 p ws S3 np hp hrows => ?_⟩
      have S13 := S1.trans S3
      have hj3 := hj.same S13
      have hwl : ws.length = J.m ^ J.st := by rw [Paired.length hrows, rowsL_len]
      walk_at "rd"
      refine ⟨⟨_, SqL.of hp⟩, fun D nD => lc_it walk_list (PvM H3 D fun q => .str (txS [dig ((J.tb[i * J.m ^ J.st + q]?).getD 0)])) (PvM.start nD) (fun q H' _ p' => SqL.of (p'.S _ _ hp)) ?_ ?_⟩
      · rintro q x H4 H5 hq p' ⟨rfl, hx⟩
        obtain ⟨r, hr1, hr2⟩ := paired_get hrows hx
        obtain ⟨v, hv1, hv2⟩ := ok.tab_at hc hr1
        have hv9 : v ≤ 9 := by
          have := ok.tbv v (List.mem_of_getElem? hv1)
          omega
        have hat2 := htab.at ok hv2
        obtain ⟨b, rfl, hb⟩ := row_of hr2
        walk_at "rd"
        refine ⟨(by walk_at "sz"), fun t nt => ?_⟩
        generalize et : upd H5 t _ = H6
        obtain ⟨S5, ht⟩ := newF nt et
        have hj5 := hj3.same (p'.S.trans S5)
        have hr5 : NKv H6 (kR r) (.ref b) := hr2.stay fun _ _ h => S5 _ _ (p'.S _ _ h)
        refine ⟨_, _, _, _, _, rfl, rfl, hj5.dic, keyJ_mk ht hr5, by rw [kJ_depth]; decide, hat2, ?_⟩
        walk_at "rd"
        refine ⟨?_, ?_⟩
        · rw [Int.natAbs_natCast]
          exact Nat.lt_of_le_of_lt (Nat.log2_le_self _) (by omega)
        rw [str_dig _ hv9]
        exact p'.push S5 nD (big_of (show q ≤ 600 by have := ok.pow J.st (Nat.le_refl _); omega) (by decide)) (by rw [hv1]; rfl)
      · rintro H4 ⟨S4, hD⟩
        have hm600 := ok.pow J.st (Nat.le_refl _)
        have hsl : ((J.tb.drop (i * J.m ^ J.st)).take (J.m ^ J.st)).length = ws.length := by
          rw [List.length_take, List.length_drop, hwl, htl]
          have : i * J.m ^ J.st + J.m ^ J.st ≤ J.ls.length * J.m ^ J.st := by
            have := Nat.mul_le_mul_right (J.m ^ J.st) hil
            rw [Nat.succ_mul] at this
            exact this
          omega
        rw [← hsl, map_range _ _ (fun n => V.str (txS [dig n])) (fun q x hx => by
          rw [List.getElem?_take] at hx
          split at hx
          · rw [List.getElem?_drop] at hx
            rw [hx]
            rfl
          · cases hx)] at hD
        walk_at "rd"
        refine ⟨_, D, ((J.tb.drop (i * J.m ^ J.st)).take (J.m ^ J.st)).map fun n => txS [dig n], rfl, rfl, .inl (SqL.of (by rw [List.map_map]; exact hD)), ?_, ?_⟩
        · rw [List.length_map, List.map_map]
          have := sum_ones ((fun x : Str => x.length) ∘ fun n => txS [dig n]) 1 ((J.tb.drop (i * J.m ^ J.st)).take (J.m ^ J.st)) (fun x _ => by show (txS [dig x]).length ≤ 1; rw [txS_len]; exact Nat.le_refl _)
          rw [txS_len]
          rw [hsl] at this ⊢
          show _ + ws.length * 0 ≤ _
          omega
        rw [join_ones]
        walk_at "rd"
        refine ⟨?_, ?_⟩
        · show (txS _).length + (txS _).length ≤ _
          rw [txS_len, txS_len, List.length_map, List.length_map, List.length_take, List.length_take]
          exact Nat.le_trans (show _ ≤ 1200 by omega) (by decide)
        have e : V.str (txS ((J.tb.take (i * J.m ^ J.st)).map dig) ++ txS (((J.tb.drop (i * J.m ^ J.st)).take (J.m ^ J.st)).map dig)) = tx ((J.tb.take ((i + 1) * J.m ^ J.st)).map dig) := by
          rw [txS_app, ← List.map_append, take_next]
        refine ⟨some (.str ⟨#[c]⟩), ?_, S13.trans S4⟩
        rw [← e]
        rfl
    · rintro σ H1 ⟨x8, rfl, S1⟩
      have hj1 := hj.same S1
      have hcs : (txS J.ls).cps.size = J.ls.length := by simp
      rw [hcs, ← htl, List.take_length]
      have := ok.few4
      have := ok.turn4
      have h9g : ∀ n ∈ J.gd, n ≤ 9 := fun n hn => by have := ok.gdv n hn; omega
      have hgl := ok.gd6
      refine ⟨(by walk_at "sz"), fun p1 n1 => ?_⟩
      generalize e1 : upd H1 p1 _ = H2
      obtain ⟨S2, hp1⟩ := newF n1 e1
      have hj2 := hj1.same S2
      walk_at "rd"
      refine ⟨⟨_, SqL.of hj2.lst⟩, fun D nD => lc_it walk_list (PvM H2 D fun i => .str (txS [dig ((J.gd[i]?).getD 0)])) (PvM.start nD) (fun i H' _ p => SqL.of (p.S _ _ hj2.lst)) ?_ ?_⟩
      · rintro i x H3 H4 hi p ⟨rfl, hx⟩
        rw [List.length_map] at hi
        rw [List.getElem?_map, List.getElem?_eq_getElem hi] at hx
        cases hx
        have h9' := h9g _ (List.getElem_mem hi)
        walk_at "rd"
        refine ⟨log_small h9', ?_⟩
        rw [str_dig _ h9']
        exact p.push (Same.refl _) nD (big_of (show i ≤ 6 by omega) (by decide)) (by rw [List.getElem?_eq_getElem hi]; rfl)
      · rintro H3 ⟨S3, hD⟩
        rw [List.length_map, map_range J.gd _ (fun n => V.str (txS [dig n])) (fun i x hx => by rw [hx]; rfl)] at hD
        have e45 : PySem.Str.ofString "-" = txS [45] := by decide +kernel
        have e44 : PySem.Str.ofString "," = txS [44] := by decide +kernel
        have e32 : PySem.Str.ofString " " = txS [32] := by decide +kernel
        rw [e44]
        rw [e45] at hp1
        walk_at "rd"
        refine ⟨txS [44], D, J.gd.map fun n => txS [dig n], rfl, rfl, .inl (SqL.of (by rw [List.map_map]; exact hD)), ?_, ?_⟩
        · rw [List.length_map, List.map_map]
          have := sum_ones ((fun x : Str => x.length) ∘ fun n => txS [dig n]) 1 J.gd (fun x _ => by show (txS [dig x]).length ≤ 1; rw [txS_len]; exact Nat.le_refl _)
          rw [txS_len]
          show _ + J.gd.length * 1 ≤ _
          omega
        walk_at "rd"
        refine ⟨(by walk_at "sz"), fun p2 n2 => ?_⟩
        generalize e2 : upd H3 p2 _ = H4
        obtain ⟨S4, hp2⟩ := newF n2 e2
        walk_at "rd"
        refine ⟨(by walk_at "sz"), fun p3 n3 => ?_⟩
        generalize e3 : upd H4 p3 _ = H5
        obtain ⟨S5, hp3⟩ := newF n3 e3
        have hj5 := hj2.same ((S3.trans S4).trans S5)
        have hg5 := hj5.lst
        have hp15 := S5 _ _ (S4 _ _ (S3 _ _ hp1))
        have hp25 := S5 _ _ hp2
        walk_at "rd"
        have := ok.few4
        have := ok.turn4
        by_cases h0 : J.gd = []
        · rw [h0]
          walk_at "rd"
          refine ⟨log_small (by omega), ?_⟩
          rw [str_dig _ (by omega)]
          walk_at "rd"
          refine ⟨log_small (by omega), ?_⟩
          rw [str_dig _ (by omega)]
          walk_at "rd"
          refine ⟨log_small (by omega), ?_⟩
          rw [str_dig _ (by omega)]
          walk_at "rd"
          refine ⟨(by show 6 ≤ sizeLine; decide), fun p np => ?_⟩
          generalize ep : upd H5 p _ = H6
          obtain ⟨S6, hp⟩ := newF np ep
          rw [e32]
          have hw := words_sum ok
          refine ⟨txS [32], p, J.words, rfl, rfl, .inl (SqL.of (by rw [hp, Jd.words, goodW, if_pos h0]; rfl)), hw, ?_⟩
          exact k _ (((((S1.trans S2).trans S3).trans S4).trans S5).trans S6)
        · have hne : (J.gd.map fun n => V.int (n : Nat)).isEmpty = false := by
            rw [List.isEmpty_map]
            cases h : J.gd with
            | nil => exact absurd h h0
            | cons => rfl
          rw [hne]
          walk_at "rd"
          refine ⟨log_small (by omega), ?_⟩
          rw [str_dig _ (by omega)]
          walk_at "rd"
          refine ⟨log_small (by omega), ?_⟩
          rw [str_dig _ (by omega)]
          walk_at "rd"
          refine ⟨log_small (by omega), ?_⟩
          rw [str_dig _ (by omega)]
          walk_at "rd"
          refine ⟨(by show 6 ≤ sizeLine; decide), fun p np => ?_⟩
          generalize ep : upd H5 p _ = H6
          obtain ⟨S6, hp⟩ := newF np ep
          rw [e32]
          have hw := words_sum ok
          refine ⟨txS [32], p, J.words, rfl, rfl, .inl (SqL.of (by rw [hp, Jd.words, goodW, if_neg h0]; rfl)), hw, ?_⟩
          exact k _ (((((S1.trans S2).trans S3).trans S4).trans S5).trans S6)
end
end Hy
set_option Elab.async false
set_option linter.all false
set_option maxRecDepth 100000
set_option maxHeartbeats 4000000
namespace Hy
open PySem L2
local macro_rules | `(tactic| walk_at "hp") => `(tactic| first
  | assumption | exact upd_same
  | (refine (upd_ne ?_).trans ?_ <;> first | assumption | (exact Ne.symm (by assumption)) | walk_at "ne" | walk_at "hp")
  | (refine (by assumption : Same _ _) _ _ ?_; assumption))
local macro_rules | `(tactic| walk_at "ne") => `(tactic| first
  | assumption | (exact Ne.symm (by assumption))
  | exact ne_of_none (by assumption) (by assumption) | exact Ne.symm (ne_of_none (by assumption) (by assumption)))
local macro_rules | `(tactic| walk_at "sz") => `(tactic| first | assumption | (show 0 ≤ sizeLine; decide) | (show 1 ≤ sizeLine; decide) | (show 2 ≤ sizeLine; decide) | (show 3 ≤ sizeLine; decide))
local macro_rules | `(tactic| walk_at "ar") => `(tactic| first
  | ((with_reducible show (0 : Int) < _); first | decide | omega)
  | ((with_reducible show CMul _ _); first | exact Or.inr (And.intro (by decide) (by decide)) | exact Or.inl (And.intro (by decide) (by decide)) | (refine Or.inl (And.intro ?_ ?_) <;> omega) | (refine Or.inr (And.intro ?_ ?_) <;> omega))
  | ((with_reducible show CPow _ _); exact And.intro (by decide) (And.intro (by decide) (by decide)))
  | ((with_reducible show CDiv _ _); first | exact And.intro (by decide) (by decide) | (refine And.intro ?_ ?_ <;> omega)))
/- one step of a reading -/
local macro_rules | `(tactic| walk_at "r1") => `(tactic| first
  | refine ⟨_, rfl, ?_⟩
  | refine iteB (by rfl) ?_ | refine iteC (by rfl) ?_
  | refine ⟨_, _, rfl, rfl, ?_⟩
  | refine ⟨rfl, ?_⟩
  | refine ⟨⟨_, rfl⟩, ?_⟩
  | refine ⟨_, _, _, _, true, rfl, .ty _, .base (.str _), kit_ty (by decide +kernel), ?_⟩
  | refine ⟨_, _, _, _, false, rfl, .ty _, .base (.str _), kit_ty (by decide +kernel), ?_⟩
  | refine ⟨_, _, _, _, true, rfl, .ty _, .base (.int _), kit_ty (by decide +kernel), ?_⟩
  | refine ⟨_, _, _, _, false, rfl, .ty _, .base (.int _), kit_ty (by decide +kernel), ?_⟩
  | refine ⟨_, _, _, _, true, rfl, .ty _, .base (.tup (by walk_at "hp")), kit_ty (by decide +kernel), ?_⟩
  | refine ⟨_, _, _, _, false, rfl, .ty _, .base (.tup (by walk_at "hp")), kit_ty (by decide +kernel), ?_⟩
  | refine ⟨_, _, _, _, true, rfl, .ty _, .base (.lst (by walk_at "hp")), kit_ty (by decide +kernel), ?_⟩
  | refine ⟨_, _, _, _, false, rfl, .ty _, .base (.lst (by walk_at "hp")), kit_ty (by decide +kernel), ?_⟩
  | refine ⟨_, _, rfl, ⟨by walk_at "sz", rfl⟩, ?_⟩
  | refine ⟨_, _, _, _, rfl, rfl, SqT.of (by walk_at "hp"), by rfl, ?_⟩
  | refine ⟨_, _, _, _, rfl, rfl, SqL.of (by walk_at "hp"), by rfl, ?_⟩
  | refine ⟨.inl ⟨rfl, _, SqL.of (by walk_at "hp")⟩, ?_⟩
  | refine ⟨_, _, _, rfl, rfl, (by walk_at "hp"), snoc_get, ?_⟩
  | refine ⟨_, _, _, _, rfl, rfl, (by walk_at "hp"), by rfl, ?_⟩
  | refine ⟨_, _, rfl, SqL.of (by walk_at "hp"), ?_⟩
  | refine ⟨_, _, rfl, SqT.of (by walk_at "hp"), by rfl, ?_⟩
  | refine ⟨_, (_ : List V), rfl, ?_⟩
  | refine ⟨_, _, rfl, .inl ⟨_, (by assumption), rfl⟩, ?_⟩
  | refine ⟨_, _, rfl, .inl ⟨_, SqL.of (by walk_at "hp"), rfl⟩, ?_⟩
  | refine ⟨_, _, rfl, .inr ⟨_, SqT.of (by walk_at "hp"), rfl⟩, ?_⟩
  | refine Or.inl ⟨(_ : Int), rfl, ?_⟩ | refine Or.inr ⟨(_ : Bool), rfl, ?_⟩
  | refine ⟨_, _, _, _, true, rfl, (by assumption : ND _ _ _ _), .ty _, kit_ty (by decide +kernel), ?_⟩
  | refine ⟨_, _, _, _, false, rfl, (by assumption : ND _ _ _ _), .ty _, kit_ty (by decide +kernel), ?_⟩
  | refine ⟨_, _, rfl, (by assumption : ND _ _ _ _), ?_⟩
  | refine And.intro (by walk_at "ar") ?_)
local macro_rules | `(tactic| walk_at "rd") => `(tactic| repeat walk_at "r1")

theorem fig_in {c : Nat} : decide (c ∈ (PySem.Str.ofString "0123456789").cps.toList) = decide (48 ≤ c ∧ c ≤ 57) := by
  have e : (PySem.Str.ofString "0123456789").cps.toList = [48, 49, 50, 51, 52, 53, 54, 55, 56, 57] := by decide +kernel
  rw [e, Bool.eq_iff_iff]
  simp only [List.mem_cons, List.not_mem_nil, or_false, decide_eq_true_eq]
  omega
theorem fig_ix : ∀ n : Nat, n ≤ 9 → ∃ rest, Builtin.Str.occurrences (PySem.Str.ofString "0123456789") ⟨#[48 + n]⟩ 0 (PySem.Str.ofString "0123456789").length 1 = n :: rest
  | 0, _ => ⟨[], by decide +kernel⟩
  | 1, _ => ⟨[], by decide +kernel⟩
  | 2, _ => ⟨[], by decide +kernel⟩
  | 3, _ => ⟨[], by decide +kernel⟩
  | 4, _ => ⟨[], by decide +kernel⟩
  | 5, _ => ⟨[], by decide +kernel⟩
  | 6, _ => ⟨[], by decide +kernel⟩
  | 7, _ => ⟨[], by decide +kernel⟩
  | 8, _ => ⟨[], by decide +kernel⟩
  | 9, _ => ⟨[], by decide +kernel⟩
  | n + 10, h => by omega
def figL (l : List Nat) : Option Nat := match l with
  | [c] => if 48 ≤ c ∧ c ≤ 57 then some (c - 48) else none
  | _ => none
theorem figL_dig {n : Nat} (h : n ≤ 9) : figL [dig n] = some n := by
  show (if 48 ≤ 48 + n ∧ 48 + n ≤ 57 then some (48 + n - 48) else none) = some n
  rw [if_pos (by omega), Nat.add_sub_cancel_left]
theorem figL_9 {l : List Nat} {n : Nat} (h : figL l = some n) : n ≤ 9 := by
  unfold figL at h
  split at h
  · split at h
    · cases h
      omega
    · cases h
  · cases h
section
variable {P : Program} {w : World} {K : PySem.W.Frag} {mg : Str → Option Value} {base : Heap}
def sp_figure_of (mg : Str → Option Value) : Sp := fun vs H Q E => ∃ l : List Nat, vs = [tx l] ∧ l.length ≤ 100000 ∧ (∀ n, figL l = some n → Q (.int (n : Nat)) H) ∧ (figL l = none → ∀ x, mg "NoText" = some x → E x none H)
theorem ok_figure_of (D : Df K mg "figure_of" s_figure_of ["word"]) (T : Txt K mg) : G' P w K mg base "figure_of" 1 ["word"] (sp_figure_of mg) := by
  refine D.ok fun f fd F => F.okX sc_figure_of (fun vs H Q E h => ?_) (fun cdv A outer s H vs Q E hr h => ?_)
  · obtain ⟨l, rfl, _⟩ := h
    rfl
  · obtain ⟨l, rfl, hl, k1, k2⟩ := h
    have hz : (txS l).length ≤ sizeLine := by rw [txS_len]; exact Nat.le_of_lt (big_of hl (by decide))
    refine ⟨_, (pss_cons (ps_if (PW.pt (pw_or (pt_cmpR op_ne (pe_callB (call_lenK K) (by rfl) T.n_len PySem.boot_len (pa_cons (pv 0) pa_nil)) pe_int (nomark _)) (pw_or1 (pt_cmpR op_notIn_sign (pv 0) (pe_gv T.g_FIGURES) (by rfl))))) (pss_one (ps_rs T.x_NoText rfl (takes_of rfl rfl rfl rfl))) pss_nil)
  (pss_one (ps_ret (cbm K (pe_bm PySem.F.plainAttrs_str PySem.F.slot_str_index PySem.F.type_str_index mt_sindex (pe_gv T.g_FIGURES) (pa_cons (pv 0) pa_nil)))))), ?_⟩
    walk_at "rd"
    rw [txS_len]
    by_cases h1 : ∃ c, l = [c]
    · obtain ⟨c, rfl⟩ := h1
      walk_at "rd"
      rw [fig_in]
      by_cases h2 : 48 ≤ c ∧ c ≤ 57
      · rw [decide_eq_true h2]
        walk_at "rd"
        obtain ⟨n, hn, rfl⟩ : ∃ n, n ≤ 9 ∧ c = 48 + n := ⟨c - 48, by omega, by omega⟩
        obtain ⟨rest, hrest⟩ := fig_ix n hn
        exact ⟨_, _, n, rest, rfl, rfl, hrest, k1 n (figL_dig hn)⟩
      · rw [decide_eq_false h2]
        walk_at "rd"
        exact fun x hx => k2 (by show (if _ then _ else _) = _; rw [if_neg h2]) x hx
    · have hne : l.length ≠ 1 := fun z => h1 (List.length_eq_one_iff.mp z)
      refine iteB (by simp; omega) ?_
      exact fun x hx => k2 (by
        unfold figL
        split
        · exact absurd ⟨_, rfl⟩ h1
        · rfl) x hx
def ReadsG (l gd : List Nat) : Prop := (l = [45] ∧ gd = []) ∨ (l ≠ [45] ∧ ∃ ps : List (List Nat), Txt.split (txS l) (txS [44]) = ps.map txS ∧ (∀ p ∈ ps, p.length ≤ 3000) ∧ ps.length ≤ 3002 ∧ ps.map figL = gd.map some)
def sp_read_good : Sp := fun vs H Q E => ∃ l gd : List Nat, vs = [tx l] ∧ l.length ≤ 3000 ∧ ReadsG l gd ∧ ∀ (H' : Hp) (p : Addr), Same H H' → H p = none → H' p = some (.lst (gd.map fun n => V.int (n : Nat))) → Q (.ref p) H'
theorem ok_read_good (D : Df K mg "read_good" s_read_good ["word"]) (T : Txt K mg) (G_figure_of : G' P w K mg base "figure_of" 1 ["word"] (sp_figure_of mg)) : G' P w K mg base "read_good" 2 ["word"] sp_read_good := by
  refine D.ok fun f fd F => F.okX sc_read_good (fun vs H Q E h => ?_) (fun cdv A outer s H vs Q E hr h => ?_)
  · obtain ⟨l, gd, rfl, _⟩ := h
    rfl
  · obtain ⟨l, gd, rfl, hl, hg, k⟩ := h
    have e45 : PySem.Str.ofString "-" = txS [45] := by decide +kernel
    have e44 : PySem.Str.ofString "," = txS [44] := by decide +kernel
    refine ⟨_, (pss_cons (ps_if (pt_cmpR op_eq (pv 0) pe_str (nomark _)) (pss_one (ps_ret (pe_lst pa_nil))) pss_nil)
  (pss_one (ps_ret (pe_lc (own := [("one", 1)]) rfl sc_read_good.nd (pi_listK K (pe_split (pv 0) pe_str)) (blkOk_by (own := [("one", 1)]) (N := ["word", "one"]) (sc := defScope s_read_good) (by decide +kernel)) (fun _ _ _ _ _ => (pg_name (i := 1) sc_read_good.nd rfl (by first | exact Or.inl rfl | exact Or.inr rfl))) (fun _ _ _ _ _ => pts_nil) (fun _ _ _ _ _ => (pe_cl G_figure_of (hr.mono (by omega)) passF (pa_cons (pv 1) pa_nil))))))), ?_⟩
    walk_at "rd"
    rw [e45]
    rcases hg with ⟨rfl, rfl⟩ | ⟨hne, ps, hsp, hpl, hpn, hpg⟩
    · walk_at "rd"
      refine ⟨(by walk_at "sz"), fun p np => k _ _ (same_new np) np upd_same⟩
    · refine iteC (decide_eq_false fun z => hne (tx_inj z)) ?_
      walk_at "rd"
      rw [e44]
      refine ⟨by show (txS l).length + 2 ≤ _; rw [txS_len]; exact Nat.le_trans (show _ ≤ 3002 by omega) (by decide), ?_⟩
      have hpl2 : ps.length = gd.length := by
        have := congrArg List.length hpg
        rw [List.length_map, List.length_map] at this
        exact this
      rw [show Txt.split (⟨l.toArray⟩ : Str) (txS [44]) = ps.map txS from hsp]
      refine fun p np => ?_
      generalize e1 : upd H p _ = H1
      obtain ⟨S1, hp⟩ := newF np e1
      rw [List.map_map] at hp
      walk_at "rd"
      refine ⟨⟨_, SqL.of hp⟩, fun D nD => lc_it walk_list (PvM H1 D fun i => .int ((gd[i]?).getD 0 : Nat)) (PvM.start nD) (fun i H' _ p' => SqL.of (p'.S _ _ hp)) ?_ ?_⟩
      · rintro i x H2 H3 hi p' ⟨rfl, hx⟩
        rw [List.length_map] at hi
        rw [List.getElem?_map, List.getElem?_eq_getElem hi] at hx
        cases hx
        have hig : i < gd.length := by omega
        have hf : figL ps[i] = some gd[i] := by
          have h1 : (ps.map figL)[i]? = some (figL ps[i]) := by rw [List.getElem?_map, List.getElem?_eq_getElem hi]; rfl
          rw [hpg, List.getElem?_map, List.getElem?_eq_getElem hig] at h1
          exact (Option.some.inj h1).symm
        walk_at "rd"
        refine ⟨Nat.le_trans (hpl _ (List.getElem_mem hi)) (by decide), fun n hn => ?_, fun hn => by rw [hf] at hn; cases hn⟩
        rw [hf] at hn
        cases hn
        exact p'.push (Same.refl _) nD (big_of (show i ≤ 3002 by omega) (by decide)) (by rw [List.getElem?_eq_getElem hig]; rfl)
      · rintro H2 ⟨S2, hD⟩
        rw [List.length_map, hpl2, map_range gd _ (fun n => V.int (n : Nat)) (fun i x hx => by rw [hx]; rfl)] at hD
        exact k _ _ (S1.trans S2) (S1.free nD) hD
end
end Hy
set_option Elab.async false
set_option linter.all false
set_option maxRecDepth 100000
set_option maxHeartbeats 4000000
namespace Hy
open PySem L2
local macro_rules | `(tactic| walk_at "hp") => `(tactic| first
  | assumption | exact upd_same
  | (refine (upd_ne ?_).trans ?_ <;> first | assumption | (exact Ne.symm (by assumption)) | walk_at "ne" | walk_at "hp")
  | (refine (by assumption : Same _ _) _ _ ?_; assumption))
local macro_rules | `(tactic| walk_at "ne") => `(tactic| first
  | assumption | (exact Ne.symm (by assumption))
  | exact ne_of_none (by assumption) (by assumption) | exact Ne.symm (ne_of_none (by assumption) (by assumption)))
local macro_rules | `(tactic| walk_at "sz") => `(tactic| first | assumption | (show 0 ≤ sizeLine; decide) | (show 1 ≤ sizeLine; decide) | (show 2 ≤ sizeLine; decide) | (show 3 ≤ sizeLine; decide))
local macro_rules | `(tactic| walk_at "ar") => `(tactic| first
  | ((with_reducible show (0 : Int) < _); first | decide | omega)
  | ((with_reducible show CMul _ _); first | exact Or.inr (And.intro (by decide) (by decide)) | exact Or.inl (And.intro (by decide) (by decide)) | (refine Or.inl (And.intro ?_ ?_) <;> omega) | (refine Or.inr (And.intro ?_ ?_) <;> omega))
  | ((with_reducible show CPow _ _); exact And.intro (by decide) (And.intro (by decide) (by decide)))
  | ((with_reducible show CDiv _ _); first | exact And.intro (by decide) (by decide) | (refine And.intro ?_ ?_ <;> omega)))
/- one step of a reading -/
local macro_rules | `(tactic| walk_at "r1") => `(tactic| first
  | refine ⟨_, rfl, ?_⟩
  | refine iteB (by rfl) ?_ | refine iteC (by rfl) ?_
  | refine ⟨_, _, rfl, rfl, ?_⟩
  | refine ⟨rfl, ?_⟩
  | refine ⟨⟨_, rfl⟩, ?_⟩
  | refine ⟨_, _, _, _, true, rfl, .ty _, .base (.str _), kit_ty (by decide +kernel), ?_⟩
  | refine ⟨_, _, _, _, false, rfl, .ty _, .base (.str _), kit_ty (by decide +kernel), ?_⟩
  | refine ⟨_, _, _, _, true, rfl, .ty _, .base (.int _), kit_ty (by decide +kernel), ?_⟩
  | refine ⟨_, _, _, _, false, rfl, .ty _, .base (.int _), kit_ty (by decide +kernel), ?_⟩
  | refine ⟨_, _, _, _, true, rfl, .ty _, .base (.tup (by walk_at "hp")), kit_ty (by decide +kernel), ?_⟩
  | refine ⟨_, _, _, _, false, rfl, .ty _, .base (.tup (by walk_at "hp")), kit_ty (by decide +kernel), ?_⟩
  | refine ⟨_, _, _, _, true, rfl, .ty _, .base (.lst (by walk_at "hp")), kit_ty (by decide +kernel), ?_⟩
  | refine ⟨_, _, _, _, false, rfl, .ty _, .base (.lst (by walk_at "hp")), kit_ty (by decide +kernel), ?_⟩
  | refine ⟨_, _, rfl, ⟨by walk_at "sz", rfl⟩, ?_⟩
  | refine ⟨_, _, _, _, rfl, rfl, SqT.of (by walk_at "hp"), by rfl, ?_⟩
  | refine ⟨_, _, _, _, rfl, rfl, SqL.of (by walk_at "hp"), by rfl, ?_⟩
  | refine ⟨.inl ⟨rfl, _, SqL.of (by walk_at "hp")⟩, ?_⟩
  | refine ⟨_, _, _, rfl, rfl, (by walk_at "hp"), snoc_get, ?_⟩
  | refine ⟨_, _, _, _, rfl, rfl, (by walk_at "hp"), by rfl, ?_⟩
  | refine ⟨_, _, rfl, SqL.of (by walk_at "hp"), ?_⟩
  | refine ⟨_, _, rfl, SqT.of (by walk_at "hp"), by rfl, ?_⟩
  | refine ⟨_, (_ : List V), rfl, ?_⟩
  | refine ⟨_, _, rfl, .inl ⟨_, (by assumption), rfl⟩, ?_⟩
  | refine ⟨_, _, rfl, .inl ⟨_, SqL.of (by walk_at "hp"), rfl⟩, ?_⟩
  | refine ⟨_, _, rfl, .inr ⟨_, SqT.of (by walk_at "hp"), rfl⟩, ?_⟩
  | refine Or.inl ⟨(_ : Int), rfl, ?_⟩ | refine Or.inr ⟨(_ : Bool), rfl, ?_⟩
  | refine ⟨_, _, _, _, true, rfl, (by assumption : ND _ _ _ _), .ty _, kit_ty (by decide +kernel), ?_⟩
  | refine ⟨_, _, _, _, false, rfl, (by assumption : ND _ _ _ _), .ty _, kit_ty (by decide +kernel), ?_⟩
  | refine ⟨_, _, rfl, (by assumption : ND _ _ _ _), ?_⟩
  | refine And.intro (by walk_at "ar") ?_)
local macro_rules | `(tactic| walk_at "rd") => `(tactic| repeat walk_at "r1")

abbrev KeysV (H : Hp) (vs : List V) (ks : List (Nat × List Nat)) : Prop := Paired (fun v k => NKv H (kJ k) v) vs ks
theorem KeysV.stay {H H' : Hp} {vs : List V} {rs : List (Nat × List Nat)} (h : KeysV H vs rs) (ht : ∀ b xs, H b = some (.tup xs) → H' b = some (.tup xs)) : KeysV H' vs rs := Paired.mapP h fun _ _ k => k.stay ht
theorem KeysV.app {H : Hp} {vs ws : List V} {rs qs : List (Nat × List Nat)} (h : KeysV H vs rs) (g : KeysV H ws qs) : KeysV H (vs ++ ws) (rs ++ qs) := by
  induction h with
  | nil => exact g
  | cons a _ ih => exact .cons a ih
/-- entries of such keys and values -/
theorem KeysV.ents {H : Hp} {vs : List V} {ks : List (Nat × List Nat)} (h : KeysV H vs ks) : ∀ tb : List Nat, tb.length = ks.length → ∃ es : List NE, vs = es.map (fun e => .ref e.2.1) ∧ es.map (·.1) = ks.map kJ ∧ es.map (·.2.2) = tb.map (fun n => V.int (n : Nat)) ∧ NKeys H es := by
  induction h with
  | nil =>
    intro tb ht
    have : tb = [] := List.length_eq_zero_iff.mp ht
    subst this
    exact ⟨[], rfl, rfl, rfl, NKeys.nil⟩
  | @cons v k vs ks a _ ih =>
    intro tb ht
    cases tb with
    | nil => cases ht
    | cons t tb =>
      obtain ⟨es, h1, h2, h3, h4⟩ := ih tb (by simpa using ht)
      have a' := a
      unfold kJ at a'
      cases a' with
      | @tup b _ xs hb hs =>
        refine ⟨(kJ k, b, .int (t : Nat)) :: es, by rw [h1]; rfl, by rw [List.map_cons, h2]; rfl, by rw [List.map_cons, h3]; rfl, fun x hx => ?_⟩
        rcases List.mem_cons.mp hx with rfl | hx
        · exact ⟨a, by rw [kJ_depth]; decide⟩
        · exact h4 x hx
structure RJ (x : List Nat) (J : Jd) (gl : List Nat) : Prop where
  sp : Txt.split (txS x) (txS [32]) = [txS J.ls, txS [dig J.st], txS [dig J.few], txS [dig J.turn], txS gl, txS (J.tb.map dig)]
  st9 : J.st ≤ 9
  few9 : J.few ≤ 9
  turn9 : J.turn ≤ 9
  tb9 : ∀ v ∈ J.tb, v ≤ 9
  g : ReadsG gl J.gd
  gl3 : gl.length ≤ 3000
  gd3 : J.gd.length ≤ 3000
  l3 : J.ls.length ≤ 3000
  many : manyT J.ls.length J.m J.st = J.tb.length
  size : J.tb.length ≤ 600
inductive RJd (x : List Nat) : Option Jd → Prop where
  | six : (Txt.split (txS x) (txS [32])).length ≠ 6 → RJd x none
  | judge (J : Jd) (gl : List Nat) : RJ x J gl → RJd x (if J.okB = true then some J else none)
theorem pow_le_of {n m s : Nat} (h : n * m ^ s ≤ 600) (hn : 1 ≤ n) : ∀ i, i ≤ s → m ^ i ≤ 3000 := by
  intro i hi
  by_cases hm : m = 0
  · subst hm
    cases i with
    | zero => decide
    | succ i => rw [Nat.zero_pow (by omega)]; omega
  · have h1 : m ^ i ≤ m ^ s := Nat.pow_le_pow_right (by omega) hi
    have h2 : m ^ s ≤ n * m ^ s := Nat.le_mul_of_pos_left _ hn
    omega
section
variable {P : Program} {w : World} {K : PySem.W.Frag} {mg : Str → Option Value} {base : Heap}
def sp_read_judge (w : World) (K : PySem.W.Frag) (mg : Str → Option Value) : Sp := fun vs H Q E => (∃ (x : List Nat) (r : Option Jd), vs = [tx x] ∧ x.length ≤ 90000 ∧ RJd x r ∧
  (∀ J, r = some J → ∀ (H' : Hp) (a d g : Addr) (es : List NE), Same H H' → H a = none → H d = none → H g = none → d ≠ g → JForm w H' J a d g es → Q (.ref a) H') ∧
  (r = none → ∀ y, mg "NoText" = some y → ∀ H' : Hp, Same H H' → E y none H')) ∨
  ∃ v u, vs = [v] ∧ TyX K H v u ∧ PySem.W.kitOne K u (.type "str") = some false ∧ ∀ x, mg "NoText" = some x → E x none H
theorem ok_read_judge (D : Df K mg "read_judge" s_read_judge ["text"]) (T : Txt K mg) (G_figure_of : G' P w K mg base "figure_of" 1 ["word"] (sp_figure_of mg)) (G_how_many_tuples : G' P w K mg base "how_many_tuples" 1 ["letters", "states", "classes"] sp_how_many_tuples)
    (G_class_rows : G' P w K mg base "class_rows" 1 ["states", "classes"] sp_class_rows) (G_read_good : G' P w K mg base "read_good" 2 ["word"] sp_read_good) (G_is_judge : G' P w K mg base "is_judge" 4 ["thing"] (sp_is_judge w)) : G' P w K mg base "read_judge" 5 ["text"] (sp_read_judge w K mg) := by
  refine D.ok fun f fd F => F.okX sc_read_judge (fun vs H Q E h => ?_) (fun cdv A outer s H vs Q E hr h => ?_)
  · rcases h with ⟨x, r, rfl, _⟩ | ⟨v, u, rfl, _⟩
    · rfl
    · rfl
  · refine ⟨_, (pss_cons (ps_if (PW.pt (pw_or (pt_not (pt_val (pe_callB (call_isiK K) (by rfl) T.n_isinstance (by decide +kernel) (pa_cons (pv 0) (pa_cons (pe_ty (n := "str") T.n_str (by decide +kernel)) pa_nil))))) (pw_or1 (pt_cmpR op_ne (pe_callB (call_lenK K) (by rfl) T.n_len PySem.boot_len (pa_cons (pe_split (pv 0) pe_str) pa_nil)) pe_int (nomark _))))) (pss_one (ps_rs T.x_NoText rfl (takes_of rfl rfl rfl rfl))) pss_nil)
  (pss_cons (ps_asg (pe_split (pv 0) pe_str) (pg_unlK K rfl (pgs_cons (pg_name (i := 1) sc_read_judge.nd rfl (by first | exact Or.inl rfl | exact Or.inr rfl)) (pgs_cons (pg_name (i := 2) sc_read_judge.nd rfl (by first | exact Or.inl rfl | exact Or.inr rfl)) (pgs_cons (pg_name (i := 3) sc_read_judge.nd rfl (by first | exact Or.inl rfl | exact Or.inr rfl)) (pgs_cons (pg_name (i := 4) sc_read_judge.nd rfl (by first | exact Or.inl rfl | exact Or.inr rfl)) (pgs_cons (pg_name (i := 5) sc_read_judge.nd rfl (by first | exact Or.inl rfl | exact Or.inr rfl)) (pgs_cons (pg_name (i := 6) sc_read_judge.nd rfl (by first | exact Or.inl rfl | exact Or.inr rfl)) pgs_nil))))))))
  (pss_cons (ps_set (i := 7) sc_read_judge.nd rfl (by first | exact Or.inl rfl | exact Or.inr rfl) (pe_lst (pa_cons (pe_cl G_figure_of (hr.mono (by omega)) (passW (takes_of rfl rfl rfl rfl) (fun _ _ _ _ z => z)) (pa_cons (pv 2) pa_nil)) (pa_cons (pe_cl G_figure_of (hr.mono (by omega)) (passW (takes_of rfl rfl rfl rfl) (fun _ _ _ _ z => z)) (pa_cons (pv 3) pa_nil)) (pa_cons (pe_cl G_figure_of (hr.mono (by omega)) (passW (takes_of rfl rfl rfl rfl) (fun _ _ _ _ z => z)) (pa_cons (pv 4) pa_nil)) pa_nil)))))
  (pss_cons (ps_set (i := 8) sc_read_judge.nd rfl (by first | exact Or.inl rfl | exact Or.inr rfl) (pe_cl G_how_many_tuples (hr.mono (by omega)) passF (pa_cons (pv 1) (pa_cons (pe_ix (ix_listK K) (pv 7) pe_int (fun _ _ => rfl)) (pa_cons (pe_op op_add (pe_ix (ix_listK K) (pv 7) pe_int (fun _ _ => rfl)) (pe_ix (ix_listK K) (pv 7) pe_int (fun _ _ => rfl))) pa_nil)))))
  (pss_cons (ps_if (PW.pt (pw_or (pt_cmpR op_gt (pv 8) (pe_gv T.g_MOST_TUPLES_texts) (nomark _)) (pw_or1 (pt_cmpR op_ne (pe_callB (call_lenK K) (by rfl) T.n_len PySem.boot_len (pa_cons (pv 6) pa_nil)) (pv 8) (nomark _))))) (pss_one (ps_rs T.x_NoText rfl (takes_of rfl rfl rfl rfl))) pss_nil)
  (pss_cons (ps_set (i := 9) sc_read_judge.nd rfl (by first | exact Or.inl rfl | exact Or.inr rfl) (pe_lst pa_nil))
  (pss_cons (ps_for (passes_of rfl) rfl (pi_str (pv 1)) (pg_name (i := 10) sc_read_judge.nd rfl (by first | exact Or.inl rfl | exact Or.inr rfl)) (pss_one (ps_expr (cbm K (pe_bm PySem.F.plainAttrs_list PySem.F.slot_list_extend PySem.F.type_list_extend mt_extend (pv 9) (pa_cons (pe_lc (own := [("row", 11)]) rfl sc_read_judge.nd (pi_listK K (pe_cl G_class_rows (hr.mono (by omega)) passF (pa_cons (pe_ix (ix_listK K) (pv 7) pe_int (fun _ _ => rfl)) (pa_cons (pe_op op_add (pe_ix (ix_listK K) (pv 7) pe_int (fun _ _ => rfl)) (pe_ix (ix_listK K) (pv 7) pe_int (fun _ _ => rfl))) pa_nil)))) (blkOk_by (own := [("row", 11)]) (N := ["text", "letters", "states", "few", "turn", "good", "told", "numbers", "many", "keys", "letter", "row", "table", "sign", "judge"]) (sc := defScope s_read_judge) (by decide +kernel)) (fun _ _ _ _ _ => (pg_name (i := 11) sc_read_judge.nd rfl (by first | exact Or.inl rfl | exact Or.inr rfl))) (fun _ _ _ _ _ => pts_nil) (fun _ _ _ _ _ => (pe_tup (pa_cons (pv 10) (pa_cons (pv 11) pa_nil))))) pa_nil))))))
  (pss_cons (ps_set (i := 12) sc_read_judge.nd rfl (by first | exact Or.inl rfl | exact Or.inr rfl) (pe_dictZipK w K hr rfl T.n_dict T.n_zip (pa_cons (pv 9) (pa_cons (pe_lc (own := [("sign", 13)]) rfl sc_read_judge.nd (pi_str (pv 6)) (blkOk_by (own := [("sign", 13)]) (N := ["text", "letters", "states", "few", "turn", "good", "told", "numbers", "many", "keys", "letter", "row", "table", "sign", "judge"]) (sc := defScope s_read_judge) (by decide +kernel)) (fun _ _ _ _ _ => (pg_name (i := 13) sc_read_judge.nd rfl (by first | exact Or.inl rfl | exact Or.inr rfl))) (fun _ _ _ _ _ => pts_nil) (fun _ _ _ _ _ => (pe_cl G_figure_of (hr.mono (by omega)) passF (pa_cons (pv 13) pa_nil)))) pa_nil))))
  (pss_cons (ps_set (i := 14) sc_read_judge.nd rfl (by first | exact Or.inl rfl | exact Or.inr rfl) (pe_tup (pa_cons (pv 1) (pa_cons (pe_ix (ix_listK K) (pv 7) pe_int (fun _ _ => rfl)) (pa_cons (pe_ix (ix_listK K) (pv 7) pe_int (fun _ _ => rfl)) (pa_cons (pe_ix (ix_listK K) (pv 7) pe_int (fun _ _ => rfl)) (pa_cons (pv 12) (pa_cons (pe_cl G_read_good (hr.mono (by omega)) (passW (takes_of rfl rfl rfl rfl) (fun _ _ _ _ z => z)) (pa_cons (pv 5) pa_nil)) pa_nil))))))))
  (pss_cons (ps_if (pt_not (pt_val (pe_cl G_is_judge (hr.mono (by omega)) passF (pa_cons (pv 14) pa_nil)))) (pss_one (ps_rs T.x_NoText rfl (takes_of rfl rfl rfl rfl))) pss_nil)
  (pss_one (ps_ret (pv 14))))))))))))), ?_⟩
    rcases h with ⟨x, r, rfl, hx, hR, k1, k2⟩ | ⟨v, u, rfl, ty, ku, k2⟩
    rotate_left
    · walk_at "rd"
      refine ⟨_, _, _, _, false, rfl, .ty _, ty, ku, ?_⟩
      walk_at "rd"
      exact fun x hx => k2 x hx
    have e32 : PySem.Str.ofString " " = txS [32] := by decide +kernel
    walk_at "rd"
    rw [e32]
    have hlx : (⟨x.toArray⟩ : Str).length + 2 ≤ sizeLine := by show (txS x).length + 2 ≤ _; rw [txS_len]; exact Nat.le_trans (show _ ≤ 90002 by omega) (by decide)
    refine ⟨hlx, ?_⟩
    refine fun p1 n1 => ?_
    generalize e1 : upd H p1 _ = H1
    obtain ⟨S1, hp1⟩ := newF n1 e1
    walk_at "rd"
    rw [List.length_map]
    cases hR with
    | six h6 =>
      refine iteB (by
        have : ((Txt.split (⟨x.toArray⟩ : Str) (txS [32])).length : Int) ≠ 6 := by
          have : (Txt.split (⟨x.toArray⟩ : Str) (txS [32])).length ≠ 6 := h6
          omega
        simpa using this) ?_
      exact fun y hy => k2 rfl y hy _ S1
    | judge J gl R =>
      have hsp : Txt.split (⟨x.toArray⟩ : Str) (txS [32]) = _ := R.sp
      rw [hsp] at hp1 ⊢
      walk_at "rd"
      refine ⟨hlx, ?_⟩
      refine fun p2 n2 => ?_
      generalize e2 : upd H1 p2 _ = H2
      obtain ⟨S2, hp2⟩ := newF n2 e2
      rw [hsp] at hp2
      refine ⟨_, _, rfl, SqL.of hp2, rfl, ?_⟩
      walk_at "rd"
      refine ⟨by show 1 ≤ _; decide, fun n hn => ?_, fun hn => by rw [figL_dig R.st9] at hn; cases hn⟩
      rw [figL_dig R.st9] at hn
      cases hn
      walk_at "rd"
      refine ⟨by show 1 ≤ _; decide, fun n hn => ?_, fun hn => by rw [figL_dig R.few9] at hn; cases hn⟩
      rw [figL_dig R.few9] at hn
      cases hn
      walk_at "rd"
      refine ⟨by show 1 ≤ _; decide, fun n hn => ?_, fun hn => by rw [figL_dig R.turn9] at hn; cases hn⟩
      rw [figL_dig R.turn9] at hn
      cases hn
      walk_at "rd"
      refine ⟨(by walk_at "sz"), fun p3 n3 => ?_⟩
      generalize e3 : upd H2 p3 _ = H3
      obtain ⟨S3, hp3⟩ := newF n3 e3
      have hm18 : J.m ≤ 18 := by rw [Jd.m]; have := R.few9; have := R.turn9; omega
      have hst9 := R.st9
      have hsz := R.size
      have hmul : J.ls.length * J.m ^ J.st = J.tb.length := by rw [← manyT_le _ _ _ (by rw [R.many]; exact R.size), R.many]
      walk_at "rd"
      refine ⟨J.ls, J.st, J.m, by rw [Jd.m]; rfl, R.l3, by omega, by omega, ?_⟩
      rw [R.many]
      walk_at "rd"
      refine iteC (decide_eq_false (show ¬ (600 : Int) < (J.tb.length : Int) by omega)) ?_
      have hzt : (txS (J.tb.map dig)).length ≤ sizeLine := by rw [txS_len, List.length_map]; exact Nat.le_trans R.size (by decide)
      walk_at "rd"
      rw [txS_len, List.length_map]
      refine iteC (by simp) ?_
      walk_at "rd"
      refine ⟨(by walk_at "sz"), fun p4 n4 => ?_⟩
      generalize e4 : upd H3 p4 _ = H4
      obtain ⟨S4, hp4⟩ := newF n4 e4
      have hp34 := S4 _ _ hp3
      walk_at "rd"
      have hat : ∀ i : Nat, (txS J.ls).cps[i]? = J.ls[i]? := fun i => by show J.ls.toArray[i]? = _; simp
      refine for_it walk_str (fun i σ H' => ∃ (x10 : Option V) (vs : List V), σ = [some (tx x), some (tx J.ls), some (tx [dig J.st]), some (tx [dig J.few]), some (tx [dig J.turn]), some (tx gl), some (tx (J.tb.map dig)), some (.ref p3), some (.int (J.tb.length : Nat)), some (.ref p4), x10, none, none, none, none] ∧
        Same H3 H' ∧ H' p4 = some (.lst vs) ∧ KeysV H' vs (keysL (J.ls.take i) J.m J.st)) ⟨none, [], rfl, S4, hp4, .nil⟩ (fun _ _ _ _ _ => trivial) ?_ ?_
      · rintro i y σ H5 H6 hi ⟨x10, vs, rfl, S5, hp5, hvs⟩ ⟨rfl, c, hc, rfl⟩
        rw [hat] at hc
        have hil : i < J.ls.length := (List.getElem?_eq_some_iff.mp hc).1
        have hp35 := S5 _ _ hp3
        have hmul2 : (i + 1) * J.m ^ J.st ≤ 600 := by
          have := Nat.mul_le_mul_right (J.m ^ J.st) (show i + 1 ≤ J.ls.length by omega)
          omega
        walk_at "rd"
        refine ⟨J.st, J.m, by rw [Jd.m]; rfl, by omega, by omega, pow_le_of (n := J.ls.length) (by omega) (by omega), fun H7 pr ws S7 nr hpr hrows => ?_⟩
        have hwl : ws.length = J.m ^ J.st := by rw [Paired.length hrows, rowsL_len]
        walk_at "rd"
        refine ⟨⟨_, SqL.of hpr⟩, fun D nD => lc_it walk_list (fun j H' => Same H7 H' ∧ ∃ acc, H' D = some (.lst acc) ∧ KeysV H' acc (((rowsL J.m J.st).take j).map fun r => (c, r))) ⟨same_new nD, [], upd_same, .nil⟩ (fun q H' _ p' => SqL.of (p'.1 _ _ hpr)) ?_ ?_⟩
        · rintro j y H8 H9 hj ⟨S8, acc, hD, hacc⟩ ⟨rfl, hy⟩
          obtain ⟨r, hr1, hr2⟩ := paired_get hrows hy
          obtain ⟨b, rfl, hb⟩ := row_of hr2
          walk_at "rd"
          refine ⟨(by walk_at "sz"), fun t nt => ?_⟩
          generalize et : upd H9 t _ = H10
          obtain ⟨S10, ht⟩ := newF nt et
          have hk : NKv H10 (kJ (c, r)) (.ref t) := keyJ_mk ht (hr2.stay fun _ _ h => S10 _ _ (S8 _ _ h))
          have hD10 := S10 _ _ hD
          refine ⟨acc, hD10, ?_, Same.upd_own (S8.trans S10) nD, _, upd_same, ?_⟩
          · rw [Paired.length hacc, List.length_map, List.length_take]
            exact Nat.lt_of_le_of_lt (show _ ≤ 600 by rw [rowsL_len]; have hN : J.m ^ J.st ≤ 600 := Nat.le_trans (Nat.le_mul_of_pos_left _ (Nat.succ_pos i)) hmul2; omega) (by decide)
          · rw [List.take_succ, hr1, List.map_append]
            exact ((hacc.stay fun _ _ h => S10 _ _ h).app (.cons hk .nil)).stay fun b xs e => tup_upd hD10 b xs e
        · rintro H8 ⟨S8, acc, hD, hacc⟩
          have hp8 := S8 _ _ (S7 _ _ hp5)
          rw [hwl, show J.m ^ J.st = (rowsL J.m J.st).length by rw [rowsL_len], List.take_length] at hacc
          walk_at "rd"
          refine ⟨p4, D, vs, acc, rfl, rfl, hp8, hD, ?_, ?_⟩
          · rw [Paired.length hvs, Paired.length hacc, keysL_len, List.length_map, rowsL_len, List.length_take]
            exact Nat.le_trans (show _ ≤ 600 by rw [Nat.min_eq_left (by omega)]; rw [Nat.succ_mul] at hmul2; exact hmul2) (by decide)
          · refine ⟨_, _, rfl, Same.upd_own (S5.trans (S7.trans S8)) n4, upd_same, ?_⟩
            rw [List.take_succ, hc, keysL, List.flatMap_append]
            refine KeysV.stay (KeysV.app (hvs.stay fun _ _ h => S8 _ _ (S7 _ _ h)) ?_) fun b xs e => tup_upd hp8 b xs e
            simpa using hacc
      · rintro σ H5 ⟨x10, vs, rfl, S5, hp5, hvs⟩
        have hcs : (txS J.ls).cps.size = J.ls.length := by simp
        rw [hcs, List.take_length] at hvs
        have hp35 := S5 _ _ hp3
        have hat2 : ∀ i : Nat, (txS (J.tb.map dig)).cps[i]? = (J.tb.map dig)[i]? := fun i => by show (J.tb.map dig).toArray[i]? = _; simp
        walk_at "rd"
        refine fun D nD => lc_it walk_str (PvM H5 D fun i => .int ((J.tb[i]?).getD 0 : Nat)) (PvM.start nD) (fun i H' _ p' => trivial) ?_ ?_
        · rintro j y H6 H7 hj p' ⟨rfl, c, hc, rfl⟩
          rw [hat2, List.getElem?_map] at hc
          obtain ⟨v, hv, rfl⟩ := Option.map_eq_some_iff.mp hc
          have hv9 := R.tb9 v (List.mem_of_getElem? hv)
          have hjl : j < J.tb.length := (List.getElem?_eq_some_iff.mp hv).1
          walk_at "rd"
          refine ⟨by show 1 ≤ _; decide, fun n hn => ?_, fun hn => by rw [figL_dig hv9] at hn; cases hn⟩
          rw [figL_dig hv9] at hn
          cases hn
          exact p'.push (Same.refl _) nD (big_of (show j ≤ 600 by omega) (by decide)) (by rw [hv]; rfl)
        · rintro H6 ⟨S6, hD⟩
          rw [show (txS (J.tb.map dig)).cps.size = J.tb.length by simp, map_range J.tb _ (fun n => V.int (n : Nat)) (fun i x hx => by rw [hx]; rfl)] at hD
          have hkl : J.tb.length = (keysL J.ls J.m J.st).length := by rw [keysL_len, hmul]
          obtain ⟨es, h1, h2, h3, h4⟩ := (hvs.stay fun _ _ h => S6 _ _ h).ents J.tb hkl
          have hp6 := S6 _ _ hp5
          rw [h1] at hp6
          rw [← h3] at hD
          walk_at "rd"
          refine ⟨_, _, es, rfl, SqL.of hp6, SqL.of hD, h4, fun pd nd => ?_⟩
          generalize ed : upd H6 pd _ = H7
          obtain ⟨S7, hd7⟩ := newF nd ed
          have hp37 := S7 _ _ (S6 _ _ hp35)
          have hk7 : NKeys H7 (foldN [] es) := (NKeys.nil.fold h4).stay fun _ _ h => S7 _ _ h
          walk_at "rd"
          refine ⟨gl, J.gd, rfl, R.gl3, R.g, fun H8 pg S8 ng hg8 => ?_⟩
          walk_at "rd"
          refine ⟨(by show 6 ≤ sizeLine; decide), fun pa na => ?_⟩
          generalize ea : upd H8 pa _ = H9
          obtain ⟨S9, ha9⟩ := newF na ea
          have S05 : Same H H6 := ((((S1.trans S2).trans S3).trans S5).trans S6)
          have S07 : Same H H7 := S05.trans S7
          have S08 : Same H H8 := S07.trans S8
          have hne : pd ≠ pg := ne_of_none hd7 ng
          have fold : lettersB J.ls = true → foldN [] es = es := fun hl => by
            have hn : J.ls.Nodup := by
              rw [lettersB, Bool.and_eq_true] at hl
              exact riseB_nodup hl.2
            rw [foldN_new es [] (by rw [List.nil_append, h2]; exact nodup_map' (fun _ _ => kJ_inj) (keysL_nodup hn _ _)), List.nil_append]
          have hform : JForm w H9 J pa pd pg (foldN [] es) :=
            { tup := ha9, dic := S9 _ _ (S8 _ _ hd7), ks := hk7.stay fun _ _ h => S9 _ _ (S8 _ _ h), lst := S9 _ _ hg8, ek := fun hl => by rw [fold hl, h2, Jd.keys], ev := fun hl => by rw [fold hl, h3], l3 := R.l3, st9 := R.st9, few9 := R.few9, turn9 := R.turn9, tb6 := R.size, tb9 := R.tb9, gd3 := R.gd3 }
          walk_at "rd"
          refine ⟨J, pa, pd, pg, _, rfl, hform, fun H10 S10 => ?_⟩
          cases hok : J.okB with
          | true =>
            rw [if_pos hok] at k1
            walk_at "rd"
            exact k1 J rfl H10 pa pd pg _ ((S08.trans S9).trans S10) (S08.free na) (S05.free nd) (S07.free ng) hne (hform.same S10)
          | false =>
            rw [if_neg (by rw [hok]; decide)] at k2
            walk_at "rd"
            exact fun y hy => k2 rfl y hy _ ((S08.trans S9).trans S10)
end
end Hy
set_option Elab.async false
set_option linter.all false
set_option maxRecDepth 100000
set_option maxHeartbeats 4000000
namespace Hy
open PySem L2
local macro_rules | `(tactic| walk_at "hp") => `(tactic| first
  | assumption | exact upd_same
  | (refine (upd_ne ?_).trans ?_ <;> first | assumption | (exact Ne.symm (by assumption)) | walk_at "ne" | walk_at "hp")
  | (refine (by assumption : Same _ _) _ _ ?_; assumption))
local macro_rules | `(tactic| walk_at "ne") => `(tactic| first
  | assumption | (exact Ne.symm (by assumption))
  | exact ne_of_none (by assumption) (by assumption) | exact Ne.symm (ne_of_none (by assumption) (by assumption)))
local macro_rules | `(tactic| walk_at "sz") => `(tactic| first | assumption | (show 0 ≤ sizeLine; decide) | (show 1 ≤ sizeLine; decide) | (show 2 ≤ sizeLine; decide) | (show 3 ≤ sizeLine; decide))
local macro_rules | `(tactic| walk_at "ar") => `(tactic| first
  | ((with_reducible show (0 : Int) < _); first | decide | omega)
  | ((with_reducible show CMul _ _); first | exact Or.inr (And.intro (by decide) (by decide)) | exact Or.inl (And.intro (by decide) (by decide)) | (refine Or.inl (And.intro ?_ ?_) <;> omega) | (refine Or.inr (And.intro ?_ ?_) <;> omega))
  | ((with_reducible show CPow _ _); exact And.intro (by decide) (And.intro (by decide) (by decide)))
  | ((with_reducible show CDiv _ _); first | exact And.intro (by decide) (by decide) | (refine And.intro ?_ ?_ <;> omega)))
/- one step of a reading -/
local macro_rules | `(tactic| walk_at "r1") => `(tactic| first
  | refine ⟨_, rfl, ?_⟩
  | refine iteB (by rfl) ?_ | refine iteC (by rfl) ?_
  | refine ⟨_, _, rfl, rfl, ?_⟩
  | refine ⟨rfl, ?_⟩
  | refine ⟨⟨_, rfl⟩, ?_⟩
  | refine ⟨_, _, _, _, true, rfl, .ty _, .base (.str _), kit_ty (by decide +kernel), ?_⟩
  | refine ⟨_, _, _, _, false, rfl, .ty _, .base (.str _), kit_ty (by decide +kernel), ?_⟩
  | refine ⟨_, _, _, _, true, rfl, .ty _, .base (.int _), kit_ty (by decide +kernel), ?_⟩
  | refine ⟨_, _, _, _, false, rfl, .ty _, .base (.int _), kit_ty (by decide +kernel), ?_⟩
  | refine ⟨_, _, _, _, true, rfl, .ty _, .base (.tup (by walk_at "hp")), kit_ty (by decide +kernel), ?_⟩
  | refine ⟨_, _, _, _, false, rfl, .ty _, .base (.tup (by walk_at "hp")), kit_ty (by decide +kernel), ?_⟩
  | refine ⟨_, _, _, _, true, rfl, .ty _, .base (.lst (by walk_at "hp")), kit_ty (by decide +kernel), ?_⟩
  | refine ⟨_, _, _, _, false, rfl, .ty _, .base (.lst (by walk_at "hp")), kit_ty (by decide +kernel), ?_⟩
  | refine ⟨_, _, rfl, ⟨by walk_at "sz", rfl⟩, ?_⟩
  | refine ⟨_, _, _, _, rfl, rfl, SqT.of (by walk_at "hp"), by rfl, ?_⟩
  | refine ⟨_, _, _, _, rfl, rfl, SqL.of (by walk_at "hp"), by rfl, ?_⟩
  | refine ⟨.inl ⟨rfl, _, SqL.of (by walk_at "hp")⟩, ?_⟩
  | refine ⟨_, _, _, rfl, rfl, (by walk_at "hp"), snoc_get, ?_⟩
  | refine ⟨_, _, _, _, rfl, rfl, (by walk_at "hp"), by rfl, ?_⟩
  | refine ⟨_, _, rfl, SqL.of (by walk_at "hp"), ?_⟩
  | refine ⟨_, _, rfl, SqT.of (by walk_at "hp"), by rfl, ?_⟩
  | refine ⟨_, (_ : List V), rfl, ?_⟩
  | refine ⟨_, _, rfl, .inl ⟨_, (by assumption), rfl⟩, ?_⟩
  | refine ⟨_, _, rfl, .inl ⟨_, SqL.of (by walk_at "hp"), rfl⟩, ?_⟩
  | refine ⟨_, _, rfl, .inr ⟨_, SqT.of (by walk_at "hp"), rfl⟩, ?_⟩
  | refine Or.inl ⟨(_ : Int), rfl, ?_⟩ | refine Or.inr ⟨(_ : Bool), rfl, ?_⟩
  | refine ⟨_, _, _, _, true, rfl, (by assumption : ND _ _ _ _), .ty _, kit_ty (by decide +kernel), ?_⟩
  | refine ⟨_, _, _, _, false, rfl, (by assumption : ND _ _ _ _), .ty _, kit_ty (by decide +kernel), ?_⟩
  | refine ⟨_, _, rfl, (by assumption : ND _ _ _ _), ?_⟩
  | refine And.intro (by walk_at "ar") ?_)
local macro_rules | `(tactic| walk_at "rd") => `(tactic| repeat walk_at "r1")

section
variable {P : Program} {w : World} {K : PySem.W.Frag} {mg : Str → Option Value} {base : Heap}
abbrev s__law_letters : Stmt := top 30
theorem sc__law_letters : FnScope ["store", "way", "left", "many"] ["store"] (defScope s__law_letters) := ⟨rfl, rfl, rfl, by decide +kernel, rfl, by decide +kernel, by decide +kernel⟩
abbrev s__law_judge : Stmt := top 31
theorem sc__law_judge : FnScope ["store", "small", "sizes", "states", "few", "turn", "letters", "rows", "table", "letter", "kind", "row", "good", "state"] ["store", "small"] (defScope s__law_judge) := ⟨rfl, rfl, rfl, by decide +kernel, rfl, by decide +kernel, by decide +kernel⟩
abbrev s__law_shuffled : Stmt := top 34
theorem sc__law_shuffled : FnScope ["store", "judge", "keys", "way", "table", "k", "key"] ["store", "judge"] (defScope s__law_shuffled) := ⟨rfl, rfl, rfl, by decide +kernel, rfl, by decide +kernel, by decide +kernel⟩

def ABC : List Nat := [97, 98, 99, 100, 101, 102, 103, 104, 105, 106, 107, 108, 109, 110, 111, 112, 113, 114, 115, 116, 117, 118, 119, 120, 121, 122]
/-- letters as drawn -/
def LetR (l : List Nat) : Prop := l ≠ [] ∧ (∀ c ∈ l, isL c = true) ∧ riseB l = true ∧ l.length ≤ 26
def sp__law_letters : Sp := fun vs H Q _ => ∃ (s : Addr), vs = [.ref s] ∧ StoreAt H s ∧ ∀ (H' : Hp) (l : List Nat), Keep [s] H H' → StoreAt H' s → LetR l → Q (tx l) H'
theorem ok__law_letters (D : Df K mg "_law_letters" s__law_letters ["store"]) (T : Txt K mg) (G__law_take : G' P w K mg base "_law_take" 1 ["store", "many"] sp__law_take) : G' P w K mg base "_law_letters" 2 ["store"] sp__law_letters := by
  refine D.ok fun f fd F => F.okX sc__law_letters (fun vs H Q E h => ?_) (fun cdv A outer s H vs Q E hr h => ?_)
  · obtain ⟨s, rfl, _⟩ := h
    rfl
  · obtain ⟨st, rfl, hst, k⟩ := h
    refine ⟨_, (pss_cons (ps_set (i := 1) sc__law_letters.nd rfl (by first | exact Or.inl rfl | exact Or.inr rfl) (pe_cl G__law_take (hr.mono (by omega)) passF (pa_cons (pv 0) (pa_cons pe_int pa_nil))))
  (pss_cons (ps_if (pt_cmpR op_lt (pv 1) pe_int (nomark _)) (pss_one (ps_ret (pe_ix (ix_listK K) (pe_lst (pa_cons pe_str (pa_cons pe_str (pa_cons pe_str (pa_cons pe_str (pa_cons pe_str (pa_cons pe_str pa_nil))))))) (pv 1) (fun _ _ => rfl)))) pss_nil)
  (pss_cons (ps_set (i := 2) sc__law_letters.nd rfl (by first | exact Or.inl rfl | exact Or.inr rfl) (pe_callTy (call_list_s rfl) (by rfl) T.n_list (by decide +kernel) (pa_cons pe_str pa_nil)))
  (pss_cons (ps_set (i := 3) sc__law_letters.nd rfl (by first | exact Or.inl rfl | exact Or.inr rfl) (pe_ix (ix_listK K) (pe_lst (pa_cons pe_int (pa_cons (pe_op op_add pe_int (pe_cl G__law_take (hr.mono (by omega)) passF (pa_cons (pv 0) (pa_cons pe_int pa_nil)))) (pa_cons (pe_op op_add pe_int (pe_cl G__law_take (hr.mono (by omega)) passF (pa_cons (pv 0) (pa_cons pe_int pa_nil)))) pa_nil)))) (pe_op op_sub (pv 1) pe_int) (fun _ _ => rfl)))
  (pss_cons (ps_while (passes_of rfl) (pt_cmpR op_gt (pe_callB (call_lenK K) (by rfl) T.n_len PySem.boot_len (pa_cons (pv 2) pa_nil)) (pv 3) (nomark _)) (pss_one (ps_expr (cbm K (pe_bm PySem.F.plainAttrs_list PySem.F.slot_list_pop PySem.F.type_list_pop mt_popAt (pv 2) (pa_cons (pe_cl G__law_take (hr.mono (by omega)) passF (pa_cons (pv 0) (pa_cons (pe_callB (call_lenK K) (by rfl) T.n_len PySem.boot_len (pa_cons (pv 2) pa_nil)) pa_nil))) pa_nil))))))
  (pss_one (ps_ret (pe_join pe_str (pv 2))))))))), ?_⟩
    walk_at "rd"
    refine ⟨st, 9, rfl, hst, by decide, by decide, fun H1 r K1 hst1 h0 h1 => ?_⟩
    have menu : ∀ (H' : Hp) (x : Str) (l : List Nat), x = txS l → Keep [st] H H' → StoreAt H' st → LetR l → Q (.str x) H' := fun H' x l e K1 s1 hl => by rw [e]; exact k H' l K1 s1 hl
    have hu : ∀ {p : Addr} {o : HO} {H' : Hp}, H' p = none → StoreAt H' st → StoreAt (upd H' p o) st := fun n ⟨a, b, c, e⟩ => ⟨a, b, c, by rw [upd_ne (ne_of_none e n)]; exact e⟩
    walk_at "rd"
    by_cases h6 : r < 6
    · refine iteB (decide_eq_true h6) ?_
      walk_at "rd"
      refine ⟨(by show 6 ≤ sizeLine; decide), fun p np => ?_⟩
      have hs2 := hu (o := .lst [.str (PySem.Str.ofString "a"), .str (PySem.Str.ofString "ab"), .str (PySem.Str.ofString "ab"), .str (PySem.Str.ofString "bz"), .str (PySem.Str.ofString "abc"), .str (PySem.Str.ofString "z")]) np hst1
      have K2 := K1.updNew (o := .lst [.str (PySem.Str.ofString "a"), .str (PySem.Str.ofString "ab"), .str (PySem.Str.ofString "ab"), .str (PySem.Str.ofString "bz"), .str (PySem.Str.ofString "abc"), .str (PySem.Str.ofString "z")]) np
      obtain rfl | rfl | rfl | rfl | rfl | rfl : r = 0 ∨ r = 1 ∨ r = 2 ∨ r = 3 ∨ r = 4 ∨ r = 5 := by omega
      · walk_at "rd"
        exact menu _ _ [97] (by decide +kernel) K2 hs2 ⟨by decide, by decide, by decide, by decide⟩
      · walk_at "rd"
        exact menu _ _ [97, 98] (by decide +kernel) K2 hs2 ⟨by decide, by decide, by decide, by decide⟩
      · walk_at "rd"
        exact menu _ _ [97, 98] (by decide +kernel) K2 hs2 ⟨by decide, by decide, by decide, by decide⟩
      · walk_at "rd"
        exact menu _ _ [98, 122] (by decide +kernel) K2 hs2 ⟨by decide, by decide, by decide, by decide⟩
      · walk_at "rd"
        exact menu _ _ [97, 98, 99] (by decide +kernel) K2 hs2 ⟨by decide, by decide, by decide, by decide⟩
      · walk_at "rd"
        exact menu _ _ [122] (by decide +kernel) K2 hs2 ⟨by decide, by decide, by decide, by decide⟩
    · refine iteC (decide_eq_false h6) ?_
      walk_at "rd"
      have hlets : (PySem.Str.ofString "abcdefghijklmnopqrstuvwxyz") = txS ABC := by decide +kernel
      rw [hlets]
      refine ⟨(by decide), fun p np => ?_⟩
      generalize e1 : upd H1 p _ = H2
      have hp2 : H2 p = some (.lst (ABC.map fun c => .str ⟨#[c]⟩)) := by rw [← e1]; exact upd_same
      have K2 : Keep [st] H H2 := by rw [← e1]; exact K1.updNew np
      have hst2 : StoreAt H2 st := by rw [← e1]; exact hu np hst1
      walk_at "rd"
      refine ⟨st, 9, rfl, hst2, by decide, by decide, fun H3 r3 K3 hst3 h30 h31 => ?_⟩
      walk_at "rd"
      refine ⟨st, 26, rfl, hst3, by decide, by decide, fun H4 r4 K4 hst4 h40 h41 => ?_⟩
      walk_at "rd"
      refine ⟨(by walk_at "sz"), fun p5 n5 => ?_⟩
      generalize e5 : upd H4 p5 _ = H5
      have hp5 : H5 p5 = some (.lst [.int 4, .int (1 + r3), .int (1 + r4)]) := by rw [← e5]; exact upd_same
      have K5 : Keep [st] H H5 := by rw [← e5]; exact ((K2.trans K3).trans K4).updNew n5
      have hst5 : StoreAt H5 st := by rw [← e5]; exact hu n5 hst4
      have hps : p ≠ st := fun z => by
        obtain ⟨a, b, c, e⟩ := hst1
        rw [z, e] at np
        cases np
      have hp45 : H5 p = some (.lst (ABC.map fun c => .str ⟨#[c]⟩)) := by
        have h4 := K4.but p _ (by simpa using hps) (K3.but p _ (by simpa using hps) hp2)
        rw [← e5, upd_ne (ne_of_none h4 n5)]
        exact h4
      obtain ⟨N, hN, hN1, hN2⟩ : ∃ N : Nat, atI [V.int 4, .int (1 + r3), .int (1 + r4)] (r - 6) = some (.int (N : Nat)) ∧ 1 ≤ N ∧ N ≤ 26 := by
        obtain rfl | rfl | rfl : r = 6 ∨ r = 7 ∨ r = 8 := by omega
        · exact ⟨4, rfl, by omega, by omega⟩
        · exact ⟨(1 + r3).toNat, by show some (V.int (1 + r3)) = _; congr 2; omega, by omega, by omega⟩
        · exact ⟨(1 + r4).toNat, by show some (V.int (1 + r4)) = _; congr 2; omega, by omega, by omega⟩
      walk_at "rd"
      refine ⟨_, _, _, _, rfl, rfl, SqL.of hp5, hN, ?_⟩
      walk_at "rd"
      refine ⟨fun m σ H' => ∃ l : List Nat, m = l.length ∧ σ = [some (.ref st), some (.int r), some (.ref p), some (.int (N : Nat))] ∧ Keep [st] H H' ∧ StoreAt H' st ∧ H' p = some (.lst (l.map fun c => .str ⟨#[c]⟩)) ∧ l.Sublist ABC ∧ N ≤ l.length,
        ⟨_, ABC, rfl, rfl, K5, hst5, hp45, List.Sublist.refl _, hN2⟩, ?_⟩
      rintro m σ H6 ⟨l, rfl, rfl, K6, hst6, hp6, hsub, hNl⟩
      have hl26 : l.length ≤ 26 := hsub.length_le
      walk_at "rd"
      rw [List.length_map]
      by_cases hgt : N < l.length
      · refine iteB (decide_eq_true (by omega)) ?_
        refine ⟨fun σ' H' => ∃ l' : List Nat, l'.length < l.length ∧ σ' = [some (.ref st), some (.int r), some (.ref p), some (.int (N : Nat))] ∧ Keep [st] H H' ∧ StoreAt H' st ∧ H' p = some (.lst (l'.map fun c => .str ⟨#[c]⟩)) ∧ l'.Sublist ABC ∧ N ≤ l'.length,
          fun σ' H' ⟨l', h1, h2⟩ => ⟨_, h1, l', rfl, h2⟩, ?_⟩
        walk_at "rd"
        rw [List.length_map]
        refine ⟨st, _, rfl, hst6, by omega, by omega, fun H7 q K7 hst7 hq0 hq1 => ?_⟩
        obtain ⟨m, rfl⟩ : ∃ m : Nat, q = (m : Int) := ⟨q.toNat, by omega⟩
        have hml : m < l.length := by omega
        have hp7 : H7 p = some (.lst (l.map fun c => .str ⟨#[c]⟩)) := K7.but p _ (by simpa using hps) hp6
        walk_at "rd"
        refine ⟨p, _, (m : Int), m, .str ⟨#[l[m]]⟩, rfl, rfl, hp7, by omega, by omega, ?_, by rw [List.getElem?_map, List.getElem?_eq_getElem hml]; rfl, ?_⟩
        · rw [List.length_map]
          exact (seqIndex_of (by omega) (by omega)).trans (by simp)
        · refine ⟨l.eraseIdx m, ?_, rfl, (K6.trans K7).own ?_, ?_, ?_, (List.eraseIdx_sublist l m).trans hsub, ?_⟩
          · rw [List.length_eraseIdx, if_pos hml]; omega
          · exact K1.some np (by simpa using hps)
          · obtain ⟨a, b, c, e⟩ := hst7
            exact ⟨a, b, c, by rw [upd_ne (Ne.symm hps)]; exact e⟩
          · rw [upd_same, ← map_eraseIdx]
          · rw [List.length_eraseIdx, if_pos hml]; omega
      · refine iteC (decide_eq_false (by omega)) ?_
        walk_at "rd"
        have e00 : PySem.Str.ofString "" = txS [] := by decide +kernel
        refine ⟨_, p, l.map fun c => txS [c], rfl, rfl, .inl (SqL.of (by rw [List.map_map]; exact hp6)), ?_, ?_⟩
        · rw [List.length_map, List.map_map]
          have := sum_ones ((fun x : Str => x.length) ∘ fun c => txS [c]) 1 l (fun x _ => by show (txS [x]).length ≤ 1; rw [txS_len]; exact Nat.le_refl _)
          rw [e00, txS_len]
          show _ + l.length * 0 ≤ _
          omega
        have ej : (l.map fun c => txS [c]) = (l.map fun c => [c]).map txS := by rw [List.map_map]; rfl
        rw [e00, ej, join_nil, flat_ones fun c => c, List.map_id']
        have hp : (l.Pairwise (· < ·)) := List.Pairwise.sublist hsub (riseB_pair (by decide))
        exact k _ l K6 hst6 ⟨fun z => by rw [z] at hNl; simp at hNl; omega, fun c hc => (show ∀ c ∈ ABC, isL c = true by decide) c (hsub.subset hc), pair_riseB hp, hl26⟩
end
end Hy
set_option Elab.async false
set_option linter.all false
set_option maxRecDepth 100000
set_option maxHeartbeats 1000000
namespace Hy
open PySem L2
local macro_rules | `(tactic| walk_at "hp") => `(tactic| first
  | assumption | exact upd_same
  | (refine (upd_ne ?_).trans ?_ <;> first | assumption | (exact Ne.symm (by assumption)) | walk_at "ne" | walk_at "hp")
  | (refine (by assumption : Same _ _) _ _ ?_; assumption))
local macro_rules | `(tactic| walk_at "ne") => `(tactic| first
  | assumption | (exact Ne.symm (by assumption))
  | exact ne_of_none (by assumption) (by assumption) | exact Ne.symm (ne_of_none (by assumption) (by assumption)))
local macro_rules | `(tactic| walk_at "sz") => `(tactic| first | assumption | (show 0 ≤ sizeLine; decide) | (show 1 ≤ sizeLine; decide) | (show 2 ≤ sizeLine; decide) | (show 3 ≤ sizeLine; decide))
local macro_rules | `(tactic| walk_at "ar") => `(tactic| first
  | ((with_reducible show (0 : Int) < _); first | decide | omega)
  | ((with_reducible show CMul _ _); first | exact Or.inr (And.intro (by decide) (by decide)) | exact Or.inl (And.intro (by decide) (by decide)) | (refine Or.inl (And.intro ?_ ?_) <;> omega) | (refine Or.inr (And.intro ?_ ?_) <;> omega))
  | ((with_reducible show CPow _ _); exact And.intro (by decide) (And.intro (by decide) (by decide)))
  | ((with_reducible show CDiv _ _); first | exact And.intro (by decide) (by decide) | (refine And.intro ?_ ?_ <;> omega)))
/- one step of a reading -/
local macro_rules | `(tactic| walk_at "r1") => `(tactic| first
  | refine ⟨_, rfl, ?_⟩
  | refine iteB (by rfl) ?_ | refine iteC (by rfl) ?_
  | refine ⟨_, _, rfl, rfl, ?_⟩
  | refine ⟨rfl, ?_⟩
  | refine ⟨⟨_, rfl⟩, ?_⟩
  | refine ⟨_, _, _, _, true, rfl, .ty _, .base (.str _), kit_ty (by decide +kernel), ?_⟩
  | refine ⟨_, _, _, _, false, rfl, .ty _, .base (.str _), kit_ty (by decide +kernel), ?_⟩
  | refine ⟨_, _, _, _, true, rfl, .ty _, .base (.int _), kit_ty (by decide +kernel), ?_⟩
  | refine ⟨_, _, _, _, false, rfl, .ty _, .base (.int _), kit_ty (by decide +kernel), ?_⟩
  | refine ⟨_, _, _, _, true, rfl, .ty _, .base (.tup (by walk_at "hp")), kit_ty (by decide +kernel), ?_⟩
  | refine ⟨_, _, _, _, false, rfl, .ty _, .base (.tup (by walk_at "hp")), kit_ty (by decide +kernel), ?_⟩
  | refine ⟨_, _, _, _, true, rfl, .ty _, .base (.lst (by walk_at "hp")), kit_ty (by decide +kernel), ?_⟩
  | refine ⟨_, _, _, _, false, rfl, .ty _, .base (.lst (by walk_at "hp")), kit_ty (by decide +kernel), ?_⟩
  | refine ⟨_, _, rfl, ⟨by walk_at "sz", rfl⟩, ?_⟩
  | refine ⟨_, _, _, _, rfl, rfl, SqT.of (by walk_at "hp"), by rfl, ?_⟩
  | refine ⟨_, _, _, _, rfl, rfl, SqL.of (by walk_at "hp"), by rfl, ?_⟩
  | refine ⟨.inl ⟨rfl, _, SqL.of (by walk_at "hp")⟩, ?_⟩
  | refine ⟨_, _, _, rfl, rfl, (by walk_at "hp"), snoc_get, ?_⟩
  | refine ⟨_, _, _, _, rfl, rfl, (by walk_at "hp"), by rfl, ?_⟩
  | refine ⟨_, _, rfl, SqL.of (by walk_at "hp"), ?_⟩
  | refine ⟨_, _, rfl, SqT.of (by walk_at "hp"), by rfl, ?_⟩
  | refine ⟨_, (_ : List V), rfl, ?_⟩
  | refine ⟨_, _, rfl, .inl ⟨_, (by assumption), rfl⟩, ?_⟩
  | refine ⟨_, _, rfl, .inl ⟨_, SqL.of (by walk_at "hp"), rfl⟩, ?_⟩
  | refine ⟨_, _, rfl, .inr ⟨_, SqT.of (by walk_at "hp"), rfl⟩, ?_⟩
  | refine Or.inl ⟨(_ : Int), rfl, ?_⟩ | refine Or.inr ⟨(_ : Bool), rfl, ?_⟩
  | refine ⟨_, _, _, _, true, rfl, (by assumption : ND _ _ _ _), .ty _, kit_ty (by decide +kernel), ?_⟩
  | refine ⟨_, _, _, _, false, rfl, (by assumption : ND _ _ _ _), .ty _, kit_ty (by decide +kernel), ?_⟩
  | refine ⟨_, _, rfl, (by assumption : ND _ _ _ _), ?_⟩
  | refine And.intro (by walk_at "ar") ?_)
local macro_rules | `(tactic| walk_at "rd") => `(tactic| repeat walk_at "r1")

/-- a judge on the heap, as made -/
structure JN (w : World) (H : Hp) (J : Jd) (a d g : Addr) (es : List NE) : Prop where
  tup : H a = some (.tup [.str (txS J.ls), .int (J.st : Nat), .int (J.few : Nat), .int (J.turn : Nat), .ref d, .ref g])
  dic : H d = some (ndO w d es)
  ks : NKeys H es
  lst : H g = some (.lst (J.gd.map fun n => V.int (n : Nat)))
  tab : TabE es J
  ok : J.Ok
theorem JN.same {w : World} {H H' : Hp} {J : Jd} {a d g : Addr} {es : List NE} (h : JN w H J a d g es) (s : Same H H') : JN w H' J a d g es :=
  { h with tup := s _ _ h.tup, dic := s _ _ h.dic, ks := h.ks.stay fun _ _ e => s _ _ e, lst := s _ _ h.lst }
theorem JN.keep {w : World} {A : List Addr} {H H' : Hp} {J : Jd} {a d g : Addr} {es : List NE} (h : JN w H J a d g es) (s : Keep A H H') (hd : d ∉ A) (hg : g ∉ A) : JN w H' J a d g es :=
  { h with tup := s.tup _ _ h.tup, dic := s.but _ _ hd h.dic, ks := h.ks.stay s.tup, lst := s.but _ _ hg h.lst }
theorem JN.at {w : World} {H : Hp} {J : Jd} {a d g : Addr} {es : List NE} (h : JN w H J a d g es) : JAt w H J a d g es := ⟨h.tup, ND.of h.dic h.ks, h.lst⟩
theorem Jd.Ok.letters {J : Jd} (ok : J.Ok) : lettersB J.ls = true := by
  have h1 : J.ls.isEmpty = false := by
    cases h : J.ls with
    | nil => exact absurd h ok.ls1
    | cons => rfl
  rw [lettersB, h1, ok.lsR, List.all_eq_true.mpr ok.lsL]
  rfl
theorem Jd.Ok.okB {J : Jd} (ok : J.Ok) : J.okB = true := by
  simp only [Jd.okB, ok.letters, decide_eq_true ok.st1, decide_eq_true ok.st6, decide_eq_true ok.few4, decide_eq_true ok.turn1, decide_eq_true ok.turn4, ok.gdR, Bool.and_true, Bool.true_and]
  rw [List.all_eq_true.mpr fun v hv => decide_eq_true (ok.tbv v hv), List.all_eq_true.mpr fun v hv => decide_eq_true (ok.gdv v hv)]
  rfl
theorem tabE_of {es : List NE} {J : Jd} (hl : J.keys.length = J.tb.length) (h1 : es.map (·.1) = J.keys.map kJ) (h2 : es.map (·.2.2) = J.tb.map (fun n => V.int (n : Nat))) : TabE es J := by
  have key : ∀ (es : List NE) (ks : List (Nat × List Nat)) (tb : List Nat), ks.length = tb.length → es.map (·.1) = ks.map kJ → es.map (·.2.2) = tb.map (fun n => V.int (n : Nat)) → (es.map fun e => (e.1, e.2.2)) = ((ks.zip tb).map fun p => (kJ p.1, V.int (p.2 : Nat))) := by
    intro es
    induction es with
    | nil =>
      intro ks tb hl h1 h2
      cases ks with
      | nil => rfl
      | cons => cases h1
    | cons e es ih =>
      intro ks tb hl h1 h2
      cases ks with
      | nil => cases h1
      | cons k ks =>
        cases tb with
        | nil => cases hl
        | cons t tb =>
          rw [List.map_cons, List.map_cons] at h1 h2
          injection h1 with a1 a2
          injection h2 with b1 b2
          rw [List.map_cons, List.zip_cons_cons, List.map_cons, ih ks tb (by simpa using hl) a2 b2, a1, b1]
  exact key es J.keys J.tb hl h1 h2
theorem TabE.ek {es : List NE} {J : Jd} (h : TabE es J) (ok : J.Ok) : es.map (·.1) = J.keys.map kJ := by
  have q := congrArg (List.map Prod.fst) h
  rw [List.map_map, List.map_map] at q
  exact q.trans (tab_keys ok)
theorem TabE.ev {es : List NE} {J : Jd} (h : TabE es J) (ok : J.Ok) : es.map (·.2.2) = J.tb.map (fun n => V.int (n : Nat)) := by
  have q := congrArg (List.map Prod.snd) h
  rw [List.map_map, List.map_map] at q
  have e := zip_snd J.keys J.tb ok.klen
  calc es.map (·.2.2) = (J.tab.map (·.2)).map (fun n => V.int (n : Nat)) := by rw [List.map_map]; exact q
    _ = _ := by rw [Jd.tab, e]
theorem JN.form {w : World} {H : Hp} {J : Jd} {a d g : Addr} {es : List NE} (h : JN w H J a d g es) : JForm w H J a d g es :=
  { tup := h.tup, dic := h.dic, ks := h.ks, lst := h.lst, ek := fun _ => h.tab.ek h.ok, ev := fun _ => h.tab.ev h.ok, l3 := by have := h.ok.ls26; omega, st9 := by have := h.ok.st6; omega, few9 := by have := h.ok.few4; omega,
    turn9 := by have := h.ok.turn4; omega, tb6 := h.ok.size, tb9 := fun v hv => by have := h.ok.tbv v hv; have := h.ok.st6; omega, gd3 := by have := h.ok.gd6; omega }
theorem JForm.ok {w : World} {H : Hp} {J : Jd} {a d g : Addr} {es : List NE} (h : JForm w H J a d g es) (hb : J.okB = true) : J.Ok := by
  simp only [Jd.okB, Bool.and_eq_true, decide_eq_true_eq, List.all_eq_true] at hb
  obtain ⟨⟨⟨⟨⟨h1, h2, h3⟩, h4⟩, h5, h6⟩, h7⟩, h8, h9⟩ := hb
  have hl := h1
  simp only [lettersB, Bool.and_eq_true, List.all_eq_true] at hl
  obtain ⟨⟨l1, l2⟩, l3⟩ := hl
  have e1 := congrArg List.length (h.ek h1)
  have e2 := congrArg List.length (h.ev h1)
  rw [List.length_map, List.length_map] at e1 e2
  exact { ls1 := fun z => by rw [z] at l1; simp at l1, lsL := l2, lsR := l3, st1 := h2, st6 := h3, few4 := h4, turn1 := h5, turn4 := h6, tbl := by rw [← e2, e1, Jd.keys, keysL_len], size := h.tb6, tbv := h7, gdv := h8, gdR := h9 }
theorem JForm.jn {w : World} {H : Hp} {J : Jd} {a d g : Addr} {es : List NE} (h : JForm w H J a d g es) (hb : J.okB = true) : JN w H J a d g es :=
  { tup := h.tup, dic := h.dic, ks := h.ks, lst := h.lst, ok := h.ok hb, tab := tabE_of (h.ok hb).klen (h.ek (h.ok hb).letters) (h.ev (h.ok hb).letters) }
/-! displays of triples -/
abbrev T3 := Int × Int × Int
abbrev SzV (H : Hp) (vs : List V) (l : List T3) : Prop := Paired (fun v (x : T3) => ∃ t, v = .ref t ∧ H t = some (.tup [.int x.1, .int x.2.1, .int x.2.2])) vs l
theorem SzV.stay {H H' : Hp} {vs : List V} {l : List T3} (h : SzV H vs l) (ht : ∀ b xs, H b = some (.tup xs) → H' b = some (.tup xs)) : SzV H' vs l := Paired.mapP h fun _ _ ⟨t, e, k⟩ => ⟨t, e, ht _ _ k⟩
theorem SzV.app {H : Hp} {vs ws : List V} {rs qs : List T3} (h : SzV H vs rs) (g : SzV H ws qs) : SzV H (vs ++ ws) (rs ++ qs) := by
  induction h with
  | nil => exact g
  | cons a _ ih => exact .cons a ih
theorem nodup_not_take {α : Type} {l : List α} (hn : l.Nodup) {i : Nat} {c : α} (h : l[i]? = some c) : c ∉ l.take i := by
  intro hm
  obtain ⟨hi, e⟩ := List.getElem?_eq_some_iff.mp h
  have e2 : l = l.take i ++ c :: l.drop (i + 1) := by
    conv => lhs; rw [← List.take_append_drop i l, List.drop_eq_getElem_cons hi, e]
  rw [e2, List.nodup_append] at hn
  exact hn.2.2 c hm c List.mem_cons_self rfl
theorem nat_sum (r : List Nat) : ((r.map fun n : Nat => (n : Int)).sum) = ((r.sum : Nat) : Int) := by
  induction r with
  | nil => rfl
  | cons x r ih => rw [List.map_cons, List.sum_cons, List.sum_cons, ih]; omega
def GoodT (x : T3) : Prop := 1 ≤ x.1 ∧ x.1 ≤ 6 ∧ 0 ≤ x.2.1 ∧ x.2.1 ≤ 4 ∧ 1 ≤ x.2.2 ∧ x.2.2 ≤ 4 ∧ (x.2.1.toNat + x.2.2.toNat) ^ x.1.toNat ≤ 600
instance (x : T3) : Decidable (GoodT x) := by unfold GoodT; exact inferInstance
theorem cut_last (l : List Nat) : cutS (txS l) none (some (-1)) = txS l.dropLast := by
  unfold cutS
  rw [HT.sIx_none, txS_len]
  have e : HT.sIx l.length l.length (some (-1)) = l.length - 1 := by
    show (if (-1 : Int) < 0 then ((-1 : Int) + (l.length : Int)).toNat else min (-1 : Int).toNat l.length) = _
    rw [if_pos (by decide)]
    omega
  have e0 : HT.sIx l.length 0 none = 0 := rfl
  have e1 : (txS l).cps.toList = l := by simp
  rw [e, e1, List.drop_zero, Nat.sub_zero, List.dropLast_eq_take]
section
variable {P : Program} {w : World} {K : PySem.W.Frag} {mg : Str → Option Value} {base : Heap}
def sizes1 : List T3 := [(2, 1, 1), (3, 1, 1), (2, 0, 2), (1, 0, 1), (2, 2, 1)]
def sizes2 : List T3 := [(3, 0, 2), (2, 1, 2), (1, 4, 4), (3, 0, 1), (2, 4, 1)]
def sizes3 : List T3 := [(3, 2, 1), (4, 1, 1), (5, 1, 1), (6, 1, 1), (4, 0, 2), (3, 1, 2), (2, 4, 4), (4, 2, 2), (3, 4, 4)]
def sizes4 : List T3 := [(2, 0, 3), (2, 3, 1), (1, 3, 3)]
abbrev J9put (w : World) (K : PySem.W.Frag) : TS := sNPut w (tVar 8) (tTup (tCons (tVar 9) (tCons (tVar 11) tNil)))
                      (tOp (rIxL K)
                        (tLst
                          (tCons (tCall sp__law_take [] E0 (tCons (tVar 0) (tCons (tVar 3) tNil)))
                            (tCons
                              (tOp (rI (fun x j => 0 < j) fun i j => V.int (i % j))
                                (tCB (rSumT K) (tCons (tVar 11) tNil)) (tVar 3))
                              (tCons
                                (tCB
                                  (fun xs H Q => ∃ i j, xs = [V.int i, V.int j] ∧ Q (V.int (if j < i then j else i)) H)
                                  (tCons (tOp (rI0 fun i j => V.int (i - j)) (tVar 3) (tC (V.int 1)))
                                    (tCons (tCB (rSumT K) (tCons (tVar 11) tNil)) tNil)))
                                tNil))))
                        (tVar 10))
abbrev J9row (w : World) (K : PySem.W.Frag) : TS := tSeq (tAsg (tCall sp__law_take [] E0 (tCons (tVar 0) (tCons (tC (V.int 3)) tNil))) (gName 10)) (tFor (iList K (tVar 7)) (gName 11) (J9put w K))
theorem StoreAt.new {H : Hp} {st p : Addr} {o : HO} (h : StoreAt H st) (n : H p = none) : StoreAt (upd H p o) st := by
  obtain ⟨a, b, c, e⟩ := h
  exact ⟨a, b, c, by rw [upd_ne (ne_of_none e n)]; exact e⟩
theorem StoreAt.ne {H : Hp} {st p : Addr} (h : StoreAt H st) (n : H p = none) : p ≠ st := fun z => by
  obtain ⟨a, b, c, e⟩ := h
  rw [z, e] at n
  cases n
theorem StoreAt.oth {H : Hp} {st p : Addr} {o : HO} (h : StoreAt H st) (n : p ≠ st) : StoreAt (upd H p o) st := by
  obtain ⟨a, b, c, e⟩ := h
  exact ⟨a, b, c, by rw [upd_ne (Ne.symm n)]; exact e⟩
theorem j9_put {J : Ends} {st md pr pd : Addr} {sm : Bool} {s fw u : Nat} {l r : List Nat} {c : Nat} {kd : Int} {y : V} {H : Hp} {es : List NE} (hs1 : 1 ≤ s) (hs6 : s ≤ 6) (hst : StoreAt H st) (hps : pd ≠ st) (hk0 : 0 ≤ kd) (hk1 : kd < 3)
    (hy : NKv H (kR r) y) (hd : H pd = some (ndO w pd es)) (hk : NKeys H es) (hes : es.length < sizeLine)
    (k : ∀ (H' : Hp) (b : Addr) (v : Nat), Keep [st] H H' → StoreAt H' st → H' pd = some (ndO w pd es) → NKeys H' es → NKv H' (kJ (c, r)) (.ref b) → v < s → J.nx [some (.ref st), some (.bl sm), some (.ref md), some (.int (s : Nat)), some (.int (fw : Nat)), some (.int (u : Nat)), some (tx l), some (.ref pr), some (.ref pd), some (tx [c]), some (.int kd), some y, none, none] (upd H' pd (ndO w pd (putN es (kJ (c, r)) b (.int (v : Nat)))))) :
    J9put w K J [some (.ref st), some (.bl sm), some (.ref md), some (.int (s : Nat)), some (.int (fw : Nat)), some (.int (u : Nat)), some (tx l), some (.ref pr), some (.ref pd), some (tx [c]), some (.int kd), some y, none, none] H := by
  obtain ⟨a, rfl, ha⟩ := row_of hy
  walk_at "rd"
  refine ⟨st, _, rfl, hst, by omega, by omega, fun H1 q K1 hst1 h0 h1 => ?_⟩
  have ha1 := K1.tup _ _ ha
  walk_at "rd"
  have eR : (r.map fun n : Nat => V.int (n : Int)) = (r.map fun n : Nat => (n : Int)).map V.int := by rw [List.map_map]; rfl
  refine ⟨a, _, rfl, SqT.of (by rw [← eR]; exact ha1), ?_⟩
  walk_at "rd"
  refine ⟨a, _, rfl, SqT.of (by rw [← eR]; exact ha1), ?_⟩
  walk_at "rd"
  refine ⟨_, _, rfl, ?_⟩
  walk_at "rd"
  refine ⟨(by walk_at "sz"), fun p np => ?_⟩
  generalize e2 : upd H1 p _ = H2
  obtain ⟨S2, hp2⟩ := newF np e2
  obtain ⟨v, hv, hvs⟩ : ∃ v : Nat, atI [V.int q, V.int ((r.map fun n : Nat => (n : Int)).sum % (s : Int)), V.int (if (r.map fun n : Nat => (n : Int)).sum < (s : Int) - 1 then (r.map fun n : Nat => (n : Int)).sum else (s : Int) - 1)] kd = some (.int (v : Nat)) ∧ v < s := by
    rw [nat_sum]
    obtain rfl | rfl | rfl : kd = 0 ∨ kd = 1 ∨ kd = 2 := by omega
    · exact ⟨q.toNat, by show some (V.int q) = _; congr 2; omega, by omega⟩
    · exact ⟨r.sum % s, by show some (V.int ((r.sum : Int) % (s : Int))) = _; congr 2, Nat.mod_lt _ (by omega)⟩
    · by_cases hlt : ((r.sum : Nat) : Int) < (s : Int) - 1
      · exact ⟨r.sum, by rw [if_pos hlt]; rfl, by omega⟩
      · exact ⟨s - 1, by rw [if_neg hlt]; show some (V.int ((s : Int) - 1)) = _; congr 2; omega, by omega⟩
  walk_at "rd"
  refine ⟨_, _, _, _, rfl, rfl, SqL.of hp2, hv, ?_⟩
  walk_at "rd"
  refine ⟨(by walk_at "sz"), fun b nb => ?_⟩
  generalize e3 : upd H2 b _ = H3
  obtain ⟨S3, hb3⟩ := newF nb e3
  have hd1 : H1 pd = some (ndO w pd es) := K1.but pd _ (by simpa using hps) hd
  have hd3 := S3 _ _ (S2 _ _ hd1)
  have T3 : ∀ b xs, H b = some (.tup xs) → H3 b = some (.tup xs) := fun b xs e => S3 _ _ (S2 _ _ (K1.tup _ _ e))
  have hk3 : NKeys H3 es := hk.stay T3
  have hst3 : StoreAt H3 st := by rw [← e3]; refine StoreAt.new ?_ nb; rw [← e2]; exact hst1.new np
  have hkey : NKv H3 (kJ (c, r)) (.ref b) := keyJ_mk hb3 (hy.stay T3)
  exact ⟨pd, es, _, b, rfl, rfl, hd3, hk3, hkey, by rw [kJ_depth]; decide, hes, k H3 b v ((K1.trans (Same.keep S2)).trans (Same.keep S3)) hst3 hd3 hk3 hkey hvs⟩
theorem key_new {l : List Nat} {m s i j c : Nat} {r : List Nat} (hN : l.Nodup) (hc : l[i]? = some c) (hr : (rowsL m s)[j]? = some r) : (c, r) ∉ keysL (l.take i) m s ++ ((rowsL m s).take j).map fun r => (c, r) := by
  intro h
  rcases List.mem_append.mp h with h | h
  · exact nodup_not_take hN hc (keysL_mem.mp h).1
  · obtain ⟨r', hr', e⟩ := List.mem_map.mp h
    exact nodup_not_take (rowsL_nodup m s) hr ((Prod.mk.inj e).2 ▸ hr')
theorem j9_row {J : Ends} {st md pr pd : Addr} {sm : Bool} {s fw u : Nat} {l : List Nat} {c : Nat} {x10 x11 : Option V} {H0 H : Hp} {es : List NE} {tb : List Nat} {i : Nat} {ws : List V} (hs1 : 1 ≤ s) (hs6 : s ≤ 6) (hst : StoreAt H st) (hps : pd ≠ st) (hprst : pr ≠ st)
    (K0 : Keep [st] H0 H) (npd : H0 pd = none) (hrows : RowsV H0 ws (rowsL (fw + u) s)) (hpr : H0 pr = some (.lst ws)) (hN : l.Nodup) (hc : l[i]? = some c) (hbig : l.length * (fw + u) ^ s ≤ 600)
    (hd : H pd = some (ndO w pd es)) (hk : NKeys H es) (he1 : es.map (·.1) = (keysL (l.take i) (fw + u) s).map kJ) (he2 : es.map (·.2.2) = tb.map (fun n => V.int (n : Nat))) (hv : ∀ v ∈ tb, v < s)
    (k : ∀ (H' : Hp) (x10 x11 : Option V) (es : List NE) (tb : List Nat), Keep [st] H0 H' → StoreAt H' st → H' pd = some (ndO w pd es) → NKeys H' es → es.map (·.1) = (keysL (l.take (i + 1)) (fw + u) s).map kJ → es.map (·.2.2) = tb.map (fun n => V.int (n : Nat)) → (∀ v ∈ tb, v < s) →
      J.nx [some (.ref st), some (.bl sm), some (.ref md), some (.int (s : Nat)), some (.int (fw : Nat)), some (.int (u : Nat)), some (tx l), some (.ref pr), some (.ref pd), some (tx [c]), x10, x11, none, none] H') :
    J9row w K J [some (.ref st), some (.bl sm), some (.ref md), some (.int (s : Nat)), some (.int (fw : Nat)), some (.int (u : Nat)), some (tx l), some (.ref pr), some (.ref pd), some (tx [c]), x10, x11, none, none] H := by
  walk_at "rd"
  refine ⟨st, 3, rfl, hst, by decide, by decide, fun H8 kd K8 hst8 hk0 hk1 => ?_⟩
  walk_at "rd"
  have K08 := K0.trans K8
  have hd8 : H8 pd = some (ndO w pd es) := K8.but pd _ (by simpa using hps) hd
  have hpr8 : H8 pr = some (.lst ws) := K08.but pr _ (by simpa using hprst) hpr
  refine ⟨⟨_, SqL.of hpr8⟩, ?_⟩
  refine for_it (walk_list (xs := ws)) (fun j σ H' => ∃ (x11 : Option V) (es : List NE) (tb : List Nat), σ = [some (.ref st), some (.bl sm), some (.ref md), some (.int (s : Nat)), some (.int (fw : Nat)), some (.int (u : Nat)), some (tx l), some (.ref pr), some (.ref pd), some (tx [c]), some (.int kd), x11, none, none] ∧
    Keep [st] H0 H' ∧ StoreAt H' st ∧ H' pd = some (ndO w pd es) ∧ NKeys H' es ∧ es.map (·.1) = (keysL (l.take i) (fw + u) s ++ ((rowsL (fw + u) s).take j).map fun r => (c, r)).map kJ ∧ es.map (·.2.2) = tb.map (fun n => V.int (n : Nat)) ∧ ∀ v ∈ tb, v < s)
    ⟨x11, es, tb, rfl, K08, hst8, hd8, hk.stay K8.tup, by simpa using he1, he2, hv⟩ (fun j σ H' _ ⟨_, _, _, _, K9, _⟩ => SqL.of (K9.but pr _ (by simpa using hprst) hpr)) ?_ ?_
  · rintro j y σ H9 H10 hj ⟨x11, es, tb, rfl, K9, hst9, hd9, hk9, he1, he2, hv9⟩ ⟨rfl, hy⟩
    obtain ⟨r, hr, hyr⟩ := paired_get hrows hy
    have hnew : atN es (kJ (c, r)) = none := atN_none (by
      rw [he1]
      intro hm
      obtain ⟨p, hp, e⟩ := List.mem_map.mp hm
      rw [kJ_inj e] at hp
      exact key_new (m := fw + u) (s := s) hN hc hr hp)
    have hrl : (rowsL (fw + u) s).length = (fw + u) ^ s := rowsL_len _ _
    have hil : i < l.length := (List.getElem?_eq_some_iff.mp hc).1
    have hjl : j < (rowsL (fw + u) s).length := (List.getElem?_eq_some_iff.mp hr).1
    have hlen : es.length < sizeLine := by
      have e := congrArg List.length he1
      rw [List.length_map, List.length_map, List.length_append, keysL_len, List.length_map, List.length_take, List.length_take, Nat.min_eq_left (by omega), Nat.min_eq_left (by omega)] at e
      have h2 := Nat.mul_le_mul_right ((fw + u) ^ s) (show i + 1 ≤ l.length by omega)
      rw [Nat.succ_mul] at h2
      rw [e]
      exact Nat.lt_of_lt_of_le (show _ < 601 by omega) (by decide)
    show J9put w K _ _ _
    refine j9_put hs1 hs6 hst9 hps hk0 hk1 (hyr.stay K9.tup) hd9 hk9 hlen fun H' b v Kp hst' hd' hk' hkey hvs => ?_
    have K' := (K9.trans Kp)
    refine ⟨_, _, tb ++ [v], rfl, K'.own npd, hst'.oth hps, upd_same, ?_, ?_, ?_, ?_⟩
    · refine (hk'.put hkey (by rw [kJ_depth]; decide)).stay fun b xs e => ?_
      rw [upd_ne (ne_of e hd' (fun z => nomatch z))]
      exact e
    · rw [putN_new _ _ hnew, List.map_append, he1, List.take_succ, hr]
      simp
    · rw [putN_new _ _ hnew, List.map_append, he2, List.map_append]
      rfl
    · intro x hx
      rcases List.mem_append.mp hx with hx | hx
      · exact hv9 x hx
      · rw [List.mem_singleton.mp hx]; exact hvs
  · rintro σ H9 ⟨x11, es, tb, rfl, K9, hst9, hd9, hk9, he1, he2, hv9⟩
    refine k H9 _ _ es tb K9 hst9 hd9 hk9 ?_ he2 hv9
    rw [he1, Paired.length hrows, List.take_length, List.take_succ, hc, keysL, keysL, List.flatMap_append]
    simp
theorem j9_tail {J : Ends} {st md pr : Addr} {sm : Bool} {s fw u : Nat} {l : List Nat} {H : Hp} {ws : List V} (hs1 : 1 ≤ s) (hs6 : s ≤ 6) (hfw : fw ≤ 4) (hu1 : 1 ≤ u) (hu4 : u ≤ 4) (hst : StoreAt H st) (hprst : pr ≠ st)
    (hrows : RowsV H ws (rowsL (fw + u) s)) (hpr : H pr = some (.lst ws)) (hl : LetR l) (hbig : l.length * (fw + u) ^ s ≤ 600)
    (k : ∀ (H' : Hp) (Jd : Jd) (a d g : Addr) (es : List NE), Keep [st] H H' → StoreAt H' st → H d = none → H g = none → d ≠ g → JN w H' Jd a d g es → J.rt (.ref a) H') :
    (tSeq (tAsg (tNNew w) (gName 8))
            (tSeq
              (tFor (iStr (tVar 6)) (gName 9)
                (tSeq (tAsg (tCall sp__law_take [] E0 (tCons (tVar 0) (tCons (tC (V.int 3)) tNil))) (gName 10))
                  (tFor (iList K (tVar 7)) (gName 11)
                    (J9put w K))))
              (tSeq
                (tAsg
                  (tLc (iRng1 (tCons (tVar 3) tNil)) (gName 13)
                    (tTest
                      (tOp rEq (tCall sp__law_take [] E0 (tCons (tVar 0) (tCons (tC (V.int 2)) tNil))) (tC (V.int 0))))
                    (tVar 13) (List.map (fun x => x.snd) [(Str.ofString "state", 13)]))
                  (gName 12))
                (tRet
                  (tTup
                    (tCons (tVar 6)
                      (tCons (tVar 3) (tCons (tVar 4) (tCons (tVar 5) (tCons (tVar 8) (tCons (tVar 12) tNil))))))))))) J [some (.ref st), some (.bl sm), some (.ref md), some (.int (s : Nat)), some (.int (fw : Nat)), some (.int (u : Nat)), some (tx l), some (.ref pr), none, none, none, none, none, none] H := by
  obtain ⟨hl1, hl2, hl3, hl4⟩ := hl
  have hlN : l.Nodup := riseB_nodup hl3
  walk_at "rd"
  refine fun pd npd => ?_
  generalize e6 : upd H pd _ = H6
  obtain ⟨S6, hd6⟩ := newF npd e6
  have hst6 : StoreAt H6 st := by rw [← e6]; exact hst.new npd
  have hdst : pd ≠ st := hst.ne npd
  have hdpr : pr ≠ pd := ne_of_none hpr npd
  walk_at "rd"
  have hat : ∀ i : Nat, (txS l).cps[i]? = l[i]? := fun i => by show l.toArray[i]? = _; simp
  refine for_it walk_str (fun i σ H' => ∃ (x9 x10 x11 : Option V) (es : List NE) (tb : List Nat), σ = [some (.ref st), some (.bl sm), some (.ref md), some (.int (s : Nat)), some (.int (fw : Nat)), some (.int (u : Nat)), some (tx l), some (.ref pr), some (.ref pd), x9, x10, x11, none, none] ∧
    Keep [st] H H' ∧ StoreAt H' st ∧ H' pd = some (ndO w pd es) ∧ NKeys H' es ∧ es.map (·.1) = (keysL (l.take i) (fw + u) s).map kJ ∧ es.map (·.2.2) = tb.map (fun n => V.int (n : Nat)) ∧ ∀ v ∈ tb, v < s)
    ⟨none, none, none, [], [], rfl, Same.keep S6, hst6, hd6, NKeys.nil, rfl, rfl, fun v hv => nomatch hv⟩ (fun _ _ _ _ _ => trivial) ?_ ?_
  · rintro i y σ H7 H8 hi ⟨x9, x10, x11, es, tb, rfl, K7, hst7, hd7, hk7, he1, he2, hv7⟩ ⟨rfl, c, hc, rfl⟩
    rw [hat] at hc
    show J9row w K _ _ _
    refine j9_row hs1 hs6 hst7 hdst hprst K7 npd hrows hpr hlN hc hbig hd7 hk7 he1 he2 hv7 fun H' y10 y11 es' tb' K' hst' hd' hk' he1' he2' hv' => ?_
    exact ⟨_, _, _, es', tb', rfl, K', hst', hd', hk', he1', he2', hv'⟩
  · rintro σ H7 ⟨x9, x10, x11, es, tb, rfl, K7, hst7, hd7, hk7, he1, he2, hv7⟩
    have hcs : (txS l).cps.size = l.length := by simp
    rw [hcs, List.take_length] at he1
    walk_at "rd"
    refine ⟨by omega, by omega, ?_⟩
    refine fun D nD => lc_range (lo := 0) (n := s) (fun i H' => Keep [st] H7 H' ∧ StoreAt H' st ∧ ∃ gd : List Nat, gd.Pairwise (· < ·) ∧ (∀ v ∈ gd, v < i) ∧ gd.length ≤ i ∧ H' D = some (.lst (gd.map fun n => V.int (n : Nat)))) ⟨(Keep.refl _ _).updNew nD, hst7.new nD, [], .nil, (fun v hv => nomatch hv), Nat.zero_le _, upd_same⟩ ?_ ?_
    · rintro i H8 hi ⟨K8, hst8, gd, hg1, hg2, hg3, hD8⟩
      have hDst : D ≠ st := hst7.ne nD
      walk_at "rd"
      refine ⟨st, 2, rfl, hst8, by decide, by decide, fun H9 r K9 hst9 h0 h1 => ?_⟩
      have hD9 : H9 D = _ := K9.but D _ (by simpa using hDst) hD8
      walk_at "rd"
      show if decide (V.int r = V.int 0) = true then _ else _
      split
      · walk_at "rd"
        refine ⟨_, hD9, ?_, ((K8.trans K9).own nD), hst9.oth hDst, gd ++ [i], ?_, ?_, ?_, ?_⟩
        · rw [List.length_map]
          exact Nat.lt_of_lt_of_le (show _ < 7 by omega) (by decide)
        · rw [List.pairwise_append]
          exact ⟨hg1, by simp, fun a ha b hb => by rw [List.mem_singleton.mp hb]; exact hg2 a ha⟩
        · intro v hv
          rcases List.mem_append.mp hv with hv | hv
          · exact Nat.lt_succ_of_lt (hg2 v hv)
          · rw [List.mem_singleton.mp hv]; exact Nat.lt_succ_self _
        · rw [List.length_append]; exact Nat.succ_le_succ hg3
        · rw [upd_same, List.map_append]
          show some (HO.lst (_ ++ [V.int (0 + (i : Int))])) = _
          rw [Int.zero_add]
          rfl
      · exact ⟨K8.trans K9, hst9, gd, hg1, fun v hv => Nat.lt_succ_of_lt (hg2 v hv), by omega, hD9⟩
    · rintro H8 ⟨K8, hst8, gd, hg1, hg2, hg3, hD8⟩
      have hd8 : H8 pd = _ := K8.but pd _ (by simpa using hdst) hd7
      walk_at "rd"
      refine ⟨(by show 6 ≤ sizeLine; decide), fun a na => ?_⟩
      generalize e9 : upd H8 a _ = H9
      obtain ⟨S9, ha9⟩ := newF na e9
      have el : es.length = l.length * (fw + u) ^ s := by
        have e := congrArg List.length he1
        rwa [List.length_map, List.length_map, keysL_len] at e
      have et : es.length = tb.length := by
        have e := congrArg List.length he2
        rwa [List.length_map, List.length_map] at e
      have hgn : H D = none := K7.some nD (by simpa using hst7.ne nD)
      refine k H9 ⟨l, s, fw, u, tb, gd⟩ a pd D es ((K7.trans K8).trans (Same.keep S9)) ?_ npd hgn (ne_of_none hd7 nD) ?_
      · rw [← e9]; exact hst8.new na
      · refine { tup := ha9, dic := S9 _ _ hd8, ks := (hk7.stay K8.tup).stay fun _ _ e => S9 _ _ e, lst := S9 _ _ hD8, tab := tabE_of ?_ he1 he2, ok := ?_ }
        · rw [Jd.keys, keysL_len]
          exact el.symm.trans et
        · exact { ls1 := hl1, lsL := hl2, lsR := hl3, st1 := hs1, st6 := hs6, few4 := hfw, turn1 := hu1, turn4 := hu4, tbl := et.symm.trans el, size := by show tb.length ≤ 600; rw [← et, el]; exact hbig, tbv := hv7, gdv := hg2, gdR := pair_riseB hg1 }
def sp__law_judge (w : World) : Sp := fun vs H Q _ => ∃ (s : Addr) (b : Bool), vs = [.ref s, .bl b] ∧ StoreAt H s ∧
  ∀ (H' : Hp) (J : Jd) (a d g : Addr) (es : List NE), Keep [s] H H' → StoreAt H' s → H d = none → H g = none → d ≠ g → JN w H' J a d g es → Q (.ref a) H'
end
end Hy
set_option Elab.async false
set_option linter.all false
set_option maxRecDepth 100000
set_option maxHeartbeats 1000000
namespace Hy
open PySem L2
local macro_rules | `(tactic| walk_at "hp") => `(tactic| first
  | assumption | exact upd_same
  | (refine (upd_ne ?_).trans ?_ <;> first | assumption | (exact Ne.symm (by assumption)) | walk_at "ne" | walk_at "hp")
  | (refine (by assumption : Same _ _) _ _ ?_; assumption))
local macro_rules | `(tactic| walk_at "ne") => `(tactic| first
  | assumption | (exact Ne.symm (by assumption))
  | exact ne_of_none (by assumption) (by assumption) | exact Ne.symm (ne_of_none (by assumption) (by assumption)))
local macro_rules | `(tactic| walk_at "sz") => `(tactic| first | assumption | (show 0 ≤ sizeLine; decide) | (show 1 ≤ sizeLine; decide) | (show 2 ≤ sizeLine; decide) | (show 3 ≤ sizeLine; decide))
local macro_rules | `(tactic| walk_at "ar") => `(tactic| first
  | ((with_reducible show (0 : Int) < _); first | decide | omega)
  | ((with_reducible show CMul _ _); first | exact Or.inr (And.intro (by decide) (by decide)) | exact Or.inl (And.intro (by decide) (by decide)) | (refine Or.inl (And.intro ?_ ?_) <;> omega) | (refine Or.inr (And.intro ?_ ?_) <;> omega))
  | ((with_reducible show CPow _ _); exact And.intro (by decide) (And.intro (by decide) (by decide)))
  | ((with_reducible show CDiv _ _); first | exact And.intro (by decide) (by decide) | (refine And.intro ?_ ?_ <;> omega)))
/- one step of a reading -/
local macro_rules | `(tactic| walk_at "r1") => `(tactic| first
  | refine ⟨_, rfl, ?_⟩
  | refine iteB (by rfl) ?_ | refine iteC (by rfl) ?_
  | refine ⟨_, _, rfl, rfl, ?_⟩
  | refine ⟨rfl, ?_⟩
  | refine ⟨⟨_, rfl⟩, ?_⟩
  | refine ⟨_, _, _, _, true, rfl, .ty _, .base (.str _), kit_ty (by decide +kernel), ?_⟩
  | refine ⟨_, _, _, _, false, rfl, .ty _, .base (.str _), kit_ty (by decide +kernel), ?_⟩
  | refine ⟨_, _, _, _, true, rfl, .ty _, .base (.int _), kit_ty (by decide +kernel), ?_⟩
  | refine ⟨_, _, _, _, false, rfl, .ty _, .base (.int _), kit_ty (by decide +kernel), ?_⟩
  | refine ⟨_, _, _, _, true, rfl, .ty _, .base (.tup (by walk_at "hp")), kit_ty (by decide +kernel), ?_⟩
  | refine ⟨_, _, _, _, false, rfl, .ty _, .base (.tup (by walk_at "hp")), kit_ty (by decide +kernel), ?_⟩
  | refine ⟨_, _, _, _, true, rfl, .ty _, .base (.lst (by walk_at "hp")), kit_ty (by decide +kernel), ?_⟩
  | refine ⟨_, _, _, _, false, rfl, .ty _, .base (.lst (by walk_at "hp")), kit_ty (by decide +kernel), ?_⟩
  | refine ⟨_, _, rfl, ⟨by walk_at "sz", rfl⟩, ?_⟩
  | refine ⟨_, _, _, _, rfl, rfl, SqT.of (by walk_at "hp"), by rfl, ?_⟩
  | refine ⟨_, _, _, _, rfl, rfl, SqL.of (by walk_at "hp"), by rfl, ?_⟩
  | refine ⟨.inl ⟨rfl, _, SqL.of (by walk_at "hp")⟩, ?_⟩
  | refine ⟨_, _, _, rfl, rfl, (by walk_at "hp"), snoc_get, ?_⟩
  | refine ⟨_, _, _, _, rfl, rfl, (by walk_at "hp"), by rfl, ?_⟩
  | refine ⟨_, _, rfl, SqL.of (by walk_at "hp"), ?_⟩
  | refine ⟨_, _, rfl, SqT.of (by walk_at "hp"), by rfl, ?_⟩
  | refine ⟨_, (_ : List V), rfl, ?_⟩
  | refine ⟨_, _, rfl, .inl ⟨_, (by assumption), rfl⟩, ?_⟩
  | refine ⟨_, _, rfl, .inl ⟨_, SqL.of (by walk_at "hp"), rfl⟩, ?_⟩
  | refine ⟨_, _, rfl, .inr ⟨_, SqT.of (by walk_at "hp"), rfl⟩, ?_⟩
  | refine Or.inl ⟨(_ : Int), rfl, ?_⟩ | refine Or.inr ⟨(_ : Bool), rfl, ?_⟩
  | refine ⟨_, _, _, _, true, rfl, (by assumption : ND _ _ _ _), .ty _, kit_ty (by decide +kernel), ?_⟩
  | refine ⟨_, _, _, _, false, rfl, (by assumption : ND _ _ _ _), .ty _, kit_ty (by decide +kernel), ?_⟩
  | refine ⟨_, _, rfl, (by assumption : ND _ _ _ _), ?_⟩
  | refine And.intro (by walk_at "ar") ?_)
local macro_rules | `(tactic| walk_at "rd") => `(tactic| repeat walk_at "r1")

section
variable {P : Program} {w : World} {K : PySem.W.Frag} {mg : Str → Option Value} {base : Heap}
theorem ok__law_judge (D : Df K mg "_law_judge" s__law_judge ["store", "small"]) (T : Txt K mg) (G__law_take : G' P w K mg base "_law_take" 1 ["store", "many"] sp__law_take) (G__law_letters : G' P w K mg base "_law_letters" 2 ["store"] sp__law_letters)
    (G__law_classes : G' P w K mg base "_law_classes" 1 ["many", "states"] sp__law_classes) : G' P w K mg base "_law_judge" 3 ["store", "small"] (sp__law_judge w) := by
  refine D.ok fun f fd F => F.okX sc__law_judge (fun vs H Q E h => ?_) (fun cdv A outer s H vs Q E hr h => ?_)
  · obtain ⟨s, b, rfl, _⟩ := h
    rfl
  · obtain ⟨st, sm, rfl, hst, k⟩ := h
    refine ⟨_, (pss_cons (ps_set (i := 2) sc__law_judge.nd rfl (by first | exact Or.inl rfl | exact Or.inr rfl) (pe_lst (pa_cons (pe_tup (pa_cons pe_int (pa_cons pe_int (pa_cons pe_int pa_nil)))) (pa_cons (pe_tup (pa_cons pe_int (pa_cons pe_int (pa_cons pe_int pa_nil)))) (pa_cons (pe_tup (pa_cons pe_int (pa_cons pe_int (pa_cons pe_int pa_nil)))) (pa_cons (pe_tup (pa_cons pe_int (pa_cons pe_int (pa_cons pe_int pa_nil)))) (pa_cons (pe_tup (pa_cons pe_int (pa_cons pe_int (pa_cons pe_int pa_nil)))) pa_nil)))))))
  (pss_cons (ps_set (i := 2) sc__law_judge.nd rfl (by first | exact Or.inl rfl | exact Or.inr rfl) (pe_op op_cat (pv 2) (pe_lst (pa_cons (pe_tup (pa_cons pe_int (pa_cons pe_int (pa_cons pe_int pa_nil)))) (pa_cons (pe_tup (pa_cons pe_int (pa_cons pe_int (pa_cons pe_int pa_nil)))) (pa_cons (pe_tup (pa_cons pe_int (pa_cons pe_int (pa_cons pe_int pa_nil)))) (pa_cons (pe_tup (pa_cons pe_int (pa_cons pe_int (pa_cons pe_int pa_nil)))) (pa_cons (pe_tup (pa_cons pe_int (pa_cons pe_int (pa_cons pe_int pa_nil)))) pa_nil))))))))
  (pss_cons (ps_set (i := 2) sc__law_judge.nd rfl (by first | exact Or.inl rfl | exact Or.inr rfl) (pe_op op_cat (pv 2) (pe_lst (pa_cons (pe_tup (pa_cons pe_int (pa_cons pe_int (pa_cons pe_int pa_nil)))) (pa_cons (pe_tup (pa_cons pe_int (pa_cons pe_int (pa_cons pe_int pa_nil)))) (pa_cons (pe_tup (pa_cons pe_int (pa_cons pe_int (pa_cons pe_int pa_nil)))) (pa_cons (pe_tup (pa_cons pe_int (pa_cons pe_int (pa_cons pe_int pa_nil)))) (pa_cons (pe_tup (pa_cons pe_int (pa_cons pe_int (pa_cons pe_int pa_nil)))) (pa_cons (pe_tup (pa_cons pe_int (pa_cons pe_int (pa_cons pe_int pa_nil)))) (pa_cons (pe_tup (pa_cons pe_int (pa_cons pe_int (pa_cons pe_int pa_nil)))) (pa_cons (pe_tup (pa_cons pe_int (pa_cons pe_int (pa_cons pe_int pa_nil)))) (pa_cons (pe_tup (pa_cons pe_int (pa_cons pe_int (pa_cons pe_int pa_nil)))) pa_nil))))))))))))
  (pss_cons (ps_set (i := 2) sc__law_judge.nd rfl (by first | exact Or.inl rfl | exact Or.inr rfl) (pe_op op_cat (pv 2) (pe_lst (pa_cons (pe_tup (pa_cons pe_int (pa_cons pe_int (pa_cons pe_int pa_nil)))) (pa_cons (pe_tup (pa_cons pe_int (pa_cons pe_int (pa_cons pe_int pa_nil)))) (pa_cons (pe_tup (pa_cons pe_int (pa_cons pe_int (pa_cons pe_int pa_nil)))) pa_nil))))))
  (pss_cons (ps_asg (pe_ix (ix_listK K) (pv 2) (pe_cl G__law_take (hr.mono (by omega)) passF (pa_cons (pv 0) (pa_cons (pe_ix (ix_listK K) (pe_lst (pa_cons pe_int (pa_cons pe_int pa_nil))) (pe_callTy call_int1 (by rfl) T.n_int (by decide +kernel) (pa_cons (pv 1) pa_nil)) (fun _ _ => rfl)) pa_nil))) (fun _ _ => rfl)) (pg_tup (by rfl) (pgs_cons (pg_name (i := 3) sc__law_judge.nd rfl (by first | exact Or.inl rfl | exact Or.inr rfl)) (pgs_cons (pg_name (i := 4) sc__law_judge.nd rfl (by first | exact Or.inl rfl | exact Or.inr rfl)) (pgs_cons (pg_name (i := 5) sc__law_judge.nd rfl (by first | exact Or.inl rfl | exact Or.inr rfl)) pgs_nil)))))
  (pss_cons (ps_set (i := 6) sc__law_judge.nd rfl (by first | exact Or.inl rfl | exact Or.inr rfl) (pe_cl G__law_letters (hr.mono (by omega)) passF (pa_cons (pv 0) pa_nil)))
  (pss_cons (ps_set (i := 7) sc__law_judge.nd rfl (by first | exact Or.inl rfl | exact Or.inr rfl) (pe_cl G__law_classes (hr.mono (by omega)) passF (pa_cons (pe_op op_add (pv 4) (pv 5)) (pa_cons (pv 3) pa_nil))))
  (pss_cons (ps_while (passes_of rfl) (pt_cmpR op_gt (pe_op op_mul (pe_callB (call_lenK K) (by rfl) T.n_len PySem.boot_len (pa_cons (pv 6) pa_nil)) (pe_callB (call_lenK K) (by rfl) T.n_len PySem.boot_len (pa_cons (pv 7) pa_nil))) pe_int (nomark _)) (pss_one (ps_set (i := 6) sc__law_judge.nd rfl (by first | exact Or.inl rfl | exact Or.inr rfl) (pe_slice sl_str (pv 6) po_none (po_some (pe_un un_neg pe_int))))))
  (pss_cons (ps_set (i := 8) sc__law_judge.nd rfl (by first | exact Or.inl rfl | exact Or.inr rfl) (pe_dnewN w))
  (pss_cons (ps_for (passes_of rfl) rfl (pi_str (pv 6)) (pg_name (i := 9) sc__law_judge.nd rfl (by first | exact Or.inl rfl | exact Or.inr rfl)) (pss_cons (ps_set (i := 10) sc__law_judge.nd rfl (by first | exact Or.inl rfl | exact Or.inr rfl) (pe_cl G__law_take (hr.mono (by omega)) passF (pa_cons (pv 0) (pa_cons pe_int pa_nil))))
  (pss_one (ps_for (passes_of rfl) rfl (pi_listK K (pv 7)) (pg_name (i := 11) sc__law_judge.nd rfl (by first | exact Or.inl rfl | exact Or.inr rfl)) (pss_one (ps_nput w hr (pe_ix (ix_listK K) (pe_lst (pa_cons (pe_cl G__law_take (hr.mono (by omega)) passF (pa_cons (pv 0) (pa_cons (pv 3) pa_nil))) (pa_cons (pe_op op_mod (pe_callB (cr_sumTK K rfl) (by rfl) T.n_sum (by decide +kernel) (pa_cons (pv 11) pa_nil)) (pv 3)) (pa_cons (pe_callB (call_min2 rfl) (by rfl) T.n_min (by decide +kernel) (pa_cons (pe_op op_sub (pv 3) pe_int) (pa_cons (pe_callB (cr_sumTK K rfl) (by rfl) T.n_sum (by decide +kernel) (pa_cons (pv 11) pa_nil)) pa_nil))) pa_nil)))) (pv 10) (fun _ _ => rfl)) (pv 8) (pe_tup (pa_cons (pv 9) (pa_cons (pv 11) pa_nil)))))))))
  (pss_cons (ps_setLc (i := 12) (own := [("state", 13)]) rfl sc__law_judge.nd rfl rfl (sw_true rfl rfl rfl (by decide +kernel)) (pi_range1 (by rfl) T.n_range (pa_cons (pv 3) pa_nil)) (blkOk_by (own := [("state", 13)]) (N := ["store", "small", "sizes", "states", "few", "turn", "letters", "rows", "table", "letter", "kind", "row", "good", "state"]) (sc := defScope s__law_judge) (by decide +kernel)) (fun _ _ _ _ _ => (pg_name (i := 13) sc__law_judge.nd rfl (by first | exact Or.inl rfl | exact Or.inr rfl))) (fun _ _ _ _ _ => (pts_one (pt_cmpR op_eq (pe_cl G__law_take (hr.mono (by omega)) passF (pa_cons (pv 0) (pa_cons pe_int pa_nil))) pe_int (nomark _)))) (fun _ _ _ _ _ => (pv 13)))
  (pss_one (ps_ret (pe_tup (pa_cons (pv 6) (pa_cons (pv 3) (pa_cons (pv 4) (pa_cons (pv 5) (pa_cons (pv 8) (pa_cons (pv 12) pa_nil)))))))))))))))))))), ?_⟩
    walk_at "rd"
    refine ⟨(by walk_at "sz"), fun ta0 na0 => ?_⟩
    generalize ea0 : upd H ta0 _ = Ha0
    obtain ⟨Sa0, ha0⟩ := newF na0 ea0
    walk_at "rd"
    refine ⟨(by walk_at "sz"), fun ta1 na1 => ?_⟩
    generalize ea1 : upd Ha0 ta1 _ = Ha1
    obtain ⟨Sa1, ha1⟩ := newF na1 ea1
    walk_at "rd"
    refine ⟨(by walk_at "sz"), fun ta2 na2 => ?_⟩
    generalize ea2 : upd Ha1 ta2 _ = Ha2
    obtain ⟨Sa2, ha2⟩ := newF na2 ea2
    walk_at "rd"
    refine ⟨(by walk_at "sz"), fun ta3 na3 => ?_⟩
    generalize ea3 : upd Ha2 ta3 _ = Ha3
    obtain ⟨Sa3, ha3⟩ := newF na3 ea3
    walk_at "rd"
    refine ⟨(by walk_at "sz"), fun ta4 na4 => ?_⟩
    generalize ea4 : upd Ha3 ta4 _ = Ha4
    obtain ⟨Sa4, ha4⟩ := newF na4 ea4
    walk_at "rd"
    refine ⟨(by show 5 ≤ sizeLine; decide), fun pa npa => ?_⟩
    generalize epa : upd Ha4 pa _ = Ga
    obtain ⟨SGa, hpa⟩ := newF npa epa
    have sza : SzV Ga [.ref ta0, .ref ta1, .ref ta2, .ref ta3, .ref ta4] sizes1 := (.cons ⟨ta0, rfl, (Sa1.trans (Sa2.trans (Sa3.trans (Sa4.trans SGa)))) _ _ ha0⟩ (.cons ⟨ta1, rfl, (Sa2.trans (Sa3.trans (Sa4.trans SGa))) _ _ ha1⟩ (.cons ⟨ta2, rfl, (Sa3.trans (Sa4.trans SGa)) _ _ ha2⟩ (.cons ⟨ta3, rfl, (Sa4.trans SGa) _ _ ha3⟩ (.cons ⟨ta4, rfl, SGa _ _ ha4⟩ .nil)))))
    have Ta : Same H Ga := (Sa0.trans (Sa1.trans (Sa2.trans (Sa3.trans (Sa4.trans SGa)))))
    clear ea0 ea1 ea2 ea3 ea4
    walk_at "rd"
    refine ⟨(by walk_at "sz"), fun tb0 nb0 => ?_⟩
    generalize eb0 : upd Ga tb0 _ = Hb0
    obtain ⟨Sb0, hb0⟩ := newF nb0 eb0
    walk_at "rd"
    refine ⟨(by walk_at "sz"), fun tb1 nb1 => ?_⟩
    generalize eb1 : upd Hb0 tb1 _ = Hb1
    obtain ⟨Sb1, hb1⟩ := newF nb1 eb1
    walk_at "rd"
    refine ⟨(by walk_at "sz"), fun tb2 nb2 => ?_⟩
    generalize eb2 : upd Hb1 tb2 _ = Hb2
    obtain ⟨Sb2, hb2⟩ := newF nb2 eb2
    walk_at "rd"
    refine ⟨(by walk_at "sz"), fun tb3 nb3 => ?_⟩
    generalize eb3 : upd Hb2 tb3 _ = Hb3
    obtain ⟨Sb3, hb3⟩ := newF nb3 eb3
    walk_at "rd"
    refine ⟨(by walk_at "sz"), fun tb4 nb4 => ?_⟩
    generalize eb4 : upd Hb3 tb4 _ = Hb4
    obtain ⟨Sb4, hb4⟩ := newF nb4 eb4
    walk_at "rd"
    refine ⟨(by show 5 ≤ sizeLine; decide), fun pb npb => ?_⟩
    generalize epb : upd Hb4 pb _ = Gb
    obtain ⟨SGb, hpb⟩ := newF npb epb
    have szb : SzV Gb [.ref tb0, .ref tb1, .ref tb2, .ref tb3, .ref tb4] sizes2 := (.cons ⟨tb0, rfl, (Sb1.trans (Sb2.trans (Sb3.trans (Sb4.trans SGb)))) _ _ hb0⟩ (.cons ⟨tb1, rfl, (Sb2.trans (Sb3.trans (Sb4.trans SGb))) _ _ hb1⟩ (.cons ⟨tb2, rfl, (Sb3.trans (Sb4.trans SGb)) _ _ hb2⟩ (.cons ⟨tb3, rfl, (Sb4.trans SGb) _ _ hb3⟩ (.cons ⟨tb4, rfl, SGb _ _ hb4⟩ .nil)))))
    have Tb : Same Ga Gb := (Sb0.trans (Sb1.trans (Sb2.trans (Sb3.trans (Sb4.trans SGb)))))
    clear eb0 eb1 eb2 eb3 eb4
    walk_at "rd"
    refine ⟨pa, pb, _, _, rfl, rfl, Tb _ _ hpa, hpb, (by show 10 ≤ sizeLine; decide), fun mb nmb => ?_⟩
    generalize emb : upd Gb mb _ = Mb
    obtain ⟨SMb, hmb⟩ := newF nmb emb
    have szMb : SzV Mb _ (sizes1 ++ sizes2) := ((sza.stay fun _ _ h => SMb _ _ (Tb _ _ h)).app (szb.stay fun _ _ h => SMb _ _ h))
    have TMb : Same H Mb := (Ta.trans Tb).trans SMb
    clear na0 Sa0 ha0 na1 Sa1 ha1 na2 Sa2 ha2 na3 Sa3 ha3 na4 Sa4 ha4 npa epa SGa hpa nb0 Sb0 hb0 nb1 Sb1 hb1 nb2 Sb2 hb2 nb3 Sb3 hb3 nb4 Sb4 hb4 npb epb SGb hpb sza szb Ta Tb nmb emb SMb
    walk_at "rd"
    refine ⟨(by walk_at "sz"), fun tc0 nc0 => ?_⟩
    generalize ec0 : upd Mb tc0 _ = Hc0
    obtain ⟨Sc0, hc0⟩ := newF nc0 ec0
    walk_at "rd"
    refine ⟨(by walk_at "sz"), fun tc1 nc1 => ?_⟩
    generalize ec1 : upd Hc0 tc1 _ = Hc1
    obtain ⟨Sc1, hc1⟩ := newF nc1 ec1
    walk_at "rd"
    refine ⟨(by walk_at "sz"), fun tc2 nc2 => ?_⟩
    generalize ec2 : upd Hc1 tc2 _ = Hc2
    obtain ⟨Sc2, hc2⟩ := newF nc2 ec2
    walk_at "rd"
    refine ⟨(by walk_at "sz"), fun tc3 nc3 => ?_⟩
    generalize ec3 : upd Hc2 tc3 _ = Hc3
    obtain ⟨Sc3, hc3⟩ := newF nc3 ec3
    walk_at "rd"
    refine ⟨(by walk_at "sz"), fun tc4 nc4 => ?_⟩
    generalize ec4 : upd Hc3 tc4 _ = Hc4
    obtain ⟨Sc4, hc4⟩ := newF nc4 ec4
    walk_at "rd"
    refine ⟨(by walk_at "sz"), fun tc5 nc5 => ?_⟩
    generalize ec5 : upd Hc4 tc5 _ = Hc5
    obtain ⟨Sc5, hc5⟩ := newF nc5 ec5
    walk_at "rd"
    refine ⟨(by walk_at "sz"), fun tc6 nc6 => ?_⟩
    generalize ec6 : upd Hc5 tc6 _ = Hc6
    obtain ⟨Sc6, hc6⟩ := newF nc6 ec6
    walk_at "rd"
    refine ⟨(by walk_at "sz"), fun tc7 nc7 => ?_⟩
    generalize ec7 : upd Hc6 tc7 _ = Hc7
    obtain ⟨Sc7, hc7⟩ := newF nc7 ec7
    walk_at "rd"
    refine ⟨(by walk_at "sz"), fun tc8 nc8 => ?_⟩
    generalize ec8 : upd Hc7 tc8 _ = Hc8
    obtain ⟨Sc8, hc8⟩ := newF nc8 ec8
    walk_at "rd"
    refine ⟨(by show 9 ≤ sizeLine; decide), fun pc npc => ?_⟩
    generalize epc : upd Hc8 pc _ = Gc
    obtain ⟨SGc, hpc⟩ := newF npc epc
    have szc : SzV Gc [.ref tc0, .ref tc1, .ref tc2, .ref tc3, .ref tc4, .ref tc5, .ref tc6, .ref tc7, .ref tc8] sizes3 := (.cons ⟨tc0, rfl, (Sc1.trans (Sc2.trans (Sc3.trans (Sc4.trans (Sc5.trans (Sc6.trans (Sc7.trans (Sc8.trans SGc)))))))) _ _ hc0⟩ (.cons ⟨tc1, rfl, (Sc2.trans (Sc3.trans (Sc4.trans (Sc5.trans (Sc6.trans (Sc7.trans (Sc8.trans SGc))))))) _ _ hc1⟩ (.cons ⟨tc2, rfl, (Sc3.trans (Sc4.trans (Sc5.trans (Sc6.trans (Sc7.trans (Sc8.trans SGc)))))) _ _ hc2⟩ (.cons ⟨tc3, rfl, (Sc4.trans (Sc5.trans (Sc6.trans (Sc7.trans (Sc8.trans SGc))))) _ _ hc3⟩ (.cons ⟨tc4, rfl, (Sc5.trans (Sc6.trans (Sc7.trans (Sc8.trans SGc)))) _ _ hc4⟩ (.cons ⟨tc5, rfl, (Sc6.trans (Sc7.trans (Sc8.trans SGc))) _ _ hc5⟩ (.cons ⟨tc6, rfl, (Sc7.trans (Sc8.trans SGc)) _ _ hc6⟩ (.cons ⟨tc7, rfl, (Sc8.trans SGc) _ _ hc7⟩ (.cons ⟨tc8, rfl, SGc _ _ hc8⟩ .nil)))))))))
    have Tc : Same Mb Gc := (Sc0.trans (Sc1.trans (Sc2.trans (Sc3.trans (Sc4.trans (Sc5.trans (Sc6.trans (Sc7.trans (Sc8.trans SGc)))))))))
    clear ec0 ec1 ec2 ec3 ec4 ec5 ec6 ec7 ec8
    walk_at "rd"
    refine ⟨mb, pc, _, _, rfl, rfl, Tc _ _ hmb, hpc, (by show 19 ≤ sizeLine; decide), fun mc nmc => ?_⟩
    generalize emc : upd Gc mc _ = Mc
    obtain ⟨SMc, hmc⟩ := newF nmc emc
    have szMc : SzV Mc _ (sizes1 ++ sizes2 ++ sizes3) := ((szMb.stay fun _ _ h => SMc _ _ (Tc _ _ h)).app (szc.stay fun _ _ h => SMc _ _ h))
    have TMc : Same H Mc := (TMb.trans Tc).trans SMc
    clear nc0 Sc0 hc0 nc1 Sc1 hc1 nc2 Sc2 hc2 nc3 Sc3 hc3 nc4 Sc4 hc4 nc5 Sc5 hc5 nc6 Sc6 hc6 nc7 Sc7 hc7 nc8 Sc8 hc8 npc epc SGc hpc szMb szc TMb Tc nmc emc SMc hmb
    walk_at "rd"
    refine ⟨(by walk_at "sz"), fun td0 nd0 => ?_⟩
    generalize ed0 : upd Mc td0 _ = Hd0
    obtain ⟨Sd0, hd0⟩ := newF nd0 ed0
    walk_at "rd"
    refine ⟨(by walk_at "sz"), fun td1 nd1 => ?_⟩
    generalize ed1 : upd Hd0 td1 _ = Hd1
    obtain ⟨Sd1, hd1⟩ := newF nd1 ed1
    walk_at "rd"
    refine ⟨(by walk_at "sz"), fun td2 nd2 => ?_⟩
    generalize ed2 : upd Hd1 td2 _ = Hd2
    obtain ⟨Sd2, hd2⟩ := newF nd2 ed2
    walk_at "rd"
    refine ⟨(by show 3 ≤ sizeLine; decide), fun pd npd => ?_⟩
    generalize epd : upd Hd2 pd _ = Gd
    obtain ⟨SGd, hpd⟩ := newF npd epd
    have szd : SzV Gd [.ref td0, .ref td1, .ref td2] sizes4 := (.cons ⟨td0, rfl, (Sd1.trans (Sd2.trans SGd)) _ _ hd0⟩ (.cons ⟨td1, rfl, (Sd2.trans SGd) _ _ hd1⟩ (.cons ⟨td2, rfl, SGd _ _ hd2⟩ .nil)))
    have Td : Same Mc Gd := (Sd0.trans (Sd1.trans (Sd2.trans SGd)))
    clear ed0 ed1 ed2
    walk_at "rd"
    refine ⟨mc, pd, _, _, rfl, rfl, Td _ _ hmc, hpd, (by show 22 ≤ sizeLine; decide), fun md nmd => ?_⟩
    generalize emd : upd Gd md _ = Md
    obtain ⟨SMd, hmd⟩ := newF nmd emd
    have szMd : SzV Md _ (sizes1 ++ sizes2 ++ sizes3 ++ sizes4) := ((szMc.stay fun _ _ h => SMd _ _ (Td _ _ h)).app (szd.stay fun _ _ h => SMd _ _ h))
    have TMd : Same H Md := (TMc.trans Td).trans SMd
    clear nd0 Sd0 hd0 nd1 Sd1 hd1 nd2 Sd2 hd2 npd epd SGd hpd szMc szd TMc Td nmd emd SMd hmc
    walk_at "rd"
    have hst1 : StoreAt Md st := by
      obtain ⟨a, b, c, e⟩ := hst
      exact ⟨a, b, c, TMd _ _ e⟩
    refine ⟨(by walk_at "sz"), fun px npx => ?_⟩
    generalize ex : upd Md px _ = H1
    obtain ⟨S1, hpx⟩ := newF npx ex
    walk_at "rd"
    obtain ⟨N, hN, hN1, hN2⟩ : ∃ N : Int, atI [V.int 22, .int 10] (if sm = true then 1 else 0) = some (.int N) ∧ 1 ≤ N ∧ N ≤ 22 := by
      cases sm
      · exact ⟨22, rfl, by omega, by omega⟩
      · exact ⟨10, rfl, by omega, by omega⟩
    refine ⟨_, _, _, _, rfl, rfl, SqL.of hpx, hN, ?_⟩
    have hst2 : StoreAt H1 st := by
      obtain ⟨a, b, c, e⟩ := hst1
      exact ⟨a, b, c, S1 _ _ e⟩
    walk_at "rd"
    refine ⟨st, _, rfl, hst2, hN1, by omega, fun H2 r K2 hst3 hr0 hr1 => ?_⟩
    have hmd2 : H2 md = some (.lst _) := K2.but md _ (by
      obtain ⟨a, b, c, e⟩ := hst2
      simpa using ne_of (S1 _ _ hmd) e) (S1 _ _ hmd)
    walk_at "rd"
    obtain ⟨rn, rfl⟩ : ∃ n : Nat, r = (n : Int) := ⟨r.toNat, by omega⟩
    have hlen22 := Paired.length szMd
    have hrl : rn < (sizes1 ++ sizes2 ++ sizes3 ++ sizes4).length := by show rn < 22; omega
    rw [← hlen22] at hrl
    obtain ⟨x, hx, t, hte, ht⟩ := paired_get szMd (List.getElem?_eq_getElem hrl)
    have hgood : GoodT x := (show ∀ x ∈ (sizes1 ++ sizes2 ++ sizes3 ++ sizes4), GoodT x by decide) x (List.mem_of_getElem? hx)
    have ht2 := K2.tup _ _ (S1 _ _ ht)
    obtain ⟨x1, x2, x3⟩ := x
    obtain ⟨g1, g2, g3, g4, g5, g6, g7⟩ := hgood
    dsimp only at g1 g2 g3 g4 g5 g6 g7 ht2
    obtain ⟨s, rfl⟩ : ∃ s : Nat, x1 = (s : Int) := ⟨x1.toNat, by omega⟩
    obtain ⟨fw, rfl⟩ : ∃ s : Nat, x2 = (s : Int) := ⟨x2.toNat, by omega⟩
    obtain ⟨u, rfl⟩ : ∃ s : Nat, x3 = (s : Int) := ⟨x3.toNat, by omega⟩
    rw [Int.toNat_natCast, Int.toNat_natCast, Int.toNat_natCast] at g7
    refine ⟨_, _, _, _, rfl, rfl, SqL.of hmd2, atI_nat (List.getElem?_eq_getElem hrl), ?_⟩
    rw [hte]
    walk_at "rd"
    refine ⟨hst3, fun H3 l0 K3 hst4 hl0 => ?_⟩
    walk_at "rd"
    have hpow : ∀ i, i ≤ s → (fw + u) ^ i ≤ 3000 := fun i hi => by
      have : (fw + u) ^ i ≤ (fw + u) ^ s := Nat.pow_le_pow_right (by omega) hi
      omega
    refine ⟨s, fw + u, by rfl, by omega, by omega, hpow, fun H4 pr ws S4 npr hpr hrows => ?_⟩
    have hwl : ws.length = (fw + u) ^ s := by rw [Paired.length hrows, rowsL_len]
    have hN1 : 1 ≤ (fw + u) ^ s := Nat.pow_pos (by omega)
    walk_at "rd"
    obtain ⟨hl1, hl2, hl3, hl4⟩ := hl0
    have hl01 : 1 ≤ l0.length := by
      cases l0 with
      | nil => exact absurd rfl hl1
      | cons => simp
    refine ⟨fun mm σ H' => ∃ (n : Nat), mm = n ∧ σ = [some (.ref st), some (.bl sm), some (.ref md), some (.int (s : Nat)), some (.int (fw : Nat)), some (.int (u : Nat)), some (tx (l0.take n)), some (.ref pr), none, none, none, none, none, none] ∧ H' = H4 ∧ 1 ≤ n ∧ n ≤ l0.length,
      ⟨_, l0.length, rfl, by rw [List.take_length]; rfl, rfl, hl01, Nat.le_refl _⟩, ?_⟩
    rintro n σ H5 ⟨_, rfl, rfl, rfl, hn1, hn2⟩
    have hzl : (txS (l0.take n)).length ≤ sizeLine := by rw [txS_len, List.length_take]; exact Nat.le_trans (show _ ≤ 26 by omega) (by decide)
    have hln : (l0.take n).length = n := by rw [List.length_take]; omega
    walk_at "rd"
    rw [txS_len, hln, hwl]
    have hcast : ((n : Nat) : Int) * (((fw + u) ^ s : Nat) : Int) = ((n * (fw + u) ^ s : Nat) : Int) := by rw [Int.natCast_mul]
    rw [hcast]
    by_cases hbig : 600 < n * (fw + u) ^ s
    · refine iteB (decide_eq_true (by omega)) ?_
      refine ⟨fun σ' H' => ∃ (n' : Nat), n' < n ∧ σ' = [some (.ref st), some (.bl sm), some (.ref md), some (.int (s : Nat)), some (.int (fw : Nat)), some (.int (u : Nat)), some (tx (l0.take n')), some (.ref pr), none, none, none, none, none, none] ∧ H' = H5 ∧ 1 ≤ n' ∧ n' ≤ l0.length,
        fun σ' H' ⟨n', h1, h2⟩ => ⟨_, h1, n', rfl, h2⟩, ?_⟩
      walk_at "rd"
      have hn2' : 2 ≤ n := by
        rcases Nat.lt_or_ge n 2 with h | h
        · have : n = 1 := by omega
          subst this
          rw [Nat.one_mul] at hbig
          omega
        · exact h
      refine ⟨hzl, n - 1, by omega, ?_, rfl, by omega, by omega⟩
      have e : cutS (txS (l0.take n)) none (some (-1)) = txS (l0.take (n - 1)) := by
        rw [cut_last, List.dropLast_eq_take, List.take_take, hln, Nat.min_eq_left (by omega)]
      exact congrArg (fun x : Str => [some (V.ref st), some (V.bl sm), some (V.ref md), some (V.int (s : Nat)), some (V.int (fw : Nat)), some (V.int (u : Nat)), some (V.str x), some (V.ref pr), none, none, none, none, none, none]) e
    · refine iteC (decide_eq_false (by omega)) ?_
      have hst5 : StoreAt H5 st := by
        obtain ⟨a, b, c, e⟩ := hst4
        exact ⟨a, b, c, S4 _ _ e⟩
      have hprst : pr ≠ st := hst4.ne npr
      have K5 : Keep [st] H H5 := (((Same.keep (TMd.trans S1)).trans K2).trans K3).trans (Same.keep S4)
      have hlr : LetR (l0.take n) := by
        refine ⟨fun z => ?_, fun c hc => hl2 c (List.mem_of_mem_take hc), pair_riseB (List.Pairwise.sublist (List.take_sublist _ _) (riseB_pair hl3)), by omega⟩
        rw [z] at hln
        simp at hln
        omega
      refine j9_tail (H := H5) (by omega) (by omega) (by omega) (by omega) (by omega) hst5 hprst hrows hpr hlr (by rw [hln]; omega) fun H' J a d g es K' hst' nd ng hdg hJ => ?_
      exact k H' J a d g es (K5.trans K') hst' (K5.some nd (by simpa using hst5.ne nd)) (K5.some ng (by simpa using hst5.ne ng)) hdg hJ
end
end Hy
set_option Elab.async false
set_option linter.all false
set_option maxRecDepth 100000
set_option maxHeartbeats 4000000
namespace Hy
open PySem L2
local macro_rules | `(tactic| walk_at "hp") => `(tactic| first
  | assumption | exact upd_same
  | (refine (upd_ne ?_).trans ?_ <;> first | assumption | (exact Ne.symm (by assumption)) | walk_at "ne" | walk_at "hp")
  | (refine (by assumption : Same _ _) _ _ ?_; assumption))
local macro_rules | `(tactic| walk_at "ne") => `(tactic| first
  | assumption | (exact Ne.symm (by assumption))
  | exact ne_of_none (by assumption) (by assumption) | exact Ne.symm (ne_of_none (by assumption) (by assumption)))
local macro_rules | `(tactic| walk_at "sz") => `(tactic| first | assumption | (show 0 ≤ sizeLine; decide) | (show 1 ≤ sizeLine; decide) | (show 2 ≤ sizeLine; decide) | (show 3 ≤ sizeLine; decide))
local macro_rules | `(tactic| walk_at "ar") => `(tactic| first
  | ((with_reducible show (0 : Int) < _); first | decide | omega)
  | ((with_reducible show CMul _ _); first | exact Or.inr (And.intro (by decide) (by decide)) | exact Or.inl (And.intro (by decide) (by decide)) | (refine Or.inl (And.intro ?_ ?_) <;> omega) | (refine Or.inr (And.intro ?_ ?_) <;> omega))
  | ((with_reducible show CPow _ _); exact And.intro (by decide) (And.intro (by decide) (by decide)))
  | ((with_reducible show CDiv _ _); first | exact And.intro (by decide) (by decide) | (refine And.intro ?_ ?_ <;> omega)))
/- one step of a reading -/
local macro_rules | `(tactic| walk_at "r1") => `(tactic| first
  | refine ⟨_, rfl, ?_⟩
  | refine iteB (by rfl) ?_ | refine iteC (by rfl) ?_
  | refine ⟨_, _, rfl, rfl, ?_⟩
  | refine ⟨rfl, ?_⟩
  | refine ⟨⟨_, rfl⟩, ?_⟩
  | refine ⟨_, _, _, _, true, rfl, .ty _, .base (.str _), kit_ty (by decide +kernel), ?_⟩
  | refine ⟨_, _, _, _, false, rfl, .ty _, .base (.str _), kit_ty (by decide +kernel), ?_⟩
  | refine ⟨_, _, _, _, true, rfl, .ty _, .base (.int _), kit_ty (by decide +kernel), ?_⟩
  | refine ⟨_, _, _, _, false, rfl, .ty _, .base (.int _), kit_ty (by decide +kernel), ?_⟩
  | refine ⟨_, _, _, _, true, rfl, .ty _, .base (.tup (by walk_at "hp")), kit_ty (by decide +kernel), ?_⟩
  | refine ⟨_, _, _, _, false, rfl, .ty _, .base (.tup (by walk_at "hp")), kit_ty (by decide +kernel), ?_⟩
  | refine ⟨_, _, _, _, true, rfl, .ty _, .base (.lst (by walk_at "hp")), kit_ty (by decide +kernel), ?_⟩
  | refine ⟨_, _, _, _, false, rfl, .ty _, .base (.lst (by walk_at "hp")), kit_ty (by decide +kernel), ?_⟩
  | refine ⟨_, _, rfl, ⟨by walk_at "sz", rfl⟩, ?_⟩
  | refine ⟨_, _, _, _, rfl, rfl, SqT.of (by walk_at "hp"), by rfl, ?_⟩
  | refine ⟨_, _, _, _, rfl, rfl, SqL.of (by walk_at "hp"), by rfl, ?_⟩
  | refine ⟨.inl ⟨rfl, _, SqL.of (by walk_at "hp")⟩, ?_⟩
  | refine ⟨_, _, _, rfl, rfl, (by walk_at "hp"), snoc_get, ?_⟩
  | refine ⟨_, _, _, _, rfl, rfl, (by walk_at "hp"), by rfl, ?_⟩
  | refine ⟨_, _, rfl, SqL.of (by walk_at "hp"), ?_⟩
  | refine ⟨_, _, rfl, SqT.of (by walk_at "hp"), by rfl, ?_⟩
  | refine ⟨_, (_ : List V), rfl, ?_⟩
  | refine ⟨_, _, rfl, .inl ⟨_, (by assumption), rfl⟩, ?_⟩
  | refine ⟨_, _, rfl, .inl ⟨_, SqL.of (by walk_at "hp"), rfl⟩, ?_⟩
  | refine ⟨_, _, rfl, .inr ⟨_, SqT.of (by walk_at "hp"), rfl⟩, ?_⟩
  | refine Or.inl ⟨(_ : Int), rfl, ?_⟩ | refine Or.inr ⟨(_ : Bool), rfl, ?_⟩
  | refine ⟨_, _, _, _, true, rfl, (by assumption : ND _ _ _ _), .ty _, kit_ty (by decide +kernel), ?_⟩
  | refine ⟨_, _, _, _, false, rfl, (by assumption : ND _ _ _ _), .ty _, kit_ty (by decide +kernel), ?_⟩
  | refine ⟨_, _, rfl, (by assumption : ND _ _ _ _), ?_⟩
  | refine And.intro (by walk_at "ar") ?_)
local macro_rules | `(tactic| walk_at "rd") => `(tactic| repeat walk_at "r1")

/-! what is written reads back -/
theorem joinL_mem {c : Nat} {s : List Nat} : ∀ {ws : List (List Nat)}, c ∈ TL.joinL s ws → c ∈ s ∨ ∃ x ∈ ws, c ∈ x
  | [], h => by simp [TL.joinL] at h
  | [p], h => by
    rw [TL.joinL] at h
    exact .inr ⟨p, List.mem_cons_self, h⟩
  | p :: q :: r, h => by
    rw [TL.joinL] at h
    simp only [List.mem_append] at h
    rcases h with h | h | h
    · exact .inr ⟨p, List.mem_cons_self, h⟩
    · exact .inl h
    · rcases joinL_mem h with h | ⟨x, hx, h⟩
      · exact .inl h
      · exact .inr ⟨x, List.mem_cons_of_mem _ hx, h⟩
theorem goodL_mem {g : List Nat} {c : Nat} (h : c ∈ goodL g) : c = 45 ∨ c = 44 ∨ 48 ≤ c := by
  unfold goodL at h
  split at h
  · simp at h; exact .inl h
  · rcases joinL_mem h with h | ⟨x, hx, h⟩
    · simp at h; exact .inr (.inl h)
    · obtain ⟨n, _, rfl⟩ := List.mem_map.mp hx
      rw [List.mem_singleton.mp h]
      exact .inr (.inr (by unfold dig; omega))
theorem tl_txS (l : List Nat) : TL.tl (txS l) = l := by simp [TL.tl]
theorem goodL_reads {g : List Nat} (h9 : ∀ v ∈ g, v ≤ 9) (hl : g.length ≤ 3000) : ReadsG (goodL g) g := by
  by_cases hg : g = []
  · subst hg
    exact .inl ⟨rfl, rfl⟩
  · have e : goodL g = TL.joinL [44] (g.map fun n => [dig n]) := if_neg hg
    refine .inr ⟨fun z => ?_, g.map fun n => [dig n], ?_, ?_, ?_, ?_⟩
    · have h45 : 45 ∈ TL.joinL [44] (g.map fun n => [dig n]) := by rw [← e, z]; simp
      rcases joinL_mem h45 with h | ⟨x, hx, h⟩
      · simp at h
      · obtain ⟨n, _, rfl⟩ := List.mem_map.mp hx
        have := List.mem_singleton.mp h
        unfold dig at this
        omega
    · rw [e, ← join_txS]
      refine TL.split_join (s := 44) (S := []) (tl_txS _) (by decide +kernel) (fun z => hg (by simpa using z)) fun p hp hm => ?_
      obtain ⟨x, hx, rfl⟩ := List.mem_map.mp hp
      obtain ⟨n, _, rfl⟩ := List.mem_map.mp hx
      rw [tl_txS] at hm
      have := List.mem_singleton.mp hm
      unfold dig at this
      omega
    · intro p hp
      obtain ⟨n, _, rfl⟩ := List.mem_map.mp hp
      show 1 ≤ _
      decide
    · rw [List.length_map]; omega
    · rw [List.map_map]
      exact List.map_congr_left fun n hn => figL_dig (h9 n hn)
/-- the codes of the text -/
def Jd.txL (J : Jd) : List Nat := TL.joinL [32] [J.ls, [dig J.st], [dig J.few], [dig J.turn], goodL J.gd, J.tb.map dig]
theorem Jd.words_eq (J : Jd) : J.words = [J.ls, [dig J.st], [dig J.few], [dig J.turn], goodL J.gd, J.tb.map dig].map txS := by
  rw [Jd.words, goodW_eq]; rfl
theorem Jd.text_eq (J : Jd) : J.text = txS J.txL := by
  rw [Jd.text, Jd.words_eq, join_txS, Jd.txL]
theorem Jd.Ok.rj {J : Jd} (ok : J.Ok) : RJ J.txL J (goodL J.gd) := by
  have hst := ok.st6
  have hfw := ok.few4
  have htu := ok.turn4
  have hgl := ok.gd6
  have hm : 1 ≤ J.m := by have := ok.turn1; unfold Jd.m; omega
  have hl1 : 1 ≤ J.ls.length := by
    cases h : J.ls with
    | nil => exact absurd h ok.ls1
    | cons => simp
  have h9 : ∀ v ∈ J.tb, v ≤ 9 := fun v hv => by
    have := ok.tbv v hv
    omega
  have hg9 : ∀ v ∈ J.gd, v ≤ 9 := fun v hv => by
    have := ok.gdv v hv
    omega
  have h26 := ok.ls26
  have hg3 := goodL_len J.gd
  refine { sp := ?_, st9 := by omega, few9 := by omega, turn9 := by omega, tb9 := h9, g := goodL_reads hg9 (by omega), gl3 := by omega, gd3 := by omega, l3 := by omega, many := ?_, size := ok.size }
  · rw [← Jd.text_eq, Jd.text]
    refine (TL.split_join (s := 32) (S := []) (tl_txS _) (by decide +kernel) (fun z => by rw [Jd.words] at z; cases z) fun p hp hm => ?_).trans (by rw [Jd.words, goodW_eq])
    rw [Jd.words_eq] at hp
    obtain ⟨x, hx, rfl⟩ := List.mem_map.mp hp
    rw [tl_txS] at hm
    simp only [List.mem_cons, List.not_mem_nil, or_false] at hx
    rcases hx with rfl | rfl | rfl | rfl | rfl | rfl
    · exact absurd (ok.lsL _ hm) (by decide)
    · have := List.mem_singleton.mp hm; unfold dig at this; omega
    · have := List.mem_singleton.mp hm; unfold dig at this; omega
    · have := List.mem_singleton.mp hm; unfold dig at this; omega
    · have := goodL_mem hm; omega
    · obtain ⟨n, _, e⟩ := List.mem_map.mp hm; unfold dig at e; omega
  · rw [manyT_eq _ _ _ (by rw [← ok.tbl]; exact ok.size), ok.tbl]
theorem Jd.Ok.rjd {J : Jd} (ok : J.Ok) : RJd J.txL (some J) := by
  have h := RJd.judge J (goodL J.gd) ok.rj
  rw [if_pos ok.okB] at h
  exact h
theorem Jd.Ok.len {J : Jd} (ok : J.Ok) : J.txL.length ≤ 90000 := by
  have h1 := goodL_len J.gd
  have h2 := ok.gd6
  have h3 := ok.ls26
  have h4 := ok.size
  have h := joinL_len [32] [J.ls, [dig J.st], [dig J.few], [dig J.turn], goodL J.gd, J.tb.map dig]
  unfold Jd.txL
  simp only [List.map_cons, List.map_nil, List.sum_cons, List.sum_nil, List.length_cons, List.length_nil, List.length_map] at h
  omega
section
variable {P : Program} {w : World} {K : PySem.W.Frag} {mg : Str → Option Value} {base : Heap}
abbrev J10put (w : World) (K : PySem.W.Frag) : TS := sNPut w (tVar 4) (tVar 6) (tNGet w (tOp (rIxT K) (tVar 1) (tC (V.int 4))) (tVar 6))
theorem JN.nodup {H : Hp} {J : Jd} {a d g : Addr} {es : List NE} (h : JN w H J a d g es) : (es.map (·.1)).Nodup := by
  rw [h.tab.ek h.ok]
  exact nodup_map' (fun _ _ e => kJ_inj e) (keysL_nodup h.ok.nodup _ _)
theorem JN.len {H : Hp} {J : Jd} {a d g : Addr} {es : List NE} (h : JN w H J a d g es) : es.length ≤ 600 := by
  have e := congrArg List.length (h.tab.ev h.ok)
  rw [List.length_map, List.length_map] at e
  rw [e]
  exact h.ok.size
theorem JN.key {H : Hp} {J : Jd} {a d g : Addr} {es : List NE} (h : JN w H J a d g es) {e : NE} (he : e ∈ es) : NKv H e.1 (.ref e.2.1) ∧ e.1.depth ≤ 8 := h.ks e he
theorem j10_put {J : Ends} {st a p t d g : Addr} {H : Hp} {Jq : Jd} {es es1 : List NE} {e : NE} {way : Int} {x5 : Option V} (hJ : JN w H Jq a d g es) (he : e ∈ es) (hd : H t = some (ndO w t es1)) (hk : NKeys H es1) (hnew : e.1 ∉ es1.map (·.1)) (hl : es1.length ≤ 600)
    (k : J.nx [some (.ref st), some (.ref a), some (.ref p), some (.int way), some (.ref t), x5, some (.ref e.2.1)] (upd H t (ndO w t (es1 ++ [e])))) :
    J10put w K J [some (.ref st), some (.ref a), some (.ref p), some (.int way), some (.ref t), x5, some (.ref e.2.1)] H := by
  obtain ⟨hk1, hk2⟩ := hJ.key he
  have ha := hJ.tup
  walk_at "rd"
  refine ⟨d, es, e.1, e.2.1, e.2.2, rfl, rfl, hJ.at.dic, hk1, hk2, atN_of_mem hJ.nodup (List.mem_map.mpr ⟨e, he, rfl⟩), ?_⟩
  walk_at "rd"
  refine ⟨t, es1, e.1, e.2.1, rfl, rfl, hd, hk, hk1, hk2, Nat.lt_of_le_of_lt hl (by decide), ?_⟩
  rw [putN_new _ _ (atN_none hnew)]
  exact k
theorem nd_put {H : Hp} {t : Addr} {es1 es2 : List NE} {e : NE} (hd : H t = some (ndO w t es2)) (hk : NKeys H es1) (h1 : NKv H e.1 (.ref e.2.1)) (h2 : e.1.depth ≤ 8) : NKeys (upd H t (ndO w t (es1 ++ [e]))) (es1 ++ [e]) := by
  have h : NKeys H (es1 ++ [e]) := fun x hx => by
    rcases List.mem_append.mp hx with hx | hx
    · exact hk x hx
    · rw [List.mem_singleton.mp hx]; exact ⟨h1, h2⟩
  refine h.stay fun b xs q => ?_
  rw [upd_ne (ne_of q hd (fun z => nomatch z))]
  exact q
theorem perm_pop {es es1 rem : List NE} {m : Nat} (h : (es1 ++ rem).Perm es) (hm : m < rem.length) : (es1 ++ [rem[m]] ++ rem.eraseIdx m).Perm es := by
  refine List.Perm.trans ?_ h
  rw [List.append_assoc]
  refine List.Perm.append_left es1 ?_
  rw [List.eraseIdx_eq_take_drop_succ]
  conv => rhs; rw [← List.take_append_drop m rem, List.drop_eq_getElem_cons hm]
  exact (List.perm_middle (a := rem[m]) (l₁ := rem.take m) (l₂ := rem.drop (m + 1))).symm
theorem perm_new {es es1 rem : List NE} {e : NE} (h : (es1 ++ rem).Perm es) (hn : (es.map (·.1)).Nodup) (he : e ∈ rem) : e.1 ∉ es1.map (·.1) := by
  have h2 := (h.map (·.1)).nodup_iff.mpr hn
  rw [List.map_append, List.nodup_append] at h2
  exact fun hm => h2.2.2 _ hm _ (List.mem_map.mpr ⟨e, he, rfl⟩) rfl
def sp__law_shuffled (w : World) : Sp := fun vs H Q _ => ∃ (s : Addr) (J : Jd) (a d g : Addr) (es : List NE), vs = [.ref s, .ref a] ∧ StoreAt H s ∧ JN w H J a d g es ∧ d ≠ s ∧ g ≠ s ∧
  ∀ (H' : Hp) (b d' g' : Addr) (es' : List NE), Keep [s] H H' → StoreAt H' s → H d' = none → H g' = none → JAt w H' J b d' g' es' → TabP es' J → Q (.ref b) H'
theorem j10_tail {J : Ends} {st a p d g : Addr} {H0 H : Hp} {Jq : Jd} {es rem0 : List NE} {way : Int} (hst : StoreAt H st) (hJ : JN w H0 Jq a d g es) (hds : d ≠ st) (hgs : g ≠ st) (K0 : Keep [st] H0 H) (np : H0 p = none) (hps : p ≠ st) (hp : H p = some (.lst (rem0.map fun e => .ref e.2.1))) (hrem : rem0.Perm es)
    (k : ∀ (H' : Hp) (b d' g' : Addr) (es' : List NE), Keep [st] H0 H' → StoreAt H' st → H0 d' = none → H0 g' = none → JAt w H' Jq b d' g' es' → TabP es' Jq → J.rt (.ref b) H') :
    (tSeq (tAsg (tNNew w) (gName 4))
                            (tSeq
                              (tFor
                                (iRng1
                                  (tCons
                                    (tOp (rI CMul fun i j => V.int (i * j))
                                      (tCB (fun xs H Q => ∃ x n, xs = [x] ∧ LenV K x H n ∧ Q (V.int (n : Nat)) H)
                                        (tCons (tVar 2) tNil))
                                      (tCB
                                        (fun xs H Q =>
                                          (∃ i, xs = [V.int i] ∧ Q (V.int i) H) ∨
                                            ∃ k, xs = [V.bl k] ∧ Q (V.int (if k = true then 1 else 0)) H)
                                        (tCons (tOp rEq (tVar 3) (tC (V.int 2))) tNil)))
                                    tNil))
                                (gName 5)
                                (tSeq
                                  (tAsg
                                    (tBM K "list" rPopAt (tVar 2)
                                      (tCons
                                        (tCall sp__law_take [] E0
                                          (tCons (tVar 0)
                                            (tCons
                                              (tCB (fun xs H Q => ∃ x n, xs = [x] ∧ LenV K x H n ∧ Q (V.int (n : Nat)) H)
                                                (tCons (tVar 2) tNil))
                                              tNil)))
                                        tNil))
                                    (gName 6))
                                  (J10put w K)))
                              (tSeq
                                (tFor (iList K (tVar 2)) (gName 6)
                                  (J10put w K))
                                (tRet
                                  (tOp (rCatA K) (tSl (rSlA K) (tVar 1) tNoPart (tPart (tC (V.int 4))))
                                    (tTup
                                      (tCons (tVar 4)
                                        (tCons
                                          (tCB
                                            (fun xs H Q =>
                                              ∃ p ys,
                                                xs = [V.ref p] ∧
                                                  (SqL K H p ys ∨ SqT K H p ys) ∧
                                                    ∀ (l : Addr), H l = none → Q (V.ref l) (upd H l (HO.lst ys)))
                                            (tCons (tOp (rIxT K) (tVar 1) (tC (V.int 5))) tNil))
                                          tNil)))))))) J [some (.ref st), some (.ref a), some (.ref p), some (.int way), none, none, none] H := by
  have hlen := hJ.len
  have hrl := hrem.length_eq
  have hnd := hJ.nodup
  walk_at "rd"
  refine fun t nt => ?_
  generalize e1 : upd H t _ = H1
  obtain ⟨S1, ht⟩ := newF nt e1
  have hst1 : StoreAt H1 st := by rw [← e1]; exact hst.new nt
  have hts : t ≠ st := hst.ne nt
  have hpt : p ≠ t := ne_of_none hp nt
  have np0 := np
  have nt0 : H0 t = none := K0.some nt (by simpa using hts)
  have hp1 := S1 _ _ hp
  walk_at "rd"
  obtain ⟨N, hN, hN2⟩ : ∃ N : Nat, (((rem0.map fun e => V.ref e.2.1).length : Nat) : Int) * (if decide (V.int way = V.int 2) = true then 1 else 0) = (N : Int) ∧ N ≤ rem0.length := by
    rw [List.length_map]
    split
    · exact ⟨rem0.length, by omega, Nat.le_refl _⟩
    · exact ⟨0, by omega, Nat.zero_le _⟩
  rw [hN]
  refine ⟨by omega, by omega, ?_⟩
  have K1 : Keep [st] H0 H1 := K0.trans (Same.keep S1)
  refine for_range (lo := 0) (n := N) (fun i σ H' => ∃ (x5 x6 : Option V) (rem es1 : List NE), σ = [some (.ref st), some (.ref a), some (.ref p), some (.int way), some (.ref t), x5, x6] ∧ Keep [st] H0 H' ∧ StoreAt H' st ∧ H' p = some (.lst (rem.map fun e => .ref e.2.1)) ∧
    H' t = some (ndO w t es1) ∧ NKeys H' es1 ∧ (es1 ++ rem).Perm es ∧ rem.length + i = rem0.length)
    ⟨none, none, rem0, [], rfl, K1, hst1, hp1, ht, NKeys.nil, hrem, rfl⟩ ?_ ?_
  · rintro i σ H2 hi ⟨x5, x6, rem, es1, rfl, K2, hst2, hp2, ht2, hk2, hpm, hri⟩
    walk_at "rd"
    rw [List.length_map]
    refine ⟨st, _, rfl, hst2, by omega, by omega, fun H3 q K3 hst3 h0 h1 => ?_⟩
    obtain ⟨m, rfl⟩ : ∃ m : Nat, q = (m : Int) := ⟨q.toNat, by omega⟩
    have hml : m < rem.length := by omega
    have hp3 : H3 p = some (.lst (rem.map fun e => .ref e.2.1)) := K3.but p _ (by simpa using hps) hp2
    have ht3 : H3 t = some (ndO w t es1) := K3.but t _ (by simpa using hts) ht2
    walk_at "rd"
    refine ⟨p, _, (m : Int), m, .ref rem[m].2.1, rfl, rfl, hp3, by omega, by omega, ?_, by rw [List.getElem?_map, List.getElem?_eq_getElem hml]; rfl, ?_⟩
    · rw [List.length_map]
      exact (seqIndex_of (by omega) (by omega)).trans (by simp)
    generalize e4 : upd H3 p _ = H4
    have K4 : Keep [st] H0 H4 := by rw [← e4]; exact (K2.trans K3).own np
    have hst4 : StoreAt H4 st := by rw [← e4]; exact hst3.oth hps
    have ht4 : H4 t = some (ndO w t es1) := by rw [← e4, upd_ne (Ne.symm hpt)]; exact ht3
    have hp4 : H4 p = some (.lst ((rem.eraseIdx m).map fun e => .ref e.2.1)) := by rw [← e4, upd_same, ← map_eraseIdx]
    have hJ4 : JN w H4 Jq a d g es := hJ.keep K4 (by simpa using hds) (by simpa using hgs)
    have hk4 : NKeys H4 es1 := (hk2.stay K3.tup).stay fun b xs e => by
      rw [← e4, upd_ne (ne_of e hp3 (fun z => nomatch z))]
      exact e
    have hmem : rem[m] ∈ rem := List.getElem_mem hml
    have hme : rem[m] ∈ es := hpm.subset (List.mem_append_right _ hmem)
    have hl1 : es1.length ≤ 600 := by
      have := hpm.length_eq
      rw [List.length_append] at this
      omega
    show J10put w K _ _ _
    refine j10_put hJ4 hme ht4 hk4 (perm_new hpm hnd hmem) hl1 ?_
    refine ⟨_, _, rem.eraseIdx m, es1 ++ [rem[m]], rfl, K4.own nt0, hst4.oth hts, ?_, upd_same, nd_put ht4 hk4 (hJ4.key hme).1 (hJ4.key hme).2, perm_pop hpm hml, ?_⟩
    · rw [upd_ne hpt]; exact hp4
    · rw [List.length_eraseIdx, if_pos hml]; omega
  · rintro σ H2 ⟨x5, x6, rem, es1, rfl, K2, hst2, hp2, ht2, hk2, hpm, hri⟩
    walk_at "rd"
    have hlm := hpm.length_eq
    rw [List.length_append] at hlm
    refine ⟨⟨_, SqL.of hp2⟩, ?_⟩
    refine for_it (walk_list (xs := rem.map fun e => V.ref e.2.1)) (fun i σ H' => ∃ (x6 : Option V) (es2 : List NE), σ = [some (.ref st), some (.ref a), some (.ref p), some (.int way), some (.ref t), x5, x6] ∧ Keep [st] H0 H' ∧ StoreAt H' st ∧ H' p = some (.lst (rem.map fun e => .ref e.2.1)) ∧
      H' t = some (ndO w t es2) ∧ NKeys H' es2 ∧ es2 = es1 ++ rem.take i)
      ⟨x6, es1, rfl, K2, hst2, hp2, ht2, hk2, by simp⟩ (fun i σ H' _ ⟨_, _, _, _, _, q, _⟩ => SqL.of q) ?_ ?_
    · rintro i y σ H3 H4 hi ⟨x6, es2, rfl, K3, hst3, hp3, ht3, hk3, rfl⟩ ⟨rfl, hy⟩
      rw [List.getElem?_map] at hy
      obtain ⟨e, he, rfl⟩ := Option.map_eq_some_iff.mp hy
      have hmem : e ∈ rem := List.mem_of_getElem? he
      have hme : e ∈ es := hpm.subset (List.mem_append_right _ hmem)
      have hJ4 : JN w H4 Jq a d g es := hJ.keep K3 (by simpa using hds) (by simpa using hgs)
      have hnew : e.1 ∉ (es1 ++ rem.take i).map (·.1) := by
        have h2 := (hpm.map (·.1)).nodup_iff.mpr hnd
        have hil := (List.getElem?_eq_some_iff.mp he)
        obtain ⟨hil, hie⟩ := hil
        have e3 : es1 ++ rem = (es1 ++ rem.take i) ++ (e :: rem.drop (i + 1)) := by
          rw [List.append_assoc, ← hie, ← List.drop_eq_getElem_cons hil, List.take_append_drop]
        rw [e3, List.map_append, List.nodup_append] at h2
        exact fun hm => h2.2.2 _ hm _ (List.mem_map.mpr ⟨e, List.mem_cons_self, rfl⟩) rfl
      have hl2 : (es1 ++ rem.take i).length ≤ 600 := by
        rw [List.length_append, List.length_take]
        omega
      show J10put w K _ _ _
      refine j10_put hJ4 hme ht3 hk3 hnew hl2 ?_
      refine ⟨_, _, rfl, K3.own nt0, hst3.oth hts, ?_, upd_same, nd_put ht3 hk3 (hJ4.key hme).1 (hJ4.key hme).2, ?_⟩
      · rw [upd_ne hpt]; exact hp3
      · rw [List.take_succ, he, List.append_assoc]; rfl
    · rintro σ H3 ⟨x6, es2, rfl, K3, hst3, hp3, ht3, hk3, he2⟩
      rw [List.length_map, List.take_length] at he2
      subst he2
      have hJ3 : JN w H3 Jq a d g es := hJ.keep K3 (by simpa using hds) (by simpa using hgs)
      have ha3 := hJ3.tup
      have hg3 := hJ3.lst
      walk_at "rd"
      refine ⟨a, _, rfl, SqT.of ha3, fun z => absurd z.2 (show ¬ ((4 : Nat) = 6) by decide), fun _ q nq => ?_⟩
      generalize e4 : upd H3 q _ = H4
      obtain ⟨S4, hq4⟩ := newF nq e4
      have ha4 := S4 _ _ ha3
      have hg4 := S4 _ _ hg3
      have ht4 := S4 _ _ ht3
      walk_at "rd"
      refine ⟨g, _, rfl, .inl (SqL.of hg4), fun gg ng => ?_⟩
      generalize e5 : upd H4 gg _ = H5
      obtain ⟨S5, hgg5⟩ := newF ng e5
      have ht5 := S5 _ _ ht4
      have hq5 := S5 _ _ hq4
      walk_at "rd"
      refine ⟨(by walk_at "sz"), fun r nr => ?_⟩
      generalize e6 : upd H5 r _ = H6
      obtain ⟨S6, hr6⟩ := newF nr e6
      have hq6 := S6 _ _ hq5
      refine ⟨q, r, _, _, rfl, rfl, SqT.of hq6, SqT.of hr6, (by show 4 + 2 ≤ sizeLine; decide), fun z => absurd (congrArg List.length z) (show ¬ ((4 : Nat) = 0) by decide), fun _ z => (by cases z), fun _ _ b nb => ?_⟩
      generalize e7 : upd H6 b _ = H7
      obtain ⟨S7, hb7⟩ := newF nb e7
      have S37 : Same H3 H7 := S4.trans (S5.trans (S6.trans S7))
      have hst7 : StoreAt H7 st := by
        obtain ⟨x, y, z, e⟩ := hst3
        exact ⟨x, y, z, S37 _ _ e⟩
      have ng3 : H3 gg = none := by
        cases h : H3 gg with
        | none => rfl
        | some o => rw [S4 _ _ h] at ng; cases ng
      refine k H7 b t gg (es1 ++ rem) (K3.trans (Same.keep S37)) hst7 nt0 (K3.some ng3 (by simpa using hst3.ne ng3)) ⟨hb7, ?_, S7 _ _ (S6 _ _ hgg5)⟩ ?_
      · exact ND.of (S37 _ _ ht3) (hk3.stay fun _ _ e => S37 _ _ e)
      · exact (hpm.map _).trans (List.Perm.of_eq hJ.tab)
theorem ok__law_shuffled (D : Df K mg "_law_shuffled" s__law_shuffled ["store", "judge"]) (T : Txt K mg) (G__law_take : G' P w K mg base "_law_take" 1 ["store", "many"] sp__law_take) : G' P w K mg base "_law_shuffled" 3 ["store", "judge"] (sp__law_shuffled w) := by
  refine D.ok fun f fd F => F.okX sc__law_shuffled (fun vs H Q E h => ?_) (fun cdv A outer s H vs Q E hr h => ?_)
  · obtain ⟨s, J, a, d, g, es, rfl, _⟩ := h
    rfl
  · obtain ⟨st, J, a, d, g, es, rfl, hst, hJ, hds, hgs, k⟩ := h
    refine ⟨_, (pss_cons (ps_set (i := 2) sc__law_shuffled.nd rfl (by first | exact Or.inl rfl | exact Or.inr rfl) (pe_callTy (call_list_nd w rfl) (by rfl) T.n_list (by decide +kernel) (pa_cons (pe_ix (ix_tupK K) (pv 1) pe_int (fun _ _ => rfl)) pa_nil)))
  (pss_cons (ps_set (i := 3) sc__law_shuffled.nd rfl (by first | exact Or.inl rfl | exact Or.inr rfl) (pe_cl G__law_take (hr.mono (by omega)) passF (pa_cons (pv 0) (pa_cons pe_int pa_nil))))
  (pss_cons (ps_if (pt_cmpR op_eq (pv 3) pe_int (nomark _)) (pss_one (ps_expr (cbm0 K (pe_bm0 PySem.F.plainAttrs_list PySem.F.slot_list_reverse PySem.F.type_list_reverse mt_reverse (pv 2))))) pss_nil)
  (pss_cons (ps_set (i := 4) sc__law_shuffled.nd rfl (by first | exact Or.inl rfl | exact Or.inr rfl) (pe_dnewN w))
  (pss_cons (ps_for (passes_of rfl) rfl (pi_range1 (by rfl) T.n_range (pa_cons (pe_op op_mul (pe_callB (call_lenK K) (by rfl) T.n_len PySem.boot_len (pa_cons (pv 2) pa_nil)) (pe_callTy call_int1 (by rfl) T.n_int (by decide +kernel) (pa_cons (pe_cmpR op_eq (pv 3) pe_int (nomark _)) pa_nil))) pa_nil)) (pg_name (i := 5) sc__law_shuffled.nd rfl (by first | exact Or.inl rfl | exact Or.inr rfl)) (pss_cons (ps_set (i := 6) sc__law_shuffled.nd rfl (by first | exact Or.inl rfl | exact Or.inr rfl) (cbm K (pe_bm PySem.F.plainAttrs_list PySem.F.slot_list_pop PySem.F.type_list_pop mt_popAt (pv 2) (pa_cons (pe_cl G__law_take (hr.mono (by omega)) passF (pa_cons (pv 0) (pa_cons (pe_callB (call_lenK K) (by rfl) T.n_len PySem.boot_len (pa_cons (pv 2) pa_nil)) pa_nil))) pa_nil))))
  (pss_one (ps_nput w hr (pe_nget w hr (pe_ix (ix_tupK K) (pv 1) pe_int (fun _ _ => rfl)) (pv 6)) (pv 4) (pv 6)))))
  (pss_cons (ps_for (passes_of rfl) rfl (pi_listK K (pv 2)) (pg_name (i := 6) sc__law_shuffled.nd rfl (by first | exact Or.inl rfl | exact Or.inr rfl)) (pss_one (ps_nput w hr (pe_nget w hr (pe_ix (ix_tupK K) (pv 1) pe_int (fun _ _ => rfl)) (pv 6)) (pv 4) (pv 6))))
  (pss_one (ps_ret (pe_op (op_catAK K) (pe_slice (sl_tupAK K) (pv 1) po_none (po_some pe_int)) (pe_tup (pa_cons (pv 4) (pa_cons (pe_callTy (call_list_ofK K) (by rfl) T.n_list (by decide +kernel) (pa_cons (pe_ix (ix_tupK K) (pv 1) pe_int (fun _ _ => rfl)) pa_nil)) pa_nil)))))))))))), ?_⟩
    have ha := hJ.tup
    have hdd := hJ.at.dic
    walk_at "rd"
    refine fun p np => ?_
    generalize e1 : upd H p _ = H1
    obtain ⟨S1, hp⟩ := newF np e1
    have hst1 : StoreAt H1 st := by rw [← e1]; exact hst.new np
    have hps : p ≠ st := hst.ne np
    walk_at "rd"
    refine ⟨st, 3, rfl, hst1, by decide, by decide, fun H2 way K2 hst2 hw0 hw1 => ?_⟩
    have hp2 : H2 p = _ := K2.but p _ (by simpa using hps) hp
    have K02 : Keep [st] H H2 := (Same.keep S1).trans K2
    walk_at "rd"
    by_cases hw : way = 1
    · subst hw
      walk_at "rd"
      refine ⟨p, _, rfl, rfl, hp2, ?_⟩
      refine j10_tail (H0 := H) (rem0 := es.reverse) (hst2.oth hps) hJ hds hgs (K02.own np) np hps ?_ (List.reverse_perm es) k
      rw [upd_same, List.map_reverse]
    · refine iteC (decide_eq_false fun z => hw (V.int.inj z)) ?_
      dsimp only [tNext]
      exact j10_tail (H0 := H) (rem0 := es) hst2 hJ hds hgs K02 np hps hp2 (List.Perm.refl _) k
end
end Hy
set_option Elab.async false
set_option linter.all false
set_option maxRecDepth 100000
set_option maxHeartbeats 4000000
namespace Hy
open PySem L2
local macro_rules | `(tactic| walk_at "hp") => `(tactic| first
  | assumption | exact upd_same
  | (refine (upd_ne ?_).trans ?_ <;> first | assumption | (exact Ne.symm (by assumption)) | walk_at "ne" | walk_at "hp")
  | (refine (by assumption : Same _ _) _ _ ?_; assumption))
local macro_rules | `(tactic| walk_at "ne") => `(tactic| first
  | assumption | (exact Ne.symm (by assumption))
  | exact ne_of_none (by assumption) (by assumption) | exact Ne.symm (ne_of_none (by assumption) (by assumption)))
local macro_rules | `(tactic| walk_at "sz") => `(tactic| first | assumption | (show 0 ≤ sizeLine; decide) | (show 1 ≤ sizeLine; decide) | (show 2 ≤ sizeLine; decide) | (show 3 ≤ sizeLine; decide))
local macro_rules | `(tactic| walk_at "ar") => `(tactic| first
  | ((with_reducible show (0 : Int) < _); first | decide | omega)
  | ((with_reducible show CMul _ _); first | exact Or.inr (And.intro (by decide) (by decide)) | exact Or.inl (And.intro (by decide) (by decide)) | (refine Or.inl (And.intro ?_ ?_) <;> omega) | (refine Or.inr (And.intro ?_ ?_) <;> omega))
  | ((with_reducible show CPow _ _); exact And.intro (by decide) (And.intro (by decide) (by decide)))
  | ((with_reducible show CDiv _ _); first | exact And.intro (by decide) (by decide) | (refine And.intro ?_ ?_ <;> omega)))
/- one step of a reading -/
local macro_rules | `(tactic| walk_at "r1") => `(tactic| first
  | refine ⟨_, rfl, ?_⟩
  | refine iteB (by rfl) ?_ | refine iteC (by rfl) ?_
  | refine ⟨_, _, rfl, rfl, ?_⟩
  | refine ⟨rfl, ?_⟩
  | refine ⟨⟨_, rfl⟩, ?_⟩
  | refine ⟨_, _, _, _, true, rfl, .ty _, .base (.str _), kit_ty (by decide +kernel), ?_⟩
  | refine ⟨_, _, _, _, false, rfl, .ty _, .base (.str _), kit_ty (by decide +kernel), ?_⟩
  | refine ⟨_, _, _, _, true, rfl, .ty _, .base (.int _), kit_ty (by decide +kernel), ?_⟩
  | refine ⟨_, _, _, _, false, rfl, .ty _, .base (.int _), kit_ty (by decide +kernel), ?_⟩
  | refine ⟨_, _, _, _, true, rfl, .ty _, .base (.tup (by walk_at "hp")), kit_ty (by decide +kernel), ?_⟩
  | refine ⟨_, _, _, _, false, rfl, .ty _, .base (.tup (by walk_at "hp")), kit_ty (by decide +kernel), ?_⟩
  | refine ⟨_, _, _, _, true, rfl, .ty _, .base (.lst (by walk_at "hp")), kit_ty (by decide +kernel), ?_⟩
  | refine ⟨_, _, _, _, false, rfl, .ty _, .base (.lst (by walk_at "hp")), kit_ty (by decide +kernel), ?_⟩
  | refine ⟨_, _, rfl, ⟨by walk_at "sz", rfl⟩, ?_⟩
  | refine ⟨_, _, _, _, rfl, rfl, SqT.of (by walk_at "hp"), by rfl, ?_⟩
  | refine ⟨_, _, _, _, rfl, rfl, SqL.of (by walk_at "hp"), by rfl, ?_⟩
  | refine ⟨.inl ⟨rfl, _, SqL.of (by walk_at "hp")⟩, ?_⟩
  | refine ⟨_, _, _, rfl, rfl, (by walk_at "hp"), snoc_get, ?_⟩
  | refine ⟨_, _, _, _, rfl, rfl, (by walk_at "hp"), by rfl, ?_⟩
  | refine ⟨_, _, rfl, SqL.of (by walk_at "hp"), ?_⟩
  | refine ⟨_, _, rfl, SqT.of (by walk_at "hp"), by rfl, ?_⟩
  | refine ⟨_, (_ : List V), rfl, ?_⟩
  | refine ⟨_, _, rfl, .inl ⟨_, (by assumption), rfl⟩, ?_⟩
  | refine ⟨_, _, rfl, .inl ⟨_, SqL.of (by walk_at "hp"), rfl⟩, ?_⟩
  | refine ⟨_, _, rfl, .inr ⟨_, SqT.of (by walk_at "hp"), rfl⟩, ?_⟩
  | refine Or.inl ⟨(_ : Int), rfl, ?_⟩ | refine Or.inr ⟨(_ : Bool), rfl, ?_⟩
  | refine ⟨_, _, _, _, true, rfl, (by assumption : ND _ _ _ _), .ty _, kit_ty (by decide +kernel), ?_⟩
  | refine ⟨_, _, _, _, false, rfl, (by assumption : ND _ _ _ _), .ty _, kit_ty (by decide +kernel), ?_⟩
  | refine ⟨_, _, rfl, (by assumption : ND _ _ _ _), ?_⟩
  | refine And.intro (by walk_at "ar") ?_)
local macro_rules | `(tactic| walk_at "rd") => `(tactic| repeat walk_at "r1")

theorem kJ_data (p : Nat × List Nat) : (kJ p).data = .tuple [.str ⟨#[p.1]⟩, (kR p.2).data] := rfl
theorem kR_data (r : List Nat) : (kR r).data = .tuple (r.map fun n : Nat => PyData.int (n : Int)) := by
  have h : NestedKey.datas (r.map fun n : Nat => NestedKey.num (n : Int)) = r.map fun n : Nat => PyData.int (n : Int) := by
    induction r with
    | nil => rfl
    | cons x r ih => rw [List.map_cons, List.map_cons, ← ih]; rfl
  rw [← h]
  rfl
theorem ints_alike : ∀ r q : List Nat, PySem.W.alikeAll (r.map fun n : Nat => PyData.int (n : Int)) (q.map fun n : Nat => PyData.int (n : Int)) = true
  | [], _ => by simp [PySem.W.alikeAll]
  | _ :: _, [] => by simp [PySem.W.alikeAll]
  | x :: r, y :: q => by
    rw [List.map_cons, List.map_cons, PySem.W.alikeAll, ints_alike r q]
    simp [PySem.W.alike]
theorem kJ_alike (p q : Nat × List Nat) : PySem.W.alike (kJ p).data (kJ q).data = true := by
  rw [kJ_data, kJ_data, kR_data, kR_data]
  simp [PySem.W.alike, PySem.W.alikeAll, ints_alike]
theorem ints_plain : ∀ r : List Nat, PyData.plainAll (r.map fun n : Nat => PyData.int (n : Int)) = true
  | [] => rfl
  | x :: r => by rw [List.map_cons, PyData.plainAll, ints_plain r]; rfl
theorem kJ_plain (p : Nat × List Nat) : (kJ p).data.plain = true := by
  rw [kJ_data, kR_data]
  simp [PyData.plain, PyData.plainAll, ints_plain]
theorem ints_depth : ∀ r : List Nat, PyData.depthAll (r.map fun n : Nat => PyData.int (n : Int)) = 0
  | [] => rfl
  | x :: r => by rw [List.map_cons, PyData.depthAll, ints_depth r]; rfl
theorem kJ_ddepth (p : Nat × List Nat) : (kJ p).data.depth ≤ 2 := by
  rw [kJ_data, kR_data]
  simp [PyData.depth, PyData.depthAll, ints_depth]
theorem ix_seqK {X : Cx} (K : PySem.W.Frag) (h : X.K = K := by rfl) : IxR X (rIx K) := h ▸ ix_seq
theorem sort_data {es : List NE} {ks : List (Nat × List Nat)} (h : es.map (·.1) = ks.map kJ) :
    (es.mergeSort (PySem.W.dataLe false fun e : NE => e.1.data)).map (fun e => e.1.data) = (ks.mergeSort (PySem.W.dataLe false fun p => (kJ p).data)).map fun p => (kJ p).data := by
  have h1 : (es.mergeSort (PySem.W.dataLe false fun e : NE => e.1.data)).map (·.1) = (es.map (·.1)).mergeSort (PySem.W.dataLe false NestedKey.data) := List.map_mergeSort fun a _ b _ => rfl
  have h2 : (ks.mergeSort (PySem.W.dataLe false fun p => (kJ p).data)).map kJ = (ks.map kJ).mergeSort (PySem.W.dataLe false NestedKey.data) := List.map_mergeSort fun a _ b _ => rfl
  have h3 := congrArg (List.map NestedKey.data) (h1.trans ((congrArg (fun l => List.mergeSort l (PySem.W.dataLe false NestedKey.data)) h).trans h2.symm))
  rw [List.map_map, List.map_map] at h3
  exact h3
theorem keys_at {es : List NE} {ks : List (Nat × List Nat)} (h : es.map (·.1) = ks.map kJ) {e : NE} (he : e ∈ es) : ∃ p, e.1 = kJ p := by
  have hm : e.1 ∈ ks.map kJ := h ▸ List.mem_map.mpr ⟨e, he, rfl⟩
  obtain ⟨p, _, q⟩ := List.mem_map.mp hm
  exact ⟨p, q.symm⟩
theorem keys_sortable {es : List NE} {ks : List (Nat × List Nat)} (h : es.map (·.1) = ks.map kJ) : PySem.W.AllAlike (es.map fun e => e.1.data) ∧ PySem.W.Sortable (es.map fun e => e.1.data) ∧ (∀ e ∈ es, e.1.data.depth ≤ 100) := by
  refine ⟨fun d hd d' hd' => ?_, .inl fun d hd => ?_, fun e he => ?_⟩
  · obtain ⟨e, he, rfl⟩ := List.mem_map.mp hd
    obtain ⟨e', he', rfl⟩ := List.mem_map.mp hd'
    obtain ⟨p, hp⟩ := keys_at h he
    obtain ⟨p', hp'⟩ := keys_at h he'
    rw [hp, hp']
    exact kJ_alike p p'
  · obtain ⟨e, he, rfl⟩ := List.mem_map.mp hd
    obtain ⟨p, hp⟩ := keys_at h he
    exact ⟨_, _, by rw [hp, kJ_data]⟩
  · obtain ⟨p, hp⟩ := keys_at h he
    rw [hp]
    exact Nat.le_trans (kJ_ddepth p) (by decide)
theorem dp_refs {K : PySem.W.Frag} {H : Hp} : ∀ {l : List NE}, (∀ e ∈ l, NKv H e.1 (.ref e.2.1)) → DpAll K H (l.map fun e => .ref e.2.1) (l.map fun e => e.1.data)
  | [], _ => .nil
  | e :: l, h => .cons (NKv.dp _ _ (h e List.mem_cons_self)) (dp_refs fun x hx => h x (List.mem_cons_of_mem _ hx))
theorem plain_all : ∀ {ds : List PyData}, (∀ d ∈ ds, d.plain = true) → PyData.plainAll ds = true
  | [], _ => rfl
  | d :: ds, h => by rw [PyData.plainAll, h d List.mem_cons_self, plain_all fun x hx => h x (List.mem_cons_of_mem _ hx)]; rfl
theorem depth_all {n : Nat} : ∀ {ds : List PyData}, (∀ d ∈ ds, d.depth ≤ n) → PyData.depthAll ds ≤ n
  | [], _ => Nat.zero_le _
  | d :: ds, h => by
    have h1 := h d List.mem_cons_self
    have h2 := depth_all fun x hx => h x (List.mem_cons_of_mem _ hx)
    rw [PyData.depthAll]
    omega
/-- found and due, as read back and as made -/
def SameJ (w : World) : Nat → Hp → V → V → Prop
  | 0, _, _, _ => False
  | n + 1, H, f, d => (∃ s : Str, f = .str s ∧ d = .str s) ∨ (∃ i : Int, f = .int i ∧ d = .int i) ∨
    (∃ (a b : Addr) (xs ys : List V), f = .ref a ∧ d = .ref b ∧ ((H a = some (.lst xs) ∧ H b = some (.lst ys)) ∨ (H a = some (.tup xs) ∧ H b = some (.tup ys))) ∧ xs.length = ys.length ∧ ys.length ≤ 100000 ∧ ∀ (i : Nat) (x y : V), xs[i]? = some x → ys[i]? = some y → SameJ w n H x y) ∨
    (∃ (a b : Addr) (es1 es2 : List NE) (ks : List (Nat × List Nat)), f = .ref a ∧ d = .ref b ∧ a ≠ b ∧ (H a = some (ndO w a es1) ∧ NKeys H es1) ∧ (H b = some (ndO w b es2) ∧ NKeys H es2) ∧ es1.map (·.1) = ks.map kJ ∧ es2.map (·.1) = ks.map kJ ∧ ks.Nodup ∧ es2.length ≤ 600 ∧ ∀ e ∈ es2, ∃ v, atN es1 e.1 = some v ∧ ∀ H', SameJ w n H' v e.2.2)
theorem SameJ.same {w : World} {H H' : Hp} (S : Same H H') : ∀ {n : Nat} {f d : V}, SameJ w n H f d → SameJ w n H' f d
  | 0, _, _, h => h.elim
  | n + 1, f, d, h => by
    rcases h with h | h | ⟨a, b, xs, ys, h1, h2, h3, h4, h5, h6⟩ | ⟨a, b, es1, es2, ks, h1, h2, h0, h3, h4, h5, h6, h7, h8, h9⟩
    · exact .inl h
    · exact .inr (.inl h)
    · exact .inr (.inr (.inl ⟨a, b, xs, ys, h1, h2, h3.imp (fun q => ⟨S _ _ q.1, S _ _ q.2⟩) (fun q => ⟨S _ _ q.1, S _ _ q.2⟩), h4, h5, fun i x y hx hy => (h6 i x y hx hy).same S⟩))
    · exact .inr (.inr (.inr ⟨a, b, es1, es2, ks, h1, h2, h0, ⟨S _ _ h3.1, h3.2.stay fun _ _ e => S _ _ e⟩, ⟨S _ _ h4.1, h4.2.stay fun _ _ e => S _ _ e⟩, h5, h6, h7, h8, h9⟩))
theorem kA_int {K : PySem.W.Frag} : PySem.W.kitAny K (.type "int") [.type "list", .type "tuple"] = some false := kitAny_cons (b := false) (kit_ty (by decide +kernel)) (fun _ => kitAny_cons (b := false) (kit_ty (by decide +kernel)) (fun _ => kitAny_nil) (fun z => nomatch z)) (fun z => nomatch z)
theorem kA_dict {K : PySem.W.Frag} : PySem.W.kitAny K (.type "dict") [.type "list", .type "tuple"] = some false := kitAny_cons (b := false) (kit_ty (by decide +kernel)) (fun _ => kitAny_cons (b := false) (kit_ty (by decide +kernel)) (fun _ => kitAny_nil) (fun z => nomatch z)) (fun z => nomatch z)
theorem rIx_two {K : PySem.W.Frag} {H : Hp} {a : Addr} {xs : List V} {Q : VK} {j : Int} {i : Nat} {x : V} (h : H a = some (.lst xs) ∨ H a = some (.tup xs)) (hj : j = (i : Int)) (hx : xs[i]? = some x) (q : Q x H) : rIx K (.ref a) (.int j) H Q := by
  subst hj
  rcases h with h | h
  · exact .inl ⟨a, xs, _, x, rfl, rfl, SqL.of h, atI_nat hx, q⟩
  · exact .inr (.inl ⟨a, xs, _, x, rfl, rfl, SqT.of h, atI_nat hx, q⟩)
theorem kA_list {K : PySem.W.Frag} : PySem.W.kitAny K (.type "list") [.type "list", .type "tuple"] = some true := kitAny_cons (b := true) (kit_ty (by decide +kernel)) (fun z => nomatch z) (fun _ => rfl)
theorem kA_tuple {K : PySem.W.Frag} : PySem.W.kitAny K (.type "tuple") [.type "list", .type "tuple"] = some true := kitAny_cons (b := false) (kit_ty (by decide +kernel)) (fun _ => kitAny_cons (b := true) (kit_ty (by decide +kernel)) (fun z => nomatch z) (fun _ => rfl)) (fun z => nomatch z)
theorem kA_str {K : PySem.W.Frag} : PySem.W.kitAny K (.type "str") [.type "list", .type "tuple"] = some false := kitAny_cons (b := false) (kit_ty (by decide +kernel)) (fun _ => kitAny_cons (b := false) (kit_ty (by decide +kernel)) (fun _ => kitAny_nil) (fun z => nomatch z)) (fun z => nomatch z)
section
variable {P : Program} {w : World} {K : PySem.W.Frag} {mg : Str → Option Value} {base : Heap}
abbrev s__law_same : Stmt := top 33
theorem sc__law_same : FnScope ["found", "due", "k", "key"] ["found", "due"] (defScope s__law_same) := ⟨rfl, rfl, rfl, by decide +kernel, rfl, by decide +kernel, by decide +kernel⟩
abbrev s_law : Stmt := top 35
theorem sc_law : FnScope ["script", "at", "store", "judge", "handed", "text", "found", "told"] ["script"] (defScope s_law) := ⟨rfl, rfl, rfl, by decide +kernel, rfl, by decide +kernel, by decide +kernel⟩

def sp__law_same (w : World) (n : Nat) : Sp := fun vs H Q _ => ∃ f d, vs = [f, d] ∧ SameJ w n H f d ∧ ∀ H' : Hp, Same H H' → Q (.bl true) H'
theorem ok__law_same (D : Df K mg "_law_same" s__law_same ["found", "due"]) (T : Txt K mg) : ∀ n, G' P w K mg base "_law_same" (n + 1) ["found", "due"] (sp__law_same w n) := by
  intro n
  induction n with
  | zero =>
    refine D.ok fun f fd F => F.okX sc__law_same (fun vs H Q E h => ?_) (fun cdv A outer s H vs Q E hr h => ?_)
    · obtain ⟨f, d, rfl, _⟩ := h
      rfl
    · obtain ⟨f, d, rfl, h, k⟩ := h
      exact h.elim
  | succ n G__law_same =>
    refine D.ok fun f fd F => F.okX sc__law_same (fun vs H Q E h => ?_) (fun cdv A outer s H vs Q E hr h => ?_)
    · obtain ⟨f, d, rfl, _⟩ := h
      rfl
    · obtain ⟨f, d, rfl, h, k⟩ := h
      refine ⟨_, (pss_cons (ps_if (pt_val (pe_callB (callR_or (call_isiTK K) (call_isiTNK w K)) (by rfl) T.n_isinstance (by decide +kernel) (pa_cons (pv 1) (pa_cons (pe_tup (pa_cons (pe_ty (n := "list") T.n_list (by decide +kernel)) (pa_cons (pe_ty (n := "tuple") T.n_tuple (by decide +kernel)) pa_nil))) pa_nil)))) (pss_cons (ps_if (PW.pt (pw_or (pt_cmpR op_ne (pe_callB (call_isiK K) (by rfl) T.n_isinstance (by decide +kernel) (pa_cons (pv 0) (pa_cons (pe_ty (n := "tuple") T.n_tuple (by decide +kernel)) pa_nil))) (pe_callB (call_isiK K) (by rfl) T.n_isinstance (by decide +kernel) (pa_cons (pv 1) (pa_cons (pe_ty (n := "tuple") T.n_tuple (by decide +kernel)) pa_nil))) (nomark _)) (pw_or1 (pt_cmpR op_ne (pe_callB (call_isiK K) (by rfl) T.n_isinstance (by decide +kernel) (pa_cons (pv 0) (pa_cons (pe_ty (n := "list") T.n_list (by decide +kernel)) pa_nil))) (pe_callB (call_isiK K) (by rfl) T.n_isinstance (by decide +kernel) (pa_cons (pv 1) (pa_cons (pe_ty (n := "list") T.n_list (by decide +kernel)) pa_nil))) (nomark _))))) (pss_one (ps_ret pe_bl)) pss_nil)
  (pss_cons (ps_if (pt_cmpR op_ne (pe_callB (call_lenK K) (by rfl) T.n_len PySem.boot_len (pa_cons (pv 0) pa_nil)) (pe_callB (call_lenK K) (by rfl) T.n_len PySem.boot_len (pa_cons (pv 1) pa_nil)) (nomark _)) (pss_one (ps_ret pe_bl)) pss_nil)
  (pss_one (ps_ret (pe_cmp (pc_eqNilK K hr (pe_lc (own := [("k", 2)]) rfl sc__law_same.nd (pi_range1 (by rfl) T.n_range (pa_cons (pe_callB (call_lenK K) (by rfl) T.n_len PySem.boot_len (pa_cons (pv 1) pa_nil)) pa_nil)) (blkOk_by (own := [("k", 2)]) (N := ["found", "due", "k", "key"]) (sc := defScope s__law_same) (by decide +kernel)) (fun _ _ _ _ _ => (pg_name (i := 2) sc__law_same.nd rfl (by first | exact Or.inl rfl | exact Or.inr rfl))) (fun _ _ _ _ _ => (pts_one (pt_not (pt_val (pe_cl G__law_same (hr.mono (by omega)) passF (pa_cons (pe_ix (ix_seqK K) (pv 0) (pv 2) (fun _ _ => rfl)) (pa_cons (pe_ix (ix_seqK K) (pv 1) (pv 2) (fun _ _ => rfl)) pa_nil))))))) (fun _ _ _ _ _ => (pv 2))))))))) pss_nil)
  (pss_cons (ps_if (pt_val (pe_callB (callR_or (call_isiK K) (call_isiNK w K)) (by rfl) T.n_isinstance (by decide +kernel) (pa_cons (pv 1) (pa_cons (pe_ty (n := "str") T.n_str (by decide +kernel)) pa_nil)))) (pss_one (ps_ret (pe_and (pe_callB (call_isiK K) (by rfl) T.n_isinstance (by decide +kernel) (pa_cons (pv 0) (pa_cons (pe_ty (n := "str") T.n_str (by decide +kernel)) pa_nil))) (pe_one (pe_cmpR op_eq (pv 0) (pv 1) (nomark _)))))) pss_nil)
  (pss_cons (ps_if (pt_val (pe_callB (callR_or (call_isiK K) (call_isiNK w K)) (by rfl) T.n_isinstance (by decide +kernel) (pa_cons (pv 1) (pa_cons (pe_ty (n := "dict") T.n_dict (by decide +kernel)) pa_nil)))) (pss_cons (ps_if (PW.pt (pw_or (pt_not (pt_val (pe_callB (call_isiNK w K) (by rfl) T.n_isinstance (by decide +kernel) (pa_cons (pv 0) (pa_cons (pe_ty (n := "dict") T.n_dict (by decide +kernel)) pa_nil))))) (pw_or1 (pt_cmpR (op_nePK K hr) (pe_callB (call_sortedN w rfl hr) (by rfl) T.n_sorted (by decide +kernel) (pa_cons (pv 0) pa_nil)) (pe_callB (call_sortedN w rfl hr) (by rfl) T.n_sorted (by decide +kernel) (pa_cons (pv 1) pa_nil)) (nomark _))))) (pss_one (ps_ret pe_bl)) pss_nil)
  (pss_one (ps_ret (pe_cmp (pc_eqNilK K hr (pe_lock (pe_lc (own := [("key", 3)]) rfl sc__law_same.nd (pi_nkeys w (pv 1)) (blkOk_by (own := [("key", 3)]) (N := ["found", "due", "k", "key"]) (sc := defScope s__law_same) (by decide +kernel)) (fun _ _ _ _ _ => (pg_name (i := 3) sc__law_same.nd rfl (by first | exact Or.inl rfl | exact Or.inr rfl))) (fun _ _ _ _ _ => (pts_one (pt_not (pt_val (pe_cl G__law_same (hr.mono (by omega)) passF (pa_cons (pe_nget w hr (pv 0) (pv 3)) (pa_cons (pe_nget w hr (pv 1) (pv 3)) pa_nil))))))) (fun _ _ _ _ _ => (pv 3))))))))) pss_nil)
  (pss_one (ps_ret (pe_and (pe_callB (call_isiK K) (by rfl) T.n_isinstance (by decide +kernel) (pa_cons (pv 0) (pa_cons (pe_ty (n := "int") T.n_int (by decide +kernel)) pa_nil))) (pe_and (pe_not (pe_callB (call_isiK K) (by rfl) T.n_isinstance (by decide +kernel) (pa_cons (pv 0) (pa_cons (pe_ty (n := "bool") T.n_bool (by decide +kernel)) pa_nil)))) (pe_one (pe_cmpR op_eq (pv 0) (pv 1) (nomark _)))))))))), ?_⟩
      rcases h with ⟨s, rfl, rfl⟩ | ⟨i, rfl, rfl⟩ | ⟨a, b, xs, ys, rfl, rfl, h, e1, e2, h3⟩ | ⟨a, b, es1, es2, ks, rfl, rfl, hab, ⟨nd1, nk1⟩, ⟨nd2, nk2⟩, e1, e2, hn, hl, h3⟩
      · walk_at "rd"
        refine ⟨(by walk_at "sz"), fun p np => ?_⟩
        generalize ep : upd H p _ = H1
        obtain ⟨S1, hp1⟩ := newF np ep
        refine .inl ⟨_, p, _, _, _, _, rfl, hp1, .cons (.ty _) (.cons (.ty _) .nil), .base (.str _), kA_str, ?_⟩
        walk_at "rd"
        refine .inl ?_
        walk_at "rd"
        show Q (V.bl (decide (V.str s = V.str s))) H1
        rw [decide_eq_true (rfl : V.str s = V.str s)]
        exact k _ S1
      · walk_at "rd"
        refine ⟨(by walk_at "sz"), fun p np => ?_⟩
        generalize ep : upd H p _ = H1
        obtain ⟨S1, hp1⟩ := newF np ep
        refine .inl ⟨_, p, _, _, _, _, rfl, hp1, .cons (.ty _) (.cons (.ty _) .nil), .base (.int _), kA_int, ?_⟩
        walk_at "rd"
        refine .inl ?_
        walk_at "rd"
        refine .inl ?_
        walk_at "rd"
        show Q (V.bl (decide (V.int i = V.int i))) H1
        rw [decide_eq_true (rfl : V.int i = V.int i)]
        exact k _ S1
      · have hxy : (H a = some (.lst xs) ∨ H a = some (.tup xs)) ∧ (H b = some (.lst ys) ∨ H b = some (.tup ys)) := h.elim (fun q => ⟨.inl q.1, .inl q.2⟩) (fun q => ⟨.inr q.1, .inr q.2⟩)
        walk_at "rd"
        refine ⟨(by walk_at "sz"), fun p np => ?_⟩
        generalize ep : upd H p _ = H1
        obtain ⟨S1, hp1⟩ := newF np ep
        rcases h with ⟨ha, hb⟩ | ⟨ha, hb⟩
        · have ha1 := S1 _ _ ha
          have hb1 := S1 _ _ hb
          refine .inl ⟨_, p, _, _, _, _, rfl, hp1, .cons (.ty _) (.cons (.ty _) .nil), .base (.lst hb1), kA_list, ?_⟩
          walk_at "rd"
          refine iteC (by rw [e1]; simp) ?_
          walk_at "rd"
          refine ⟨by omega, by omega, ?_⟩
          rw [Int.toNat_natCast]
          refine fun D1 nD => lc_range (lo := 0) (n := ys.length) (fun i H' => Same H H' ∧ H' D1 = some (.lst [])) ⟨S1.trans (same_new nD), upd_same⟩ ?_ ?_
          · rintro i H2 hi ⟨S2, hD2⟩
            have hix : i < xs.length := by omega
            walk_at "rd"
            refine rIx_two (xs := xs) (i := i) (x := xs[i]) (hxy.1.imp (S2 _ _) (S2 _ _)) (by omega) (List.getElem?_eq_getElem hix) ?_
            walk_at "rd"
            refine rIx_two (xs := ys) (i := i) (x := ys[i]) (hxy.2.imp (S2 _ _) (S2 _ _)) (by omega) (List.getElem?_eq_getElem hi) ?_
            refine ⟨_, _, rfl, (h3 i _ _ (List.getElem?_eq_getElem hix) (List.getElem?_eq_getElem hi)).same S2, fun H3 S3 => ?_⟩
            walk_at "rd"
            exact ⟨S2.trans S3, S3 _ _ hD2⟩
          · rintro H2 ⟨S2, hD2⟩
            walk_at "rd"
            exact k _ S2
        · have ha1 := S1 _ _ ha
          have hb1 := S1 _ _ hb
          refine .inl ⟨_, p, _, _, _, _, rfl, hp1, .cons (.ty _) (.cons (.ty _) .nil), .base (.tup hb1), kA_tuple, ?_⟩
          walk_at "rd"
          refine iteC (by rw [e1]; simp) ?_
          walk_at "rd"
          refine ⟨by omega, by omega, ?_⟩
          rw [Int.toNat_natCast]
          refine fun D1 nD => lc_range (lo := 0) (n := ys.length) (fun i H' => Same H H' ∧ H' D1 = some (.lst [])) ⟨S1.trans (same_new nD), upd_same⟩ ?_ ?_
          · rintro i H2 hi ⟨S2, hD2⟩
            have hix : i < xs.length := by omega
            walk_at "rd"
            refine rIx_two (xs := xs) (i := i) (x := xs[i]) (hxy.1.imp (S2 _ _) (S2 _ _)) (by omega) (List.getElem?_eq_getElem hix) ?_
            walk_at "rd"
            refine rIx_two (xs := ys) (i := i) (x := ys[i]) (hxy.2.imp (S2 _ _) (S2 _ _)) (by omega) (List.getElem?_eq_getElem hi) ?_
            refine ⟨_, _, rfl, (h3 i _ _ (List.getElem?_eq_getElem hix) (List.getElem?_eq_getElem hi)).same S2, fun H3 S3 => ?_⟩
            walk_at "rd"
            exact ⟨S2.trans S3, S3 _ _ hD2⟩
          · rintro H2 ⟨S2, hD2⟩
            walk_at "rd"
            exact k _ S2
      · walk_at "rd"
        refine ⟨(by walk_at "sz"), fun p np => ?_⟩
        generalize ep : upd H p _ = H1
        obtain ⟨S1, hp1⟩ := newF np ep
        have nd11 : ND w H1 a es1 := (ND.of nd1 nk1).same S1
        have nd21 : ND w H1 b es2 := (ND.of nd2 nk2).same S1
        refine .inr ⟨_, p, _, _, _, _, rfl, hp1, .cons (.ty _) (.cons (.ty _) .nil), nd21, kA_dict, ?_⟩
        walk_at "rd"
        refine .inr ?_
        walk_at "rd"
        refine .inr ?_
        walk_at "rd"
        obtain ⟨k1, k2, k3⟩ := keys_sortable e1
        obtain ⟨k4, k5, k6⟩ := keys_sortable e2
        refine ⟨k1, k2, k3, fun q1 nq1 => ?_⟩
        generalize eq1 : upd H1 q1 _ = H2
        obtain ⟨S2, hq1⟩ := newF nq1 eq1
        have nd22 := nd21.same S2
        walk_at "rd"
        refine ⟨k4, k5, k6, fun q2 nq2 => ?_⟩
        generalize eq2 : upd H2 q2 _ = H3
        obtain ⟨S3, hq2⟩ := newF nq2 eq2
        have hq13 := S3 _ _ hq1
        have S03 : Same H H3 := S1.trans (S2.trans S3)
        have b1 : H3 b = some (ndO w b es2) := S03 _ _ nd2
        have a1 : H3 a = some (ndO w a es1) := S03 _ _ nd1
        have nkb : NKeys H3 es2 := nk2.stay fun _ _ e => S03 _ _ e
        have nka : NKeys H3 es1 := nk1.stay fun _ _ e => S03 _ _ e
        have pl : ∀ d ∈ (es1.mergeSort (PySem.W.dataLe false fun e : NE => e.1.data)).map (fun e => e.1.data), d.plain = true := fun d hd => by
          obtain ⟨e, he, rfl⟩ := List.mem_map.mp hd
          obtain ⟨x, hx⟩ := keys_at e1 (List.mem_mergeSort.mp he)
          rw [hx]
          exact kJ_plain x
        have dl : ∀ d ∈ (es1.mergeSort (PySem.W.dataLe false fun e : NE => e.1.data)).map (fun e => e.1.data), d.depth ≤ 2 := fun d hd => by
          obtain ⟨e, he, rfl⟩ := List.mem_map.mp hd
          obtain ⟨x, hx⟩ := keys_at e1 (List.mem_mergeSort.mp he)
          rw [hx]
          exact kJ_ddepth x
        have dq2 := dp_refs (K := K) (H := H3) (l := es2.mergeSort (PySem.W.dataLe false fun e : NE => e.1.data)) fun e he => (nkb e (List.mem_mergeSort.mp he)).1
        rw [sort_data e2, ← sort_data e1] at dq2
        refine ⟨.list _, .list _, Dp.lst (SqL.of hq13) (dp_refs fun e he => (nka e (List.mem_mergeSort.mp he)).1), Dp.lst (SqL.of hq2) dq2, plain_all pl, plain_all pl, ?_, ?_⟩
        · rw [Nat.min_self, PyData.depth]
          have := depth_all dl
          omega
        rw [show PyData.eqv _ _ = true from PySem.SeqAt.eqv_refl_plain (.list _) (plain_all pl)]
        walk_at "rd"
        dsimp only [tNext]
        walk_at "rd"
        refine ⟨b, _, b1, trivial, fun od => ?_⟩
        generalize eF : upd H3 b (.frz od _) = HF
        have hF : ∀ H2, Same HF H2 → ND w H2 b es2 := fun H2 S => nd_own b1 nkb od (by rw [eF]; exact S)
        have hFd : HF b = some (.frz od (ndO w b es2)) := by rw [← eF]; exact upd_same
        have hFa : HF a = some (ndO w a es1) := by rw [← eF, upd_ne hab]; exact a1
        have hFk : NKeys HF es1 := nka.stay fun t xs e => by rw [← eF]; exact frz_tup b1 t xs e
        walk_at "rd"
        refine ⟨_, _, _, rfl, hFd, fun D nD => lc_it walk_nkeys (PvE HF D fun _ => false) (PvE.start nD) (fun i H' _ p => p.S _ _ hFd) ?_ ?_⟩
        · rintro i x H4 H5 hi p ⟨rfl, e, he, rfl⟩
          have hm := List.mem_of_getElem? he
          obtain ⟨v, hv, hsv⟩ := h3 e hm
          have hNb := hF _ p.S
          have hNa : ND w H5 a es1 := (ND.of hFa hFk).same p.S
          have hke := hNb.ks e hm
          have hn2 : (es2.map (·.1)).Nodup := by rw [e2]; exact nodup_map' (fun _ _ e => kJ_inj e) hn
          have hv2 : atN es2 e.1 = some e.2.2 := atN_of_mem hn2 (List.mem_map.mpr ⟨e, hm, rfl⟩)
          walk_at "rd"
          refine ⟨_, _, _, _, _, rfl, rfl, hNa, hke.1, hke.2, hv, ?_⟩
          walk_at "rd"
          refine ⟨_, _, _, _, _, rfl, rfl, hNb, hke.1, hke.2, hv2, ?_⟩
          refine ⟨_, _, rfl, hsv _, fun H6 S6 => ?_⟩
          walk_at "rd"
          exact p.skip S6 rfl
        · rintro H4 ⟨S4, acc, hD, _, hacc⟩
          have hd4 := S4 _ _ hFd
          refine ⟨hd4, ?_⟩
          generalize eU : upd H4 b _ = H5
          have S5 : Same H3 H5 := by rw [← eU]; exact lock_same b1 (by rw [eF]; exact S4)
          have hD5 : H5 D = some (.lst acc) := by rw [← eU, upd_ne (ne_of hD hd4 (fun z => nomatch z))]; exact hD
          walk_at "rd"
          rw [hacc]
          rw [show ((List.range es2.length).all fun j => !false) = true by simp]
          exact k _ (S03.trans S5)
end
end Hy
set_option Elab.async false
set_option linter.all false
set_option maxRecDepth 100000
set_option maxHeartbeats 4000000
namespace Hy
open PySem L2
local macro_rules | `(tactic| walk_at "hp") => `(tactic| first
  | assumption | exact upd_same
  | (refine (upd_ne ?_).trans ?_ <;> first | assumption | (exact Ne.symm (by assumption)) | walk_at "ne" | walk_at "hp")
  | (refine (by assumption : Same _ _) _ _ ?_; assumption))
local macro_rules | `(tactic| walk_at "ne") => `(tactic| first
  | assumption | (exact Ne.symm (by assumption))
  | exact ne_of_none (by assumption) (by assumption) | exact Ne.symm (ne_of_none (by assumption) (by assumption)))
local macro_rules | `(tactic| walk_at "sz") => `(tactic| first | assumption | (show 0 ≤ sizeLine; decide) | (show 1 ≤ sizeLine; decide) | (show 2 ≤ sizeLine; decide) | (show 3 ≤ sizeLine; decide))
local macro_rules | `(tactic| walk_at "ar") => `(tactic| first
  | ((with_reducible show (0 : Int) < _); first | decide | omega)
  | ((with_reducible show CMul _ _); first | exact Or.inr (And.intro (by decide) (by decide)) | exact Or.inl (And.intro (by decide) (by decide)) | (refine Or.inl (And.intro ?_ ?_) <;> omega) | (refine Or.inr (And.intro ?_ ?_) <;> omega))
  | ((with_reducible show CPow _ _); exact And.intro (by decide) (And.intro (by decide) (by decide)))
  | ((with_reducible show CDiv _ _); first | exact And.intro (by decide) (by decide) | (refine And.intro ?_ ?_ <;> omega)))
/- one step of a reading -/
local macro_rules | `(tactic| walk_at "r1") => `(tactic| first
  | refine ⟨_, rfl, ?_⟩
  | refine iteB (by rfl) ?_ | refine iteC (by rfl) ?_
  | refine ⟨_, _, rfl, rfl, ?_⟩
  | refine ⟨rfl, ?_⟩
  | refine ⟨⟨_, rfl⟩, ?_⟩
  | refine ⟨_, _, _, _, true, rfl, .ty _, .base (.str _), kit_ty (by decide +kernel), ?_⟩
  | refine ⟨_, _, _, _, false, rfl, .ty _, .base (.str _), kit_ty (by decide +kernel), ?_⟩
  | refine ⟨_, _, _, _, true, rfl, .ty _, .base (.int _), kit_ty (by decide +kernel), ?_⟩
  | refine ⟨_, _, _, _, false, rfl, .ty _, .base (.int _), kit_ty (by decide +kernel), ?_⟩
  | refine ⟨_, _, _, _, true, rfl, .ty _, .base (.tup (by walk_at "hp")), kit_ty (by decide +kernel), ?_⟩
  | refine ⟨_, _, _, _, false, rfl, .ty _, .base (.tup (by walk_at "hp")), kit_ty (by decide +kernel), ?_⟩
  | refine ⟨_, _, _, _, true, rfl, .ty _, .base (.lst (by walk_at "hp")), kit_ty (by decide +kernel), ?_⟩
  | refine ⟨_, _, _, _, false, rfl, .ty _, .base (.lst (by walk_at "hp")), kit_ty (by decide +kernel), ?_⟩
  | refine ⟨_, _, rfl, ⟨by walk_at "sz", rfl⟩, ?_⟩
  | refine ⟨_, _, _, _, rfl, rfl, SqT.of (by walk_at "hp"), by rfl, ?_⟩
  | refine ⟨_, _, _, _, rfl, rfl, SqL.of (by walk_at "hp"), by rfl, ?_⟩
  | refine ⟨.inl ⟨rfl, _, SqL.of (by walk_at "hp")⟩, ?_⟩
  | refine ⟨_, _, _, rfl, rfl, (by walk_at "hp"), snoc_get, ?_⟩
  | refine ⟨_, _, _, _, rfl, rfl, (by walk_at "hp"), by rfl, ?_⟩
  | refine ⟨_, _, rfl, SqL.of (by walk_at "hp"), ?_⟩
  | refine ⟨_, _, rfl, SqT.of (by walk_at "hp"), by rfl, ?_⟩
  | refine ⟨_, (_ : List V), rfl, ?_⟩
  | refine ⟨_, _, rfl, .inl ⟨_, (by assumption), rfl⟩, ?_⟩
  | refine ⟨_, _, rfl, .inl ⟨_, SqL.of (by walk_at "hp"), rfl⟩, ?_⟩
  | refine ⟨_, _, rfl, .inr ⟨_, SqT.of (by walk_at "hp"), rfl⟩, ?_⟩
  | refine Or.inl ⟨(_ : Int), rfl, ?_⟩ | refine Or.inr ⟨(_ : Bool), rfl, ?_⟩
  | refine ⟨_, _, _, _, true, rfl, (by assumption : ND _ _ _ _), .ty _, kit_ty (by decide +kernel), ?_⟩
  | refine ⟨_, _, _, _, false, rfl, (by assumption : ND _ _ _ _), .ty _, kit_ty (by decide +kernel), ?_⟩
  | refine ⟨_, _, rfl, (by assumption : ND _ _ _ _), ?_⟩
  | refine And.intro (by walk_at "ar") ?_)
local macro_rules | `(tactic| walk_at "rd") => `(tactic| repeat walk_at "r1")

theorem Same.keepNew {H H1 H2 : Hp} {A : List Addr} (s : Same H H1) (n : ∀ a ∈ A, H a = none) (k : Keep A H1 H2) : Same H H2 := fun b o e => k.but b o (fun z => by rw [n b z] at e; cases e) (s b o e)
theorem JN.sameJ {w : World} {H : Hp} {J : Jd} {a d g a' d' g' : Addr} {es es' : List NE} (h : JN w H J a d g es) (h' : JN w H J a' d' g' es') (hd : d ≠ d') : SameJ w 3 H (.ref a) (.ref a') := by
  have hi : ∀ (n : Nat) (H : Hp) (i : Int), SameJ w (n + 1) H (.int i) (.int i) := fun n H i => .inr (.inl ⟨i, rfl, rfl⟩)
  have hdic : SameJ w 2 H (.ref d) (.ref d') := by
    refine .inr (.inr (.inr ⟨d, d', es, es', J.keys, rfl, rfl, hd, ⟨h.dic, h.ks⟩, ⟨h'.dic, h'.ks⟩, h.tab.ek h.ok, h'.tab.ek h'.ok, keysL_nodup h.ok.nodup _ _, h'.len, fun e he => ?_⟩))
    have hm : (e.1, e.2.2) ∈ es.map fun e => (e.1, e.2.2) := by
      rw [show (es.map fun e => (e.1, e.2.2)) = es'.map fun e => (e.1, e.2.2) from h.tab.trans h'.tab.symm]
      exact List.mem_map.mpr ⟨e, he, rfl⟩
    have hv : e.2.2 ∈ J.tb.map (fun n => V.int (n : Nat)) := by
      rw [← h'.tab.ev h'.ok]
      exact List.mem_map.mpr ⟨e, he, rfl⟩
    obtain ⟨n, _, e2⟩ := List.mem_map.mp hv
    refine ⟨e.2.2, atN_of_mem h.nodup hm, fun H' => ?_⟩
    rw [← e2]
    exact hi 0 H' _
  have hlst : SameJ w 2 H (.ref g) (.ref g') := by
    refine .inr (.inr (.inl ⟨g, g', _, _, rfl, rfl, .inl ⟨h.lst, h'.lst⟩, rfl, ?_, fun i x y hx hy => ?_⟩))
    · rw [List.length_map]
      have := h.ok.gd6
      omega
    · rw [hx] at hy
      cases hy
      obtain ⟨n, _, e2⟩ := List.mem_map.mp (List.mem_of_getElem? hx)
      rw [← e2]
      exact hi 0 H _
  refine .inr (.inr (.inl ⟨a, a', _, _, rfl, rfl, .inr ⟨h.tup, h'.tup⟩, rfl, by show 6 ≤ 100000; decide, fun i x y hx hy => ?_⟩))
  match i, hx, hy with
  | 0, hx, hy => cases hx; cases hy; exact .inl ⟨_, rfl, rfl⟩
  | 1, hx, hy => cases hx; cases hy; exact hi 1 H _
  | 2, hx, hy => cases hx; cases hy; exact hi 1 H _
  | 3, hx, hy => cases hx; cases hy; exact hi 1 H _
  | 4, hx, hy => cases hx; cases hy; exact hdic
  | 5, hx, hy => cases hx; cases hy; exact hlst
  | i + 6, hx, hy => simp at hx
theorem ints_dp {K : PySem.W.Frag} {H : Hp} : ∀ l : List Nat, DpAll K H (l.map fun n => V.int (n : Nat)) (l.map fun n => PyData.int (n : Nat))
  | [] => .nil
  | _ :: l => .cons (.int _) (ints_dp l)
theorem JAt.eqI {w : World} {K : PySem.W.Frag} {H : Hp} {J : Jd} {a d g a' d' g' : Addr} {es es' : List NE} (h : JAt w H J a d g es) (hT : TabP es J) (h' : JN w H J a' d' g' es') : Paired (EqI w K H) [.str (txS J.ls), .int (J.st : Nat), .int (J.few : Nat), .int (J.turn : Nat), .ref d, .ref g] [.str (txS J.ls), .int (J.st : Nat), .int (J.few : Nat), .int (J.turn : Nat), .ref d', .ref g'] := by
  have ei : ∀ i : Int, EqI w K H (.int i) (.int i) := fun i => .inl ⟨.int i, rfl, Nat.zero_le _, .int _, .int _⟩
  refine .cons (.inl ⟨.str _, rfl, Nat.zero_le _, .str _, .str _⟩) (.cons (ei _) (.cons (ei _) (.cons (ei _) (.cons (.inr ⟨d, d', es, es', rfl, rfl, h.dic, h'.at.dic, TabP.same hT h'.tab.p h'.ok⟩) (.cons (.inl ⟨.list (J.gd.map fun n => PyData.int (n : Nat)), ints_plain _, ?_, .lst (SqL.of h.lst) (ints_dp _), .lst (SqL.of h'.lst) (ints_dp _)⟩) .nil)))))
  rw [PyData.depth, ints_depth]
  decide
section
variable {P : Program} {w : World} {K : PySem.W.Frag} {mg : Str → Option Value} {base : Heap}
def sp_law : Sp := fun vs H Q _ => ∃ (a : Addr) (ns : List Int), vs = [.ref a] ∧ SqL K H a (ns.map V.int) ∧ ns.length ≤ 63 ∧ ∀ H', Q (.bl true) H'
theorem ok_law (T : Txt K mg) (G_show_judge : G' P w K mg base "show_judge" 2 ["judge"] (sp_show_judge w)) (G_read_judge : G' P w K mg base "read_judge" 5 ["text"] (sp_read_judge w K mg)) (G_is_judge : G' P w K mg base "is_judge" 4 ["thing"] (sp_is_judge w))
    (G__law_cell : G' P w K mg base "_law_cell" 1 ["script", "k"] (sp__law_cell (K := K))) (G__law_store : G' P w K mg base "_law_store" 1 ["cell"] sp__law_store) (G__law_take : G' P w K mg base "_law_take" 1 ["store", "many"] sp__law_take)
    (G__law_judge : G' P w K mg base "_law_judge" 3 ["store", "small"] (sp__law_judge w)) (G__law_shuffled : G' P w K mg base "_law_shuffled" 3 ["store", "judge"] (sp__law_shuffled w)) (G__law_shown : G' P w K mg base "_law_shown" 2 ["judge"] (sp__law_shown w))
    (G__law_same : G' P w K mg base "_law_same" 4 ["found", "due"] (sp__law_same w 3)) : ∀ (f : Addr) (fd : FuncData), Fun K "law" "law" s_law f fd → FnOk P w K mg base (L2.CX P w) 6 f fd ["script"] (sp_law (K := K)) := by
  refine fun f fd F => F.okX sc_law (fun vs H Q E h => ?_) (fun cdv A outer s H vs Q E hr h => ?_)
  · obtain ⟨a, ns, rfl, _⟩ := h
    rfl
  · obtain ⟨a, ns, rfl, hS, hl, k⟩ := h
    refine ⟨_, (pss_cons (ps_for (passes_of rfl) rfl (pi_range1 (by rfl) T.n_range (pa_cons (pe_callB (call_min2 rfl) (by rfl) T.n_min (by decide +kernel) (pa_cons (pe_callB (call_max2 rfl) (by rfl) T.n_max (by decide +kernel) (pa_cons (pe_callB (call_lenK K) (by rfl) T.n_len PySem.boot_len (pa_cons (pv 0) pa_nil)) (pa_cons pe_int pa_nil))) (pa_cons pe_int pa_nil))) pa_nil)) (pg_name (i := 1) sc_law.nd rfl (by first | exact Or.inl rfl | exact Or.inr rfl)) (pss_cons (ps_set (i := 2) sc_law.nd rfl (by first | exact Or.inl rfl | exact Or.inr rfl) (pe_cl G__law_store (hr.mono (by omega)) passF (pa_cons (pe_cl G__law_cell (hr.mono (by omega)) passF (pa_cons (pv 0) (pa_cons (pv 1) pa_nil))) pa_nil)))
  (pss_cons (ps_set (i := 3) sc_law.nd rfl (by first | exact Or.inl rfl | exact Or.inr rfl) (pe_cl G__law_judge (hr.mono (by omega)) passF (pa_cons (pv 2) (pa_cons (pe_cmpR op_eq (pe_cl G__law_take (hr.mono (by omega)) passF (pa_cons (pv 2) (pa_cons pe_int pa_nil))) pe_int (nomark _)) pa_nil))))
  (pss_cons (ps_set (i := 4) sc_law.nd rfl (by first | exact Or.inl rfl | exact Or.inr rfl) (pe_cl G__law_shuffled (hr.mono (by omega)) passF (pa_cons (pv 2) (pa_cons (pv 3) pa_nil))))
  (pss_cons (ps_set (i := 5) sc_law.nd rfl (by first | exact Or.inl rfl | exact Or.inr rfl) (pe_cl G__law_shown (hr.mono (by omega)) passF (pa_cons (pv 3) pa_nil)))
  (pss_cons (ps_set (i := 6) sc_law.nd rfl (by first | exact Or.inl rfl | exact Or.inr rfl) (pe_cl G_show_judge (hr.mono (by omega)) passF (pa_cons (pv 4) pa_nil)))
  (pss_cons (ps_if (PW.pt (pw_or (pt_not (pt_val (pe_callB (call_isiK K) (by rfl) T.n_isinstance (by decide +kernel) (pa_cons (pv 6) (pa_cons (pe_ty (n := "str") T.n_str (by decide +kernel)) pa_nil))))) (pw_or (pt_cmpR op_ne (pv 6) (pv 5) (nomark _)) (pw_or1 (pt_cmpR (op_neTK w K hr) (pv 4) (pv 3) (nomark _)))))) (pss_one (ps_ret pe_bl)) pss_nil)
  (pss_cons (ps_set (i := 7) sc_law.nd rfl (by first | exact Or.inl rfl | exact Or.inr rfl) (pe_cl G_read_judge (hr.mono (by omega)) (passW (takes_of rfl rfl rfl rfl) (fun _ _ _ _ z => z)) (pa_cons (pv 5) pa_nil)))
  (pss_cons (ps_if (PW.pt (pw_or (pt_not (pt_val (pe_cl G__law_same (hr.mono (by omega)) passF (pa_cons (pv 7) (pa_cons (pv 3) pa_nil))))) (pw_or1 (pt_cmpR op_isnot_bl (pe_cl G_is_judge (hr.mono (by omega)) passF (pa_cons (pv 7) pa_nil)) pe_bl (nomark _))))) (pss_one (ps_ret pe_bl)) pss_nil)
  (pss_cons (ps_expr (pe_nclear w (pe_ix (ix_tupK K) (pv 7) pe_int (fun _ _ => rfl))))
  (pss_cons (ps_expr (cbm K (pe_bm PySem.F.plainAttrs_list PySem.F.slot_list_append PySem.F.type_list_append mt_append (pe_ix (ix_tupK K) (pv 7) pe_int (fun _ _ => rfl)) (pa_cons pe_int pa_nil))))
  (pss_one (ps_if (PW.pt (pw_or (pt_cmp (pc_neNew w hr (pe_ix (ix_tupK K) (pv 7) pe_int (fun _ _ => rfl)))) (pw_or1 (pt_not (pt_val (pe_cl G__law_same (hr.mono (by omega)) passF (pa_cons (pe_cl G_read_judge (hr.mono (by omega)) (passW (takes_of rfl rfl rfl rfl) (fun _ _ _ _ z => z)) (pa_cons (pv 5) pa_nil)) (pa_cons (pv 3) pa_nil)))))))) (pss_one (ps_ret pe_bl)) pss_nil)))))))))))))
  (pss_one (ps_ret pe_bl))), ?_⟩
    have sS : ∀ H', Same H H' → SqL K H' a (ns.map V.int) := fun H' S => hS.imp (fun q => q.imp (fun e => S _ _ e) (fun ⟨o, e⟩ => ⟨o, S _ _ e⟩)) id
    walk_at "rd"
    refine ⟨_, _, rfl, ?_⟩
    walk_at "rd"
    refine ⟨_, _, rfl, ?_⟩
    walk_at "rd"
    refine ⟨?_, ?_, ?_⟩
    · split <;> split <;> omega
    · split <;> split <;> omega
    generalize hN : (if (10 : Int) < _ then _ else _ : Int).toNat = N
    have hN20 : N ≤ 10 := by
      rw [← hN]
      split <;> split <;> omega
    clear hN
    refine for_range (lo := 0) (n := N) (fun i σ H' => ∃ x1 x2 x3 x4 x5 x6 x7 : Option V, σ = [some (.ref a), x1, x2, x3, x4, x5, x6, x7] ∧ Same H H')
      ⟨_, _, _, _, _, _, _, rfl, Same.refl _⟩ ?_ ?_
    · rintro i σ H0 hi ⟨x1, x2, x3, x4, x5, x6, x7, rfl, S0⟩
      walk_at "rd"
      refine ⟨a, ns, i, by show [V.ref a, V.int (0 + (i : Int))] = _; rw [Int.zero_add], sS _ S0, by omega, fun z => ?_⟩
      refine ⟨z, rfl, fun H1 st g0 g1 S1 nst hst => ?_⟩
      have hst1 : StoreAt H1 st := ⟨_, _, _, hst⟩
      have nst0 : ∀ b ∈ [st], H0 b = none := fun b hb => by rw [List.mem_singleton.mp hb]; exact nst
      walk_at "rd"
      refine ⟨st, 2, rfl, hst1, by decide, by decide, fun H2 r2 K2 hst2 h20 h21 => ?_⟩
      walk_at "rd"
      refine ⟨st, _, rfl, hst2, fun H3 J ja jd jg es K3 hst3 njd njg hdg hJ => ?_⟩
      have djs : jd ≠ st := hst2.ne njd
      have gjs : jg ≠ st := hst2.ne njg
      walk_at "rd"
      refine ⟨st, J, ja, jd, jg, es, rfl, hst3, hJ, djs, gjs, fun H4 hb hd' hg' es' K4 hst4 n1 n2 hA hTP => ?_⟩
      have hJ4 : JN w H4 J ja jd jg es := hJ.keep K4 (by simpa using djs) (by simpa using gjs)
      walk_at "rd"
      refine ⟨J, ja, jd, jg, es, rfl, hJ4.at, hJ4.tab.p, hJ4.ok, fun H5 S5 => ?_⟩
      walk_at "rd"
      refine ⟨J, hb, hd', hg', es', rfl, hA.same S5, hTP, hJ.ok, fun H6 S6 => ?_⟩
      rw [Jd.text_eq]
      have S46 : Same H4 H6 := S5.trans S6
      have hJ6 := hJ4.same S46
      have hA6 := hA.same S46
      walk_at "rd"
      refine iteC (by rw [decide_eq_true rfl]; rfl) ?_
      walk_at "rd"
      refine ⟨hb, ja, _, _, rfl, rfl, SqT.of hA6.tup, SqT.of hJ6.tup, hA6.eqI hTP hJ6, ?_⟩
      walk_at "rd"
      have S06 : Same H0 H6 := (Same.keepNew S1 nst0 ((K2.trans K3).trans K4)).trans S46
      refine .inl ⟨J.txL, some J, rfl, hJ.ok.len, hJ.ok.rjd, fun J' e H7 ta td tg es7 S7 na nd ng hne hf => ?_, fun z => nomatch z⟩
      cases e
      have hT : JN w H7 J ta td tg es7 := hf.jn hJ.ok.okB
      have hJ7 := hJ6.same S7
      walk_at "rd"
      refine ⟨_, _, rfl, hT.sameJ hJ7 (ne_of_none hJ6.dic nd).symm, fun H8 S8 => ?_⟩
      walk_at "rd"
      refine ⟨J, ta, td, tg, es7, rfl, hf.same S8, fun H9 S9 => ?_⟩
      rw [hJ.ok.okB]
      walk_at "rd"
      have hT9 := hT.same (S8.trans S9)
      have S69 := S7.trans (S8.trans S9)
      have h9a := hT9.tup
      walk_at "rd"
      refine ⟨td, es7, rfl, hT9.dic, ?_⟩
      have htd : H6 td = none := nd
      generalize e10 : upd H9 td _ = H10
      have S610 : Same H6 H10 := by rw [← e10]; exact Same.upd_own S69 nd
      have h10d : H10 td = some (ndO w td []) := by rw [← e10]; exact upd_same
      have h10a := (show H10 ta = H9 ta by rw [← e10, upd_ne (ne_of h9a hT9.dic (fun z => nomatch z))]).trans h9a
      have h10g := (show H10 tg = H9 tg by rw [← e10, upd_ne (Ne.symm hne)]).trans hT9.lst
      walk_at "rd"
      refine ⟨tg, _, _, rfl, rfl, h10g, ?_, ?_⟩
      · rw [List.length_map]
        exact Nat.lt_of_le_of_lt hJ.ok.gd6 (by decide)
      generalize e11 : upd H10 tg _ = H11
      have S611 : Same H6 H11 := by rw [← e11]; exact Same.upd_own S610 ng
      have h11d : H11 td = some (ndO w td []) := by rw [← e11, upd_ne hne]; exact h10d
      have h11a := (show H11 ta = H10 ta by rw [← e11, upd_ne (ne_of h10a h10g (fun z => nomatch z))]).trans h10a
      walk_at "rd"
      refine ⟨ND.of h11d NKeys.nil, ?_⟩
      walk_at "rd"
      refine .inl ⟨J.txL, some J, rfl, hJ.ok.len, hJ.ok.rjd, fun J' e H12 ua ud ug es12 S12 na2 nd2 ng2 hne2 hf2 => ?_, fun z => nomatch z⟩
      cases e
      have hU : JN w H12 J ua ud ug es12 := hf2.jn hJ.ok.okB
      have hJ11 := hJ6.same S611
      walk_at "rd"
      refine ⟨_, _, rfl, hU.sameJ (hJ11.same S12) (ne_of_none hJ11.dic nd2).symm, fun H13 S13 => ?_⟩
      walk_at "rd"
      exact ⟨_, _, _, _, _, _, _, rfl, S0.trans (S06.trans (S611.trans (S12.trans S13)))⟩
    · rintro σ H2 ⟨x1, x2, x3, x4, x5, x6, x7, rfl, S2⟩
      walk_at "rd"
      exact k _
end
end Hy
set_option maxRecDepth 100000
set_option maxHeartbeats 4000000
namespace Hy
open PySem L2
section
variable {P : Program} {w : World} {K : PySem.W.Frag} {mg : Str → Option Value} {base : Heap}
structure TxF (K : PySem.W.Frag) (mg : Str → Option Value) : Prop where
  T : Txt K mg
  d_is_whole_within : Df K mg "is_whole_within" s_is_whole_within ["thing", "low", "high"]
  d_are_letters : Df K mg "are_letters" s_are_letters ["thing"]
  d_how_many_tuples : Df K mg "how_many_tuples" s_how_many_tuples ["letters", "states", "classes"]
  d_is_key : Df K mg "is_key" s_is_key ["thing", "letters", "states", "classes"]
  d_is_table : Df K mg "is_table" s_is_table ["thing", "letters", "states", "classes"]
  d_are_good : Df K mg "are_good" s_are_good ["thing", "states"]
  d_is_judge : Df K mg "is_judge" s_is_judge ["thing"]
  d_class_rows : Df K mg "class_rows" s_class_rows ["states", "classes"]
  d_written_good : Df K mg "written_good" s_written_good ["good"]
  d_show_judge : Df K mg "show_judge" s_show_judge ["judge"]
  d_figure_of : Df K mg "figure_of" s_figure_of ["word"]
  d_read_good : Df K mg "read_good" s_read_good ["word"]
  d_read_judge : Df K mg "read_judge" s_read_judge ["text"]
  d__law_cell : Df K mg "_law_cell" s__law_cell ["script", "k"]
  d__law_store : Df K mg "_law_store" s__law_store ["cell"]
  d__law_take : Df K mg "_law_take" s__law_take ["store", "many"]
  d__law_classes : Df K mg "_law_classes" s__law_classes ["many", "states"]
  d__law_letters : Df K mg "_law_letters" s__law_letters ["store"]
  d__law_judge : Df K mg "_law_judge" s__law_judge ["store", "small"]
  d__law_shown : Df K mg "_law_shown" s__law_shown ["judge"]
  d__law_same : Df K mg "_law_same" s__law_same ["found", "due"]
  d__law_shuffled : Df K mg "_law_shuffled" s__law_shuffled ["store", "judge"]
theorem law_ok (Z : TxF K mg) : ∀ (f : Addr) (fd : FuncData), Fun K "law" "law" s_law f fd → FnOk P w K mg base (L2.CX P w) 6 f fd ["script"] (sp_law (K := K)) := by
  have T := Z.T
  have G_take := ok__law_take (P := P) (w := w) (base := base) Z.d__law_take T
  have G_cl := ok__law_classes (P := P) (w := w) (base := base) Z.d__law_classes T
  have G_rows := ok_class_rows (P := P) (w := w) (base := base) Z.d_class_rows T
  have G_ww := ok_is_whole_within (P := P) (w := w) (base := base) Z.d_is_whole_within T
  have G_lets := ok_are_letters (P := P) (w := w) (base := base) Z.d_are_letters T
  have G_many := ok_how_many_tuples (P := P) (w := w) (base := base) Z.d_how_many_tuples T
  have G_good := ok_are_good Z.d_are_good T G_ww
  have G_key := ok_is_key Z.d_is_key T G_ww
  have G_table := ok_is_table Z.d_is_table T G_ww G_many G_key
  have G_judge := ok_is_judge Z.d_is_judge T G_lets G_ww G_table G_good
  have G_fig := ok_figure_of (P := P) (w := w) (base := base) Z.d_figure_of T
  have G_read := ok_read_judge Z.d_read_judge T G_fig G_many G_rows (ok_read_good Z.d_read_good T G_fig) G_judge
  exact ok_law T (ok_show_judge Z.d_show_judge T G_rows (ok_written_good Z.d_written_good T)) G_read G_judge (ok__law_cell Z.d__law_cell T) (ok__law_store Z.d__law_store T) G_take (ok__law_judge Z.d__law_judge T G_take (ok__law_letters Z.d__law_letters T G_take) G_cl) (ok__law_shuffled Z.d__law_shuffled T G_take) (ok__law_shown Z.d__law_shown T G_cl) (ok__law_same Z.d__law_same T 3)
theorem cx_no (w : World) (H : Hp) (s : Shared) (e : Value) (s2 : Shared) (h : L2.CX P w [] H s (fun _ _ _ => False) e s2) : False := by
  obtain ⟨_, _, _, _, _, _, _, _, _, _, _, _, z⟩ := h
  exact z
end
theorem all_mk {l : PySem.W.OpenLaw} {w : World} {K : PySem.W.Frag} {h : Heap} {mg : Str → Option Value} {fa f0 f1 f2 f3 f4 f5 f6 f7 f8 f9 f10 f11 f12 f13 f14 f15 f16 f17 f18 f19 f20 f21 f22 C0 C1 : Addr} (X : K.In h) (G : h.Ns mainGlobals mg) (hfa : mg "law" = some (.ref fa))
    {od0 an0 od1 an1 od2 an2 od3 an3 od4 an4 od5 an5 od6 an6 od7 an7 od8 an8 od9 an9 od10 an10 od11 an11 od12 an12 od13 an13 od14 an14 od15 an15 od16 an16 od17 an17 od18 an18 od19 an19 od20 an20 od21 an21 od22 an22 : Option Addr} {sl0 sl1 sl2 sl3 sl4 sl5 sl6 sl7 sl8 sl9 sl10 sl11 sl12 sl13 sl14 sl15 sl16 sl17 sl18 sl19 sl20 sl21 sl22 : Array (Option Value)} {oc0 kV0 dc0 pm0 cd0 ct0 oc1 kV1 dc1 pm1 cd1 ct1 oc2 kV2 dc2 pm2 cd2 ct2 oc3 kV3 dc3 pm3 cd3 ct3 oc4 kV4 dc4 pm4 cd4 ct4 oc5 kV5 dc5 pm5 cd5 ct5 oc6 kV6 dc6 pm6 cd6 ct6 oc7 kV7 dc7 pm7 cd7 ct7 oc8 kV8 dc8 pm8 cd8 ct8 oc9 kV9 dc9 pm9 cd9 ct9 oc10 kV10 dc10 pm10 cd10 ct10 oc11 kV11 dc11 pm11 cd11 ct11 oc12 kV12 dc12 pm12 cd12 ct12 oc13 kV13 dc13 pm13 cd13 ct13 oc14 kV14 dc14 pm14 cd14 ct14 oc15 kV15 dc15 pm15 cd15 ct15 oc16 kV16 dc16 pm16 cd16 ct16 oc17 kV17 dc17 pm17 cd17 ct17 oc18 kV18 dc18 pm18 cd18 ct18 oc19 kV19 dc19 pm19 cd19 ct19 oc20 kV20 dc20 pm20 cd20 ct20 oc21 kV21 dc21 pm21 cd21 ct21 oc22 kV22 dc22 pm22 cd22 ct22 : Value}
    (a0 : PySem.W.nsIn K mainGlobals "is_whole_within" = some (some (.ref f0)))
    (l0 : K.lookup f0 = some ⟨oc0, od0, .func (PySem.W.fnOf "is_whole_within" "is_whole_within" (defArgs s_is_whole_within) (defBody s_is_whole_within) (defScope s_is_whole_within) .none kV0 dc0 pm0 an0 cd0 ct0), sl0⟩)
    (c0 : PySem.W.codeIn K cd0 "is_whole_within" = true) (k0 : PySem.W.keepIn K (.ref f0) = true)
    (a1 : PySem.W.nsIn K mainGlobals "are_letters" = some (some (.ref f1)))
    (l1 : K.lookup f1 = some ⟨oc1, od1, .func (PySem.W.fnOf "are_letters" "are_letters" (defArgs s_are_letters) (defBody s_are_letters) (defScope s_are_letters) .none kV1 dc1 pm1 an1 cd1 ct1), sl1⟩)
    (c1 : PySem.W.codeIn K cd1 "are_letters" = true) (k1 : PySem.W.keepIn K (.ref f1) = true)
    (a2 : PySem.W.nsIn K mainGlobals "how_many_tuples" = some (some (.ref f2)))
    (l2 : K.lookup f2 = some ⟨oc2, od2, .func (PySem.W.fnOf "how_many_tuples" "how_many_tuples" (defArgs s_how_many_tuples) (defBody s_how_many_tuples) (defScope s_how_many_tuples) .none kV2 dc2 pm2 an2 cd2 ct2), sl2⟩)
    (c2 : PySem.W.codeIn K cd2 "how_many_tuples" = true) (k2 : PySem.W.keepIn K (.ref f2) = true)
    (a3 : PySem.W.nsIn K mainGlobals "is_key" = some (some (.ref f3)))
    (l3 : K.lookup f3 = some ⟨oc3, od3, .func (PySem.W.fnOf "is_key" "is_key" (defArgs s_is_key) (defBody s_is_key) (defScope s_is_key) .none kV3 dc3 pm3 an3 cd3 ct3), sl3⟩)
    (c3 : PySem.W.codeIn K cd3 "is_key" = true) (k3 : PySem.W.keepIn K (.ref f3) = true)
    (a4 : PySem.W.nsIn K mainGlobals "is_table" = some (some (.ref f4)))
    (l4 : K.lookup f4 = some ⟨oc4, od4, .func (PySem.W.fnOf "is_table" "is_table" (defArgs s_is_table) (defBody s_is_table) (defScope s_is_table) .none kV4 dc4 pm4 an4 cd4 ct4), sl4⟩)
    (c4 : PySem.W.codeIn K cd4 "is_table" = true) (k4 : PySem.W.keepIn K (.ref f4) = true)
    (a5 : PySem.W.nsIn K mainGlobals "are_good" = some (some (.ref f5)))
    (l5 : K.lookup f5 = some ⟨oc5, od5, .func (PySem.W.fnOf "are_good" "are_good" (defArgs s_are_good) (defBody s_are_good) (defScope s_are_good) .none kV5 dc5 pm5 an5 cd5 ct5), sl5⟩)
    (c5 : PySem.W.codeIn K cd5 "are_good" = true) (k5 : PySem.W.keepIn K (.ref f5) = true)
    (a6 : PySem.W.nsIn K mainGlobals "is_judge" = some (some (.ref f6)))
    (l6 : K.lookup f6 = some ⟨oc6, od6, .func (PySem.W.fnOf "is_judge" "is_judge" (defArgs s_is_judge) (defBody s_is_judge) (defScope s_is_judge) .none kV6 dc6 pm6 an6 cd6 ct6), sl6⟩)
    (c6 : PySem.W.codeIn K cd6 "is_judge" = true) (k6 : PySem.W.keepIn K (.ref f6) = true)
    (a7 : PySem.W.nsIn K mainGlobals "class_rows" = some (some (.ref f7)))
    (l7 : K.lookup f7 = some ⟨oc7, od7, .func (PySem.W.fnOf "class_rows" "class_rows" (defArgs s_class_rows) (defBody s_class_rows) (defScope s_class_rows) .none kV7 dc7 pm7 an7 cd7 ct7), sl7⟩)
    (c7 : PySem.W.codeIn K cd7 "class_rows" = true) (k7 : PySem.W.keepIn K (.ref f7) = true)
    (a8 : PySem.W.nsIn K mainGlobals "written_good" = some (some (.ref f8)))
    (l8 : K.lookup f8 = some ⟨oc8, od8, .func (PySem.W.fnOf "written_good" "written_good" (defArgs s_written_good) (defBody s_written_good) (defScope s_written_good) .none kV8 dc8 pm8 an8 cd8 ct8), sl8⟩)
    (c8 : PySem.W.codeIn K cd8 "written_good" = true) (k8 : PySem.W.keepIn K (.ref f8) = true)
    (a9 : PySem.W.nsIn K mainGlobals "show_judge" = some (some (.ref f9)))
    (l9 : K.lookup f9 = some ⟨oc9, od9, .func (PySem.W.fnOf "show_judge" "show_judge" (defArgs s_show_judge) (defBody s_show_judge) (defScope s_show_judge) .none kV9 dc9 pm9 an9 cd9 ct9), sl9⟩)
    (c9 : PySem.W.codeIn K cd9 "show_judge" = true) (k9 : PySem.W.keepIn K (.ref f9) = true)
    (a10 : PySem.W.nsIn K mainGlobals "figure_of" = some (some (.ref f10)))
    (l10 : K.lookup f10 = some ⟨oc10, od10, .func (PySem.W.fnOf "figure_of" "figure_of" (defArgs s_figure_of) (defBody s_figure_of) (defScope s_figure_of) .none kV10 dc10 pm10 an10 cd10 ct10), sl10⟩)
    (c10 : PySem.W.codeIn K cd10 "figure_of" = true) (k10 : PySem.W.keepIn K (.ref f10) = true)
    (a11 : PySem.W.nsIn K mainGlobals "read_good" = some (some (.ref f11)))
    (l11 : K.lookup f11 = some ⟨oc11, od11, .func (PySem.W.fnOf "read_good" "read_good" (defArgs s_read_good) (defBody s_read_good) (defScope s_read_good) .none kV11 dc11 pm11 an11 cd11 ct11), sl11⟩)
    (c11 : PySem.W.codeIn K cd11 "read_good" = true) (k11 : PySem.W.keepIn K (.ref f11) = true)
    (a12 : PySem.W.nsIn K mainGlobals "read_judge" = some (some (.ref f12)))
    (l12 : K.lookup f12 = some ⟨oc12, od12, .func (PySem.W.fnOf "read_judge" "read_judge" (defArgs s_read_judge) (defBody s_read_judge) (defScope s_read_judge) .none kV12 dc12 pm12 an12 cd12 ct12), sl12⟩)
    (c12 : PySem.W.codeIn K cd12 "read_judge" = true) (k12 : PySem.W.keepIn K (.ref f12) = true)
    (a13 : PySem.W.nsIn K mainGlobals "_law_cell" = some (some (.ref f13)))
    (l13 : K.lookup f13 = some ⟨oc13, od13, .func (PySem.W.fnOf "_law_cell" "_law_cell" (defArgs s__law_cell) (defBody s__law_cell) (defScope s__law_cell) .none kV13 dc13 pm13 an13 cd13 ct13), sl13⟩)
    (c13 : PySem.W.codeIn K cd13 "_law_cell" = true) (k13 : PySem.W.keepIn K (.ref f13) = true)
    (a14 : PySem.W.nsIn K mainGlobals "_law_store" = some (some (.ref f14)))
    (l14 : K.lookup f14 = some ⟨oc14, od14, .func (PySem.W.fnOf "_law_store" "_law_store" (defArgs s__law_store) (defBody s__law_store) (defScope s__law_store) .none kV14 dc14 pm14 an14 cd14 ct14), sl14⟩)
    (c14 : PySem.W.codeIn K cd14 "_law_store" = true) (k14 : PySem.W.keepIn K (.ref f14) = true)
    (a15 : PySem.W.nsIn K mainGlobals "_law_take" = some (some (.ref f15)))
    (l15 : K.lookup f15 = some ⟨oc15, od15, .func (PySem.W.fnOf "_law_take" "_law_take" (defArgs s__law_take) (defBody s__law_take) (defScope s__law_take) .none kV15 dc15 pm15 an15 cd15 ct15), sl15⟩)
    (c15 : PySem.W.codeIn K cd15 "_law_take" = true) (k15 : PySem.W.keepIn K (.ref f15) = true)
    (a16 : PySem.W.nsIn K mainGlobals "_law_classes" = some (some (.ref f16)))
    (l16 : K.lookup f16 = some ⟨oc16, od16, .func (PySem.W.fnOf "_law_classes" "_law_classes" (defArgs s__law_classes) (defBody s__law_classes) (defScope s__law_classes) .none kV16 dc16 pm16 an16 cd16 ct16), sl16⟩)
    (c16 : PySem.W.codeIn K cd16 "_law_classes" = true) (k16 : PySem.W.keepIn K (.ref f16) = true)
    (a17 : PySem.W.nsIn K mainGlobals "_law_letters" = some (some (.ref f17)))
    (l17 : K.lookup f17 = some ⟨oc17, od17, .func (PySem.W.fnOf "_law_letters" "_law_letters" (defArgs s__law_letters) (defBody s__law_letters) (defScope s__law_letters) .none kV17 dc17 pm17 an17 cd17 ct17), sl17⟩)
    (c17 : PySem.W.codeIn K cd17 "_law_letters" = true) (k17 : PySem.W.keepIn K (.ref f17) = true)
    (a18 : PySem.W.nsIn K mainGlobals "_law_judge" = some (some (.ref f18)))
    (l18 : K.lookup f18 = some ⟨oc18, od18, .func (PySem.W.fnOf "_law_judge" "_law_judge" (defArgs s__law_judge) (defBody s__law_judge) (defScope s__law_judge) .none kV18 dc18 pm18 an18 cd18 ct18), sl18⟩)
    (c18 : PySem.W.codeIn K cd18 "_law_judge" = true) (k18 : PySem.W.keepIn K (.ref f18) = true)
    (a19 : PySem.W.nsIn K mainGlobals "_law_shown" = some (some (.ref f19)))
    (l19 : K.lookup f19 = some ⟨oc19, od19, .func (PySem.W.fnOf "_law_shown" "_law_shown" (defArgs s__law_shown) (defBody s__law_shown) (defScope s__law_shown) .none kV19 dc19 pm19 an19 cd19 ct19), sl19⟩)
    (c19 : PySem.W.codeIn K cd19 "_law_shown" = true) (k19 : PySem.W.keepIn K (.ref f19) = true)
    (a20 : PySem.W.nsIn K mainGlobals "_law_same" = some (some (.ref f20)))
    (l20 : K.lookup f20 = some ⟨oc20, od20, .func (PySem.W.fnOf "_law_same" "_law_same" (defArgs s__law_same) (defBody s__law_same) (defScope s__law_same) .none kV20 dc20 pm20 an20 cd20 ct20), sl20⟩)
    (c20 : PySem.W.codeIn K cd20 "_law_same" = true) (k20 : PySem.W.keepIn K (.ref f20) = true)
    (a21 : PySem.W.nsIn K mainGlobals "_law_shuffled" = some (some (.ref f21)))
    (l21 : K.lookup f21 = some ⟨oc21, od21, .func (PySem.W.fnOf "_law_shuffled" "_law_shuffled" (defArgs s__law_shuffled) (defBody s__law_shuffled) (defScope s__law_shuffled) .none kV21 dc21 pm21 an21 cd21 ct21), sl21⟩)
    (c21 : PySem.W.codeIn K cd21 "_law_shuffled" = true) (k21 : PySem.W.keepIn K (.ref f21) = true)
    (a22 : PySem.W.nsIn K mainGlobals "law" = some (some (.ref f22)))
    (l22 : K.lookup f22 = some ⟨oc22, od22, .func (PySem.W.fnOf "law" "law" (defArgs s_law) (defBody s_law) (defScope s_law) .none kV22 dc22 pm22 an22 cd22 ct22), sl22⟩)
    (c22 : PySem.W.codeIn K cd22 "law" = true) (k22 : PySem.W.keepIn K (.ref f22) = true)
    (b0 : PySem.W.nsIn K mainGlobals "HeapError" = some (some (.ref C0))) (x0 : PySem.W.excIn K C0 [.type "ValueError", .type "Exception", .type "BaseException", .type "object"] "ValueError.__new__" = true) (p0 : PySem.W.keepIn K (.ref C0) = true)
    (s0 : PySem.W.subIn K (.ref C0) (.type "BaseException") = some true) (t0 : PySem.W.typeIn K (.ref C0) = some (.type "type"))
    (b1 : PySem.W.nsIn K mainGlobals "NoText" = some (some (.ref C1))) (x1 : PySem.W.excIn K C1 [.type "ValueError", .type "Exception", .type "BaseException", .type "object"] "ValueError.__new__" = true) (p1 : PySem.W.keepIn K (.ref C1) = true)
    (s1 : PySem.W.subIn K (.ref C1) (.type "BaseException") = some true) (t1 : PySem.W.typeIn K (.ref C1) = some (.type "type"))
    (z0 : PySem.W.nsIn K mainGlobals "len" = some none)
    (z1 : PySem.W.nsIn K mainGlobals "range" = some none)
    (z2 : PySem.W.nsIn K mainGlobals "dict" = some none)
    (z3 : PySem.W.nsIn K mainGlobals "list" = some none)
    (z4 : PySem.W.nsIn K mainGlobals "isinstance" = some none)
    (z5 : PySem.W.nsIn K mainGlobals "str" = some none)
    (z6 : PySem.W.nsIn K mainGlobals "int" = some none)
    (z7 : PySem.W.nsIn K mainGlobals "min" = some none)
    (z8 : PySem.W.nsIn K mainGlobals "zip" = some none)
    (z9 : PySem.W.nsIn K mainGlobals "tuple" = some none)
    (z10 : PySem.W.nsIn K mainGlobals "bool" = some none)
    (z11 : PySem.W.nsIn K mainGlobals "max" = some none)
    (z12 : PySem.W.nsIn K mainGlobals "sorted" = some none)
    (z13 : PySem.W.nsIn K mainGlobals "sum" = some none)
    {q0 : Tok} (yy0 : PySem.W.nsIn K mainGlobals "LETTERS" = some (some (.str "abcdefghijklmnopqrstuvwxyz" q0)))
    {q1 : Tok} (yy1 : PySem.W.nsIn K mainGlobals "MOST_STATES" = some (some (.int 6 q1)))
    {q2 : Tok} (yy2 : PySem.W.nsIn K mainGlobals "MOST_FEW" = some (some (.int 4 q2)))
    {q3 : Tok} (yy3 : PySem.W.nsIn K mainGlobals "MOST_TURN" = some (some (.int 4 q3)))
    {q4 : Tok} (yy4 : PySem.W.nsIn K mainGlobals "MOST_TUPLES_judges" = some (some (.int 600 q4)))
    {q5 : Tok} (yy5 : PySem.W.nsIn K mainGlobals "FIGURES" = some (some (.str "0123456789" q5)))
    {q6 : Tok} (yy6 : PySem.W.nsIn K mainGlobals "MOST_TUPLES_texts" = some (some (.int 600 q6)))
    : ∃ fd : FuncData, (∀ (s : Shared) (v : Value), BindsTo s fd ⟨[v], []⟩ [("script", v)]) ∧ ∀ base : Heap, K.In base → base.Ns mainGlobals mg → FnOk l.prog w K mg base (L2.CX l.prog w) 6 fa fd ["script"] (sp_law (K := K)) := by
  have e := hfa.symm.trans (PySem.W.mg_of X G a22)
  cases e
  have T : Txt K mg := ⟨PySem.W.mg_none_of X G z0, PySem.W.mg_none_of X G z1, PySem.W.mg_none_of X G z2, PySem.W.mg_none_of X G z3, PySem.W.mg_none_of X G z4, PySem.W.mg_none_of X G z5, PySem.W.mg_none_of X G z6, PySem.W.mg_none_of X G z7, PySem.W.mg_none_of X G z8, PySem.W.mg_none_of X G z9, PySem.W.mg_none_of X G z10, PySem.W.mg_none_of X G z11, PySem.W.mg_none_of X G z12, PySem.W.mg_none_of X G z13, ⟨_, PySem.W.mg_of X G yy0, ⟨_, rfl⟩⟩, ⟨_, PySem.W.mg_of X G yy1, ⟨_, rfl⟩⟩, ⟨_, PySem.W.mg_of X G yy2, ⟨_, rfl⟩⟩, ⟨_, PySem.W.mg_of X G yy3, ⟨_, rfl⟩⟩, ⟨_, PySem.W.mg_of X G yy4, ⟨_, rfl⟩⟩, ⟨_, PySem.W.mg_of X G yy5, ⟨_, rfl⟩⟩, ⟨_, PySem.W.mg_of X G yy6, ⟨_, rfl⟩⟩, ⟨_, PySem.W.mg_of X G b0, x0, p0, s0, t0⟩, ⟨_, PySem.W.mg_of X G b1, x1, p1, s1, t1⟩⟩
  have F0 := fun_mk (st := s_is_whole_within) l0 c0 k0
  have B0 := F0.binds (ps := ["thing", "low", "high"]) fun _ _ _ _ _ _ us hl => match us, hl with | [_, _, _], _ => rfl
  have F1 := fun_mk (st := s_are_letters) l1 c1 k1
  have B1 := F1.binds (ps := ["thing"]) fun _ _ _ _ _ _ us hl => match us, hl with | [_], _ => rfl
  have F2 := fun_mk (st := s_how_many_tuples) l2 c2 k2
  have B2 := F2.binds (ps := ["letters", "states", "classes"]) fun _ _ _ _ _ _ us hl => match us, hl with | [_, _, _], _ => rfl
  have F3 := fun_mk (st := s_is_key) l3 c3 k3
  have B3 := F3.binds (ps := ["thing", "letters", "states", "classes"]) fun _ _ _ _ _ _ us hl => match us, hl with | [_, _, _, _], _ => rfl
  have F4 := fun_mk (st := s_is_table) l4 c4 k4
  have B4 := F4.binds (ps := ["thing", "letters", "states", "classes"]) fun _ _ _ _ _ _ us hl => match us, hl with | [_, _, _, _], _ => rfl
  have F5 := fun_mk (st := s_are_good) l5 c5 k5
  have B5 := F5.binds (ps := ["thing", "states"]) fun _ _ _ _ _ _ us hl => match us, hl with | [_, _], _ => rfl
  have F6 := fun_mk (st := s_is_judge) l6 c6 k6
  have B6 := F6.binds (ps := ["thing"]) fun _ _ _ _ _ _ us hl => match us, hl with | [_], _ => rfl
  have F7 := fun_mk (st := s_class_rows) l7 c7 k7
  have B7 := F7.binds (ps := ["states", "classes"]) fun _ _ _ _ _ _ us hl => match us, hl with | [_, _], _ => rfl
  have F8 := fun_mk (st := s_written_good) l8 c8 k8
  have B8 := F8.binds (ps := ["good"]) fun _ _ _ _ _ _ us hl => match us, hl with | [_], _ => rfl
  have F9 := fun_mk (st := s_show_judge) l9 c9 k9
  have B9 := F9.binds (ps := ["judge"]) fun _ _ _ _ _ _ us hl => match us, hl with | [_], _ => rfl
  have F10 := fun_mk (st := s_figure_of) l10 c10 k10
  have B10 := F10.binds (ps := ["word"]) fun _ _ _ _ _ _ us hl => match us, hl with | [_], _ => rfl
  have F11 := fun_mk (st := s_read_good) l11 c11 k11
  have B11 := F11.binds (ps := ["word"]) fun _ _ _ _ _ _ us hl => match us, hl with | [_], _ => rfl
  have F12 := fun_mk (st := s_read_judge) l12 c12 k12
  have B12 := F12.binds (ps := ["text"]) fun _ _ _ _ _ _ us hl => match us, hl with | [_], _ => rfl
  have F13 := fun_mk (st := s__law_cell) l13 c13 k13
  have B13 := F13.binds (ps := ["script", "k"]) fun _ _ _ _ _ _ us hl => match us, hl with | [_, _], _ => rfl
  have F14 := fun_mk (st := s__law_store) l14 c14 k14
  have B14 := F14.binds (ps := ["cell"]) fun _ _ _ _ _ _ us hl => match us, hl with | [_], _ => rfl
  have F15 := fun_mk (st := s__law_take) l15 c15 k15
  have B15 := F15.binds (ps := ["store", "many"]) fun _ _ _ _ _ _ us hl => match us, hl with | [_, _], _ => rfl
  have F16 := fun_mk (st := s__law_classes) l16 c16 k16
  have B16 := F16.binds (ps := ["many", "states"]) fun _ _ _ _ _ _ us hl => match us, hl with | [_, _], _ => rfl
  have F17 := fun_mk (st := s__law_letters) l17 c17 k17
  have B17 := F17.binds (ps := ["store"]) fun _ _ _ _ _ _ us hl => match us, hl with | [_], _ => rfl
  have F18 := fun_mk (st := s__law_judge) l18 c18 k18
  have B18 := F18.binds (ps := ["store", "small"]) fun _ _ _ _ _ _ us hl => match us, hl with | [_, _], _ => rfl
  have F19 := fun_mk (st := s__law_shown) l19 c19 k19
  have B19 := F19.binds (ps := ["judge"]) fun _ _ _ _ _ _ us hl => match us, hl with | [_], _ => rfl
  have F20 := fun_mk (st := s__law_same) l20 c20 k20
  have B20 := F20.binds (ps := ["found", "due"]) fun _ _ _ _ _ _ us hl => match us, hl with | [_, _], _ => rfl
  have F21 := fun_mk (st := s__law_shuffled) l21 c21 k21
  have B21 := F21.binds (ps := ["store", "judge"]) fun _ _ _ _ _ _ us hl => match us, hl with | [_, _], _ => rfl
  have Z : TxF K mg := ⟨T, ⟨_, _, F0, PySem.W.mg_of X G a0, B0⟩, ⟨_, _, F1, PySem.W.mg_of X G a1, B1⟩, ⟨_, _, F2, PySem.W.mg_of X G a2, B2⟩, ⟨_, _, F3, PySem.W.mg_of X G a3, B3⟩, ⟨_, _, F4, PySem.W.mg_of X G a4, B4⟩, ⟨_, _, F5, PySem.W.mg_of X G a5, B5⟩, ⟨_, _, F6, PySem.W.mg_of X G a6, B6⟩, ⟨_, _, F7, PySem.W.mg_of X G a7, B7⟩, ⟨_, _, F8, PySem.W.mg_of X G a8, B8⟩, ⟨_, _, F9, PySem.W.mg_of X G a9, B9⟩, ⟨_, _, F10, PySem.W.mg_of X G a10, B10⟩, ⟨_, _, F11, PySem.W.mg_of X G a11, B11⟩, ⟨_, _, F12, PySem.W.mg_of X G a12, B12⟩, ⟨_, _, F13, PySem.W.mg_of X G a13, B13⟩, ⟨_, _, F14, PySem.W.mg_of X G a14, B14⟩, ⟨_, _, F15, PySem.W.mg_of X G a15, B15⟩, ⟨_, _, F16, PySem.W.mg_of X G a16, B16⟩, ⟨_, _, F17, PySem.W.mg_of X G a17, B17⟩, ⟨_, _, F18, PySem.W.mg_of X G a18, B18⟩, ⟨_, _, F19, PySem.W.mg_of X G a19, B19⟩, ⟨_, _, F20, PySem.W.mg_of X G a20, B20⟩, ⟨_, _, F21, PySem.W.mg_of X G a21, B21⟩⟩
  exact ⟨PySem.W.fnOf "law" "law" (defArgs s_law) (defBody s_law) (defScope s_law) .none kV22 dc22 pm22 an22 cd22 ct22, fun s v => .of_eq rfl, fun base _ _ => law_ok Z _ _ (fun_mk (st := s_law) l22 c22 k22)⟩
theorem walk {l : PySem.W.OpenLaw} {q : Program} {loose : List Str} {XP : (Str → Option Value) → Heap → Prop} {YP : World → Heap → Prop} {d : DefRec} {K : Params → PySem.W.Frag} (hn : l.most = some 63) (hdf : d.params.defaults = [])
    (hY : ∀ (w : World) (h : Heap), YP w h → (K w.params).In h)
    (F : ∀ (w : World) (mg : Str → Option Value) (fa : Addr) (h : Heap), (K w.params).In h → h.Ns mainGlobals mg → mg d.name = some (.ref fa) →
      ∃ fd : FuncData, (∀ (s : Shared) (u : Value), BindsTo s fd ⟨[u], []⟩ [("script", u)]) ∧ ∀ base : Heap, (K w.params).In base → base.Ns mainGlobals mg → FnOk l.prog w (K w.params) mg base (L2.CX l.prog w) 6 fa fd ["script"] (sp_law (K := K w.params))) :
    PySem.W.WalkO q loose XP YP l.row.toRowW d [] (fun f vs => PySem.call f vs) :=
  L2.walk_of (n := 63) (k := 6) (x := "script") (CX := fun w => L2.CX l.prog w) (sp := fun w => sp_law (K := K w.params)) hn (by decide) hdf ⟨rfl, by decide, by decide⟩ hY F (fun _ _ a ns hl _ hS => ⟨a, ns, rfl, hS, hl, fun _ => rfl⟩) fun w H s e s2 => cx_no w H s e s2
end Hy
open PySem PySem.W PyProof.Rows in
set_option maxRecDepth 100000 in
set_option maxHeartbeats 0 in
theorem PySem.Challenge.cw_heaptrees_k77_judges_written_holds : PySem.Challenge.rw_heaptrees_k77_judges_written.Holds := by
  w_on; o_law; k_head; (case hw => w_witness2)
  k_fill
  refine Hy.walk (l := PySem.Challenge.rw_heaptrees_k77_judges_written) rfl rfl (fun w h Y => PySem.W.kIn_of Y) ?F
  case F =>
    intro w mg fa h KX G hmg
    refine' Hy.all_mk KX G hmg ?a0 ?l0 ?c0 ?k0 ?a1 ?l1 ?c1 ?k1 ?a2 ?l2 ?c2 ?k2 ?a3 ?l3 ?c3 ?k3 ?a4 ?l4 ?c4 ?k4 ?a5 ?l5 ?c5 ?k5 ?a6 ?l6 ?c6 ?k6 ?a7 ?l7 ?c7 ?k7 ?a8 ?l8 ?c8 ?k8 ?a9 ?l9 ?c9 ?k9 ?a10 ?l10 ?c10 ?k10 ?a11 ?l11 ?c11 ?k11 ?a12 ?l12 ?c12 ?k12 ?a13 ?l13 ?c13 ?k13 ?a14 ?l14 ?c14 ?k14 ?a15 ?l15 ?c15 ?k15 ?a16 ?l16 ?c16 ?k16 ?a17 ?l17 ?c17 ?k17 ?a18 ?l18 ?c18 ?k18 ?a19 ?l19 ?c19 ?k19 ?a20 ?l20 ?c20 ?k20 ?a21 ?l21 ?c21 ?k21 ?a22 ?l22 ?c22 ?k22 ?b0 ?x0 ?p0 ?s0 ?t0 ?b1 ?x1 ?p1 ?s1 ?t1 ?z0 ?z1 ?z2 ?z3 ?z4 ?z5 ?z6 ?z7 ?z8 ?z9 ?z10 ?z11 ?z12 ?z13 ?yy0 ?yy1 ?yy2 ?yy3 ?yy4 ?yy5 ?yy6
    (case a0 => k_is)
    (case l0 => k_is)
    (case c0 => k_is)
    (case k0 => k_is)
    (case a1 => k_is)
    (case l1 => k_is)
    (case c1 => k_is)
    (case k1 => k_is)
    (case a2 => k_is)
    (case l2 => k_is)
    (case c2 => k_is)
    (case k2 => k_is)
    (case a3 => k_is)
    (case l3 => k_is)
    (case c3 => k_is)
    (case k3 => k_is)
    (case a4 => k_is)
    (case l4 => k_is)
    (case c4 => k_is)
    (case k4 => k_is)
    (case a5 => k_is)
    (case l5 => k_is)
    (case c5 => k_is)
    (case k5 => k_is)
    (case a6 => k_is)
    (case l6 => k_is)
    (case c6 => k_is)
    (case k6 => k_is)
    (case a7 => k_is)
    (case l7 => k_is)
    (case c7 => k_is)
    (case k7 => k_is)
    (case a8 => k_is)
    (case l8 => k_is)
    (case c8 => k_is)
    (case k8 => k_is)
    (case a9 => k_is)
    (case l9 => k_is)
    (case c9 => k_is)
    (case k9 => k_is)
    (case a10 => k_is)
    (case l10 => k_is)
    (case c10 => k_is)
    (case k10 => k_is)
    (case a11 => k_is)
    (case l11 => k_is)
    (case c11 => k_is)
    (case k11 => k_is)
    (case a12 => k_is)
    (case l12 => k_is)
    (case c12 => k_is)
    (case k12 => k_is)
    (case a13 => k_is)
    (case l13 => k_is)
    (case c13 => k_is)
    (case k13 => k_is)
    (case a14 => k_is)
    (case l14 => k_is)
    (case c14 => k_is)
    (case k14 => k_is)
    (case a15 => k_is)
    (case l15 => k_is)
    (case c15 => k_is)
    (case k15 => k_is)
    (case a16 => k_is)
    (case l16 => k_is)
    (case c16 => k_is)
    (case k16 => k_is)
    (case a17 => k_is)
    (case l17 => k_is)
    (case c17 => k_is)
    (case k17 => k_is)
    (case a18 => k_is)
    (case l18 => k_is)
    (case c18 => k_is)
    (case k18 => k_is)
    (case a19 => k_is)
    (case l19 => k_is)
    (case c19 => k_is)
    (case k19 => k_is)
    (case a20 => k_is)
    (case l20 => k_is)
    (case c20 => k_is)
    (case k20 => k_is)
    (case a21 => k_is)
    (case l21 => k_is)
    (case c21 => k_is)
    (case k21 => k_is)
    (case a22 => k_is)
    (case l22 => k_is)
    (case c22 => k_is)
    (case k22 => k_is)
    (case b0 => k_is)
    (case x0 => k_exc)
    (case p0 => k_is)
    (case s0 => k_is)
    (case t0 => k_is)
    (case b1 => k_is)
    (case x1 => k_exc)
    (case p1 => k_is)
    (case s1 => k_is)
    (case t1 => k_is)
    (case z0 => k_is)
    (case z1 => k_is)
    (case z2 => k_is)
    (case z3 => k_is)
    (case z4 => k_is)
    (case z5 => k_is)
    (case z6 => k_is)
    (case z7 => k_is)
    (case z8 => k_is)
    (case z9 => k_is)
    (case z10 => k_is)
    (case z11 => k_is)
    (case z12 => k_is)
    (case z13 => k_is)
    (case yy0 => k_is)
    (case yy1 => k_is)
    (case yy2 => k_is)
    (case yy3 => k_is)
    (case yy4 => k_is)
    (case yy5 => k_is)
    (case yy6 => k_is)
