import PyProof.Rows.All
import Wide.All
import OpenK.AllK
import Wide.FinOn
import PyProof.EqAt
import PyProof.EqKinds
import PyProof.TupleCall
import HandS.ForMost
import HandS.More
import HandS.Codes
import HandS.Star
import HandS.MethStar
import HandS.Property
import HandS.ClsMeth
import HandS.Defaults
import HandS.MakeKwOnly
import HandS.SortKw
import HandS.DictComp
import HandS.DictEq
import HandS.DeepEq
import HandS.Conv
import HandS.Deep
import HandS.Zip
import HandS.IsInst
import HandS.Wide
import HandS.WideMore
import HandS.WideBits
import HandS.FStr
import HandS.Flow
import HandS.Style
import HandS.TupAny
import HandS.ListItems
import HandS.Lambda
import HandS.Walk
import HandS.SortInts
import HandS.EndTab
import HandS.EndBits
import HandS.Head0
import HandS.Head1
import HandS.Head2
import HandS.HeadEnd
import HandS.HeadHook1
import HandS.HeadHook2
import HandS.HeadHook4
import HandS.HeadNt
import KE.SortKeyHeap
import KE.GoesMore
import KE.GoesZip
import HandS.HeadWalk
import PySem.Challenge.RW_laterepair_k73_whole_packets_in_any_orde
set_option Elab.async false
section
set_option linter.all false
set_option maxRecDepth 100000
namespace B
open PySem PySem.Spec PyProof.Rows L2
/-! ### the text by places -/
def top (i : Nat) : Stmt := PySem.Challenge.pw_laterepair_k73_whole_packets_in_any_orde.main.body.getD i (.Pass ⟨0, 0, 0, 0⟩)
abbrev s__wall : Stmt := (top 0)
abbrev s_is_integer : Stmt := (top 4)
abbrev s_is_within : Stmt := (top 5)
abbrev s_is_age : Stmt := (top 6)
abbrev s_is_delay : Stmt := (top 7)
abbrev s_BadSpace_init : Stmt := (inClass (top 10) 0)
abbrev s_BadTick_init : Stmt := (inClass (top 11) 0)
abbrev s_BadPlan_init : Stmt := (inClass (top 12) 0)
abbrev s_BadDelay_init : Stmt := (inClass (top 13) 0)
abbrev s_BadCount_init : Stmt := (inClass (top 14) 0)
abbrev s_BadStream_init : Stmt := (inClass (top 15) 0)
abbrev s_BadPacket_init : Stmt := (inClass (top 16) 0)
abbrev s_BadText_init : Stmt := (inClass (top 17) 0)
abbrev s_NoPhase_init : Stmt := (inClass (top 18) 0)
abbrev s_TooMany_init : Stmt := (inClass (top 19) 0)
abbrev s_is_sum : Stmt := (top 23)
abbrev s_mask_of : Stmt := (top 24)
abbrev s_Tick_init : Stmt := (inClass (top 25) 1)
abbrev s_Tick_read : Stmt := (inClass (top 25) 2)
abbrev s_Tick_masks : Stmt := (inClass (top 25) 3)
abbrev s_Tick_ages : Stmt := (inClass (top 25) 4)
abbrev s_Tick_len : Stmt := (inClass (top 25) 5)
abbrev s_Tick_iter : Stmt := (inClass (top 25) 6)
abbrev s_Tick_contains : Stmt := (inClass (top 25) 7)
abbrev s_Tick_add : Stmt := (inClass (top 25) 8)
abbrev s_Tick_sub : Stmt := (inClass (top 25) 9)
abbrev s_Tick_packed : Stmt := (inClass (top 25) 10)
abbrev s_Tick_eq : Stmt := (inClass (top 25) 11)
abbrev s_Tick_str : Stmt := (inClass (top 25) 12)
abbrev s_sums_text : Stmt := (top 26)
abbrev s_upcoming : Stmt := (top 27)
abbrev s_read_tick : Stmt := (top 28)
abbrev s_read_sum : Stmt := (top 29)
abbrev s_common_multiple : Stmt := (top 30)
abbrev s_Plan_init : Stmt := (inClass (top 31) 1)
abbrev s_Plan_read : Stmt := (inClass (top 31) 2)
abbrev s_Plan_len : Stmt := (inClass (top 31) 3)
abbrev s_Plan_iter : Stmt := (inClass (top 31) 4)
abbrev s_Plan_getitem : Stmt := (inClass (top 31) 5)
abbrev s_Plan_tick_at : Stmt := (inClass (top 31) 6)
abbrev s_Plan_ages : Stmt := (inClass (top 31) 7)
abbrev s_Plan_rate : Stmt := (inClass (top 31) 8)
abbrev s_Plan_rshift : Stmt := (inClass (top 31) 9)
abbrev s_Plan_or : Stmt := (inClass (top 31) 10)
abbrev s_Plan_with_phase : Stmt := (inClass (top 31) 11)
abbrev s_Plan_shortest : Stmt := (inClass (top 31) 12)
abbrev s_Plan_same_for_ever : Stmt := (inClass (top 31) 13)
abbrev s_Plan_eq : Stmt := (inClass (top 31) 14)
abbrev s_Plan_str : Stmt := (inClass (top 31) 15)
abbrev s_need_plan : Stmt := (top 32)
abbrev s_joined : Stmt := (top 33)
abbrev s_need_bits : Stmt := (top 38)
abbrev s_rest_of : Stmt := (top 39)
abbrev s_reduced : Stmt := (top 40)
abbrev s_tops_of : Stmt := (top 41)
abbrev s_Space_init : Stmt := (inClass (top 42) 1)
abbrev s_Space_whole : Stmt := (inClass (top 42) 2)
abbrev s_Space_read : Stmt := (inClass (top 42) 3)
abbrev s_Space_len : Stmt := (inClass (top 42) 4)
abbrev s_Space_iter : Stmt := (inClass (top 42) 5)
abbrev s_Space_contains : Stmt := (inClass (top 42) 6)
abbrev s_Space_add : Stmt := (inClass (top 42) 7)
abbrev s_Space_and : Stmt := (inClass (top 42) 8)
abbrev s_Space_within : Stmt := (inClass (top 42) 9)
abbrev s_Space_older : Stmt := (inClass (top 42) 10)
abbrev s_Space_below : Stmt := (inClass (top 42) 11)
abbrev s_Space_tells : Stmt := (inClass (top 42) 12)
abbrev s_Space_told : Stmt := (inClass (top 42) 13)
abbrev s_Space_rest : Stmt := (inClass (top 42) 14)
abbrev s_Space_missed : Stmt := (inClass (top 42) 15)
abbrev s_Space_eq : Stmt := (inClass (top 42) 16)
abbrev s_Space_str : Stmt := (inClass (top 42) 17)
abbrev s_need_space : Stmt := (top 43)
abbrev s_need_many : Stmt := (top 44)
abbrev s_space_of : Stmt := (top 45)
abbrev s_space_text : Stmt := (top 46)
abbrev s_row_in : Stmt := (top 47)
abbrev s_rows_in : Stmt := (top 48)
abbrev s_Packet_init : Stmt := (inClass (top 51) 0)
abbrev s_Packet_read : Stmt := (inClass (top 51) 1)
abbrev s_Packet_eq : Stmt := (inClass (top 51) 2)
abbrev s_Packet_str : Stmt := (inClass (top 51) 3)
abbrev s_counted : Stmt := (top 52)
abbrev s_Known_init : Stmt := (inClass (top 53) 0)
abbrev s_Known_reduced : Stmt := (inClass (top 53) 1)
abbrev s_Known_with_sum : Stmt := (inClass (top 53) 2)
abbrev s_Known_older : Stmt := (inClass (top 53) 3)
abbrev s_power : Stmt := (top 54)
abbrev s_has_top : Stmt := (top 55)
abbrev s_Moment_init : Stmt := (inClass (top 56) 0)
abbrev s_Receiver_init : Stmt := (inClass (top 57) 0)
abbrev s_Receiver_span : Stmt := (inClass (top 57) 1)
abbrev s_Receiver_moment : Stmt := (inClass (top 57) 2)
abbrev s_Receiver_passed : Stmt := (inClass (top 57) 3)
abbrev s_Receiver_need_packet : Stmt := (inClass (top 57) 4)
abbrev s_Receiver_hear : Stmt := (inClass (top 57) 5)
abbrev s_Receiver_fresh : Stmt := (inClass (top 57) 6)
abbrev s_Receiver_iadd : Stmt := (inClass (top 57) 7)
abbrev s_Receiver_wait : Stmt := (inClass (top 57) 8)
abbrev s_Receiver_now : Stmt := (inClass (top 57) 9)
abbrev s_Receiver_told : Stmt := (inClass (top 57) 10)
abbrev s_Receiver_late : Stmt := (inClass (top 57) 11)
abbrev s_Receiver_known : Stmt := (inClass (top 57) 12)
abbrev s_Receiver_worth : Stmt := (inClass (top 57) 13)
abbrev s_Receiver_undo : Stmt := (inClass (top 57) 14)
abbrev s_Receiver_trial : Stmt := (inClass (top 57) 15)
abbrev s_Receiver_tried : Stmt := (inClass (top 57) 16)
abbrev s_Receiver_twin : Stmt := (inClass (top 57) 17)
abbrev s__law_pen : Stmt := (top 59)
abbrev s__law_draw : Stmt := (top 60)
abbrev s__law_pick : Stmt := (top 61)
abbrev s__law_sum : Stmt := (top 62)
abbrev s__law_tick : Stmt := (top 63)
abbrev s__law_ticks : Stmt := (top 64)
abbrev s__law_tick_text : Stmt := (top 65)
abbrev s__law_plan : Stmt := (top 66)
abbrev s__law_bit : Stmt := (top 67)
abbrev s__law_reduced : Stmt := (top 68)
abbrev s__law_added : Stmt := (top 69)
abbrev s__law_sums : Stmt := (top 70)
abbrev s__law_is_mute : Stmt := (top 71)
abbrev s__law_rows : Stmt := (top 72)
abbrev s__law_parts : Stmt := (top 73)
abbrev s__law_begun : Stmt := (top 74)
abbrev s__law_heard_by : Stmt := (top 75)
abbrev s__law_shows : Stmt := (top 76)
abbrev s__law_turn_right : Stmt := (top 77)
abbrev s__law_orders_right : Stmt := (top 78)
abbrev s__law_far_right : Stmt := (top 79)
abbrev s_law : Stmt := (top 80)
/-! ### heaps -/
def nt : HO → Bool
  | .tbl _ => false
  | _ => true
theorem nt_ne {o : HO} (h : nt o = true) (ps : Array Value) : o ≠ .tbl ps := fun e => by rw [e] at h; cases h
/-- all that is tracked stays, but for the tables of code objects -/
structure Gr (tb : List (Addr × Str)) (H H' : Hp) : Prop where
  ex : ∀ b o, H b = some o → nt o = true → H' b = some o
  tb : LamX.Tabs tb H → LamX.Tabs tb H'
/-- .. but for what stands at p, too -/
structure Gw (tb : List (Addr × Str)) (p : Addr) (H H' : Hp) : Prop where
  ex : ∀ b o, H b = some o → b ≠ p → nt o = true → H' b = some o
  tb : LamX.Tabs tb H → LamX.Tabs tb H'
/-- what may be written -/
def wr : HO → Bool
  | .lst _ => true
  | .dK _ => true
  | .ins _ _ _ => true
  | _ => false
section
variable {tb : List (Addr × Str)} {H H' H0 H1 H2 : Hp} {p : Addr} {o o' : HO}
theorem same_new (np : H p = none) : Same H (upd H p o) := fun b u e => by rw [upd_ne (ne_of_none e np)]; exact e
theorem Gr.of (S : Same H H') : Gr tb H H' := ⟨fun b o e _ => S b o e, fun t => t.ext S⟩
theorem Gr.refl (H : Hp) : Gr tb H H := .of (Same.refl H)
theorem Gr.trans (a : Gr tb H H1) (b : Gr tb H1 H2) : Gr tb H H2 := ⟨fun c o e n => b.ex c o (a.ex c o e n) n, fun t => b.tb (a.tb t)⟩
theorem Gr.new (np : H p = none) : Gr tb H (upd H p o) := .of (same_new np)
theorem Gr.at (g : Gr tb H H') {b : Addr} (e : H b = some o) (n : nt o = true := by rfl) : H' b = some o := g.ex b o e n
theorem Gr.sq {K : PySem.W.Frag} (g : Gr tb H H') {a : Addr} {xs : List V} (h : SqL K H a xs) : SqL K H' a xs := by
  rcases h with (h | ⟨o, h⟩) | h
  · exact .inl (.inl (g.at h))
  · exact .inl (.inr ⟨o, g.at h⟩)
  · exact .inr h
theorem Gr.sqt {K : PySem.W.Frag} (g : Gr tb H H') {a : Addr} {xs : List V} (h : SqT K H a xs) : SqT K H' a xs := by
  rcases h with (h | ⟨o, h⟩) | h
  · exact .inl (.inl (g.at h))
  · exact .inl (.inr ⟨o, g.at h⟩)
  · exact .inr h
theorem Gw.at (g : Gw tb p H H') {b : Addr} (e : H b = some o) (hp : H p = some o') (d : o ≠ o') (n : nt o = true := by rfl) : H' b = some o := g.ex b o e (ne_of e hp d) n
theorem Gw.at' (g : Gw tb p H H') {b : Addr} (e : H b = some o) (d : b ≠ p) (n : nt o = true := by rfl) : H' b = some o := g.ex b o e d n
theorem Gw.refl (H : Hp) : Gw tb p H H := ⟨fun _ _ e _ _ => e, fun t => t⟩
theorem Gw.of (g : Gr tb H H') : Gw tb p H H' := ⟨fun b o e _ n => g.ex b o e n, g.tb⟩
theorem Gw.trans (a : Gw tb p H H1) (b : Gw tb p H1 H2) : Gw tb p H H2 := ⟨fun c o e d n => b.ex c o (a.ex c o e d n) d n, fun t => b.tb (a.tb t)⟩
theorem Gw.gr (a : Gw tb p H H1) (n : H p = none) : Gr tb H H1 := ⟨fun c o e k => a.ex c o e (ne_of_none e n) k, a.tb⟩
theorem Gr.gw (a : Gr tb H0 H) (n : H0 p = none) (b : Gw tb p H H1) : Gr tb H0 H1 := ((Gw.of a).trans b).gr n
theorem Gw.wr (hp : H p = some o) (hw : wr o = true) : Gw tb p H (upd H p o') := by
  refine ⟨fun b u e d _ => by rw [upd_ne d]; exact e, fun t q hq => ?_⟩
  obtain ⟨ps, h1, h2, h3⟩ := t q hq
  refine ⟨ps, ?_, h2, fun pos cv hc => ?_⟩
  · rw [upd_ne (ne_of h1 hp (fun z => by rw [← z] at hw; cases hw))]; exact h1
  · obtain ⟨d, e1, e2⟩ := h3 pos cv hc
    refine ⟨d, e1, ?_⟩
    rw [upd_ne (ne_of e2 hp (fun z => by rw [← z] at hw; cases hw))]
    exact e2
theorem Gr.lost (g : Gr tb H H') {b : Addr} (hn : H' b = none) : H b = none ∨ ∃ ps, H b = some (.tbl ps) := by
  cases q : H b with
  | none => exact .inl rfl
  | some o =>
    cases ho : nt o with
    | true => rw [g.ex b o q ho] at hn; cases hn
    | false =>
      cases o with
      | tbl ps => exact .inr ⟨ps, rfl⟩
      | _ => cases ho
/-- a new object: the heap behind it by what is known of it -/
theorem nw {Q : Addr → Hp → Prop} (h : ∀ p H', H p = none → Gr tb H H' → H' p = some o → Q p H') : ∀ p, H p = none → Q p (upd H p o) := fun p np => h p _ np (.new np) upd_same
/-- a new instance and what its __init__ makes of it -/
theorem Gr.made {x dx C : Addr} (nx : H x = none) (nd : H dx = none) (g : Gw tb x (upd (upd H dx (.own x)) x (.ins C dx [])) H') : Gr tb H H' := by
  have g1 : Gr tb H (upd H dx (.own x)) := .new nd
  have e : ∀ b u, H b = some u → b ≠ x → b ≠ dx := fun b u q _ z => by rw [z, nd] at q; cases q
  refine ⟨fun b u q n => g.ex b u ?_ (ne_of_none q nx) n, fun t => g.tb ?_⟩
  · rw [upd_ne (ne_of_none q nx), upd_ne (ne_of_none q nd)]; exact q
  · refine t.ext fun b u q => ?_
    rw [upd_ne (ne_of_none q nx), upd_ne (ne_of_none q nd)]; exact q
end
/-! ### bundles: a def of the module, a method, a class, a property, by what it promises -/
section
variable (P : Program) (w : World) (K : PySem.W.Frag) (mg : Str → Option Value) (base : Heap)
def Cf (k : Nat) (x : Str) (sp : Sp) : Prop := ∃ f, FnR P w K mg base CX0 k f sp ∧ mg x = some (.ref f) ∧ PySem.W.keepIn K (.ref f) = true
def Mf (k : Nat) (C : Addr) (m : Str) (sp : Sp) : Prop := ∃ f, Cls K C ∧ Meth K C m f ∧ FnR P w K mg base CX0 k f sp
def Kf (k : Nat) (x : Str) (C : Addr) (sp : Sp) : Prop := ∃ f, Mk K C f ∧ FnR P w K mg base CX0 k f sp ∧ mg x = some (.ref C)
def Pf (k : Nat) (C : Addr) (m : Str) (sp : Sp) : Prop := ∃ p f, Cls K C ∧ PropOf K C m p f ∧ FnR P w K mg base CX0 k f sp
end
section
variable {P : Program} {w : World} {K : PySem.W.Frag} {mg : Str → Option Value} {base : Heap}
/-- a plain def by its body -/
theorem mkR {x qual : Str} {st : Stmt} {f : Addr} {fd : FuncData} {N ps : List Str} {sp : Sp} {k : Nat} (F : FunD K x qual (defArgs st) (defBody st) (defScope st) [] [] f fd) (S : FnScope N ps (defScope st))
    (hb : ∀ (kV doc pm : Value) (an : Option Addr) (cdv ct : Value) (us : List Value), us.length = ps.length → bindArgs (PySem.W.fnOf x qual (defArgs st) (defBody st) (defScope st) .none kV doc pm an cdv ct) ⟨us, []⟩ = pure (ps.zip us))
    (len : ∀ vs H Q E, sp vs H Q E → vs.length = ps.length)
    (hbody : ∀ (cdv : Value) (A : Around) (outer : List Env) (s : Shared) (H : Hp) (vs : List V) (Q : VK) (E : XK), Room k (A.deeper (envOfC qual (defScope st) s.heap.objs.size f cdv)) → sp vs H Q E →
      ∃ t, PSs (cxOf CX0 P w K mg base N qual (defScope st) f cdv A outer s H E).nox (defBody st) t ∧ t { nx := fun _ H' => Q .non H', rt := Q } (start N vs) H) : FnR P w K mg base CX0 (k + 1) f sp := by
  have G : FnOk P w K mg base CX0 (k + 1) f fd ps sp := F.ok S len fun cdv A outer s H vs Q E hr hsp => by
    obtain ⟨t, h, q⟩ := hbody cdv A outer s H vs Q E hr hsp
    exact ⟨t, h.nox, q⟩
  refine (G.raw (F.bindsN hb) .nil).imp fun vs H Q E h => ?_
  rw [List.append_nil]
  exact h
end
section
variable {X : Cx} {k j : Nat} {C : Addr} {x m : Str} {sp : Sp} {p pos apos : Pos} {e o : Expr} {es : List Expr} {te ta : TE} {t : TA}
def tCR (sp : Sp) (t : TA) : TE := fun σ H Q => t σ H fun vs H1 => sp vs H1 Q E0
def tCR0 (sp : Sp) : TE := fun _ H Q => sp [] H Q E0
def tMR (C : Addr) (m : Str) (sp : Sp) (ta : TE) (t : TA) : TE := fun σ H Q => ta σ H fun x H1 => ∃ a dx fs, x = .ref a ∧ H1 a = some (.ins C dx fs) ∧ fs.lookup m = none ∧ t σ H1 fun vs H2 => sp (x :: vs) H2 Q E0
def tMR0 (C : Addr) (m : Str) (sp : Sp) (ta : TE) : TE := fun σ H Q => ta σ H fun x H1 => ∃ a dx fs, x = .ref a ∧ H1 a = some (.ins C dx fs) ∧ fs.lookup m = none ∧ sp [x] H1 Q E0
def tPR (C : Addr) (sp : Sp) (ta : TE) : TE := fun σ H Q => ta σ H fun x H1 => ∃ a dx fs, x = .ref a ∧ H1 a = some (.ins C dx fs) ∧ sp [x] H1 Q E0
/-- f(e, ..) -/
theorem pe_cR (c : Cf X.prog X.w X.K X.mg X.base k x sp) (hr : Room j X.A) (hk : k ≤ j) (hg : Gl X x) (ha : PA X (e :: es) t) (hd : (x == ("__debug__" : Str)) = false := by decide)
    (he : starEach (e :: es) X.env = (false, eval e X.env) :: starEach es X.env := by rfl) (hpl : (backTo pos (starEach es X.env)).any (·.1) = false := by rfl) :
    PE X (.Call (.Name x p) (e :: es) [] pos) (tCR sp t) := by
  obtain ⟨f, F, hm, kp⟩ := c
  refine ⟨fun pins s σ H Q I h => ?_⟩
  refine wpAny_Call_Name_kw (ld_glob I hg hm ?_ hd)
  refine PySem.W.callWith_K (h₀ := X.base) I.ok.mod.kin kp (thn (ha.run pos pins s σ H _ I h) fun us s1 ⟨vs, H1, I1, r, q⟩ => ⟨I1.kIn, ?_⟩) he hpl
  exact wpAny_call (run_fnR F (hr.mono hk) pass0 I1 r q)
/-- f() -/
theorem pe_cR0 (c : Cf X.prog X.w X.K X.mg X.base k x sp) (hr : Room j X.A) (hk : k ≤ j) (hg : Gl X x) (hd : (x == ("__debug__" : Str)) = false := by decide) :
    PE X (.Call (.Name x p) [] [] pos) (tCR0 sp) := by
  obtain ⟨f, F, hm, kp⟩ := c
  refine ⟨fun pins s σ H Q I h => ?_⟩
  refine wpAny_Call_Name_kw (ld_glob I hg hm ?_ hd)
  exact PySem.W.callWith_K0 I.kIn kp (wpAny_call (run_fnR (us := []) (vs := []) F (hr.mono hk) pass0 I .nil h))
/-- C(e, ..) -/
theorem pe_kR (c : Kf X.prog X.w X.K X.mg X.base k x C sp) (hr : Room j X.A) (hk : k + 1 ≤ j) (hg : Gl X x) (ha : PA X (e :: es) t) (hd : (x == ("__debug__" : Str)) = false := by decide)
    (he : starEach (e :: es) X.env = (false, eval e X.env) :: starEach es X.env := by rfl) (hpl : (backTo pos (starEach es X.env)).any (·.1) = false := by rfl) :
    PE X (.Call (.Name x p) (e :: es) [] pos) (StX.tMakeR C sp E0 t) := by
  obtain ⟨f, M, F, hm⟩ := c
  exact StX.pe_makeR M F (hr.mono hk) hg hm pass0 ha hd he hpl
/-- C(*e) -/
theorem pe_kS {sp_ : Pos} (c : Kf X.prog X.w X.K X.mg X.base k x C sp) (hr : Room j X.A) (hk : k + 1 ≤ j) (hg : Gl X x) (he : PE X e te) (hd : (x == ("__debug__" : Str)) = false := by decide)
    (hst : starEach [.Starred e sp_] X.env = [(true, eval e X.env)] := by rfl) :
    PE X (.Call (.Name x p) [.Starred e sp_] [] pos) (fun σ H Q => te σ H fun y H1 => ∃ a xs, y = V.ref a ∧ (SqT X.K H1 a xs ∨ SqL X.K H1 a xs) ∧ ∀ x dx, H1 x = Option.none → H1 dx = Option.none → dx ≠ x →
      sp (V.ref x :: xs) (upd (upd H1 dx (.own x)) x (.ins C dx [])) (fun v H2 => v = .non ∧ Q (.ref x) H2) E0) := by
  obtain ⟨f, M, F, hm⟩ := c
  refine ⟨fun pins s σ H Q I h => ?_⟩
  refine wpAny_Call_Name_kw (ld_glob I hg hm ?_ hd)
  refine PySem.W.callWith_S (h₀ := X.base) I.ok.mod.kin M.kp (thn (he.run pins s σ H _ I h) fun v s1 ⟨y, H1, I1, ry, a, xs, ey, hxs, q⟩ => ?_) hst
  subst ey
  obtain rfl : v = Value.ref a := ry
  exact StX.star_any I1 hxs fun us s2 I2 rv => ⟨I2.kIn, StX.run_makeR M F (hr.mono hk) pass0 I2 rv q⟩
/-- o.m(e, ..) -/
theorem pe_mR {pl : Sem Bool} (c : Mf X.prog X.w X.K X.mg X.base k C m sp) (hr : Room j X.A) (hk : k ≤ j) (he : PE X o ta) (ha : PA X (e :: es) t)
    (hst : starEach (e :: es) X.env = (false, eval e X.env) :: starEach es X.env := by rfl) (hpl : (backTo pos (starEach es X.env)).any (·.1) = false := by rfl)
    (ht : eval (.Call (.Attribute o m apos) (e :: es) [] pos) X.env = (do
      let ov ← eval o X.env
      standAt apos.atName
      let (f, first) ← holding [ov] (getMethod ov m pl)
      callWith pos f first (backTo pos (starEach (e :: es) X.env)) (backToKw pos (keywordEach [] X.env))) := by rfl) :
    PE X (.Call (.Attribute o m apos) (e :: es) [] pos) (tMR C m sp ta t) := by
  obtain ⟨f, hc, hm, F⟩ := c
  exact pe_methR (pl := pl) he hc hm F (hr.mono hk) pass0 ha hst hpl ht
/-- o.m() -/
theorem pe_mR0 {pl : Sem Bool} (c : Mf X.prog X.w X.K X.mg X.base k C m sp) (hr : Room j X.A) (hk : k ≤ j) (he : PE X o ta)
    (ht : eval (.Call (.Attribute o m apos) [] [] pos) X.env = (do
      let ov ← eval o X.env
      standAt apos.atName
      let (f, first) ← holding [ov] (getMethod ov m pl)
      callWith pos f first (backTo pos (starEach [] X.env)) (backToKw pos (keywordEach [] X.env))) := by rfl) :
    PE X (.Call (.Attribute o m apos) [] [] pos) (tMR0 C m sp ta) := by
  obtain ⟨f, hc, hm, F⟩ := c
  refine ⟨fun pins s σ H Q I h => ?_⟩
  refine PySem.W.methodCall_KW (pl := pl) (thn (he.run pins s σ H _ I h) fun u s1 ⟨x, H1, I1, rx, a, dx, fs, ex, ea, l, q⟩ => ?_) ht
  subst ex
  obtain rfl : u = Value.ref a := rx
  refine getmeth_ok I1 ea hc hm l ?_
  exact PySem.W.callWith_K0 (first := [.ref a]) I1.kIn hm.kp (wpAny_call (run_fnR (us := [.ref a]) (vs := [.ref a]) F (hr.mono hk) pass0 I1 (.cons rfl .nil) q))
/-- e.f, a property -/
theorem pe_pR (c : Pf X.prog X.w X.K X.mg X.base k C m sp) (hr : Room j X.A) (hk : k + 1 ≤ j) (he : PE X o ta) (hab : attributeBase o m X.env (eval o X.env) = eval o X.env) :
    PE X (.Attribute o m pos) (tPR C sp ta) := by
  obtain ⟨p, g, hc, hp, F⟩ := c
  refine ⟨fun pins s σ H Q I h => ?_⟩
  refine attr_of hab (thn (he.run pins s σ H _ I h) fun u s1 ⟨x, H1, I1, rx, a, dx, fs, ex, ea, q⟩ => ?_)
  subst ex
  obtain rfl : u = Value.ref a := rx
  obtain ⟨mA, O, _, _, _, _⟩ := ins_get I1.hok ea
  obtain ⟨od, J, _⟩ := O.look
  obtain ⟨rest, hrec⟩ := hp.rec_
  have I2 := I1.tok (s1.toks + 1)
  have hcc : (PySem.W.clsIn X.K C).isSome = true := by
    obtain ⟨cd, hc', _⟩ := PySem.W.any_some hc.hd
    rw [hc']
    rfl
  refine PySem.W.get_bind I1.kIn J (PySem.W.plainGet_of (hc.get m)).1 (PySem.W.findObj_data hcc hp.at_ hp.get hp.tak) (PySem.W.plainGet_of (hc.get m)).2 (wpAny_call (PySem.W.prop_get (s := { s1 with toks := s1.toks + 1 }) I1.kIn hrec ?_))
  refine codeAny_mono (F X.A.in1 X.stack { s1 with toks := s1.toks + 1 } H1 [.ref a] [.ref a] Q E0 (hr.mono hk).in1 I2.env0.in1 (.cons rfl .nil) q) fun r s' hq => ?_
  cases r with
  | error er => exact False.elim hq
  | ok fl =>
    cases fl with
    | ret u =>
      obtain ⟨v, H', I3, rv, q3⟩ := I2.after hq
      show wpAny _ _ (handedOut u) _ _ _
      rw [PySem.W.handedOut_of (handed_of rv)]
      exact wpAny_pure ⟨v, H', I3, rv, q3⟩
    | next => exact False.elim hq
    | brk => exact False.elim hq
    | cont => exact False.elim hq
end
end B
end
section
set_option linter.all false
set_option maxRecDepth 100000
set_option maxHeartbeats 2000000
namespace B
open PySem PySem.Spec PyProof.Rows L2
/-! ### the part of the heap that the module's names reach -/
abbrev d_is_integer : He5.DefA := ⟨fun K => He.ga K "is_integer", "is_integer", "is_integer", defArgs s_is_integer, defBody s_is_integer, defScope s_is_integer, [], []⟩
abbrev d_is_within : He5.DefA := ⟨fun K => He.ga K "is_within", "is_within", "is_within", defArgs s_is_within, defBody s_is_within, defScope s_is_within, [], []⟩
abbrev d_is_age : He5.DefA := ⟨fun K => He.ga K "is_age", "is_age", "is_age", defArgs s_is_age, defBody s_is_age, defScope s_is_age, [], []⟩
abbrev d_is_delay : He5.DefA := ⟨fun K => He.ga K "is_delay", "is_delay", "is_delay", defArgs s_is_delay, defBody s_is_delay, defScope s_is_delay, [], []⟩
abbrev d_is_sum : He5.DefA := ⟨fun K => He.ga K "is_sum", "is_sum", "is_sum", defArgs s_is_sum, defBody s_is_sum, defScope s_is_sum, [], []⟩
abbrev d_mask_of : He5.DefA := ⟨fun K => He.ga K "mask_of", "mask_of", "mask_of", defArgs s_mask_of, defBody s_mask_of, defScope s_mask_of, [], []⟩
abbrev d_Tick_init : He5.DefA := ⟨fun K => He.ma K (He.ga K "Tick") "__init__", "__init__", "Tick.__init__", defArgs s_Tick_init, defBody s_Tick_init, defScope s_Tick_init, [], [("mute", .bl false)]⟩
abbrev d_Tick_masks : He5.DefA := ⟨fun K => He5.wf K (He.ga K "Tick") "property" "masks", "masks", "Tick.masks", defArgs s_Tick_masks, defBody s_Tick_masks, defScope s_Tick_masks, [], []⟩
abbrev d_Tick_ages : He5.DefA := ⟨fun K => He5.wf K (He.ga K "Tick") "property" "ages", "ages", "Tick.ages", defArgs s_Tick_ages, defBody s_Tick_ages, defScope s_Tick_ages, [], []⟩
abbrev d_upcoming : He5.DefA := ⟨fun K => He.ga K "upcoming", "upcoming", "upcoming", defArgs s_upcoming, defBody s_upcoming, defScope s_upcoming, [], []⟩
abbrev d_read_tick : He5.DefA := ⟨fun K => He.ga K "read_tick", "read_tick", "read_tick", defArgs s_read_tick, defBody s_read_tick, defScope s_read_tick, [], []⟩
abbrev d_read_sum : He5.DefA := ⟨fun K => He.ga K "read_sum", "read_sum", "read_sum", defArgs s_read_sum, defBody s_read_sum, defScope s_read_sum, [], []⟩
abbrev d_Plan_init : He5.DefA := ⟨fun K => He.ma K (He.ga K "Plan") "__init__", "__init__", "Plan.__init__", defArgs s_Plan_init, defBody s_Plan_init, defScope s_Plan_init, [], []⟩
abbrev d_Plan_read : He5.DefA := ⟨fun K => He5.wf K (He.ga K "Plan") "classmethod" "read", "read", "Plan.read", defArgs s_Plan_read, defBody s_Plan_read, defScope s_Plan_read, [], []⟩
abbrev d_Plan_tick_at : He5.DefA := ⟨fun K => He.ma K (He.ga K "Plan") "tick_at", "tick_at", "Plan.tick_at", defArgs s_Plan_tick_at, defBody s_Plan_tick_at, defScope s_Plan_tick_at, [], []⟩
abbrev d_Plan_ages : He5.DefA := ⟨fun K => He5.wf K (He.ga K "Plan") "property" "ages", "ages", "Plan.ages", defArgs s_Plan_ages, defBody s_Plan_ages, defScope s_Plan_ages, [], []⟩
abbrev d_need_bits : He5.DefA := ⟨fun K => He.ga K "need_bits", "need_bits", "need_bits", defArgs s_need_bits, defBody s_need_bits, defScope s_need_bits, [], []⟩
abbrev d_rest_of : He5.DefA := ⟨fun K => He.ga K "rest_of", "rest_of", "rest_of", defArgs s_rest_of, defBody s_rest_of, defScope s_rest_of, [], []⟩
abbrev d_reduced : He5.DefA := ⟨fun K => He.ga K "reduced", "reduced", "reduced", defArgs s_reduced, defBody s_reduced, defScope s_reduced, [], []⟩
abbrev d_Space_init : He5.DefA := ⟨fun K => He.ma K (He.ga K "Space") "__init__", "__init__", "Space.__init__", defArgs s_Space_init, defBody s_Space_init, defScope s_Space_init, [], []⟩
abbrev d_Space_contains : He5.DefA := ⟨fun K => He.ma K (He.ga K "Space") "__contains__", "__contains__", "Space.__contains__", defArgs s_Space_contains, defBody s_Space_contains, defScope s_Space_contains, [], []⟩
abbrev d_Space_eq : He5.DefA := ⟨fun K => He.ma K (He.ga K "Space") "__eq__", "__eq__", "Space.__eq__", defArgs s_Space_eq, defBody s_Space_eq, defScope s_Space_eq, [], []⟩
abbrev d_Packet_init : He5.DefA := ⟨fun K => He.ma K (He.ga K "Packet") "__init__", "__init__", "Packet.__init__", defArgs s_Packet_init, defBody s_Packet_init, defScope s_Packet_init, [], []⟩
abbrev d_Known_init : He5.DefA := ⟨fun K => He.ma K (He.ga K "Known") "__init__", "__init__", "Known.__init__", defArgs s_Known_init, defBody s_Known_init, defScope s_Known_init, [], []⟩
abbrev d_Known_reduced : He5.DefA := ⟨fun K => He.ma K (He.ga K "Known") "reduced", "reduced", "Known.reduced", defArgs s_Known_reduced, defBody s_Known_reduced, defScope s_Known_reduced, [], []⟩
abbrev d_Known_with_sum : He5.DefA := ⟨fun K => He.ma K (He.ga K "Known") "with_sum", "with_sum", "Known.with_sum", defArgs s_Known_with_sum, defBody s_Known_with_sum, defScope s_Known_with_sum, [], []⟩
abbrev d_Known_older : He5.DefA := ⟨fun K => He.ma K (He.ga K "Known") "older", "older", "Known.older", defArgs s_Known_older, defBody s_Known_older, defScope s_Known_older, [], []⟩
abbrev d_power : He5.DefA := ⟨fun K => He.ga K "power", "power", "power", defArgs s_power, defBody s_power, defScope s_power, [], []⟩
abbrev d_has_top : He5.DefA := ⟨fun K => He.ga K "has_top", "has_top", "has_top", defArgs s_has_top, defBody s_has_top, defScope s_has_top, [], []⟩
abbrev d_Moment_init : He5.DefA := ⟨fun K => He.ma K (He.ga K "Moment") "__init__", "__init__", "Moment.__init__", defArgs s_Moment_init, defBody s_Moment_init, defScope s_Moment_init, [], []⟩
abbrev d_Receiver_init : He5.DefA := ⟨fun K => He.ma K (He.ga K "Receiver") "__init__", "__init__", "Receiver.__init__", defArgs s_Receiver_init, defBody s_Receiver_init, defScope s_Receiver_init, [], []⟩
abbrev d_Receiver_span : He5.DefA := ⟨fun K => He.ma K (He.ga K "Receiver") "span", "span", "Receiver.span", defArgs s_Receiver_span, defBody s_Receiver_span, defScope s_Receiver_span, [], []⟩
abbrev d_Receiver_moment : He5.DefA := ⟨fun K => He.ma K (He.ga K "Receiver") "moment", "moment", "Receiver.moment", defArgs s_Receiver_moment, defBody s_Receiver_moment, defScope s_Receiver_moment, [], []⟩
abbrev d_Receiver_passed : He5.DefA := ⟨fun K => He.ma K (He.ga K "Receiver") "passed", "passed", "Receiver.passed", defArgs s_Receiver_passed, defBody s_Receiver_passed, defScope s_Receiver_passed, [], []⟩
abbrev d_Receiver_need_packet : He5.DefA := ⟨fun K => He.ma K (He.ga K "Receiver") "need_packet", "need_packet", "Receiver.need_packet", defArgs s_Receiver_need_packet, defBody s_Receiver_need_packet, defScope s_Receiver_need_packet, [], []⟩
abbrev d_Receiver_hear : He5.DefA := ⟨fun K => He.ma K (He.ga K "Receiver") "hear", "hear", "Receiver.hear", defArgs s_Receiver_hear, defBody s_Receiver_hear, defScope s_Receiver_hear, [], []⟩
abbrev d_Receiver_fresh : He5.DefA := ⟨fun K => He.ma K (He.ga K "Receiver") "fresh", "fresh", "Receiver.fresh", defArgs s_Receiver_fresh, defBody s_Receiver_fresh, defScope s_Receiver_fresh, [], []⟩
abbrev d_Receiver_wait : He5.DefA := ⟨fun K => He.ma K (He.ga K "Receiver") "wait", "wait", "Receiver.wait", defArgs s_Receiver_wait, defBody s_Receiver_wait, defScope s_Receiver_wait, [.int 1], []⟩
abbrev d_Receiver_now : He5.DefA := ⟨fun K => He5.wf K (He.ga K "Receiver") "property" "now", "now", "Receiver.now", defArgs s_Receiver_now, defBody s_Receiver_now, defScope s_Receiver_now, [], []⟩
abbrev d_Receiver_told : He5.DefA := ⟨fun K => He5.wf K (He.ga K "Receiver") "property" "told", "told", "Receiver.told", defArgs s_Receiver_told, defBody s_Receiver_told, defScope s_Receiver_told, [], []⟩
abbrev d_Receiver_late : He5.DefA := ⟨fun K => He5.wf K (He.ga K "Receiver") "property" "late", "late", "Receiver.late", defArgs s_Receiver_late, defBody s_Receiver_late, defScope s_Receiver_late, [], []⟩
abbrev d_Receiver_known : He5.DefA := ⟨fun K => He.ma K (He.ga K "Receiver") "known", "known", "Receiver.known", defArgs s_Receiver_known, defBody s_Receiver_known, defScope s_Receiver_known, [], []⟩
abbrev d_Receiver_worth : He5.DefA := ⟨fun K => He.ma K (He.ga K "Receiver") "worth", "worth", "Receiver.worth", defArgs s_Receiver_worth, defBody s_Receiver_worth, defScope s_Receiver_worth, [], []⟩
abbrev d__law_pen : He5.DefA := ⟨fun K => He.ga K "_law_pen", "_law_pen", "_law_pen", defArgs s__law_pen, defBody s__law_pen, defScope s__law_pen, [], []⟩
abbrev d__law_draw : He5.DefA := ⟨fun K => He.ga K "_law_draw", "_law_draw", "_law_draw", defArgs s__law_draw, defBody s__law_draw, defScope s__law_draw, [], []⟩
abbrev d__law_pick : He5.DefA := ⟨fun K => He.ga K "_law_pick", "_law_pick", "_law_pick", defArgs s__law_pick, defBody s__law_pick, defScope s__law_pick, [], []⟩
abbrev d__law_sum : He5.DefA := ⟨fun K => He.ga K "_law_sum", "_law_sum", "_law_sum", defArgs s__law_sum, defBody s__law_sum, defScope s__law_sum, [], []⟩
abbrev d__law_tick : He5.DefA := ⟨fun K => He.ga K "_law_tick", "_law_tick", "_law_tick", defArgs s__law_tick, defBody s__law_tick, defScope s__law_tick, [], []⟩
abbrev d__law_ticks : He5.DefA := ⟨fun K => He.ga K "_law_ticks", "_law_ticks", "_law_ticks", defArgs s__law_ticks, defBody s__law_ticks, defScope s__law_ticks, [], []⟩
abbrev d__law_tick_text : He5.DefA := ⟨fun K => He.ga K "_law_tick_text", "_law_tick_text", "_law_tick_text", defArgs s__law_tick_text, defBody s__law_tick_text, defScope s__law_tick_text, [], []⟩
abbrev d__law_plan : He5.DefA := ⟨fun K => He.ga K "_law_plan", "_law_plan", "_law_plan", defArgs s__law_plan, defBody s__law_plan, defScope s__law_plan, [], []⟩
abbrev d__law_bit : He5.DefA := ⟨fun K => He.ga K "_law_bit", "_law_bit", "_law_bit", defArgs s__law_bit, defBody s__law_bit, defScope s__law_bit, [], []⟩
abbrev d__law_reduced : He5.DefA := ⟨fun K => He.ga K "_law_reduced", "_law_reduced", "_law_reduced", defArgs s__law_reduced, defBody s__law_reduced, defScope s__law_reduced, [], []⟩
abbrev d__law_added : He5.DefA := ⟨fun K => He.ga K "_law_added", "_law_added", "_law_added", defArgs s__law_added, defBody s__law_added, defScope s__law_added, [], []⟩
abbrev d__law_sums : He5.DefA := ⟨fun K => He.ga K "_law_sums", "_law_sums", "_law_sums", defArgs s__law_sums, defBody s__law_sums, defScope s__law_sums, [], []⟩
abbrev d__law_is_mute : He5.DefA := ⟨fun K => He.ga K "_law_is_mute", "_law_is_mute", "_law_is_mute", defArgs s__law_is_mute, defBody s__law_is_mute, defScope s__law_is_mute, [], []⟩
abbrev d__law_rows : He5.DefA := ⟨fun K => He.ga K "_law_rows", "_law_rows", "_law_rows", defArgs s__law_rows, defBody s__law_rows, defScope s__law_rows, [], []⟩
abbrev d__law_parts : He5.DefA := ⟨fun K => He.ga K "_law_parts", "_law_parts", "_law_parts", defArgs s__law_parts, defBody s__law_parts, defScope s__law_parts, [], []⟩
abbrev d__law_begun : He5.DefA := ⟨fun K => He.ga K "_law_begun", "_law_begun", "_law_begun", defArgs s__law_begun, defBody s__law_begun, defScope s__law_begun, [], []⟩
abbrev d__law_heard_by : He5.DefA := ⟨fun K => He.ga K "_law_heard_by", "_law_heard_by", "_law_heard_by", defArgs s__law_heard_by, defBody s__law_heard_by, defScope s__law_heard_by, [], []⟩
abbrev d__law_shows : He5.DefA := ⟨fun K => He.ga K "_law_shows", "_law_shows", "_law_shows", defArgs s__law_shows, defBody s__law_shows, defScope s__law_shows, [], []⟩
abbrev d__law_turn_right : He5.DefA := ⟨fun K => He.ga K "_law_turn_right", "_law_turn_right", "_law_turn_right", defArgs s__law_turn_right, defBody s__law_turn_right, defScope s__law_turn_right, [], []⟩
abbrev d__law_orders_right : He5.DefA := ⟨fun K => He.ga K "_law_orders_right", "_law_orders_right", "_law_orders_right", defArgs s__law_orders_right, defBody s__law_orders_right, defScope s__law_orders_right, [], []⟩
abbrev d__law_far_right : He5.DefA := ⟨fun K => He.ga K "_law_far_right", "_law_far_right", "_law_far_right", defArgs s__law_far_right, defBody s__law_far_right, defScope s__law_far_right, [], []⟩
abbrev d_law : He5.DefA := ⟨fun K => He.ga K "law", "law", "law", defArgs s_law, defBody s_law, defScope s_law, [], []⟩
def fn : List He5.DefA := [d_is_integer, d_is_within, d_is_age, d_is_delay, d_is_sum, d_mask_of, d_Tick_init, d_Tick_masks, d_Tick_ages, d_upcoming, d_read_tick, d_read_sum, d_Plan_init, d_Plan_read, d_Plan_tick_at, d_Plan_ages, d_need_bits, d_rest_of, d_reduced, d_Space_init, d_Space_contains, d_Space_eq, d_Packet_init, d_Known_init, d_Known_reduced, d_Known_with_sum, d_Known_older, d_power, d_has_top, d_Moment_init, d_Receiver_init, d_Receiver_span, d_Receiver_moment, d_Receiver_passed, d_Receiver_need_packet, d_Receiver_hear, d_Receiver_fresh, d_Receiver_wait, d_Receiver_now, d_Receiver_told, d_Receiver_late, d_Receiver_known, d_Receiver_worth, d__law_pen, d__law_draw, d__law_pick, d__law_sum, d__law_tick, d__law_ticks, d__law_tick_text, d__law_plan, d__law_bit, d__law_reduced, d__law_added, d__law_sums, d__law_is_mute, d__law_rows, d__law_parts, d__law_begun, d__law_heard_by, d__law_shows, d__law_turn_right, d__law_orders_right, d__law_far_right, d_law]
def fa : List He.Fa := [.free "len", .free "int", .free "max", .free "min", .free "abs", .free "str", .free "tuple", .free "list", .free "all", .free "any", .free "sorted", .free "isinstance", .free "dict", .free "range", .free "zip", .free "enumerate", .free "bool", .int "MOST_AGE_checks" 8, .int "MOST_DELAY" 8, .int "MOST_SUMS" 6, .int "MOST_PHASES" 6, .int "MOST_AGE_spaces" 15, .int "MOST_BITS" 65535, .int "MOST_JUMP" 100, .glo "Tick", .cls "Tick", .noat "Tick" "sums", .noat "Tick" "mute", .glo "Plan", .cls "Plan", .noat "Plan" "own_ticks", .glo "Space", .cls "Space", .noat "Space" "rows", .glo "Packet", .cls "Packet", .noat "Packet" "tick", .noat "Packet" "parts", .glo "Known", .cls "Known", .noat "Known" "pairs", .glo "Moment", .cls "Moment", .noat "Moment" "at_tick", .noat "Moment" "sums", .noat "Moment" "rows", .glo "Receiver", .cls "Receiver", .noat "Receiver" "plan", .noat "Receiver" "delay", .noat "Receiver" "own_past", .glo "is_integer", .glo "is_within", .glo "is_age", .glo "is_delay", .glo "is_sum", .glo "mask_of", .mkr "Tick", .glo "upcoming", .glo "read_tick", .glo "read_sum", .mkr "Plan", .meth "Plan" "tick_at", .glo "need_bits", .glo "rest_of", .glo "reduced", .mkr "Space", .meth "Space" "__contains__", .meth "Space" "__eq__", .mkr "Packet", .mkr "Known", .meth "Known" "reduced", .meth "Known" "with_sum", .meth "Known" "older", .glo "power", .glo "has_top", .mkr "Moment", .mkr "Receiver", .meth "Receiver" "span", .meth "Receiver" "moment", .meth "Receiver" "passed", .meth "Receiver" "need_packet", .meth "Receiver" "hear", .meth "Receiver" "fresh", .meth "Receiver" "wait", .meth "Receiver" "known", .meth "Receiver" "worth", .glo "_law_pen", .glo "_law_draw", .glo "_law_pick", .glo "_law_sum", .glo "_law_tick", .glo "_law_ticks", .glo "_law_tick_text", .glo "_law_plan", .glo "_law_bit", .glo "_law_reduced", .glo "_law_added", .glo "_law_sums", .glo "_law_is_mute", .glo "_law_rows", .glo "_law_parts", .glo "_law_begun", .glo "_law_heard_by", .glo "_law_shows", .glo "_law_turn_right", .glo "_law_orders_right", .glo "_law_far_right", .glo "law"]
def propL : List (Str × Str) := [("Tick", "masks"), ("Tick", "ages"), ("Plan", "ages"), ("Receiver", "now"), ("Receiver", "told"), ("Receiver", "late")]
def rootA : List Str := ["Tick", "Plan", "Space", "Packet", "Known", "Moment", "Receiver", "is_integer", "is_within", "is_age", "is_delay", "is_sum", "mask_of", "upcoming", "read_tick", "read_sum", "need_bits", "rest_of", "reduced", "power", "has_top", "_law_pen", "_law_draw", "_law_pick", "_law_sum", "_law_tick", "_law_ticks", "_law_tick_text", "_law_plan", "_law_bit"]
def rootB : List Str := ["_law_reduced", "_law_added", "_law_sums", "_law_is_mute", "_law_rows", "_law_parts", "_law_begun", "_law_heard_by", "_law_shows", "_law_turn_right", "_law_orders_right", "_law_far_right", "law"]
def rootL : List Str := rootA ++ rootB
def insL : List Str := ["Tick", "Plan", "Space", "Packet"]
/-- what an object names, but itself; a code object: nothing -/
def refsZ (a : Addr) (o : Obj) : List Addr := match o.cls with
  | .type c => (match decide (c = "code") with
    | true => []
    | false => (He.refsD o).filter fun b => !(Nat.beq a b))
  | _ => (He.refsD o).filter fun b => !(Nat.beq a b)
def nextZ (g : Addr → Option Obj) (as : List Addr) : List Addr := as.flatMap fun a => match g a with
  | some o => refsZ a o
  | none => []
def levZ (g : Addr → Option Obj) : Nat → List Addr → List Addr
  | 0, as => as
  | n + 1, as => as ++ levZ g n (nextZ g as)
def asZ (g : Addr → Option Obj) : List Addr := mainGlobals :: PySem.cStatics :: levZ g 4 (rootL.map (He.ga (He.frG g [mainGlobals])))
def kZ (g : Addr → Option Obj) : PySem.W.Frag := He.frT g (asZ g)
/-! ### more facts -/
def insB (K : PySem.W.Frag) (C : Addr) : Bool := He.eqO (PySem.W.findIn K (.ref C) "__class__") (some (some (.builtin "object.__class__"))) && (He.eqO (PySem.W.specialIn K (.builtin "object.__class__") "__get__") (some (some (.builtin "getset_descriptor.__get__"))) &&
  (decide (PySem.W.takesIn K (.builtin "object.__class__") = some true) && (decide (PySem.W.mroIn K C (.type "object") = some true) && decide (PySem.W.kitOne K (.ref C) (.ref C) = some true))))
def propB (K : PySem.W.Frag) (C : Addr) (f : Str) : Bool := He.eqO (PySem.W.findIn K (.ref C) f) (some (some (.ref (He.ma K C f)))) && (He.eqO (PySem.W.specialIn K (.ref (He.ma K C f)) "__get__") (some (some (.builtin "property.__get__"))) &&
  (decide (PySem.W.takesIn K (.ref (He.ma K C f)) = some true) && (match PySem.W.recIn K (He.ma K C f) "property" with
    | some (.ref _ :: _) => true
    | _ => false)))
def creadB (K : PySem.W.Frag) (C : Addr) : Bool := PySem.W.readsIn K C (.type "type") && He.eqO (PySem.W.specialIn K (.ref C) "__getattribute__") (some (some (.builtin "type.__getattribute__")))
def exZ (K : PySem.W.Frag) : Bool := (insL.all fun x => insB K (He.ga K x)) && ((propL.all fun p => propB K (He.ga K p.1) p.2) && (creadB K (He.ga K "Plan") &&
  (He5.wrapB K (He.ga K "Plan") "classmethod" "classmethod.__get__" "read" && PySem.W.fnIn K (He5.wf K (He.ga K "Plan") "classmethod" "read"))))
abbrev wsD : He.Defn := ("Known", some "with_sum")
def obsZ (g : Addr → Option Obj) : He.AlD × Bool := (He5.obsA fa fn (kZ g), exZ (kZ g) && He.tabsB g [wsD] (kZ g))
def valZ : He.AlD × Bool := (He5.valA fn, true)
structure SaysZ (h : Heap) (K : PySem.W.Frag) : Prop where
  a : He5.SaysA fa fn K
  ex : exZ K = true
  hd : PySem.W.codeHdIn K (He.cT K wsD).1 (He.cT K wsD).2 = true
  out : K.lookup (He.cT K wsD).2 = none
  empty : h.get? (He.cT K wsD).2 = some { cls := .none, data := .fields #[] }
theorem saysZ_of {h : Heap} (e : obsZ h.get? = valZ) : SaysZ h (kZ h.get?) := by
  have e1 : He5.obsA fa fn (kZ h.get?) = He5.valA fn := congrArg (fun z => z.1) e
  have e2 : (exZ (kZ h.get?) && He.tabsB h.get? [wsD] (kZ h.get?)) = true := congrArg (fun z => z.2) e
  obtain ⟨h1, h2⟩ := He.ba e2
  obtain ⟨h3, h4⟩ := He.ba (List.all_eq_true.mp h2 wsD List.mem_cons_self)
  obtain ⟨o, q, z⟩ : ∃ o, h.get? (He.cT (kZ h.get?) wsD).2 = some o ∧ He.emptyTab o = true := by
    cases q : h.get? (He.cT (kZ h.get?) wsD).2 with
    | none => rw [q] at h4; cases h4
    | some o => rw [q] at h4; exact ⟨o, rfl, h4⟩
  exact ⟨e1, h1, h3, He.frT_none q z, by rw [q, He.emptyTab_eq z]⟩
def hookZ : PySem.W.Hook where
  α := He.AlD × Bool
  obs := fun s => obsZ s.heap.get?
  val := fun _ => valZ
  says := fun _ h => ∃ K : PySem.W.Frag, K.In h ∧ SaysZ h K
  of := fun _ _ e => ⟨_, He.frT_in, saysZ_of e⟩
  keeps := fun _ _ _ ⟨K, hK, c⟩ k => ⟨K, PySem.W.Frag.In.keeps hK k, ⟨c.a, c.ex, c.hd, c.out, k _ _ c.empty⟩⟩
theorem obsZ_eq {g : Addr → Option Obj} {s : Shared} (h : ∀ a, g a = s.heap.get? a) : obsZ g = hookZ.obs s := by
  have e : g = s.heap.get? := funext h
  rw [e] <;> rfl
section
variable {K : PySem.W.Frag} {h : Heap}
theorem SaysZ.ins (c : SaysZ h K) (x : Str) (hx : x ∈ insL) (hc : (He.Fa.cls x).ok K = true) : C8.InsC K (He.ga K x) := by
  obtain ⟨h1, _⟩ := He.ba c.ex
  have e := List.all_eq_true.mp h1 x hx
  obtain ⟨e1, e⟩ := He.ba (show (_ && _) = true from e)
  obtain ⟨e2, e⟩ := He.ba e
  obtain ⟨e3, e⟩ := He.ba e
  obtain ⟨e4, e5⟩ := He.ba e
  exact ⟨He.cls_ok hc, He.eqO_ok e1, He.eqO_ok e2, of_decide_eq_true e3, of_decide_eq_true e4, of_decide_eq_true e5⟩
theorem SaysZ.prop (c : SaysZ h K) (C f : Str) (hx : (C, f) ∈ propL) : PropOf K (He.ga K C) f (He.ma K (He.ga K C) f) (He5.wf K (He.ga K C) "property" f) := by
  obtain ⟨_, h2⟩ := He.ba c.ex
  obtain ⟨h2, _⟩ := He.ba h2
  have e := List.all_eq_true.mp h2 (C, f) hx
  obtain ⟨e1, e⟩ := He.ba (show (_ && _) = true from e)
  obtain ⟨e2, e⟩ := He.ba e
  obtain ⟨e3, e4⟩ := He.ba e
  refine ⟨He.eqO_ok e1, He.eqO_ok e2, of_decide_eq_true e3, ?_⟩
  unfold He5.wf
  split at e4
  · rename_i g r q
    exact ⟨r, by rw [q]⟩
  · cases e4
theorem SaysZ.cread (c : SaysZ h K) : ClX.CRead K (He.ga K "Plan") (.type "type") := by
  obtain ⟨_, h2⟩ := He.ba c.ex
  obtain ⟨_, h3⟩ := He.ba h2
  obtain ⟨h4, _⟩ := He.ba h3
  obtain ⟨e1, e2⟩ := He.ba (show (_ && _) = true from h4)
  exact ⟨e1, He.eqO_ok e2⟩
theorem SaysZ.cmet (c : SaysZ h K) : ClX.CMet K (He.ga K "Plan") (.type "type") "read" (He.ma K (He.ga K "Plan") "read") (He5.wf K (He.ga K "Plan") "classmethod" "read") := by
  obtain ⟨_, h2⟩ := He.ba c.ex
  obtain ⟨_, h3⟩ := He.ba h2
  obtain ⟨_, h4⟩ := He.ba h3
  obtain ⟨e1, e2⟩ := He.ba h4
  exact He5.cmet_of e1 e2
abbrev tbZ (K : PySem.W.Frag) : List (Addr × Str) := [((He.cT K wsD).2, (("Known.with_sum" : Str) ++ (".<locals>." : Str)) ++ ("<lambda>" : Str))]
theorem SaysZ.wsum {base : Heap} {mg : Str → Option Value} {x q : Str} {ps : Arguments} {b : List Stmt} {S : Scope} {dvs : List V} {kws : List (Str × V)} {f : Addr} {fd : FuncData} (c : SaysZ h K) (TB : LamX.TabB base mg (He.cT K wsD).1 (He.cT K wsD).2) (F : FunD K x q ps b S dvs kws (He.ma K (He.ga K "Known") "with_sum") fd) (M : Meth K (He.ga K "Known") "with_sum" f) (hf : f = He.ma K (He.ga K "Known") "with_sum") :
    ∃ f fd c P, FunD K x q ps b S dvs kws f fd ∧ Meth K (He.ga K "Known") "with_sum" f ∧ fd.code = .ref c ∧ LamX.TabB base mg c P ∧ tbZ K = [(P, (("Known.with_sum" : Str) ++ (".<locals>." : Str)) ++ ("<lambda>" : Str))] := by
  subst hf
  obtain ⟨oc, od, dV, kV, doc, pm, an, cdv, ct, osl, rfl, lk, hcd, hD, hK⟩ := id F.ex
  obtain ⟨cc, rfl⟩ := He.codeIn_ref hcd
  have e : He.codeOf K wsD = cc := He.codeOf_eq (p := wsD) lk rfl
  refine ⟨_, _, cc, (He.cT K wsD).2, F, M, rfl, ?_, rfl⟩
  rw [← e]
  exact TB
end
end B
end
section
set_option linter.all false
set_option maxRecDepth 100000
set_option maxHeartbeats 0
namespace B
open PySem PySem.W PySem.Calls PyProof.Rows
abbrev R : OpenRow := OpenLaw.row PySem.Challenge.rw_laterepair_k73_whole_packets_in_any_orde
abbrev qv : Program := view R.prog [80]
def names0 : List PySem.Str := ["_wall", "__name__", "MOST_AGE_checks", "MOST_DELAY", "is_integer", "is_within", "is_age", "is_delay", "RepairError", "BadSpace", "BadTick", "BadPlan", "BadDelay", "BadCount", "BadStream", "BadPacket", "BadText", "NoPhase", "TooMany", "MOST_SUMS", "MOST_PHASES", "is_sum", "mask_of", "Tick", "sums_text", "upcoming", "read_tick", "read_sum", "common_multiple", "Plan"]
def names1 : List PySem.Str := ["need_plan", "joined", "MOST_AGE_spaces", "MOST_BITS", "SHIFT", "need_bits", "rest_of", "reduced", "tops_of", "Space", "need_space", "need_many", "space_of", "space_text", "row_in", "rows_in", "MOST_JUMP", "Packet", "counted", "Known", "power", "has_top", "Moment", "Receiver", "_law_pen", "_law_draw", "_law_pick", "_law_sum", "_law_tick", "_law_ticks"]
def names2 : List PySem.Str := ["_law_tick_text", "_law_plan", "_law_bit", "_law_reduced", "_law_added", "_law_sums", "_law_is_mute", "_law_rows", "_law_parts", "_law_begun", "_law_heard_by", "_law_shows", "_law_turn_right", "_law_orders_right", "_law_far_right"]
def names : List PySem.Str := names0 ++ names1 ++ names2
def obT (s : SharedT) : He.AlD × Bool := obsZ (HandSHeadRun.getT s)
theorem obT_eq (s : SharedT) : obT s = hookZ.obs s.abs := obsZ_eq (HandSHeadRun.getT_eq s)
/-- two looks at one end, each by itself: the kernel holds less at once -/
theorem split3 {S A C D : Type} {o : Option S} {f : S → A} {g : S → C} {k : S → D} {a : A} {b : C} {c : D} (h1 : o.map (fun s => (f s, g s)) = some (a, b)) (h2 : o.map k = some c) : o.map (fun s => (f s, g s, k s)) = some (a, b, c) := by
  cases o with
  | none => cases h1
  | some s =>
    have e1 : (f s, g s) = (a, b) := Option.some.inj h1
    have e2 : k s = c := Option.some.inj h2
    obtain ⟨rfl, rfl⟩ := Prod.mk.inj e1
    subst e2
    rfl
theorem runA (w : World) (os : OsState) : (HandSHeadRun.endF (HandSHeadRun.stepQ (HandSHeadRun.denQ HandSHeadRun.tabQ) R.prog w) 20000 R.prog w os).map (fun s => (HandSHeadRun.looksF R.prog (boot_heap w.params) s.abs, HandSHeadRun.seenQ qv names (importedModules R.prog.main.body) (fun s => xlAt qv [] s && recOk R.toRowW.records s) s.abs)) = some (true, openGood qv names) := by
  kernel_rfl
theorem runB (w : World) (os : OsState) : (HandSHeadRun.endF (HandSHeadRun.stepQ (HandSHeadRun.denQ HandSHeadRun.tabQ) R.prog w) 20000 R.prog w os).map obT = some valZ := by
  kernel_rfl
theorem run (w : World) : HandSHeadRun.RunEq R qv hookZ obT 20000 names w := fun os => split3 (runA w os) (runB w os)
end B
end
section
set_option linter.all false
set_option maxRecDepth 100000
namespace B
open PySem PySem.Spec PyProof.Rows L2
/-! ### f'{n:b}' of an int that is not negative -/
/-- the signs of a number by twos -/
def binT (n : Nat) : Str := ⟨((Nat.toDigits 2 n).map Char.toNat).toArray⟩
theorem binT_len (n : Nat) : (binT n).length = (Nat.toDigits 2 n).length := by
  show ((Nat.toDigits 2 n).map Char.toNat).toArray.size = _
  simp
section
variable {prog : Program} {w : World} {A : Around} {E : Value → Shared → Prop} {s : Shared}
theorem formatField_bS {a : Nat} {t : Tok} {spec : Str} {f : Builtin.Float.FormatSpec} {Q : Value → Shared → Prop} (hp : Builtin.Float.parseFormatSpec spec.cps.toList "int" 62 = Except.ok f)
    (hty : f.type = some 98) (hpr : f.precision = none) (hz : f.noNeg0 = false) (hw : f.width = none) (hal : f.alt = false) (hgr : f.grouping = none) (hsg : f.sign = none) (hag : f.align = 62) (hne : (spec.length == 0) = false)
    (hasc : ((spec.cps.toList.drop 1).any (· ≥ 128) || (spec.cps.getD 0 0 ≥ 128 && !([60, 62, 61, 94] : List Nat).contains (spec.cps.getD 1 0))) = false)
    (hl : (Nat.toDigits 2 a).length ≤ sizeLine) (h : Q (.str (binT a) (s.toks + 1)) { s with toks := s.toks + 1 + 1 }) (hsz : spec.length ≤ sizeLine) :
    wpAny (model prog w) A (formatField (.int (a : Int) t) spec) Q E s := by
  show wpAny _ _ (holding [.int (a : Int) t] (pyFormat (.int (a : Int) t) spec)) Q E s
  refine wpAny_holding ?_
  unfold pyFormat
  refine wpAny_bind (wpAny_mkStr ?_ hsz)
  refine wpAny_bind (m := callSpecial? (.int (a : Int) t) (Str.ofString "__format__") [.str spec s.toks]) (wpAny_callSpecial?_slot (name := Str.ofString "__format__") (typeIs_int _ _ t) F.slot_int_format ?_)
  refine wpAny_call (codeAny_call_builtin F.slot_int_format.plain F.entry_int_format (F.slot_int_format.check _ _ _ _ _ _ _ _ (typeIs_int _ _ t) (F.args_int_format_2 _ _) ?_))
  unfold Builtin.«int.__format__»
  simp only [selfAndOne, noKeywords, Builtin.Int.intOfSelf, asInt?, asStr?, List.isEmpty_nil, if_true, pure_bind, bind_pure, bind_assoc, hne, hasc, Bool.false_eq_true, if_false,
    show (Value.str spec s.toks == Value.none) = false from rfl]
  refine wpAny_bind (wpAny_typeNameOf (T := "str") (typeIs_str _ _ _) (by decide) fun _ => ?_)
  refine wpAny_bind (wpAny_typeNameOfCut_int ?_)
  simp only [hp, hty, Option.getD_some]
  rw [if_pos (by decide)]
  show wpAny _ _ (if _ then _ else _) _ _ _
  rw [if_neg (by simp [hpr])]
  show wpAny _ _ (if _ then _ else _) _ _ _
  rw [if_neg (by simp [hz])]
  show wpAny _ _ (if _ then _ else _) _ _ _
  rw [if_neg (by decide)]
  show wpAny _ _ (if _ then _ else _) _ _ _
  rw [if_neg (by decide)]
  show wpAny _ _ (if _ then _ else _) _ _ _
  rw [if_neg (by simp [hw])]
  show wpAny _ _ (retStr _) _ _ _
  unfold retStr
  refine wpAny_bind (wpAny_mkStr (wpAny_pure ?hk) ?hs)
  case hs =>
    refine Nat.le_trans (Nat.le_of_eq (congrArg Str.length (?e1 : _ = binT a))) (by rw [binT_len]; exact hl)
    case e1 =>
      conv => lhs; whnf
      simp [hw, hal, hgr, hsg, hag, binT]
      generalize instDecidableEqBool (f.align == 60) true = d
      have hneg : ¬ ((a : Int) < 0) := by omega
      rw [if_neg hneg]
      cases d <;> simp
  case hk =>
    dsimp only
    refine wpAny_bind (wpAny_isInstance (typeIs_str _ _ _) isSubtype_str_str (wpAny_pure ?_))
    refine Eq.mpr (congrArg (fun y => Q (Value.str y (s.toks + 1)) { s with toks := s.toks + 1 + 1 }) (?e2 : _ = binT a)) h
    case e2 =>
      conv => lhs; whnf
      simp [hw, hal, hgr, hsg, hag, binT]
      generalize instDecidableEqBool (f.align == 60) true = d
      have hneg : ¬ ((a : Int) < 0) := by omega
      rw [if_neg hneg]
      cases d <;> simp
theorem formatField_b {a : Nat} {t : Tok} {Q : Value → Shared → Prop} (hl : (Nat.toDigits 2 a).length ≤ sizeLine) (h : Q (.str (binT a) (s.toks + 1)) { s with toks := s.toks + 1 + 1 }) :
    wpAny (model prog w) A (formatField (.int (a : Int) t) "b") Q E s :=
  formatField_bS (f := { align := 62, type := some 98 }) rfl rfl rfl rfl rfl rfl rfl rfl rfl (by decide) (by decide) hl h (by decide)
end
section
variable {X : Cx} {e : Expr} {te : TE} {pos p1 p2 : Pos} {j : Nat}
/-- {e:b} -/
theorem pe_fmtB (he : PE X e te) : PE X (.FormattedValue e (-1) (some (.JoinedStr [.Constant (.str "b") j p1] p2)) pos) (fun σ H Q => te σ H fun x H1 => ∃ n : Nat, x = .int (n : Int) ∧ (Nat.toDigits 2 n).length ≤ sizeLine ∧ Q (.str (binT n)) H1) := by
  refine ⟨fun pins s σ H Q I h => ?_⟩
  refine wpAny_FormattedValue_spec (thn (he.run pins s σ H _ I h) fun v s1 hv => ?_)
  obtain ⟨x, H1, I1, r1, n, rfl, hz, q⟩ := hv
  obtain ⟨t, rfl⟩ := r1
  refine wpAny_JoinedStr_one (Calls.Constant_str ⟨_, _, rfl, ?_⟩)
  have I2 := I1.tok (s1.toks + 1)
  exact formatField_b hz ⟨.str (binT n), H1, I2.tok _, ⟨_, rfl⟩, q⟩
end
theorem digits_len : ∀ (n : Nat), n ≠ 0 → (Nat.toDigits 2 n).length = n.log2 + 1 := by
  intro n
  induction n using Nat.strongRecOn with
  | _ n ih =>
    intro h0
    by_cases h1 : n < 2
    · have e : n = 1 := by omega
      subst e
      decide
    · have h2 : n / 2 ≠ 0 := by omega
      have e := ih (n / 2) (by omega) h2
      rw [Nat.toDigits_of_base_le (by decide) (by omega), List.length_append, e, Nat.log2_def n, if_pos (by omega)]
      rfl
end B
end
section
set_option linter.all false
set_option maxRecDepth 100000
namespace B
open PySem PySem.Spec PyProof.Rows L2
/-! ### sorted(e, key=lambda pair: pair[0], reverse=True) of pairs of whole numbers -/
/-- the lambda's body, its names -/
structure LamP (params : Arguments) (body : Expr) (scope : Scope) : Prop where
  bd : ∃ p1 j p2 p3, body = .Subscript (.Name "pair" p1) (.Constant (.int 0) j p2) p3
  kd : scope.kind = .function
  co : scope.isCoroutine = false
  gn : scope.isGenerator = false
  nm : scope.names = [(("pair" : Str), NameKind.local)]
  bn : ∀ (q : Str) (clo : List (Str × Addr)) (pm cdv ctv u : Value), bindArgs (PySem.W.kla_fn "<lambda>" q params body scope clo pm cdv ctv) ⟨[u], []⟩ = pure [(("pair" : Str), u)]
section
variable {prog : Program} {w : World} {A : Around} {s : Shared}
theorem lam_turn {f t : Addr} {q : Str} {params : Arguments} {body : Expr} {scope : Scope} {clo : List (Str × Addr)} {pm ctv : Value} {c' : Addr} {its : List Value} {n : Int} {tk : Tok} (L : LamP params body scope)
    (hf : s.heap.get? f = some (PySem.W.kla_obj "<lambda>" q params body scope clo pm c' ctv)) (hcd : s.heap.CodeRec (.ref c') q) (hlim : s.heap.NoLimit) (ht : IsTup s.heap t its.toArray) (h0 : its[0]? = some (.int n tk)) (hsz : its.length ≤ sizeLine)
    (hroom : A.depth < recursionLimit) : wpAny (model prog w) A (call (.ref f) [.ref t]) (PySem.W.KeyPure (.int n) s) (fun _ _ => False) s := by
  obtain ⟨p1, j, p2, p3, hb⟩ := L.bd
  refine wpAny_call (PySem.W.kla_callFunE (args := ⟨[.ref t], []⟩) hroom hf rfl L.co L.gn rfl hcd ?_)
  rw [L.bn]
  refine wpAny_pure (wpAny_newFunctionEnv (fun y hy => ?_) (fun y hy => ?_) (fun h₁ hns hsb => ⟨hlim.fresh _ hsb, ?_⟩) L.kd)
  · rw [L.nm] at hy
    rw [List.mem_singleton.mp hy]
    decide
  · rw [List.mem_singleton.mp hy, L.nm]
    rfl
  · show codeAny _ _ (.expr body _) _ _
    have kp : ∀ b o, s.heap.get? b = some o → h₁.get? b = some o := fun b o e => hsb.extBut b o (Nat.ne_of_lt (Heap.lt_size e)) (Heap.get?_push_of_some _ e)
    refine PySem.W.kla_codeExpr ?_
    rw [hb]
    refine Subscript_ (wpAny_Name (wpAny_loadName_local L.kd (by show scope.names.lookup _ = _; rw [L.nm]; rfl) hns (v := .ref t) rfl ?_) (by decide))
    refine wpAny_Constant_int ?_
    have htt : IsTup h₁ t its.toArray := by
      obtain ⟨o, e, c⟩ := ht
      exact ⟨o, kp _ _ e, c⟩
    have hlt : 0 < its.length := by
      cases its with
      | nil => simp at h0
      | cons a r => simp
    refine subscriptTail_builtinR (x := .int n tk) htt.typeIs slot_tuple_getitem.lookup
      (getItem_tuple (j := 0) htt (by decide) (by decide) (by
        rw [List.size_toArray]
        exact seqIndex?_zero hlt) (by simpa using h0) ⟨rfl, ?_⟩) (by with_unfolding_all rfl)
    exact ⟨_, _, rfl, kp, .int _ _⟩
end

/-- by the first number, descending -/
def leD (a b : Addr × (Int × V)) : Bool := decide (b.2.1 ≤ a.2.1)
theorem dataLe_leD : (PySem.W.dataLe true fun t : Addr × (Int × V) => PyData.int t.2.1) = leD := by
  funext a b
  show (!PyProof.Rows.lexLt PyProof.Rows.itemOrd [.inl a.2.1] [.inl b.2.1]) = decide (b.2.1 ≤ a.2.1)
  have h1 : PyProof.Rows.lexLt PyProof.Rows.itemOrd [.inl a.2.1] [.inl b.2.1] = decide (a.2.1 < b.2.1) := by
    show (decide (a.2.1 < b.2.1) || (!decide (b.2.1 < a.2.1) && false)) = _
    rw [Bool.and_false, Bool.or_false]
  rw [h1]
  by_cases h : a.2.1 < b.2.1
  · rw [decide_eq_true h, decide_eq_false (by omega)]; rfl
  · rw [decide_eq_false h, decide_eq_true (by omega)]; rfl
theorem each_refs {β : Type} {g : β → Addr} : ∀ {ts : List β} {its : List Value}, Vals (ts.map fun t => V.ref (g t)) its → PySem.W.EachIs (fun v t => v = Value.ref (g t)) its ts
  | [], _, .nil => .nil
  | _ :: _, _, .cons a r => .cons a (each_refs r)
theorem refs_each {β : Type} {g : β → Addr} : ∀ {ts : List β} {its : List Value}, PySem.W.EachIs (fun v t => v = Value.ref (g t)) its ts → Vals (ts.map fun t => V.ref (g t)) its
  | [], _, .nil => .nil
  | _ :: _, _, .cons a r => .cons a (refs_each r)
section
variable {X : Cx} {tb : List (Addr × Str)} {c P : Addr} {k j : Nat} {params : Arguments} {body e : Expr} {scope : Scope} {te : TE} {p pos lpos kp1 kp2 cp : Pos}
theorem pe_sortLam (hr : Room k X.A) (L : LamP params body scope) (TB : LamX.TabB X.base X.mg c P) (hcode : X.env.code = .ref c) (hmT : (P, X.env.qual ++ "<lambda>") ∈ tb) (hu : ∀ p ∈ tb, p.1 = P → p.2 = X.env.qual ++ "<lambda>")
    (hdef : defaultsOf params X.env = ([], [])) (hg : Gl X "sorted") (hm : X.mg "sorted" = none) (he : PE X e te)
    (hs0 : starEach [e] X.env = (false, eval e X.env) :: starEach [] X.env := by rfl) (hs1 : backTo pos (starEach [e] X.env) = (false, eval e X.env) :: backTo pos (starEach [] X.env) := by rfl) (hs2 : (backTo pos (starEach [e] X.env)).any (·.1) = false := by rfl) :
    PE X (.Call (.Name "sorted" p) [e] [⟨some "key", .Lambda params body scope lpos, kp1⟩, ⟨some "reverse", .Constant (.bool true) j cp, kp2⟩] pos)
      (fun σ H Q => te σ H fun x H1 => ∃ (l : Addr) (ts : List (Addr × (Int × V))), x = .ref l ∧ H1 l = some (.lst (ts.map fun t => V.ref t.1)) ∧ (∀ t ∈ ts, H1 t.1 = some (.tup [.int t.2.1, t.2.2])) ∧ LamX.Tabs tb H1 ∧
        ∀ p H2, Gr tb H1 H2 → H2 p = some (.lst ((ts.mergeSort leD).map fun t => V.ref t.1)) → Q (.ref p) H2) := by
  refine ⟨fun pins s σ H Q I h => ?_⟩
  refine wpAny_Call_Name_kw (ld_blt (u := .builtin "sorted") I hg hm (by decide +kernel) ?_)
  refine PyProof.Rows.callWith_kw (thn ((pa_cons he pa_nil hs0).run pos pins s σ H (fun vs H1 => match vs with
        | [x] => ∃ (l : Addr) (ts : List (Addr × (Int × V))), x = .ref l ∧ H1 l = some (.lst (ts.map fun t => V.ref t.1)) ∧ (∀ t ∈ ts, H1 t.1 = some (.tup [.int t.2.1, t.2.2])) ∧ LamX.Tabs tb H1 ∧
        ∀ p H2, Gr tb H1 H2 → H2 p = some (.lst ((ts.mergeSort leD).map fun t => V.ref t.1)) → Q (.ref p) H2
        | _ => False) I ?_) fun us s1 ⟨vs, H1, I1, r1, hq⟩ => ?_) hs1 hs2 rfl rfl
  · show te σ H _
    exact h
  match vs, hq with
  | [x], hq => ?_
  obtain ⟨l, ts, ex, hL, hT, hTb, q⟩ := hq
  subst ex
  obtain rfl := Vals.ref1 r1
  show wpAny _ _ (evalAll [(do let v ← eval (.Lambda params body scope lpos) X.env; standAt pos; pure v), (do let v ← eval (.Constant (.bool true) j cp) X.env; standAt pos; pure v)]) _ _ s1
  refine wpAny_evalAll_cons (wpAny_bind (LamX.lam_make2 I1 TB hcode hmT hu hTb hdef (fun y hy e => ?_) fun f c' pm ctv H2 s2 I2 eN T2 hof nf frn hc => wpAny_bind (wpAny_standAt (wpAny_pure ?_))))
  · rw [L.nm] at hy
    rw [List.mem_singleton.mp hy] at e
    cases e
  refine wpAny_evalAll_cons (wpAny_bind (Constant_bool (wpAny_bind (wpAny_standAt (wpAny_pure (wpAny_evalAll_nil ?_))))))
  have g2 : Gr tb H1 H2 := ⟨fun b o e n => eN b o e (nt_ne n), fun _ => T2⟩
  have hL2 := g2.at hL
  obtain ⟨its, rv, hl, hz⟩ := I2.list (SqL.of hL2)
  have each := each_refs rv
  obtain ⟨⟨oc, cvs, ctk, hoc, hdc, hvc⟩, _, _⟩ := I2.hok c' _ hc
  have hlen : ts.length ≤ sizeLine := by rw [List.length_map] at hz; exact hz
  refine PySem.W.sorted_key_data (fun t : Addr × (Int × V) => PyData.int t.2.1) hl.isList each ?_ ?_ hlen ?_ (PyProof.Rows.ksk_s2 _ _ _) (fun _ => PyProof.Rows.ksk_l2 _ _ _) (fun x => PyProof.Rows.ksk_t2 f x true) ?_ ?_
  · intro d hd d' hd'
    obtain ⟨t, _, rfl⟩ := List.mem_map.mp hd
    obtain ⟨t', _, rfl⟩ := List.mem_map.mp hd'
    rfl
  · refine .inr fun d hd => ?_
    obtain ⟨t, _, rfl⟩ := List.mem_map.mp hd
    exact ⟨fun z => (nomatch z), fun xs z => (nomatch z)⟩
  · intro t _
    have := hr.un
    show X.A.units + 2 + 0 < cLine
    omega
  · intro v t ev ht h tk kp
    subst ev
    have hT2 := g2.at (hT t ht)
    obtain ⟨its2, r2, pl, hz2⟩ := I2.tuple (SqT.of hT2)
    obtain ⟨u1, u2, rfl, ri, rj⟩ := vals2 r2
    obtain ⟨t1, rfl⟩ := ri
    have htt : IsTup h t.1 ([Value.int t.2.1 t1, u2] : List Value).toArray := by
      obtain ⟨o, e, c⟩ := pl
      exact ⟨o, kp _ _ e, c⟩
    exact lam_turn (s := { s2 with heap := h, toks := tk }) L (kp _ _ hof) ⟨c', oc, cvs, ctk, rfl, kp _ _ hoc, hdc, hvc⟩ (I2.nolimit.keeps kp) htt rfl (by show 2 ≤ sizeLine; decide) hr.depth
  · intro out n h' tk kp hnone hD hlo ho
    rw [dataLe_leD] at ho
    have rv2 := refs_each ho
    have hf : H2 (s2.heap.objs.size + 1) = Option.none := I2.hok.fresh (Nat.le_succ _)
    have g3 : Gr tb H2 (upd H2 (s2.heap.objs.size + 1) (.lst ((ts.mergeSort leD).map fun t => V.ref t.1))) := .new hf
    refine ⟨.ref _, upd H2 (s2.heap.objs.size + 1) (.lst ((ts.mergeSort leD).map fun t => V.ref t.1)), I2.laid (t' := tk) kp (Nat.le_succ _) ⟨?_, out, n, rv2, hD⟩, rfl, q _ _ (g2.trans g3) upd_same⟩
    rw [List.length_map, List.length_mergeSort]
    exact hlen
end
end B
end
section
set_option linter.all false
set_option maxRecDepth 100000
namespace B
open PySem PySem.Spec PyProof.Rows L2
/-! ### f(*e, k = v, ..): the star's value first, then the keywords, then the star's items -/
section
variable {M : Model} {A : Around} {E : Value → Shared → Prop} {s : Shared}
theorem ks_loneK {f : Value} {x : Sem Value} {pos : Pos} {kws : List (Option Str × Sem Value)} {Q : Args → Shared → Prop} (hall : kws.all (·.1.isSome) = true)
    (h : wpAny M A x (fun v s₁ => wpAny M A (evalAll (kws.map (·.2))) (fun ks s₂ => PySem.W.StarOf M A E v (fun vs s₃ => Q ⟨vs, (kws.filterMap (·.1)).zip ks⟩ s₃) s₂) E s₁) E s) :
    wpAny M A (evalArgs f true [(true, (do let v ← x; standAt pos; pure v))] kws) Q E s := by
  unfold evalArgs
  first
    | refine wpAny_bind (wpAny_bind (wpAny_mono h (fun v s₁ h₁ => wpAny_bind (wpAny_standAt (wpAny_pure ?_))) fun _ _ x => x))
    | refine wpAny_bind (wpAny_bind (wpAny_bind (wpAny_mono h (fun v s₁ h₁ => wpAny_bind (wpAny_standAt (wpAny_pure (wpAny_pure ?_)))) fun _ _ x => x)))
  refine wpAny_holding ?_
  rw [if_pos hall]
  refine wpAny_bind (wpAny_mono h₁ (fun ks s₂ h₂ => ?_) fun _ _ x => x)
  unfold PySem.W.StarOf at h₂
  refine wpAny_bind (wpAny_bind (wpAny_mono h₂ (fun b s₃ h₃ => ?_) fun _ _ x => x))
  obtain ⟨rfl, h₃⟩ := h₃
  have z := wpAny_holding (vs := ((kws.filterMap (·.1)).zip ks).map (·.2)) (wpAny_mono h₃ (fun vs s₃ h₃ => (wpAny_pure h₃ : wpAny M A (pure (⟨vs, (kws.filterMap (·.1)).zip ks⟩ : Args)) Q E s₃)) fun _ _ x => x)
  try simp only [Bool.false_eq_true, if_false]
  first
    | exact z
    | exact wpAny_bind (wpAny_pure z)
theorem ks_callK {f : Value} {first : List Value} {pos : Pos} {Q : Value → Shared → Prop} {P : Heap → Prop} {args : List (Bool × Sem Value)} {kws : List (Option Str × Sem Value)} (hst : args.any (·.1) = true)
    (hk : ∀ h, P h → ∃ k, (k = Keeper.frame ∨ k = Keeper.machine ∨ k = Keeper.boundFrame) ∧ PySem.W.Looks M h (keeperOf f) k)
    (h : wpAny M A (evalArgs f true args kws) (fun a s₁ => P s₁.heap ∧ wpAny M A (call f (first ++ a.pos) a.kw) Q E s₁) E s) : wpAny M A (callWith pos f first args kws) Q E s := by
  unfold callWith
  refine wpAny_bind (wpAny_holding (wpAny_mono h (fun a s₁ h₁ => wpAny_bind (wpAny_standAt ?_)) fun _ _ x => x))
  obtain ⟨k, hk', L⟩ := hk _ h₁.1
  simp only [hst, Bool.true_or]
  refine wpAny_bind (L.here ?_)
  have tail : ∀ {t : Sem Value}, wpAny M A t Q E s₁ → wpAny M A (t >>= fun r => holding [r] point >>= fun _ => pure r) Q E s₁ :=
    fun ht => wpAny_bind (wpAny_mono ht (fun r s₂ hr => wpAny_bind (wpAny_holding (wpAny_point (wpAny_pure hr)))) fun _ _ x => x)
  have marked (mk : Value) : wpAny M A (callMarked mk f (first ++ a.pos) a.kw) Q E s₁ := by unfold callMarked; exact Calls.wpAny_keep h₁.2
  rcases hk' with rfl | rfl | rfl <;> dsimp only <;> first | exact tail (marked _) | exact tail (wpAny_operating h₁.2)
end
/-! ### Tick: def __init__(self, *sums, mute=False) -/
abbrev TkI (P : Program) (w : World) (K : PySem.W.Frag) (mg : Str → Option Value) (base : Heap) (k : Nat) (f : Addr) (sp : Sp) : Prop :=
  ∀ (A : Around) (outer : List Env) (s : Shared) (H : Hp) (su : Value) (us : List Value) (sv : V) (rest : List V) (kw : List (Str × Value)) (mv : V) (Q : VK) (E : XK), Room k A → Env0 P w K mg base A outer s H → RelV sv su → Vals rest us →
    ((kw = [] ∧ mv = .bl false ∧ us.length = 1) ∨ ∃ m, kw = [(("mute" : Str), m)] ∧ RelV mv m) → rest.length ≤ sizeLine → (∀ p, H p = none → sp [sv, mv, .ref p] (upd H p (.tup rest)) Q E) →
    codeAny (model P w) A (.call (.ref f) ⟨su :: us, kw⟩) (CR CX0 outer P w H s Q E) s
section
variable {P : Program} {w : World} {K : PySem.W.Frag} {mg : Str → Option Value} {base : Heap} {k : Nat} {f : Addr} {fd : FuncData} {N : List Str} {sp : Sp}
theorem tick_bindK {kV doc pm cdv ct : Value} {an : Option Addr} {q : Str} (su m : Value) : ∀ us : List Value, bindArgs (PySem.W.fnOf "__init__" q (defArgs s_Tick_init) (defBody s_Tick_init) (defScope s_Tick_init) .none kV doc pm an cdv ct) ⟨su :: us, [(("mute" : Str), m)]⟩ =
    (newTuple us >>= fun t => pure [(("self" : Str), su), (("mute" : Str), m), (("sums" : Str), t)])
  | [] => by first | rfl | kernel_rfl
  | a :: r => by first | rfl | kernel_rfl
theorem tick_bind1 {doc pm cdv ct : Value} {an : Option Addr} {q : Str} {D : Addr} (su a m : Value) : ∃ (β γ : Type) (k1 : Option Value → Sem β) (k2 : β → Sem γ) (k3 : γ → Sem (List (Str × Value))) (b : β),
    bindArgs (PySem.W.fnOf "__init__" q (defArgs s_Tick_init) (defBody s_Tick_init) (defScope s_Tick_init) .none (.ref D) doc pm an cdv ct) ⟨[su, a], []⟩ = ((nsGet D "mute" >>= k1) >>= k2) >>= k3 ∧ k1 (some m) = pure b ∧
    (k2 b >>= k3) = (newTuple [a] >>= fun t => pure [(("self" : Str), su), (("mute" : Str), m), (("sums" : Str), t)]) :=
  ⟨_, _, _, _, _, _, rfl, rfl, rfl⟩
theorem mkTick {qual : Str} (F : FunD K "__init__" qual (defArgs s_Tick_init) (defBody s_Tick_init) (defScope s_Tick_init) [] [("mute", .bl false)] f fd) (S : FnScope N ["self", "mute", "sums"] (defScope s_Tick_init))
    (hbody : ∀ (cdv : Value) (A : Around) (outer : List Env) (s : Shared) (H : Hp) (vs : List V) (Q : VK) (E : XK), Room k (A.deeper (envOfC qual (defScope s_Tick_init) s.heap.objs.size f cdv)) → sp vs H Q E →
      ∃ t, PSs (cxOf CX0 P w K mg base N qual (defScope s_Tick_init) f cdv A outer s H E).nox (defBody s_Tick_init) t ∧ t { nx := fun _ H' => Q .non H', rt := Q } (start N vs) H) : TkI P w K mg base (k + 1) f sp := by
  obtain ⟨oc, od, dV, kV, doc, pm, an, cdv, ct, osl, rfl, lk, hcd, hD, hK⟩ := F.ex
  rcases hD with ⟨_, rfl⟩ | ⟨e, _⟩
  case inr => exact absurd rfl e
  rcases hK with e | ⟨D, rfl, hq⟩
  case inl => cases e
  obtain ⟨u0, hu0, hr0⟩ := hq ("mute", .bl false) (List.mem_cons_self ..)
  obtain rfl : u0 = Value.bool false := hr0
  intro A outer s H su us sv rest kw mv Q E hr e0 rs r hkw hz hsp
  have hn : H s.heap.objs.size = Option.none := e0.hok.fresh (Nat.le_refl _)
  have hl2 : us.length ≤ sizeLine := by rw [← r.length]; exact hz
  refine StX.run_bnd lk hcd S hr e0 (G := fun xs H2 => ∃ p, H p = Option.none ∧ xs = [sv, mv, V.ref p] ∧ H2 = upd H p (.tup rest)) (fun A' Ex Q' h => ?_) fun s2 H2 xs ⟨p, hp, ex, eH⟩ hr' => ?_
  · have fin : ∀ m, RelV mv m → wpAny (model P w) A' (newTuple us >>= fun t => pure [(("self" : Str), su), (("mute" : Str), m), (("sums" : Str), t)]) Q' Ex s := fun m rm => by
      refine wpAny_bind (wpAny_newTuple (wpAny_pure ?_) hl2)
      have new : ObjOk P w (upd H s.heap.objs.size (.tup rest)) (s.heap.push ({ cls := .type "tuple", data := .seq us.toArray } : Obj)) s.heap.objs.size (.tup rest) := ⟨hz, us, r, ⟨_, Heap.get?_push_size _ rfl, rfl, _, rfl⟩⟩
      have un := StX.un_laid (fs := frs outer) (s := s) (o := ({ cls := .type "tuple", data := .seq us.toArray } : Obj)) (u := .tup rest) hn
      exact h _ _ [sv, mv, V.ref s.heap.objs.size] [su, m, Value.ref s.heap.objs.size] (StX.env0_laid e0 new) un rfl (fun e s' z => z.elim) (.cons rs (.cons rm (.cons rfl .nil))) rfl ⟨_, hn, rfl, rfl⟩
    rcases hkw with ⟨rfl, rfl, hl⟩ | ⟨m, rfl, rm⟩
    · match us, hl with
      | [a], _ =>
        obtain ⟨β, γ, k1, k2, k3, b, e1, e2, e3⟩ := tick_bind1 (q := qual) (D := D) (doc := doc) (pm := pm) (cdv := cdv) (ct := ct) (an := an) su a (.bool false)
        rw [e1, bind_assoc]
        have l1 : PySem.W.Looks (model P w) s.heap (nsGet D "mute" >>= k1) b := (PySem.W.looks_nsIn (e0.mod.kin.keeps fun b o e => (e0.bs b o e).1) hu0).andThen (PySem.W.Looks.of_pure e2)
        refine wpAny_bind (l1.here ?_)
        rw [e3]
        exact fin _ rfl
    · rw [tick_bindK]
      exact fin m rm
  · subst ex eH
    obtain ⟨t, h, q⟩ := hbody cdv A outer s2 _ _ Q E hr' (hsp p hp)
    exact ⟨t, h.nox, q⟩
end
def TkF (P : Program) (w : World) (K : PySem.W.Frag) (mg : Str → Option Value) (base : Heap) (k : Nat) (x : Str) (C : Addr) (sp : Sp) : Prop := ∃ f, Mk K C f ∧ TkI P w K mg base k f sp ∧ mg x = some (.ref C)
section
variable {X : Cx} {k j : Nat} {C : Addr} {x : Str} {sp : Sp} {p pos kp sp_ : Pos} {e e2 : Expr} {te te2 : TE}
theorem run_tick {f : Addr} {pins : List (Addr × Obj)} {σ : L2.St} {H : Hp} {s : Shared} {Q : VK} {us : List Value} {vs : List V} {kw : List (Str × Value)} {mv : V} (M : Mk X.K C f) (F : TkI X.prog X.w X.K X.mg X.base k f sp) (hr : Room (k + 1) X.A)
    (I : Inv X pins σ H s) (r : Vals vs us) (hkw : (kw = [] ∧ mv = .bl false ∧ us.length = 1) ∨ ∃ m, kw = [(("mute" : Str), m)] ∧ RelV mv m) (hz : vs.length ≤ sizeLine)
    (h : ∀ x dx, H x = Option.none → H dx = Option.none → dx ≠ x → ∀ p, upd (upd H dx (.own x)) x (.ins C dx []) p = Option.none → sp [V.ref x, mv, .ref p] (upd (upd (upd H dx (.own x)) x (.ins C dx [])) p (.tup vs)) (fun v H2 => v = .non ∧ Q (.ref x) H2) E0) :
    wpAny (model X.prog X.w) X.A (call (.ref C) us kw) (EP X pins σ Q) X.xe s := by
  have hq := h (s.heap.objs.size + 1) s.heap.objs.size (I.hok.fresh (Nat.le_succ _)) (I.hok.fresh (Nat.le_refl _)) (Nat.ne_of_lt (Nat.lt_succ_self _))
  have I2 := Inv.made (C := C) I
  refine wpAny_call (make_map (f := f) I.kIn M.makes M.init (beq_iff_eq.mp M.fn) (codeAny_mono (F _ X.stack _ _ (Value.ref (s.heap.objs.size + 1)) us (V.ref (s.heap.objs.size + 1)) vs kw mv _ E0 (hr.make C us kw) (I2.env0.make C us kw) rfl r hkw hz hq) fun r s' hq' => ?_))
  cases r with
  | error e => exact False.elim hq'
  | ok fl =>
    cases fl with
    | ret u =>
      obtain ⟨v, H', I3, rv, ev, q3⟩ := I2.after hq'
      subst ev
      exact ⟨rv, ⟨V.ref (s.heap.objs.size + 1), H', I3, rfl, q3⟩⟩
    | next => exact False.elim hq'
    | brk => exact False.elim hq'
    | cont => exact False.elim hq'
/-- what is asked: the items vs, mute mv -/
def tTick (C : Addr) (sp : Sp) (vs : List V) (mv : V) (H : Hp) (Q : VK) : Prop := vs.length ≤ sizeLine ∧ ∀ x dx, H x = Option.none → H dx = Option.none → dx ≠ x → ∀ p, upd (upd H dx (.own x)) x (.ins C dx []) p = Option.none →
  sp [V.ref x, mv, .ref p] (upd (upd (upd H dx (.own x)) x (.ins C dx [])) p (.tup vs)) (fun v H2 => v = .non ∧ Q (.ref x) H2) E0
/-- Tick(*e, mute=e2) -/
theorem pe_tickS (c : TkF X.prog X.w X.K X.mg X.base k x C sp) (hr : Room j X.A) (hk : k + 1 ≤ j) (hg : Gl X x) (he : PE X e te) (he2 : PE X e2 te2) (hd : (x == ("__debug__" : Str)) = false := by decide)
    (hst : starEach [.Starred e sp_] X.env = [(true, eval e X.env)] := by rfl) :
    PE X (.Call (.Name x p) [.Starred e sp_] [⟨some "mute", e2, kp⟩] pos) (fun σ H Q => te σ H fun y H1 => te2 σ H1 fun mv H2 => ∃ a xs, y = V.ref a ∧ (SqT X.K H2 a xs ∨ SqL X.K H2 a xs) ∧ tTick C sp xs mv H2 Q) := by
  obtain ⟨f, M, F, hm⟩ := c
  refine ⟨fun pins s σ H Q I h => ?_⟩
  refine wpAny_Call_Name_kw (ld_glob I hg hm ?_ hd)
  rw [hst]
  refine ks_callK rfl (PySem.W.keeps_K M.kp) (ks_loneK rfl (thn (he.run pins s σ H _ I h) fun v s1 ⟨y, H1, I1, ry, q⟩ => ?_))
  show wpAny _ _ (evalAll [(do let v ← eval e2 X.env; standAt pos; pure v)]) _ _ s1
  refine wpAny_evalAll_cons (wpAny_bind (thn (he2.run pins s1 σ H1 _ I1 q) fun m s2 ⟨mv, H2, I2, rm, a, xs, ey, hxs, hz, q2⟩ => wpAny_bind (wpAny_standAt (wpAny_pure (wpAny_evalAll_nil ?_)))))
  subst ey
  obtain rfl : v = Value.ref a := ry
  exact StX.star_any I2 hxs fun us s3 I3 rv => ⟨I3.kIn, run_tick M F (hr.mono hk) I3 rv (.inr ⟨m, rfl, rm⟩) hz q2⟩
/-- Tick(mute=e2) -/
theorem pe_tick0 (c : TkF X.prog X.w X.K X.mg X.base k x C sp) (hr : Room j X.A) (hk : k + 1 ≤ j) (hg : Gl X x) (he2 : PE X e2 te2) (hd : (x == ("__debug__" : Str)) = false := by decide) :
    PE X (.Call (.Name x p) [] [⟨some "mute", e2, kp⟩] pos) (fun σ H Q => te2 σ H fun mv H2 => tTick C sp [] mv H2 Q) := by
  obtain ⟨f, M, F, hm⟩ := c
  refine ⟨fun pins s σ H Q I h => ?_⟩
  refine wpAny_Call_Name_kw (ld_glob I hg hm ?_ hd)
  refine PySem.W.callWith_KW0 (h₀ := X.base) I.ok.mod.kin M.kp rfl ?_ rfl
  show wpAny _ _ (evalAll [(do let v ← eval e2 X.env; standAt pos; pure v)]) _ _ s
  refine wpAny_evalAll_cons (wpAny_bind (thn (he2.run pins s σ H _ I h) fun m s2 ⟨mv, H2, I2, rm, hz, q2⟩ => wpAny_bind (wpAny_standAt (wpAny_pure (wpAny_evalAll_nil ⟨I2.kIn, ?_⟩)))))
  exact run_tick (us := []) (vs := []) M F (hr.mono hk) I2 .nil (.inr ⟨m, rfl, rm⟩) hz q2
/-- Tick(e) -/
theorem pe_tick1 (c : TkF X.prog X.w X.K X.mg X.base k x C sp) (hr : Room j X.A) (hk : k + 1 ≤ j) (hg : Gl X x) (he : PE X e te) (hd : (x == ("__debug__" : Str)) = false := by decide)
    (hs0 : starEach [e] X.env = (false, eval e X.env) :: starEach [] X.env := by rfl) (hpl : (backTo pos (starEach [] X.env)).any (·.1) = false := by rfl) :
    PE X (.Call (.Name x p) [e] [] pos) (fun σ H Q => te σ H fun y H2 => tTick C sp [y] (.bl false) H2 Q) := by
  obtain ⟨f, M, F, hm⟩ := c
  refine ⟨fun pins s σ H Q I h => ?_⟩
  refine wpAny_Call_Name_kw (ld_glob I hg hm ?_ hd)
  refine PySem.W.callWith_K (h₀ := X.base) I.ok.mod.kin M.kp (thn ((pa_cons he pa_nil hs0).run pos pins s σ H (fun vs H2 => match vs with | [y] => tTick C sp [y] (.bl false) H2 Q | _ => False) I h) fun us s1 ⟨vs, H1, I1, r, q⟩ => ⟨I1.kIn, ?_⟩) hs0 hpl
  match vs, q with
  | [y], ⟨hz, q⟩ =>
    have e1 : us.length = 1 := r.length.symm
    exact run_tick (kw := []) M F (hr.mono hk) I1 r (.inl ⟨rfl, rfl, e1⟩) hz q
end
end B
end
section
set_option linter.all false
set_option maxRecDepth 100000
namespace B
open PySem PySem.Spec PyProof.Rows L2
/-! ### enumerate over a tuple -/
section
open AutoSeq1 (wpAny_loadPart')
set_option maxHeartbeats 1000000 in
theorem meets_enumT (l : Addr) (items : Array Value) (n : Nat) (dct : Option Addr) (sl : Array (Option Value)) :
    Meets (Builtin.«enumerate.__new__» ⟨[.type "enumerate", .ref l], []⟩) (fun _ R s => s.heap.get? l = some { cls := .type "tuple", dict := dct, data := .seq items n, slots := sl } ∧
      R (.ok (.ret (.ref (s.heap.push { cls := .type "tuple_iterator", data := .fields #[.ref l, .int 0 0] }).objs.size)))
        { s with heap := (s.heap.push { cls := .type "tuple_iterator", data := .fields #[.ref l, .int 0 0] }).push { cls := .type "enumerate", data := .fields #[.none, .bool false, .ref s.heap.objs.size, rawInt 0, .none, .none] } }) :=
  .of_wp fun prog w A R s h => by
    obtain ⟨hp, g, d, tk, os⟩ := s; obtain ⟨hl, h⟩ := h
    have hsub := sub_enumerate
    have hL : Heap.IsTuple (Shared.heap ⟨hp, g, d, tk, os⟩) l items := ⟨_, hl, rfl, n, rfl⟩
    wp_walk using wpAny_loadPart' hl
    refine wpAny_stack_any fun st => wpAny_pure ?_
    split
    · rename_i c _ _ _ _ _
      cases (c == Value.type "enumerate")
      · wp_walk using wpAny_loadPart' hl, wpAny_pyIter_tuple hL
        exact ⟨_, rfl, h⟩
      · wp_walk using wpAny_loadPart' hl, wpAny_pyIter_tuple hL
        exact ⟨_, rfl, h⟩
    · wp_walk using wpAny_loadPart' hl, wpAny_pyIter_tuple hL
      exact ⟨_, rfl, h⟩
end
section
variable {prog : Program} {w : World} {A : Around} {E : Value → Shared → Prop} {s : Shared}
theorem call_enumT {l : Addr} {items : Array Value} {Q : Value → Shared → Prop} (hL : s.heap.IsTuple l items)
    (h : ∀ h', IsEnum h' (s.heap.objs.size + 1) s.heap.objs.size 0 .none → h'.IsTupleIter s.heap.objs.size l 0 → h'.objs.size = s.heap.objs.size + 2 →
      (∀ b o, s.heap.get? b = some o → h'.get? b = some o) → Q (.ref (s.heap.objs.size + 1)) { s with heap := h' }) :
    wpAny (model prog w) A (call (.type "enumerate") [.ref l]) Q E s := by
  obtain ⟨⟨c, dct, dt, sl⟩, hl, hc, n, hd⟩ := hL
  replace hc : c = .type "tuple" := hc
  replace hd : dt = .seq items n := hd
  subst hc hd
  refine callType_new F.called_enumerate (by decide) (F.typeCall_enumerate_1 _) (F.newCall_enumerate_1 _) (fun obj => F.args_object_init_2 obj _) F.entry_enumerate_new
    (meets_enumT l items n dct sl) ⟨hl, ?_⟩
  have hz : (s.heap.push { cls := .type "tuple_iterator", data := .fields #[.ref l, .int 0 0] }).objs.size = s.heap.objs.size + 1 := Heap.size_push ..
  show _ ∧ _
  rw [hz]
  have he : IsEnum ((s.heap.push { cls := .type "tuple_iterator", data := .fields #[.ref l, .int 0 0] }).push
      { cls := .type "enumerate", data := .fields #[.none, .bool false, .ref s.heap.objs.size, rawInt 0, .none, .none] }) (s.heap.objs.size + 1) s.heap.objs.size 0 .none := by
    have := Heap.get?_push_size (s.heap.push { cls := .type "tuple_iterator", data := .fields #[.ref l, .int 0 0] })
      (o := { cls := .type "enumerate", data := .fields #[.none, .bool false, .ref s.heap.objs.size, rawInt 0, .none, .none] }) rfl
    rw [hz] at this; exact this
  refine ⟨⟨_, he, rfl⟩, h _ he ⟨_, Heap.get?_push_of_some _ (Heap.get?_push_size _ rfl), rfl, rfl⟩ (by rw [Heap.size_push, hz]) fun b o x => Heap.get?_push_of_some _ (Heap.get?_push_of_some _ x)⟩
end
def IteT (K : PySem.W.Frag) (a : Addr) : It :=
  ⟨fun i H => ∃ (xs : List V) (x : V), SqT K H a xs ∧ xs[i]? = some x, fun i H v H' => ∃ T x, v = .ref T ∧ H T = none ∧ H' = upd H T (.tup [.int (i : Nat), x]) ∧ ∀ xs, SqT K H a xs → xs[i]? = some x, fun i H => ∃ xs : List V, SqT K H a xs ∧ xs.length ≤ i⟩
theorem turn_enumT {P : Program} {w : World} {K : PySem.W.Frag} {elts : List Expr} {kk : Nat} {tpos : Pos} (a e it : Addr) (hna : a ≠ it) :
    Turn P w K (.Tuple elts kk tpos) (IteT K a) [e, it] e (fun i h => (∃ old, IsEnum h e it ((i : Nat) : Int) old) ∧ h.IsTupleIter it a i ∧ e ≠ it ∧ a ≠ e) where
  mem := by simp
  obj := fun i h st b hb => by
    obtain ⟨⟨old, he⟩, ⟨o, ho, hc, hd⟩, _⟩ := st
    have e' : b = e ∨ b = it := by simpa using hb
    rcases e' with z | z
    · rw [z]; exact ⟨_, he, fun v q => nomatch q⟩
    · rw [z]; exact ⟨o, ho, fun v q => by rw [hd] at q; cases q⟩
  keep := fun i h h' st k => let ⟨⟨old, he⟩, hi, hne⟩ := st; ⟨⟨old, k e (by simp) _ he⟩, hi.at fun o q => k it (by simp) o q, hne⟩
  item := by
    intro X hP hw hK hc i pins s σ H E I hf st hg
    subst hP hw hK
    obtain ⟨⟨old, he⟩, hit, hne, hae⟩ := st
    obtain ⟨xs, x, hq, hx⟩ := hg
    obtain ⟨its, rv, p, hz⟩ := I.tuple hq
    obtain ⟨u, hu, ru⟩ := rv.get hx
    have hel : e < s.heap.objs.size := Heap.lt_size he
    have hil : it < s.heap.objs.size := by obtain ⟨_, q, _⟩ := hit; exact Heap.lt_size q
    have hlt : i < its.toArray.size := by
      rw [List.size_toArray]
      exact (List.getElem?_eq_some_iff.mp hu).1
    refine wpAny_pyNext_enum_itemD (PySem.Draws.tuple (prog := X.prog) (w := X.w) (A := X.A.in1) (show X.A.in1.handled = none from I.ok.hd hc) it a hna its.toArray) he ⟨hit, show s.heap.IsTuple a its.toArray from p⟩ hlt hne (by simp; exact ⟨hne, fun z => hae z.symm⟩) fun x' h' tk hx' ho hst hT hsz hk => ?_
    have ex : x' = u := by
      have h1 : its.toArray[i]? = some u := by simpa using hu
      rw [h1] at hx'
      exact (Option.some.inj hx').symm
    subst ex
    obtain ⟨hit', _⟩ := hst
    refine ⟨_, rfl, wpAny_letOwnedTupleGo_enum (s := { s with heap := h', toks := tk + 1 }) ho fun h'' he' sb => ?_⟩
    have hT2 : h''.get? s.heap.objs.size = some { cls := .type "tuple", data := .seq #[.int i tk, x'] } := (sb.2 _ (Nat.ne_of_gt hel)).trans hT
    have new : ObjOk X.prog X.w (upd H s.heap.objs.size (.tup [.int (i : Nat), x])) h'' s.heap.objs.size (.tup [.int (i : Nat), x]) :=
      ⟨by show 2 ≤ sizeLine; decide, [.int i tk, x'], .cons ⟨_, rfl⟩ (.cons ru .nil), ⟨_, hT2, rfl, _, rfl⟩⟩
    have I1 : Inv X pins σ (upd H s.heap.objs.size (.tup [.int (i : Nat), x])) { s with heap := h'', toks := tk + 1 } :=
      I.turnedNew (ch := [e, it]) (fun b ob hb q => (sb.2 b (fun z => hb (by simp [z]))).trans (hk b ob (fun z => hb (by simp [z])) (fun z => hb (by simp [z])) q)) hf (Nat.le_refl _) new
    refine ⟨.ref s.heap.objs.size, _, I1, rfl, ⟨_, x, rfl, I.hok.fresh (Nat.le_refl _), rfl, fun ys hy => by rw [I.tuple_inj hy hq]; exact hx⟩, ⟨⟨x', ?_⟩, hit'.at fun o q => (sb.2 it (Ne.symm hne)).trans q, hne, hae⟩, fun b hb => ?_⟩
    · have e1 : ((i + 1 : Nat) : Int) = (i : Int) + 1 := by omega
      rw [e1]; exact he'
    · have hb' : b < s.heap.objs.size := by
        have e' : b = e ∨ b = it := by simpa using hb
        rcases e' with z | z
        · rw [z]; exact hel
        · rw [z]; exact hil
      rw [upd_ne (Nat.ne_of_lt hb')]
      exact (hf b hb).1
  done := by
    intro X hP hw hK hc i pins s σ H E I hf st hg
    subst hP hw hK
    obtain ⟨⟨old, he⟩, hit, hne, hae⟩ := st
    obtain ⟨xs, hq, hx⟩ := hg
    obtain ⟨its, rv, p, hz⟩ := I.tuple hq
    obtain ⟨f0, f1, f2, f3, f4, f5⟩ := hf it (by simp)
    have hl := rv.length
    have hT : s.TypeIs (.ref e) "enumerate" := ⟨_, he, rfl⟩
    unfold pyNext
    refine wpAny_bind (wpAny_attempt (wpAny_callSpecial?_slot (name := Str.ofString "__next__") hT F.slot_enumerate_next
      (wpAny_call_entry F.slot_enumerate_next hT F.entry_enumerate_next ?_ (F.args_enumerate_next_1 _))))
    show wpAny _ _ (field (.ref e) 2 >>= _) _ _ _
    refine wpAny_bind (wpAny_field he rfl (x := .ref it) rfl ?_)
    refine wpAny_bind (RZ.nextOf_tuple_end (I.ok.hd hc) hit (show s.heap.IsTuple a its.toArray from p) (by simp; omega) fun h' x he' hx' => ?_)
    obtain ⟨o, ho, hcc⟩ := hx'
    refine wpAny_bind (wpAny_isInstance (T := "StopIteration") (b := true) ⟨o, ho, hcc⟩ isSubtype_stop ?_)
    exact wpAny_pure ⟨rfl, I.turned (t' := s.toks) (fun b o hb q => he' b o hb q) f0 f1 f3 f4 f5⟩
  self := fun A i s Q E st h => let ⟨⟨_, he⟩, _⟩ := st; wpAny_pyIter_enum he h
def iEnumT (K : PySem.W.Frag) (ta : TA) : TI := fun σ H R => ta σ H fun vs H1 => ∃ a xs, vs = [.ref a] ∧ SqT K H1 a xs ∧ R (IteT K a) H1
theorem pi_enumT {X : Cx} {e : Expr} {ta : TA} {p pos tpos : Pos} {elts : List Expr} {kk : Nat} (hg : Gl X "enumerate") (hm : X.mg "enumerate" = none) (ha : PA X [e] ta) (hs : starEach [e] X.env = [(false, eval e X.env)] := by rfl) :
    PI X (.Tuple elts kk tpos) (.Call (.Name "enumerate" p) [e] [] pos) (iEnumT X.K ta) := by
  refine ⟨fun pins s σ H R I h => ?_⟩
  refine Call_ (ld_blt I hg hm boot_enumerate (PyProof.Rows.callWith_type1 (thn (ha.run pos pins s σ H _ I h) fun us s1 ⟨vs, H1, I1, r1, q1⟩ => ?_) hs rfl))
  obtain ⟨a, xs, ex, hq, q⟩ := q1
  subst ex
  cases r1 with
  | cons r rr =>
    cases rr
    cases r
    obtain ⟨its, rv, p', hz⟩ := I1.tuple hq
    obtain ⟨oa, hoa, _⟩ := id p'
    have hal : a < s1.heap.objs.size := Heap.lt_size hoa
    refine call_enumT (show s1.heap.IsTuple a its.toArray from p') fun h' he hit hsz hk => wpAny_pyIter_enum he ?_
    have I2 : Inv X pins σ H1 { s1 with heap := h' } := I1.kept (t' := s1.toks) hk
    refine ⟨s1.heap.objs.size + 1, [s1.heap.objs.size + 1, s1.heap.objs.size], _, _, H1, rfl, I2, turn_enumT a (s1.heap.objs.size + 1) s1.heap.objs.size (Nat.ne_of_lt hal), ⟨⟨.none, he⟩, hit, Nat.succ_ne_self _, Nat.ne_of_lt (Nat.lt_succ_of_lt hal)⟩, fun b hb => ?_, q⟩
    have e' : b = s1.heap.objs.size + 1 ∨ b = s1.heap.objs.size := by simpa using hb
    have hle : s1.heap.objs.size ≤ b := by
      rcases e' with z | z
      · rw [z]; exact Nat.le_add_right _ _
      · rw [z]; exact Nat.le_refl _
    exact I1.fpOk hle (I1.hok.fresh hle)
theorem walk_enumT {K : PySem.W.Frag} {a : Addr} {xs : List V} : Walk (IteT K a) xs.length (fun H => SqT K H a xs) (YPair (fun i => some (.int (i : Nat))) (fun i => xs[i]?)) := by
  refine ⟨fun i _ hi q => ⟨xs, xs[i], q, by simp [hi]⟩, fun _ q => ⟨xs, q, Nat.le_refl _⟩, fun i H v H' _ q y => ?_⟩
  obtain ⟨T, x, h1, h2, h3, h4⟩ := y
  exact ⟨T, .int (i : Nat), x, h1, h2, h3, rfl, h4 xs q⟩
end B
end
section
set_option linter.all false
set_option maxRecDepth 100000
namespace B
open PySem PySem.Spec PyProof.Rows L2
/-! ### zip of a list and a tuple -/
abbrev zlH1 (h : Heap) (l1 : Addr) : Heap := h.push { cls := .type "list_iterator", data := .fields #[.ref l1, .int 0 0] }
abbrev zlH2 (h : Heap) (l1 l2 : Addr) : Heap := (zlH1 h l1).push { cls := .type "tuple_iterator", data := .fields #[.ref l2, .int 0 0] }
abbrev zlH3 (h : Heap) (l1 l2 : Addr) : Heap := (zlH2 h l1 l2).push { cls := .type "tuple", data := .seq #[.ref h.objs.size, .ref (zlH1 h l1).objs.size] }
abbrev zlH4 (h : Heap) (l1 l2 : Addr) : Heap := (zlH3 h l1 l2).push { cls := .type "tuple", data := .seq #[.none, .none] }
abbrev zlH5 (h : Heap) (l1 l2 : Addr) : Heap := (zlH4 h l1 l2).push { cls := .type "zip", data := .fields #[.none, .bool false, .bool false, .ref (zlH2 h l1 l2).objs.size, .ref (zlH3 h l1 l2).objs.size] }
theorem meets_zl (l1 l2 : Addr) (xs ys : Array Value) :
    Meets (Builtin.«zip.__new__» ⟨[.type "zip", .ref l1, .ref l2], []⟩) (fun _ R s => s.heap.IsList l1 xs ∧ s.heap.IsTuple l2 ys ∧
      R (.ok (.ret (.ref (zlH4 s.heap l1 l2).objs.size))) { s with heap := zlH5 s.heap l1 l2 }) :=
  .of_wp fun prog w A R s h => by
    obtain ⟨hp, g, d, tk, os⟩ := s; obtain ⟨hl1, hl2, h⟩ := h
    have hsub := sub_zip
    have hL1 : Heap.IsList (Shared.heap ⟨hp, g, d, tk, os⟩) l1 xs := hl1
    have hL2 : Heap.IsTuple (Shared.heap ⟨hp.push { cls := .type "list_iterator", data := .fields #[.ref l1, .int 0 0] }, g, d, tk, os⟩) l2 ys := Heap.IsTuple.push hl2 _
    wp_walk using wpAny_pyIter_list hL1, wpAny_pyIter_tuple hL2
    exact ⟨_, rfl, h⟩
section
variable {prog : Program} {w : World} {A : Around} {E : Value → Shared → Prop} {s : Shared}
theorem call_zl {l1 l2 : Addr} {xs ys : Array Value} {Q : Value → Shared → Prop} (hl1 : s.heap.IsList l1 xs) (hl2 : s.heap.IsTuple l2 ys)
    (h : ∀ h', IsZip h' (s.heap.objs.size + 4) (s.heap.objs.size + 2) (s.heap.objs.size + 3) .none → IsPair h' (s.heap.objs.size + 2) (.ref s.heap.objs.size) (.ref (s.heap.objs.size + 1)) →
      IsPair h' (s.heap.objs.size + 3) .none .none → h'.IsListIter s.heap.objs.size l1 0 → h'.IsTupleIter (s.heap.objs.size + 1) l2 0 → h'.objs.size = s.heap.objs.size + 5 →
      (∀ c o, s.heap.get? c = some o → h'.get? c = some o) → Q (.ref (s.heap.objs.size + 4)) { s with heap := h' }) :
    wpAny (model prog w) A (call (.type "zip") [.ref l1, .ref l2]) Q E s := by
  refine callType_new F.called_zip (by decide) (F.typeCall_zip_2 _ _) (F.newCall_zip_2 _ _) (fun obj => F.args_object_init_3 obj _ _) F.entry_zip_new
    (meets_zl l1 l2 xs ys) ⟨hl1, hl2, ?_⟩
  have z1 : (zlH1 s.heap l1).objs.size = s.heap.objs.size + 1 := Heap.size_push ..
  have z2 : (zlH2 s.heap l1 l2).objs.size = s.heap.objs.size + 2 := by rw [Heap.size_push, z1]
  have z3 : (zlH3 s.heap l1 l2).objs.size = s.heap.objs.size + 3 := by rw [Heap.size_push, z2]
  have z4 : (zlH4 s.heap l1 l2).objs.size = s.heap.objs.size + 4 := by rw [Heap.size_push, z3]
  have z5 : (zlH5 s.heap l1 l2).objs.size = s.heap.objs.size + 5 := by rw [Heap.size_push, z4]
  have g5 : (zlH5 s.heap l1 l2).get? (zlH4 s.heap l1 l2).objs.size = some _ := Heap.get?_push_size _ rfl
  have g4 : (zlH5 s.heap l1 l2).get? (zlH3 s.heap l1 l2).objs.size = some _ := Heap.get?_push_of_some _ (Heap.get?_push_size _ rfl)
  have g3 : (zlH5 s.heap l1 l2).get? (zlH2 s.heap l1 l2).objs.size = some _ := Heap.get?_push_of_some _ (Heap.get?_push_of_some _ (Heap.get?_push_size _ rfl))
  have g2 : (zlH5 s.heap l1 l2).get? (zlH1 s.heap l1).objs.size = some _ := Heap.get?_push_of_some _ (Heap.get?_push_of_some _ (Heap.get?_push_of_some _ (Heap.get?_push_size _ rfl)))
  have g1 : (zlH5 s.heap l1 l2).get? s.heap.objs.size = some _ := Heap.get?_push_of_some _ (Heap.get?_push_of_some _ (Heap.get?_push_of_some _ (Heap.get?_push_of_some _ (Heap.get?_push_size _ rfl))))
  show _ ∧ _
  rw [z2, z3, z4] at g5
  rw [z1, z2] at g3
  rw [z3] at g4
  rw [z1] at g2
  rw [z4]
  exact ⟨⟨_, g5, rfl⟩, h _ g5 g3 g4 ⟨_, g1, rfl, rfl⟩ ⟨_, g2, rfl, rfl⟩ z5 fun c o x =>
    Heap.get?_push_of_some _ (Heap.get?_push_of_some _ (Heap.get?_push_of_some _ (Heap.get?_push_of_some _ (Heap.get?_push_of_some _ x))))⟩
end
def ItzM (K : PySem.W.Frag) (a b : Addr) : It :=
  ⟨fun i H => ∃ (xs ys : List V) (x y : V), SqL K H a xs ∧ SqT K H b ys ∧ xs[i]? = some x ∧ ys[i]? = some y,
    fun i H v H' => ∃ T x y, v = .ref T ∧ H T = none ∧ H' = upd H T (.tup [x, y]) ∧ (∀ xs, SqL K H a xs → xs[i]? = some x) ∧ ∀ ys, SqT K H b ys → ys[i]? = some y,
    fun i H => ∃ xs ys : List V, SqL K H a xs ∧ SqT K H b ys ∧ i ≤ xs.length ∧ i ≤ ys.length ∧ (i = xs.length ∨ i = ys.length)⟩
theorem turn_zipM {P : Program} {w : World} {K : PySem.W.Frag} {elts : List Expr} {kk : Nat} {tpos : Pos} {a b z TI TO i1 i2 : Addr} (D : ZipApart z TI TO i1 i2 a b) :
    Turn P w K (.Tuple elts kk tpos) (ItzM K a b) [z, TI, TO, i1, i2] z (fun i h => IsZip h z TI TO .none ∧ IsPair h TI (.ref i1) (.ref i2) ∧ (∃ x y, IsPair h TO x y) ∧ h.IsListIter i1 a i ∧ h.IsTupleIter i2 b i) where
  mem := by simp
  obj := fun i h st c hc => by
    obtain ⟨hz, hTI, ⟨x, y, hTO⟩, ⟨o1, e1, _, d1⟩, ⟨o2, e2, _, d2⟩⟩ := st
    have e' : c = z ∨ c = TI ∨ c = TO ∨ c = i1 ∨ c = i2 := by simpa using hc
    rcases e' with q | q | q | q | q
    · rw [q]; exact ⟨_, hz, fun v q => nomatch q⟩
    · rw [q]; exact ⟨_, hTI, fun v q => nomatch q⟩
    · rw [q]; exact ⟨_, hTO, fun v q => nomatch q⟩
    · rw [q]; exact ⟨o1, e1, fun v q => by rw [d1] at q; cases q⟩
    · rw [q]; exact ⟨o2, e2, fun v q => by rw [d2] at q; cases q⟩
  keep := fun i h h' st k => by
    obtain ⟨hz, hTI, ⟨x, y, hTO⟩, h1, h2⟩ := st
    exact ⟨k z (by simp) _ hz, k TI (by simp) _ hTI, ⟨x, y, k TO (by simp) _ hTO⟩, h1.at fun o q => k i1 (by simp) o q, h2.at fun o q => k i2 (by simp) o q⟩
  item := by
    intro X hP hw hK hc i pins s σ H E I hf st hg
    subst hP hw hK
    obtain ⟨hz, hTI, ⟨x0, y0, hTO⟩, h1, h2⟩ := st
    obtain ⟨xs, ys, x, y, hqx, hqy, hx, hy⟩ := hg
    obtain ⟨its, rv, p, _⟩ := I.list hqx
    obtain ⟨its2, rv2, p2, _⟩ := I.tuple hqy
    obtain ⟨u, hu, ru⟩ := rv.get hx
    obtain ⟨u2, hu2, ru2⟩ := rv2.get hy
    have hzl : z < s.heap.objs.size := Heap.lt_size hz
    have hd1 : X.A.in1.handled = none := I.ok.hd hc
    have l1 : i < its.toArray.size := by rw [List.size_toArray]; exact (List.getElem?_eq_some_iff.mp hu).1
    have l2 : i < its2.toArray.size := by rw [List.size_toArray]; exact (List.getElem?_eq_some_iff.mp hu2).1
    have S : PySem.ZipSep2 z TI TO i1 i2 [i1, a] [i2, b] := ⟨D.TIz, D.TOz, D.TITO, D.TIi1, by simp, by simp; exact ⟨D.i1z.symm, D.l1z.symm⟩, by simp; exact ⟨D.TOi1, D.l1TO.symm⟩, D.TIi2, by simp, by simp; exact ⟨D.i2z.symm, D.l2z.symm⟩, by simp; exact ⟨D.TOi2, D.l2TO.symm⟩, by simp; exact ⟨D.i12, D.l2i1.symm⟩, by simp; exact ⟨D.i12.symm, D.l1i2.symm⟩⟩
    refine PySem.wpAny_pyNext_zipD2_item S (PySem.Draws.list (prog := X.prog) (w := X.w) hd1 i1 a D.l1i1 its.toArray) (PySem.Draws.tuple (prog := X.prog) (w := X.w) hd1 i2 b D.l2i2 its2.toArray) hz hTI hTO ⟨h1, p.isList⟩ ⟨h2, show s.heap.IsTuple b its2.toArray from p2⟩ l1 l2 fun x1 x2 h' tk hx1 hx2 z' TO' st1 st2 hT hsz hk => ?_
    have ex : x1 = u := by
      have q1 : its.toArray[i]? = some u := by simpa using hu
      rw [q1] at hx1
      exact (Option.some.inj hx1).symm
    have ex2 : x2 = u2 := by
      have q1 : its2.toArray[i]? = some u2 := by simpa using hu2
      rw [q1] at hx2
      exact (Option.some.inj hx2).symm
    subst ex ex2
    obtain ⟨h1', _⟩ := st1
    obtain ⟨h2', _⟩ := st2
    refine ⟨_, rfl, wpAny_letOwnedTupleGo_zip (s := { s with heap := h', toks := tk }) z' fun h'' z'' sb => ?_⟩
    have hT2 : h''.get? s.heap.objs.size = some { cls := .type "tuple", data := .seq #[x1, x2] } := (sb.2 _ (Nat.ne_of_gt hzl)).trans hT
    have new : ObjOk X.prog X.w (upd H s.heap.objs.size (.tup [x, y])) h'' s.heap.objs.size (.tup [x, y]) :=
      ⟨by show 2 ≤ sizeLine; decide, [x1, x2], .cons ru (.cons ru2 .nil), ⟨_, hT2, rfl, _, rfl⟩⟩
    have I1 : Inv X pins σ (upd H s.heap.objs.size (.tup [x, y])) { s with heap := h'', toks := tk } :=
      I.turnedNew (t' := tk) (ch := [z, TI, TO, i1, i2]) (fun c o hb q => (sb.2 c (fun q' => hb (by simp [q']))).trans (hk c o (fun q' => hb (by simp [q'])) (fun q' => hb (by simp [q'])) (fun q' => hb (by simp [q'])) (fun q' => hb (by simp [q'])) q)) hf (Nat.le_refl _) new
    refine ⟨.ref s.heap.objs.size, _, I1, rfl, ⟨_, x, y, rfl, I.hok.fresh (Nat.le_refl _), rfl, fun l hl => by rw [I.list_inj hl hqx]; exact hx, fun l hl => by rw [I.tuple_inj hl hqy]; exact hy⟩, ⟨z'', ?_, ⟨x1, x2, ?_⟩, ?_, ?_⟩, fun c hcm => ?_⟩
    · exact (sb.2 _ D.TIz).trans (hk _ _ D.TIz D.TITO D.TIi1 D.TIi2 hTI)
    · exact (sb.2 _ D.TOz).trans TO'
    · exact h1'.at fun o q => (sb.2 _ D.i1z).trans q
    · exact h2'.at fun o q => (sb.2 _ D.i2z).trans q
    · have hlt : c < s.heap.objs.size := by
        have e' : c = z ∨ c = TI ∨ c = TO ∨ c = i1 ∨ c = i2 := by simpa using hcm
        rcases e' with q | q | q | q | q
        · rw [q]; exact hzl
        · rw [q]; exact Heap.lt_size hTI
        · rw [q]; exact Heap.lt_size hTO
        · rw [q]; obtain ⟨_, e1, _⟩ := h1; exact Heap.lt_size e1
        · rw [q]; obtain ⟨_, e2, _⟩ := h2; exact Heap.lt_size e2
      rw [upd_ne (Nat.ne_of_lt hlt)]
      exact (hf c hcm).1
  done := by
    intro X hP hw hK hc i pins s σ H E I hf st hg
    subst hP hw hK
    obtain ⟨hz, hTI, ⟨x0, y0, hTO⟩, h1, h2⟩ := st
    obtain ⟨xs, ys, hqx, hqy, g1, g2, hend⟩ := hg
    obtain ⟨its, rv, p, _⟩ := I.list hqx
    obtain ⟨its2, rv2, p2, _⟩ := I.tuple hqy
    have l1 := rv.length
    have l2 := rv2.length
    have hd1 : X.A.in1.handled = none := I.ok.hd hc
    have S : PySem.ZipSep2 z TI TO i1 i2 [i1, a] [i2, b] := ⟨D.TIz, D.TOz, D.TITO, D.TIi1, by simp, by simp; exact ⟨D.i1z.symm, D.l1z.symm⟩, by simp; exact ⟨D.TOi1, D.l1TO.symm⟩, D.TIi2, by simp, by simp; exact ⟨D.i2z.symm, D.l2z.symm⟩, by simp; exact ⟨D.TOi2, D.l2TO.symm⟩, by simp; exact ⟨D.i12, D.l2i1.symm⟩, by simp; exact ⟨D.i12.symm, D.l1i2.symm⟩⟩
    refine PySem.wpAny_pyNext_zipD2_end S (PySem.Draws.list (prog := X.prog) (w := X.w) hd1 i1 a D.l1i1 its.toArray) (PySem.Draws.tuple (prog := X.prog) (w := X.w) hd1 i2 b D.l2i2 its2.toArray) hz hTI hTO ⟨h1, p.isList⟩ ⟨h2, show s.heap.IsTuple b its2.toArray from p2⟩ (by rw [List.size_toArray]; omega) (by rw [List.size_toArray]; omega) ?_ fun h' tk hk => ⟨rfl, ?_⟩
    · rw [List.size_toArray, List.size_toArray]
      rcases hend with q | q
      · exact .inl (by omega)
      · exact .inr (by omega)
    · exact I.turnedL (t' := tk) (ch := [z, TI, TO, i1, i2]) (fun c o hb q =>
        hk c o (fun q' => hb (by simp [q'])) (fun q' => hb (by simp [q'])) (fun q' => hb (by simp [q'])) (fun q' => hb (by simp [q'])) q) hf
  self := fun A i s Q E st h => wpAny_pyIter_zip st.1 h
def iZipM (K : PySem.W.Frag) (ta : TA) : TI := fun σ H R => ta σ H fun vs H1 => ∃ a b xs ys, vs = [.ref a, .ref b] ∧ SqL K H1 a xs ∧ SqT K H1 b ys ∧ R (ItzM K a b) H1
theorem pi_zipM {X : Cx} {e e2 : Expr} {ta : TA} {p pos tpos : Pos} {elts : List Expr} {kk : Nat} (hg : Gl X "zip") (hm : X.mg "zip" = none) (ha : PA X [e, e2] ta)
    (hs : starEach [e, e2] X.env = (false, eval e X.env) :: starEach [e2] X.env := by rfl) (hpl : (backTo pos (starEach [e2] X.env)).any (·.1) = false := by rfl) :
    PI X (.Tuple elts kk tpos) (.Call (.Name "zip" p) [e, e2] [] pos) (iZipM X.K ta) := by
  refine ⟨fun pins s σ H R I h => ?_⟩
  refine Call_ (ld_blt I hg hm PyProof.Rows.boot_zip (PyProof.Rows.callWith_type1 (thn (ha.run pos pins s σ H _ I h) fun us s1 ⟨vs, H1, I1, r1, q1⟩ => ?_) hs hpl))
  obtain ⟨a, b, xs, ys, ex, hqx, hqy, q⟩ := q1
  subst ex
  cases r1 with
  | cons r rr =>
    cases rr with
    | cons r' rr =>
      cases rr
      cases r
      cases r'
      have fresh5 : ∀ c, c ∈ [s1.heap.objs.size + 4, s1.heap.objs.size + 2, s1.heap.objs.size + 3, s1.heap.objs.size, s1.heap.objs.size + 1] → FpOk X pins H1 c := fun c hcm => by
        have e' : c = s1.heap.objs.size + 4 ∨ c = s1.heap.objs.size + 2 ∨ c = s1.heap.objs.size + 3 ∨ c = s1.heap.objs.size ∨ c = s1.heap.objs.size + 1 := by simpa using hcm
        have hle : s1.heap.objs.size ≤ c := by
          rcases e' with z | z | z | z | z
          · rw [z]; exact Nat.le_add_right _ _
          · rw [z]; exact Nat.le_add_right _ _
          · rw [z]; exact Nat.le_add_right _ _
          · rw [z]; exact Nat.le_refl _
          · rw [z]; exact Nat.le_add_right _ _
        exact I1.fpOk hle (I1.hok.fresh hle)
      obtain ⟨its, rv, p1, _⟩ := I1.list hqx
      obtain ⟨its2, rv2, p2, _⟩ := I1.tuple hqy
      obtain ⟨o2, ho2, _⟩ := id p2
      refine call_zl p1.isList (show s1.heap.IsTuple b its2.toArray from p2) fun h' hz hTI hTO h1 h2 hsz hk => wpAny_pyIter_zip hz ?_
      have I2 : Inv X pins σ H1 { s1 with heap := h' } := I1.kept (t' := s1.toks) hk
      exact ⟨s1.heap.objs.size + 4, [s1.heap.objs.size + 4, s1.heap.objs.size + 2, s1.heap.objs.size + 3, s1.heap.objs.size, s1.heap.objs.size + 1], _, _, H1, rfl, I2, turn_zipM (PySem.W.ktu_apart s1.heap.objs.size a b p1.lt (Heap.lt_size ho2)), ⟨hz, hTI, ⟨_, _, hTO⟩, h1, h2⟩, fresh5, q⟩
theorem walk_zipM {K : PySem.W.Frag} {a b : Addr} {xs ys : List V} (hl : xs.length = ys.length) : Walk (ItzM K a b) xs.length (fun H => SqL K H a xs ∧ SqT K H b ys) (YPair (fun i => xs[i]?) (fun i => ys[i]?)) := by
  refine ⟨fun i H hi q => ?_, fun H q => ⟨xs, ys, q.1, q.2, Nat.le_refl _, by omega, .inl rfl⟩, fun i H v H' hi q y => ?_⟩
  · have h2 : i < ys.length := by omega
    exact ⟨xs, ys, xs[i], ys[i], q.1, q.2, by simp [hi], by simp [h2]⟩
  · obtain ⟨T, x, z, h1, h2, h3, h4, h5⟩ := y
    exact ⟨T, x, z, h1, h2, h3, h4 xs q.1, h5 ys q.2⟩
theorem walk_zipT {K : PySem.W.Frag} {a b : Addr} {xs ys : List V} (hl : xs.length = ys.length) : Walk (RZ.ItzT K a b) xs.length (fun H => SqT K H a xs ∧ SqT K H b ys) (YPair (fun i => xs[i]?) (fun i => ys[i]?)) := by
  refine ⟨fun i H hi q => ?_, fun H q => ⟨xs, ys, q.1, q.2, .inl (Nat.le_refl _)⟩, fun i H v H' hi q y => ?_⟩
  · have h2 : i < ys.length := by omega
    exact ⟨xs, ys, xs[i], ys[i], q.1, q.2, by simp [hi], by simp [h2]⟩
  · obtain ⟨T, x, z, h1, h2, h3, h4, h5⟩ := y
    exact ⟨T, x, z, h1, h2, h3, h4 xs q.1, h5 ys q.2⟩
end B
end
section
set_option linter.all false
set_option maxRecDepth 100000
namespace B
open PySem PySem.Spec PyProof.Rows L2
section
variable {X : Cx}
/-! ### in a tuple of data -/
def rInDT (K : PySem.W.Frag) : R2 := fun x y H Q => ∃ d ds, Dp K H x d ∧ Dp K H y (.tuple ds) ∧ SeqAt.shaped d = true ∧ SeqAt.shaped (.tuple ds) = true ∧ Q (.bl (ds.any fun y => PyData.eqv y d)) H
theorem op_inDT (hu : X.A.units + 65 < cLine) : OpR X (compareOp .In) (rInDT X.K) := by
  intro pins s σ H x y v u Q I rx ry h
  obtain ⟨d, ds, hd, he, sd, se, q⟩ := h
  obtain ⟨as, r1⟩ := Dp.reads I d x v hd rx
  obtain ⟨bs, r2⟩ := Dp.reads I (.tuple ds) y u he ry
  exact SeqAt.in_tuple_reads r2 r1 (SeqAt.canLay_of_shaped se) (SeqAt.canLay_of_shaped sd) (room_in_shaped sd hu) ⟨.bl _, H, I, rfl, q⟩
/-! ### v in o, o an instance with a __contains__ of its own that gives a bool -/
/-- .. what the class has -/
def InF (P : Program) (w : World) (K : PySem.W.Frag) (mg : Str → Option Value) (base : Heap) (k : Nat) (C : Addr) (sp : Sp) : Prop :=
  ∃ f, PySem.W.findIn K (.ref C) "__contains__" = some (some (.ref f)) ∧ PySem.W.isFn K (.ref f) = true ∧ FnR P w K mg base CX0 k f sp
def rInO (C : Addr) (sp : Sp) : R2 := fun x y H Q => ∃ a dx fs, y = .ref a ∧ H a = some (.ins C dx fs) ∧ sp [y, x] H (fun z H2 => ∃ b, z = .bl b ∧ Q (.bl b) H2) E0
theorem op_inO {k j : Nat} {C : Addr} {sp : Sp} (c : InF X.prog X.w X.K X.mg X.base k C sp) (hr : Room j X.A) (hk : k ≤ j) : OpR X (compareOp .In) (rInO C sp) := by
  obtain ⟨f, hs, hf, F⟩ := c
  intro pins s σ H x y v u Q I rx ry h
  obtain ⟨a, dx, fs, rfl, ha, q⟩ := h
  obtain rfl : u = Value.ref a := ry
  obtain ⟨mA, J, _⟩ := ins_get I.hok ha
  obtain ⟨od, J, _⟩ := J.look
  obtain ⟨m, hF⟩ := I.fr
  refine PySem.W.in_K hF I.ok.mod.kin J hs hf (wpAny_mono (wpAny_call (run_fnR (us := [.ref a, v]) (vs := [.ref a, x]) F (hr.mono hk) pass0 I (.cons rfl (.cons rx .nil)) q)) (fun w s' z => ?_) fun _ _ x => x)
  obtain ⟨z', H', I', rz, b, ez, qz⟩ := z
  subst ez
  obtain rfl : w = Value.bool b := rz
  exact wpAny_truthy_bool ⟨.bl b, H', I', rfl, qz⟩
/-! ### a == b, instances of one class with an __eq__ of its own that gives a bool -/
def EqF (P : Program) (w : World) (K : PySem.W.Frag) (mg : Str → Option Value) (base : Heap) (k : Nat) (C : Addr) (sp : Sp) : Prop :=
  ∃ f, PySem.W.findIn K (.ref C) "__eq__" = some (some (.ref f)) ∧ PySem.W.isFn K (.ref f) = true ∧ FnR P w K mg base CX0 k f sp
def rEqO (C : Addr) (sp : Sp) : R2 := fun x y H Q => ∃ a dx fs b dy gs, x = .ref a ∧ y = .ref b ∧ H a = some (.ins C dx fs) ∧ H b = some (.ins C dy gs) ∧ sp [x, y] H (fun z H2 => ∃ b, z = .bl b ∧ Q (.bl b) H2) E0
theorem op_eqO {k j : Nat} {C : Addr} {sp : Sp} (c : EqF X.prog X.w X.K X.mg X.base k C sp) (hr : Room j X.A) (hk : k ≤ j) : OpR X (compareOp .Eq) (rEqO C sp) := by
  obtain ⟨f, hs, hf, F⟩ := c
  intro pins s σ H x y v u Q I rx ry h
  obtain ⟨a, dx, fs, b, dy, gs, rfl, rfl, ha, hb, q⟩ := h
  obtain rfl : v = Value.ref a := rx
  obtain rfl : u = Value.ref b := ry
  obtain ⟨mA, J, _⟩ := ins_get I.hok ha
  obtain ⟨mB, J', _⟩ := ins_get I.hok hb
  obtain ⟨od, J, _⟩ := J.look
  obtain ⟨od', J', _⟩ := J'.look
  obtain ⟨m, hF⟩ := I.fr
  show wpAny _ _ (richCompare .Eq (.ref a) (.ref b)) _ _ _
  refine PySem.W.cmp_K (op := .Eq) (tb := .ref C) hr.units0 hF I.ok.mod.kin J J'.type (by simp [PySem.W.notFirst]) hs hf ?_
  refine wpAny_mono (wpAny_call (run_fnR (us := [.ref a, .ref b]) (vs := [.ref a, .ref b]) F (hr.mono hk) pass0 I (.cons rfl (.cons rfl .nil)) q)) (fun w s' z => ?_) fun _ _ x => x
  obtain ⟨z', H', I', rz, k, ez, qz⟩ := z
  subst ez
  obtain rfl : w = Value.bool k := rz
  exact ⟨.bl k, H', I', rfl, qz⟩
end
section
variable {X : Cx} {k j : Nat} {C : Addr} {x m : Str} {sp : Sp} {p pos apos kp sp_ : Pos} {e o : Expr} {es : List Expr} {te ta : TE} {t : TA} {nm : Str}
/-! ### o.m(k = e): the one parameter by its name -/
/-- a method of one parameter n, by the name -/
def KwF (P : Program) (w : World) (K : PySem.W.Frag) (mg : Str → Option Value) (base : Heap) (k : Nat) (C : Addr) (m n : Str) (sp : Sp) : Prop :=
  ∃ f fd ps, Cls K C ∧ Meth K C m f ∧ FnOk P w K mg base CX0 k f fd ps sp ∧ ∀ (s : Shared) (u v : Value), K.In s.heap → BindsTo s fd ⟨[u], [(n, v)]⟩ (ps.zip [u, v])
theorem pe_mK {pl : Sem Bool} (c : KwF X.prog X.w X.K X.mg X.base k C m nm sp) (hr : Room j X.A) (hk : k ≤ j) (ho : PE X o ta) (he : PE X e te)
    (ht : eval (.Call (.Attribute o m apos) [] [⟨some nm, e, kp⟩] pos) X.env = (do
      let ov ← eval o X.env
      standAt apos.atName
      let (f, first) ← holding [ov] (getMethod ov m pl)
      callWith pos f first (backTo pos (starEach [] X.env)) (backToKw pos (keywordEach [⟨some nm, e, kp⟩] X.env))) := by rfl) :
    PE X (.Call (.Attribute o m apos) [] [⟨some nm, e, kp⟩] pos) (fun σ H Q => ta σ H fun x H1 => ∃ a dx fs, x = .ref a ∧ H1 a = some (.ins C dx fs) ∧ fs.lookup m = none ∧ te σ H1 fun y H2 => sp [x, y] H2 Q E0) := by
  obtain ⟨f, fd, ps, hc, hm, F, hb⟩ := c
  refine ⟨fun pins s σ H Q I h => ?_⟩
  refine PySem.W.methodCall_KW (pl := pl) (thn (ho.run pins s σ H _ I h) fun u s1 ⟨x, H1, I1, rx, a, dx, fs, ex, ea, l, q⟩ => ?_) ht
  subst ex
  obtain rfl : u = Value.ref a := rx
  refine getmeth_ok I1 ea hc hm l ?_
  refine PySem.W.callWith_KW0 (h₀ := X.base) (first := [.ref a]) I1.ok.mod.kin hm.kp rfl ?_ rfl
  show wpAny _ _ (evalAll [(do let v ← eval e X.env; standAt pos; pure v)]) _ _ s1
  refine wpAny_evalAll_cons (wpAny_bind (thn (he.run pins s1 σ H1 _ I1 q) fun v s2 ⟨y, H2, I2, ry, q2⟩ => wpAny_bind (wpAny_standAt (wpAny_pure (wpAny_evalAll_nil ⟨I2.kIn, ?_⟩)))))
  show wpAny _ _ (call (.ref f) [.ref a] [(nm, v)]) _ _ s2
  have r2 : Vals [V.ref a, y] [Value.ref a, v] := .cons rfl (.cons ry .nil)
  refine wpAny_call (codeAny_mono (F.run X.A X.stack s2 H2 ⟨[.ref a], [(nm, v)]⟩ [.ref a, v] [.ref a, y] Q E0 (hr.mono hk) I2.env0 (hb s2 _ _ I2.kIn) r2 q2) fun r s' hq => ?_)
  cases r with
  | error e => exact False.elim hq
  | ok fl =>
    cases fl with
    | ret u => exact I2.after hq
    | next => exact False.elim hq
    | brk => exact False.elim hq
    | cont => exact False.elim hq
/-! ### *e.items() in a display -/
theorem its_laid {pins : List (Addr × Obj)} {σ : L2.St} {H : Hp} {s0 : Shared} {h2 : Heap} {tk : Nat} {ps : List (Key × V)} {vs : List (Key × Value)} {as : List Addr} (I : Inv X pins σ H s0) (kv : KV ps vs)
    (keep : ∀ b o, s0.heap.get? b = some o → h2.get? b = some o) (len : as.length = vs.length) (G : PySem.W.KdxG (mixKind X.prog X.w) vs s0.heap.objs.size h2 as) :
    ∃ H2 : Hp, (∀ b o, H b = some o → H2 b = some o) ∧ Paired (fun (t : Addr) (q : Key × V) => H2 t = some (.tup [kV q.1, q.2])) as ps ∧ Inv X pins σ H2 { s0 with heap := h2, toks := tk } := by
  have lp : ps.length = vs.length := Paired.length kv
  have free : ∀ t, t ∈ as → H t = none := fun t m => I.hok.fresh (Nat.le_of_lt (G.above t m))
  have hn : as.Nodup := G.rise.imp fun {_ _} lt => Nat.ne_of_lt lt
  have at2 := LiI.putT_at as ps H (len.trans lp.symm) hn
  have out : ∀ b, b ∉ as → LiI.putT H as ps b = H b := fun b m => LiI.putT_off as ps H m
  have old : ∀ b o, s0.heap.get? b = some o → b ∉ as := fun b o e m => absurd (Heap.lt_size e) (Nat.not_lt.mpr (Nat.le_of_lt (G.above b m)))
  have ext : ∀ b u, H b = some u → LiI.putT H as ps b = some u := fun b u e => by
    rw [out b fun m => ?_]
    · exact e
    · rw [free b m] at e
      cases e
  refine ⟨LiI.putT H as ps, ext, at2, ?_⟩
  refine I.call' (ch := []) rfl ⟨fun b o e _ _ _ => keep b o e, fun b o e _ _ _ => ⟨o.slots, keep b o e⟩, fun b o e none_ _ => ?_, fun b o e _ => ⟨o, keep b o e⟩, fun b xs e => ext b _ e, fun b o u e => ext b _ e, fun b qs e => ⟨#[], by rw [ext b _ e]; simp⟩⟩ (fun b u e => ?_) I.bare fun b m => by simp at m
  · rw [out b (old b o e)]
    exact none_
  · by_cases m : b ∈ as
    · obtain ⟨j, pk, e1, e2, e3⟩ := LiI.paired_ix at2 m
      rw [e3] at e
      cases e
      obtain ⟨key, k, x, f1, f2, f3⟩ := G.pairs j b e1
      obtain ⟨qv, g1, g2, g3⟩ := LiI.paired_get kv e2
      rw [f1] at g1
      cases g1
      refine ⟨by show 2 ≤ sizeLine; decide, [key, x], .cons ?_ (.cons g3 .nil), ⟨_, f3, rfl, _, rfl⟩⟩
      rw [g2]
      exact relV_key (show keyIs k key = true from f2)
    · rw [out b m] at e
      exact (I.hok b u e).stay (fun d v _ y => keep d v y) (fun d y => ext d _ y) fun d xs y => ext d _ y
theorem pa_starItems (he : PE X e te) (hr : PA X es t) (hc : X.calm = true) (hbase : attributeBase e "items" X.env (eval e X.env) = eval e X.env := by rfl) (hline : (apos.endLine == pos.line) = true := by rfl)
    (hs : starEach (.Starred (.Call (.Attribute e "items" apos) [] [] pos) sp_ :: es) X.env = (true, eval (.Call (.Attribute e "items" apos) [] [] pos) X.env) :: starEach es X.env := by rfl) :
    PA X (.Starred (.Call (.Attribute e "items" apos) [] [] pos) sp_ :: es) (fun σ H Q => te σ H fun x H1 => ∃ (d : Addr) (kvs : List (Key × V)), x = .ref d ∧ H1 d = some (.dK kvs) ∧
      ∀ (H' : Hp) (ts : List Addr), (∀ b o, H1 b = some o → H' b = some o) → Paired (fun (t : Addr) (q : Key × V) => H' t = some (.tup [kV q.1, q.2])) ts kvs → t σ H' fun ys H2 => Q (ts.map V.ref ++ ys) H2) := by
  refine ⟨fun pos' pins s σ H Q I h => ?_⟩
  refine PySem.W.items_star ?_ hs
  refine wpAny_Call_method (T := "dict") (id := "dict.items") hbase rfl hline F.plainAttrs_dict F.slot_dict_items F.type_dict_items (thn (he.run pins s σ H _ I h) fun u s1 hu => ?_)
  obtain ⟨x, H1, I1, rx, d, kvs, ex, hd, q⟩ := hu
  subst ex
  obtain rfl : u = Value.ref d := rx
  obtain ⟨hz, hs0, vs, kv, hdo⟩ := I1.hok d _ hd
  obtain ⟨ep, hat⟩ := hdo.dictAt
  have lk : kvs.length = vs.length := Paired.length kv
  have I2 : Inv X pins σ H1 { s1 with heap := s1.heap.push { cls := .type "dict_items", data := .fields #[.ref d] } } := I1.kept (t' := s1.toks) fun _ _ z => Heap.get?_push_of_some _ z
  refine ⟨hdo.typeIs, hdo.mapOf.noDict, ?_⟩
  show wpAny _ _ (callWith pos (.builtin "dict.items") [.ref d] [] []) _ X.xe s1
  refine method_meetsIn F.slot_dict_items F.entry_dict_items rfl (PySem.evalArgs_none ⟨rfl, hdo.typeIs, F.args_dict_items_1 _, _, meets_dict_items (mixKind X.prog X.w) d hs0, ⟨vs, hdo⟩, ?_⟩)
  have hview : Heap.get? (s1.heap.push { cls := .type "dict_items", data := .fields #[.ref d] }) s1.heap.objs.size = some { cls := .type "dict_items", data := .fields #[.ref d] } := Heap.get?_push_size _ rfl
  have hT : Shared.TypeIs { s1 with heap := s1.heap.push { cls := .type "dict_items", data := .fields #[.ref d] } } (.ref s1.heap.objs.size) "dict_items" := ⟨_, hview, rfl⟩
  unfold PySem.W.StarOf notIterableAtAll
  refine wpAny_bind (wpAny_specialOf hT PySem.F.slot_dict_items_iter.lookup (wpAny_pure ⟨rfl, ?_⟩))
  refine PySem.W.kdx_collect (knd := mixKind X.prog X.w) (kvs := vs) (ep := ep) (I1.ok.hd hc) ⟨_, hview, rfl, rfl⟩ (hat.push _) (by omega) fun h' tk as hk hl hG => ?_
  obtain ⟨H', k1, k2, J⟩ := its_laid (tk := tk) I2 kv hk hl hG
  exact thn (hr.run pos' pins _ σ H' _ J (q H' as k1 k2)) fun ws s3 ⟨ys, H3, I3, r3, q3⟩ => ⟨as.map V.ref ++ ys, H3, I3, (LiI.vals_refs as).append r3, q3⟩
end
end B
end
section
set_option linter.all false
set_option maxRecDepth 100000
namespace B
open PySem PySem.Spec PyProof.Rows L2
/-! ### == of a list that holds data and dicts of data -/
/-- equal data; two lists, two dicts of such; of nesting below n -/
def EqW (K : PySem.W.Frag) (H : Hp) : Nat → V → V → Prop
  | 0 => fun _ _ => False
  | n + 1 => fun x y => (∃ d e, Dp K H x d ∧ Dp K H y e ∧ SeqAt.shaped d = true ∧ SeqAt.shaped e = true ∧ PyData.eqv d e = true) ∨ EqR K H (EqW K H n) x y
section
variable {X : Cx} {pins : List (Addr × Obj)} {σ : L2.St} {H : Hp} {s : Shared}
theorem eqW_run (I : Inv X pins σ H s) : ∀ (n : Nat) (A : Around), A.units + n + 64 < cLine → ∀ (x y : V) (v u : Value), EqW X.K H n x y → RelV x v → RelV y u → SeqAt.EqP X.prog X.w A s v u true
  | 0, _, _, _, _, _, _, h, _, _ => (show False from h).elim
  | n + 1, A, hu, x, y, v, u, h, rx, ry => by
    rcases h with ⟨d, e, hd, he, sd, se, ee⟩ | h
    · obtain ⟨as, r1⟩ := Dp.reads I d x v hd rx
      obtain ⟨bs, r2⟩ := Dp.reads I e y u he ry
      have z := SeqAt.eqAt_reads d e A s v u as bs r1 r2 (SeqAt.canLay_of_shaped sd) (SeqAt.canLay_of_shaped se) (SeqAt.room_of_shaped sd (by omega))
      rw [ee] at z
      exact z.eqP
    · have step := eqR_run I (A := A) (by omega) (eqW_run I n A.in1 (by show A.units + 1 + n + 64 < cLine; omega)) h rx ry
      obtain ⟨a, b, rfl, rfl⟩ : ∃ a b, x = .ref a ∧ y = .ref b := by
        rcases h with ⟨a, b, _, _, e1, e2, _⟩ | ⟨a, b, _, _, e1, e2, _⟩
        · exact ⟨a, b, e1, e2⟩
        · exact ⟨a, b, e1, e2⟩
      cases (show v = Value.ref a from rx)
      cases (show u = Value.ref b from ry)
      by_cases e : a = b
      · subst e
        exact (SeqAt.EqAt.same _).eqP
      · exact SeqAt.eqP_refs e step
end
section
variable {X : Cx}
def rEqW (K : PySem.W.Frag) : R2 := fun x y H Q => ∃ n, n ≤ 60 ∧ EqR K H (EqW K H n) x y ∧ Q (.bl true) H
theorem op_eqW (hu : X.A.units + 140 < cLine) : OpR X (compareOp .Eq) (rEqW X.K) := by
  intro pins s σ H x y v u Q I rx ry h
  obtain ⟨n, hn, h, q⟩ := h
  exact eqR_run I (A := X.A) (by omega) (eqW_run I n X.A.in1 (by show X.A.units + 1 + n + 64 < cLine; omega)) h rx ry _ _ ⟨.bl true, H, I, rfl, q⟩
theorem hu14 {k : Nat} {A : Around} (r : Room k A) : A.units + 140 < cLine := by have := r.un; omega
end
end B
end
section
/-! Linear algebra over bits, plain Lean. -/
namespace La
theorem xor_zero {a b : Nat} (h : a ^^^ b = 0) : a = b := by
  have e : a ^^^ b ^^^ b = b := by rw [h, Nat.zero_xor]
  rw [Nat.xor_assoc, Nat.xor_self, Nat.xor_zero] at e
  exact e
/-- one sum less the known ones whose greatest bit it has -/
def red : List (Nat × Nat) → Nat → Nat → Nat × Nat
  | [], m, v => (m, v)
  | p :: P, m, v => if m.testBit p.1.log2 then red P (m ^^^ p.1) (v ^^^ p.2) else red P m v

theorem red_nil (m v : Nat) : red [] m v = (m, v) := rfl
theorem red_cons (p : Nat × Nat) (P : List (Nat × Nat)) (m v : Nat) : red (p :: P) m v = if m.testBit p.1.log2 then red P (m ^^^ p.1) (v ^^^ p.2) else red P m v := rfl

/-- the bits alone -/
def rb : List Nat → Nat → Nat
  | [], m => m
  | o :: P, m => rb P (if m.testBit o.log2 then m ^^^ o else m)
theorem rb_nil (m : Nat) : rb [] m = m := rfl
theorem rb_cons (o : Nat) (P : List Nat) (m : Nat) : rb (o :: P) m = rb P (if m.testBit o.log2 then m ^^^ o else m) := rfl

theorem red_fst : ∀ (P : List (Nat × Nat)) (m v : Nat), (red P m v).1 = rb (P.map (·.1)) m
  | [], _, _ => rfl
  | p :: P, m, v => by
    rw [red_cons, List.map_cons, rb_cons]
    by_cases h : m.testBit p.1.log2 = true
    · rw [if_pos h, if_pos h]; exact red_fst P _ _
    · rw [if_neg h, if_neg h]; exact red_fst P _ _

/-- a map that keeps exclusive ors -/
def Lin (f : Nat → Nat) : Prop := ∀ a b, f (a ^^^ b) = f a ^^^ f b
theorem Lin.zero {f : Nat → Nat} (h : Lin f) : f 0 = 0 := by
  have := h 0 0
  simpa using this
theorem red_val {val : Nat → Nat} (hv : Lin val) : ∀ (P : List (Nat × Nat)), (∀ p ∈ P, p.2 = val p.1) → ∀ (m v : Nat), (red P m v).2 ^^^ val (red P m v).1 = v ^^^ val m
  | [], _, m, v => rfl
  | p :: P, hP, m, v => by
    rw [red_cons]
    have h2 : ∀ q ∈ P, q.2 = val q.1 := fun q hq => hP q (List.mem_cons_of_mem _ hq)
    by_cases h : m.testBit p.1.log2 = true
    · rw [if_pos h, red_val hv P h2, hv, hP p (List.mem_cons_self ..)]
      rw [Nat.xor_assoc, ← Nat.xor_assoc (val p.1), Nat.xor_comm (val p.1), Nat.xor_assoc (val m), Nat.xor_self, Nat.xor_zero]
    · rw [if_neg h, red_val hv P h2]
theorem red_val0 {val : Nat → Nat} (hv : Lin val) {P : List (Nat × Nat)} (hP : ∀ p ∈ P, p.2 = val p.1) {m : Nat} (h : (red P m 0).1 = 0) : (red P m 0).2 = val m := by
  have := red_val hv P hP m 0
  rw [h, hv.zero] at this
  simpa using this
theorem red_valv {val : Nat → Nat} (hv : Lin val) {P : List (Nat × Nat)} (hP : ∀ p ∈ P, p.2 = val p.1) {m : Nat} : (red P m (val m)).2 = val (red P m (val m)).1 := by
  have h := red_val hv P hP m (val m)
  rw [Nat.xor_self] at h
  exact xor_zero h

/-! ### reductions by rows none of which has the greatest bit of an earlier one -/
/-- later rows do not have the greatest bits of earlier ones -/
def Ech (P : List Nat) : Prop := P.Pairwise fun a b => b.testBit a.log2 = false
theorem testBit_top {n : Nat} (h : n ≠ 0) : n.testBit n.log2 = true := by
  simpa using Nat.testBit_log2 h
theorem step_lin (o a b : Nat) : (if (a ^^^ b).testBit o.log2 = true then a ^^^ b ^^^ o else a ^^^ b) = (if a.testBit o.log2 = true then a ^^^ o else a) ^^^ (if b.testBit o.log2 = true then b ^^^ o else b) := by
  rw [Nat.testBit_xor]
  cases ha : a.testBit o.log2 <;> cases hb : b.testBit o.log2 <;> simp
  · rw [Nat.xor_assoc]
  · rw [Nat.xor_assoc, Nat.xor_assoc, Nat.xor_comm b o]
  · rw [Nat.xor_assoc a o, ← Nat.xor_assoc o, Nat.xor_comm o b, Nat.xor_assoc b o o, Nat.xor_self, Nat.xor_zero]
theorem rb_lin : ∀ P : List Nat, Lin (rb P)
  | [] => fun _ _ => rfl
  | o :: P => fun a b => by
    rw [rb_cons, rb_cons, rb_cons, step_lin, rb_lin P]
theorem rb_zero (P : List Nat) : rb P 0 = 0 := (rb_lin P).zero
theorem rb_mem : ∀ {P : List Nat}, Ech P → (∀ p ∈ P, p ≠ 0) → ∀ p ∈ P, rb P p = 0
  | [], _, _, _, h => by cases h
  | o :: P, he, h0, p, hp => by
    have h2 := List.pairwise_cons.mp he
    rcases List.mem_cons.mp hp with rfl | hp
    · rw [rb_cons, if_pos (testBit_top (h0 p (List.mem_cons_self ..))), Nat.xor_self, rb_zero]
    · rw [rb_cons, if_neg (by rw [h2.1 p hp]; decide)]
      exact rb_mem h2.2 (fun q hq => h0 q (List.mem_cons_of_mem _ hq)) p hp
/-- what the rows make -/
inductive Span (P : List Nat) : Nat → Prop
  | zero : Span P 0
  | add {p m : Nat} : p ∈ P → Span P m → Span P (p ^^^ m)
theorem Span.xor {P : List Nat} {a b : Nat} (ha : Span P a) (hb : Span P b) : Span P (a ^^^ b) := by
  induction ha with
  | zero => simpa using hb
  | add hp _ ih => rw [Nat.xor_assoc]; exact .add hp ih
theorem Span.one {P : List Nat} {p : Nat} (h : p ∈ P) : Span P p := by
  have := Span.add h (Span.zero)
  simpa using this
theorem Span.mono {P P' : List Nat} (h : ∀ p ∈ P, p ∈ P') {a : Nat} (ha : Span P a) : Span P' a := by
  induction ha with
  | zero => exact .zero
  | add hp _ ih => exact .add (h _ hp) ih
theorem Span.sub {P P' : List Nat} (h : ∀ p ∈ P, Span P' p) {a : Nat} (ha : Span P a) : Span P' a := by
  induction ha with
  | zero => exact .zero
  | add hp _ ih => exact (h _ hp).xor ih
theorem rb_span : ∀ (P : List Nat) (m : Nat), Span P (m ^^^ rb P m)
  | [], m => by rw [rb_nil, Nat.xor_self]; exact .zero
  | o :: P, m => by
    rw [rb_cons]
    have mono : ∀ {x}, Span P x → Span (o :: P) x := fun h => h.mono fun p hp => List.mem_cons_of_mem _ hp
    by_cases h : m.testBit o.log2 = true
    · rw [if_pos h]
      have := mono (rb_span P (m ^^^ o))
      have h3 := Span.add (List.mem_cons_self (a := o) (l := P)) this
      have e : o ^^^ (m ^^^ o ^^^ rb P (m ^^^ o)) = m ^^^ rb P (m ^^^ o) := by
        rw [← Nat.xor_assoc, ← Nat.xor_assoc, Nat.xor_comm o m, Nat.xor_assoc m o o, Nat.xor_self, Nat.xor_zero]
      rw [e] at h3
      exact h3
    · rw [if_neg h]
      exact mono (rb_span P m)
theorem rb_of_span {P : List Nat} (he : Ech P) (h0 : ∀ p ∈ P, p ≠ 0) {m : Nat} (h : Span P m) : rb P m = 0 := by
  induction h with
  | zero => exact rb_zero P
  | add hp _ ih => rw [rb_lin P, rb_mem he h0 _ hp, ih]; rfl
theorem span_of_rb {P : List Nat} {m : Nat} (h : rb P m = 0) : Span P m := by
  have := rb_span P m
  rw [h] at this
  simpa using this
theorem rb_iff {P : List Nat} (he : Ech P) (h0 : ∀ p ∈ P, p ≠ 0) {m : Nat} : rb P m = 0 ↔ Span P m := ⟨span_of_rb, rb_of_span he h0⟩
/-- the rest has no greatest bit of the rows -/
theorem rb_clear : ∀ {P : List Nat}, Ech P → (∀ p ∈ P, p ≠ 0) → ∀ (m : Nat), ∀ p ∈ P, (rb P m).testBit p.log2 = false
  | [], _, _, _, _, h => by cases h
  | o :: P, he, h0, m, p, hp => by
    have h2 := List.pairwise_cons.mp he
    rw [rb_cons]
    rcases List.mem_cons.mp hp with rfl | hp
    · have keep : ∀ (Q : List Nat) (m : Nat), (∀ q ∈ Q, q.testBit p.log2 = false) → m.testBit p.log2 = false → (rb Q m).testBit p.log2 = false := by
        intro Q
        induction Q with
        | nil => intro m _ h; exact h
        | cons q Q ih =>
          intro m hq h
          rw [rb_cons]
          refine ih _ (fun r hr => hq r (List.mem_cons_of_mem _ hr)) ?_
          split
          · rw [Nat.testBit_xor, h, hq q (List.mem_cons_self ..)]; rfl
          · exact h
      refine keep P _ h2.1 ?_
      split
      · rename_i h
        rw [Nat.testBit_xor, h, testBit_top (h0 p (List.mem_cons_self ..))]; rfl
      · rename_i h
        simpa using h
    · exact rb_clear h2.2 (fun q hq => h0 q (List.mem_cons_of_mem _ hq)) _ p hp
theorem rb_lt {k : Nat} : ∀ {P : List Nat}, (∀ p ∈ P, p < 2 ^ k) → ∀ {m : Nat}, m < 2 ^ k → rb P m < 2 ^ k
  | [], _, _, h => h
  | o :: P, hP, m, h => by
    rw [rb_cons]
    refine rb_lt (fun p hp => hP p (List.mem_cons_of_mem _ hp)) ?_
    split
    · exact Nat.xor_lt_two_pow h (hP o (List.mem_cons_self ..))
    · exact h
/-- rows above a bound do not matter for what lies below it -/
theorem testBit_small {m k i : Nat} (h : m < 2 ^ k) (hi : k ≤ i) : m.testBit i = false := Nat.testBit_lt_two_pow (Nat.lt_of_lt_of_le h (Nat.pow_le_pow_right (by decide) hi))
theorem log2_le_of {m k : Nat} (h0 : m ≠ 0) (h : 2 ^ k ≤ m) : k ≤ m.log2 := (Nat.le_log2 h0).mpr h
theorem log2_lt_of {m k : Nat} (h0 : m ≠ 0) (h : m < 2 ^ k) : m.log2 < k := (Nat.log2_lt h0).mpr h
theorem lt_of_log2 {m k : Nat} (h0 : m ≠ 0) (h : m.log2 < k) : m < 2 ^ k := (Nat.log2_lt h0).mp h
theorem rb_filter {k : Nat} : ∀ {P : List Nat}, (∀ p ∈ P, p ≠ 0) → ∀ {m : Nat}, m < 2 ^ k → rb (P.filter fun o => decide (o < 2 ^ k)) m = rb P m
  | [], _, _, _ => rfl
  | o :: P, h0, m, h => by
    have h1 : ∀ p ∈ P, p ≠ 0 := fun p hp => h0 p (List.mem_cons_of_mem _ hp)
    by_cases ho : o < 2 ^ k
    · rw [List.filter_cons_of_pos (by simpa using ho), rb_cons, rb_cons]
      refine rb_filter h1 ?_
      split
      · exact Nat.xor_lt_two_pow h ho
      · exact h
    · rw [List.filter_cons_of_neg (by simpa using ho), rb_cons]
      have ht : m.testBit o.log2 = false := testBit_small h (log2_le_of (h0 o (List.mem_cons_self ..)) (Nat.le_of_not_lt ho))
      rw [if_neg (by rw [ht]; decide)]
      exact rb_filter h1 h

/-! ### descending rows -/
def Desc (P : List Nat) : Prop := P.Pairwise fun a b => b.log2 < a.log2
theorem testBit_above {m i : Nat} (h0 : m ≠ 0) (h : m.log2 < i) : m.testBit i = false := testBit_small (lt_of_log2 h0 h) (Nat.le_refl _)
theorem Desc.ech : ∀ {P : List Nat}, Desc P → (∀ p ∈ P, p ≠ 0) → Ech P
  | [], _, _ => List.Pairwise.nil
  | o :: P, h, h0 => by
    have h2 := List.pairwise_cons.mp h
    refine List.pairwise_cons.mpr ⟨fun p hp => testBit_above (h0 p (List.mem_cons_of_mem _ hp)) (h2.1 p hp), ?_⟩
    exact Desc.ech (P := P) h2.2 fun q hq => h0 q (List.mem_cons_of_mem _ hq)
theorem Desc.len {k : Nat} : ∀ {P : List Nat}, Desc P → (∀ p ∈ P, p.log2 < k) → P.length ≤ k
  | [], _, _ => Nat.zero_le _
  | o :: P, h, hk => by
    have h2 := List.pairwise_cons.mp h
    have := Desc.len (k := o.log2) (P := P) h2.2 h2.1
    have := hk o (List.mem_cons_self ..)
    rw [List.length_cons]; omega
theorem log2_eq {m k : Nat} (h0 : m ≠ 0) (h1 : m.testBit k = true) (h2 : m < 2 ^ (k + 1)) : m.log2 = k := by
  have a : m.log2 < k + 1 := log2_lt_of h0 h2
  have b : k ≤ m.log2 := by
    by_cases hk : m.log2 < k
    · rw [testBit_above h0 hk] at h1; cases h1
    · omega
  omega
theorem log2_xor {a b : Nat} (h0 : a ≠ 0) (h1 : b ≠ 0) (h : b.log2 < a.log2) : (a ^^^ b).log2 = a.log2 ∧ a ^^^ b ≠ 0 := by
  have ht : (a ^^^ b).testBit a.log2 = true := by
    rw [Nat.testBit_xor, testBit_top h0, testBit_above h1 h]; rfl
  have hn : a ^^^ b ≠ 0 := by intro e; rw [e] at ht; simp at ht
  refine ⟨log2_eq hn ht ?_, hn⟩
  exact Nat.xor_lt_two_pow Nat.lt_log2_self (lt_of_log2 h1 (by omega))
/-- a row less a new one, if it has its greatest bit -/
def less (b o : Nat) : Nat := if o.testBit b.log2 = true then o ^^^ b else o
theorem less_log2 {b o : Nat} (h0 : o ≠ 0) (hb : b ≠ 0) (hn : b.testBit o.log2 = false) : (less b o).log2 = o.log2 ∧ less b o ≠ 0 := by
  unfold less
  split
  · rename_i h
    have hne : b.log2 ≠ o.log2 := by
      intro e
      rw [← e, testBit_top hb] at hn
      cases hn
    have hle : b.log2 ≤ o.log2 := by
      by_cases hk : o.log2 < b.log2
      · rw [testBit_above h0 hk] at h; cases h
      · omega
    exact log2_xor h0 hb (by omega)
  · exact ⟨rfl, h0⟩
theorem less_span {b o : Nat} {P : List Nat} (ho : Span P o) (hb : Span P b) : Span P (less b o) := by
  unfold less
  split
  · exact ho.xor hb
  · exact ho
theorem less_lt {b o k : Nat} (ho : o < 2 ^ k) (hb : b < 2 ^ k) : less b o < 2 ^ k := by
  unfold less
  split
  · exact Nat.xor_lt_two_pow ho hb
  · exact ho
theorem less_less (b o : Nat) : less b o = o ∨ less b o ^^^ b = o := by
  unfold less
  split
  · exact .inr (by rw [Nat.xor_assoc, Nat.xor_self, Nat.xor_zero])
  · exact .inl rfl
theorem span_cons {P : List Nat} {b m : Nat} : Span (b :: P) m ↔ Span P m ∨ Span P (m ^^^ b) := by
  constructor
  · intro h
    induction h with
    | zero => exact .inl .zero
    | @add p m hp _ ih =>
      have e1 : ∀ x : Nat, b ^^^ x ^^^ b = x := fun x => by rw [Nat.xor_comm b x, Nat.xor_assoc, Nat.xor_self, Nat.xor_zero]
      rcases List.mem_cons.mp hp with rfl | hp
      · rcases ih with ih | ih
        · exact .inr (by rw [e1]; exact ih)
        · exact .inl (by rw [Nat.xor_comm]; exact ih)
      · rcases ih with ih | ih
        · exact .inl (.add hp ih)
        · exact .inr (by rw [Nat.xor_assoc]; exact .add hp ih)
  · intro h
    have mono : ∀ {x}, Span P x → Span (b :: P) x := fun h => h.mono fun p hp => List.mem_cons_of_mem _ hp
    rcases h with h | h
    · exact mono h
    · have := Span.add (List.mem_cons_self (a := b) (l := P)) (mono h)
      rw [Nat.xor_comm m b, ← Nat.xor_assoc, Nat.xor_self, Nat.zero_xor] at this
      exact this
/-- the rows with one sum more span the rows and the sum -/
theorem with_span {P P' : List Nat} {b : Nat} (hp : P'.Perm (P.map (less (rb P b)) ++ [rb P b])) {m : Nat} : Span P' m ↔ Span (b :: P) m := by
  have mono : ∀ {x}, Span P x → Span (b :: P) x := fun h => h.mono fun p hp => List.mem_cons_of_mem _ hp
  have hb1 : Span (b :: P) (rb P b) := by
    have h1 := Span.add (List.mem_cons_self (a := b) (l := P)) (mono (rb_span P b))
    rw [← Nat.xor_assoc, Nat.xor_self, Nat.zero_xor] at h1
    exact h1
  have hb2 : Span P' (rb P b) := Span.one (hp.mem_iff.mpr (by simp))
  have hP : ∀ p ∈ P, Span P' p := fun p h => by
    have h1 : Span P' (less (rb P b) p) := Span.one (hp.mem_iff.mpr (List.mem_append_left _ (List.mem_map_of_mem h)))
    rcases less_less (rb P b) p with e | e
    · rw [e] at h1; exact h1
    · have := h1.xor hb2
      rw [e] at this
      exact this
  constructor
  · refine Span.sub fun p h => ?_
    rcases List.mem_append.mp (hp.mem_iff.mp h) with h | h
    · obtain ⟨q, hq, rfl⟩ := List.mem_map.mp h
      exact less_span (mono (Span.one hq)) hb1
    · rw [List.mem_singleton.mp h]; exact hb1
  · refine Span.sub fun p h => ?_
    rcases List.mem_cons.mp h with rfl | h
    · have h1 : Span P' (p ^^^ rb P p) := Span.sub hP (rb_span P p)
      have := h1.xor hb2
      rw [Nat.xor_assoc, Nat.xor_self, Nat.xor_zero] at this
      exact this
    · exact hP p h
/-- rows of unlike greatest bits that stand descending have descending greatest bits -/
theorem desc_of {P : List Nat} (h0 : ∀ p ∈ P, p ≠ 0) (hd : (P.map Nat.log2).Nodup) (hs : P.Pairwise fun a b => b ≤ a) : Desc P := by
  induction P with
  | nil => exact List.Pairwise.nil
  | cons o P ih =>
    have h2 := List.pairwise_cons.mp hs
    rw [List.map_cons, List.nodup_cons] at hd
    refine List.pairwise_cons.mpr ⟨fun p hp => ?_, ih (fun q hq => h0 q (List.mem_cons_of_mem _ hq)) hd.2 h2.2⟩
    have hne : p.log2 ≠ o.log2 := fun e => hd.1 (e ▸ List.mem_map_of_mem hp)
    have hp0 := h0 p (List.mem_cons_of_mem _ hp)
    have hle := h2.1 p hp
    have : p.log2 ≤ o.log2 := by
      by_cases hk : o.log2 < p.log2
      · have := lt_of_log2 (h0 o (List.mem_cons_self ..)) hk
        have h3 := Nat.log2_self_le hp0
        omega
      · omega
    omega
theorem with_desc {P P' : List Nat} {b : Nat} (hd : Desc P) (h0 : ∀ p ∈ P, p ≠ 0) (hb : rb P b ≠ 0) (hp : P'.Perm (P.map (less (rb P b)) ++ [rb P b])) (hs : P'.Pairwise fun a b => b ≤ a) : Desc P' ∧ ∀ p ∈ P', p ≠ 0 := by
  have hc := rb_clear (hd.ech h0) h0 b
  have h0' : ∀ p ∈ P', p ≠ 0 := fun p h => by
    rcases List.mem_append.mp (hp.mem_iff.mp h) with h | h
    · obtain ⟨q, hq, rfl⟩ := List.mem_map.mp h
      exact (less_log2 (h0 q hq) hb (hc q hq)).2
    · rw [List.mem_singleton.mp h]; exact hb
  refine ⟨desc_of h0' ?_ hs, h0'⟩
  have e := hp.map Nat.log2
  refine e.nodup_iff.mpr ?_
  rw [List.map_append, List.map_map]
  have e2 : P.map (Nat.log2 ∘ less (rb P b)) = P.map Nat.log2 := List.map_congr_left fun q hq => (less_log2 (h0 q hq) hb (hc q hq)).1
  rw [e2]
  refine List.nodup_append.mpr ⟨?_, by simp, ?_⟩
  · have : (P.map Nat.log2).Pairwise fun a b => b < a := List.pairwise_map.mpr hd
    exact this.imp fun h => by omega
  · intro x hx y hy
    obtain ⟨q, hq, rfl⟩ := List.mem_map.mp hx
    simp only [List.map_cons, List.map_nil, List.mem_singleton] at hy
    subst hy
    intro e
    have := hc q hq
    rw [e, testBit_top hb] at this
    cases this
theorem with_lt {P P' : List Nat} {b k : Nat} (hP : ∀ p ∈ P, p < 2 ^ k) (hb : b < 2 ^ k) (hp : P'.Perm (P.map (less (rb P b)) ++ [rb P b])) : ∀ p ∈ P', p < 2 ^ k := fun p h => by
  have hb' := rb_lt hP hb
  rcases List.mem_append.mp (hp.mem_iff.mp h) with h | h
  · obtain ⟨q, hq, rfl⟩ := List.mem_map.mp h
    exact less_lt (hP q hq) hb'
  · rw [List.mem_singleton.mp h]; exact hb'
/-! ### one tick older -/
theorem log2_dbl {o : Nat} (h : o ≠ 0) : (2 * o).log2 = o.log2 + 1 := by
  refine log2_eq (by omega) ?_ ?_
  · rw [Nat.testBit_succ, Nat.mul_div_cancel_left _ (by decide)]
    exact testBit_top h
  · have := Nat.lt_log2_self (n := o)
    rw [Nat.pow_succ]; omega
theorem rb_dbl : ∀ {P : List Nat}, (∀ p ∈ P, p ≠ 0) → ∀ (h c : Nat), c < 2 → rb (P.map (2 * ·)) (2 * h + c) = 2 * rb P h + c
  | [], _, _, _, _ => rfl
  | o :: P, h0, h, c, hc => by
    rw [List.map_cons, rb_cons, rb_cons]
    have e1 : (2 * h + c).testBit (2 * o).log2 = h.testBit o.log2 := by
      rw [log2_dbl (h0 o (List.mem_cons_self ..)), Nat.testBit_succ]
      congr 1; omega
    rw [e1]
    have e2 : (2 * h + c) ^^^ (2 * o) = 2 * (h ^^^ o) + c := by
      apply Nat.eq_of_testBit_eq
      intro i
      cases i with
      | zero =>
        rw [Nat.testBit_xor]
        simp only [Nat.testBit_zero]
        have : (2 * (h ^^^ o) + c) % 2 = c % 2 := by omega
        have h3 : (2 * h + c) % 2 = c % 2 := by omega
        have h4 : (2 * o) % 2 = 0 := by omega
        rw [this, h3, h4]; simp
      | succ i =>
        rw [Nat.testBit_xor, Nat.testBit_succ, Nat.testBit_succ, Nat.testBit_succ]
        have a1 : (2 * h + c) / 2 = h := by omega
        have a2 : 2 * o / 2 = o := by omega
        have a3 : (2 * (h ^^^ o) + c) / 2 = h ^^^ o := by omega
        rw [a1, a2, a3, Nat.testBit_xor]
    have h1 : ∀ p ∈ P, p ≠ 0 := fun p hp => h0 p (List.mem_cons_of_mem _ hp)
    by_cases ht : h.testBit o.log2 = true
    · rw [if_pos ht, if_pos ht, e2]; exact rb_dbl h1 _ c hc
    · rw [if_neg ht, if_neg ht]; exact rb_dbl h1 _ c hc
end La
end
section
set_option linter.all false
set_option maxRecDepth 100000
namespace B
open PySem PySem.Spec PyProof.Rows L2
structure Tx (K : PySem.W.Frag) (mg : Str → Option Value) (base : Heap) (tb : List (Addr × Str)) : Prop where
  n_len : mg "len" = none
  n_int : mg "int" = none
  n_max : mg "max" = none
  n_min : mg "min" = none
  n_abs : mg "abs" = none
  n_str : mg "str" = none
  n_tuple : mg "tuple" = none
  n_list : mg "list" = none
  n_all : mg "all" = none
  n_any : mg "any" = none
  n_sorted : mg "sorted" = none
  n_isinstance : mg "isinstance" = none
  n_dict : mg "dict" = none
  n_range : mg "range" = none
  n_zip : mg "zip" = none
  n_enumerate : mg "enumerate" = none
  n_bool : mg "bool" = none
  g_MOST_AGE_checks : ∃ t, mg "MOST_AGE_checks" = some (.int 8 t)
  g_MOST_DELAY : ∃ t, mg "MOST_DELAY" = some (.int 8 t)
  g_MOST_SUMS : ∃ t, mg "MOST_SUMS" = some (.int 6 t)
  g_MOST_PHASES : ∃ t, mg "MOST_PHASES" = some (.int 6 t)
  g_MOST_AGE_spaces : ∃ t, mg "MOST_AGE_spaces" = some (.int 15 t)
  g_MOST_BITS : ∃ t, mg "MOST_BITS" = some (.int 65535 t)
  g_MOST_JUMP : ∃ t, mg "MOST_JUMP" = some (.int 100 t)
  g_Tick : mg "Tick" = some (.ref (He.ga K "Tick"))
  cl_Tick : Cls K (He.ga K "Tick")
  na_Tick_sums : NoAttr K (He.ga K "Tick") "sums"
  na_Tick_mute : NoAttr K (He.ga K "Tick") "mute"
  g_Plan : mg "Plan" = some (.ref (He.ga K "Plan"))
  cl_Plan : Cls K (He.ga K "Plan")
  na_Plan_own_ticks : NoAttr K (He.ga K "Plan") "own_ticks"
  g_Space : mg "Space" = some (.ref (He.ga K "Space"))
  cl_Space : Cls K (He.ga K "Space")
  na_Space_rows : NoAttr K (He.ga K "Space") "rows"
  g_Packet : mg "Packet" = some (.ref (He.ga K "Packet"))
  cl_Packet : Cls K (He.ga K "Packet")
  na_Packet_tick : NoAttr K (He.ga K "Packet") "tick"
  na_Packet_parts : NoAttr K (He.ga K "Packet") "parts"
  g_Known : mg "Known" = some (.ref (He.ga K "Known"))
  cl_Known : Cls K (He.ga K "Known")
  na_Known_pairs : NoAttr K (He.ga K "Known") "pairs"
  g_Moment : mg "Moment" = some (.ref (He.ga K "Moment"))
  cl_Moment : Cls K (He.ga K "Moment")
  na_Moment_at_tick : NoAttr K (He.ga K "Moment") "at_tick"
  na_Moment_sums : NoAttr K (He.ga K "Moment") "sums"
  na_Moment_rows : NoAttr K (He.ga K "Moment") "rows"
  g_Receiver : mg "Receiver" = some (.ref (He.ga K "Receiver"))
  cl_Receiver : Cls K (He.ga K "Receiver")
  na_Receiver_plan : NoAttr K (He.ga K "Receiver") "plan"
  na_Receiver_delay : NoAttr K (He.ga K "Receiver") "delay"
  na_Receiver_own_past : NoAttr K (He.ga K "Receiver") "own_past"
  i_Tick : C8.InsC K (He.ga K "Tick")
  i_Plan : C8.InsC K (He.ga K "Plan")
  i_Space : C8.InsC K (He.ga K "Space")
  i_Packet : C8.InsC K (He.ga K "Packet")
  f_is_integer : ∃ f fd, FunD K "is_integer" "is_integer" (defArgs s_is_integer) (defBody s_is_integer) (defScope s_is_integer) [] [] f fd ∧ mg "is_integer" = some (.ref f)
  f_is_within : ∃ f fd, FunD K "is_within" "is_within" (defArgs s_is_within) (defBody s_is_within) (defScope s_is_within) [] [] f fd ∧ mg "is_within" = some (.ref f)
  f_is_age : ∃ f fd, FunD K "is_age" "is_age" (defArgs s_is_age) (defBody s_is_age) (defScope s_is_age) [] [] f fd ∧ mg "is_age" = some (.ref f)
  f_is_delay : ∃ f fd, FunD K "is_delay" "is_delay" (defArgs s_is_delay) (defBody s_is_delay) (defScope s_is_delay) [] [] f fd ∧ mg "is_delay" = some (.ref f)
  f_is_sum : ∃ f fd, FunD K "is_sum" "is_sum" (defArgs s_is_sum) (defBody s_is_sum) (defScope s_is_sum) [] [] f fd ∧ mg "is_sum" = some (.ref f)
  f_mask_of : ∃ f fd, FunD K "mask_of" "mask_of" (defArgs s_mask_of) (defBody s_mask_of) (defScope s_mask_of) [] [] f fd ∧ mg "mask_of" = some (.ref f)
  f_Tick_init : ∃ f fd, FunD K "__init__" "Tick.__init__" (defArgs s_Tick_init) (defBody s_Tick_init) (defScope s_Tick_init) [] [("mute", .bl false)] f fd ∧ Mk K (He.ga K "Tick") f
  f_Tick_masks : ∃ p f fd, FunD K "masks" "Tick.masks" (defArgs s_Tick_masks) (defBody s_Tick_masks) (defScope s_Tick_masks) [] [] f fd ∧ PropOf K (He.ga K "Tick") "masks" p f
  f_Tick_ages : ∃ p f fd, FunD K "ages" "Tick.ages" (defArgs s_Tick_ages) (defBody s_Tick_ages) (defScope s_Tick_ages) [] [] f fd ∧ PropOf K (He.ga K "Tick") "ages" p f
  f_upcoming : ∃ f fd, FunD K "upcoming" "upcoming" (defArgs s_upcoming) (defBody s_upcoming) (defScope s_upcoming) [] [] f fd ∧ mg "upcoming" = some (.ref f)
  f_read_tick : ∃ f fd, FunD K "read_tick" "read_tick" (defArgs s_read_tick) (defBody s_read_tick) (defScope s_read_tick) [] [] f fd ∧ mg "read_tick" = some (.ref f)
  f_read_sum : ∃ f fd, FunD K "read_sum" "read_sum" (defArgs s_read_sum) (defBody s_read_sum) (defScope s_read_sum) [] [] f fd ∧ mg "read_sum" = some (.ref f)
  f_Plan_init : ∃ f fd, FunD K "__init__" "Plan.__init__" (defArgs s_Plan_init) (defBody s_Plan_init) (defScope s_Plan_init) [] [] f fd ∧ Mk K (He.ga K "Plan") f
  f_Plan_read : ∃ mc p f fd, FunD K "read" "Plan.read" (defArgs s_Plan_read) (defBody s_Plan_read) (defScope s_Plan_read) [] [] f fd ∧ ClX.CRead K (He.ga K "Plan") mc ∧ ClX.CMet K (He.ga K "Plan") mc "read" p f
  f_Plan_tick_at : ∃ f fd, FunD K "tick_at" "Plan.tick_at" (defArgs s_Plan_tick_at) (defBody s_Plan_tick_at) (defScope s_Plan_tick_at) [] [] f fd ∧ Meth K (He.ga K "Plan") "tick_at" f
  f_Plan_ages : ∃ p f fd, FunD K "ages" "Plan.ages" (defArgs s_Plan_ages) (defBody s_Plan_ages) (defScope s_Plan_ages) [] [] f fd ∧ PropOf K (He.ga K "Plan") "ages" p f
  f_need_bits : ∃ f fd, FunD K "need_bits" "need_bits" (defArgs s_need_bits) (defBody s_need_bits) (defScope s_need_bits) [] [] f fd ∧ mg "need_bits" = some (.ref f)
  f_rest_of : ∃ f fd, FunD K "rest_of" "rest_of" (defArgs s_rest_of) (defBody s_rest_of) (defScope s_rest_of) [] [] f fd ∧ mg "rest_of" = some (.ref f)
  f_reduced : ∃ f fd, FunD K "reduced" "reduced" (defArgs s_reduced) (defBody s_reduced) (defScope s_reduced) [] [] f fd ∧ mg "reduced" = some (.ref f)
  f_Space_init : ∃ f fd, FunD K "__init__" "Space.__init__" (defArgs s_Space_init) (defBody s_Space_init) (defScope s_Space_init) [] [] f fd ∧ Mk K (He.ga K "Space") f
  f_Space_contains : ∃ f fd, FunD K "__contains__" "Space.__contains__" (defArgs s_Space_contains) (defBody s_Space_contains) (defScope s_Space_contains) [] [] f fd ∧ PySem.W.findIn K (.ref (He.ga K "Space")) "__contains__" = some (some (.ref f)) ∧ PySem.W.isFn K (.ref f) = true
  f_Space_eq : ∃ f fd, FunD K "__eq__" "Space.__eq__" (defArgs s_Space_eq) (defBody s_Space_eq) (defScope s_Space_eq) [] [] f fd ∧ PySem.W.findIn K (.ref (He.ga K "Space")) "__eq__" = some (some (.ref f)) ∧ PySem.W.isFn K (.ref f) = true
  f_Packet_init : ∃ f fd, FunD K "__init__" "Packet.__init__" (defArgs s_Packet_init) (defBody s_Packet_init) (defScope s_Packet_init) [] [] f fd ∧ Mk K (He.ga K "Packet") f
  f_Known_init : ∃ f fd, FunD K "__init__" "Known.__init__" (defArgs s_Known_init) (defBody s_Known_init) (defScope s_Known_init) [] [] f fd ∧ Mk K (He.ga K "Known") f
  f_Known_reduced : ∃ f fd, FunD K "reduced" "Known.reduced" (defArgs s_Known_reduced) (defBody s_Known_reduced) (defScope s_Known_reduced) [] [] f fd ∧ Meth K (He.ga K "Known") "reduced" f
  f_Known_with_sum : ∃ f fd c P, FunD K "with_sum" "Known.with_sum" (defArgs s_Known_with_sum) (defBody s_Known_with_sum) (defScope s_Known_with_sum) [] [] f fd ∧ Meth K (He.ga K "Known") "with_sum" f ∧ fd.code = .ref c ∧ LamX.TabB base mg c P ∧ tb = [(P, (("Known.with_sum" : Str) ++ (".<locals>." : Str)) ++ ("<lambda>" : Str))]
  f_Known_older : ∃ f fd, FunD K "older" "Known.older" (defArgs s_Known_older) (defBody s_Known_older) (defScope s_Known_older) [] [] f fd ∧ Meth K (He.ga K "Known") "older" f
  f_power : ∃ f fd, FunD K "power" "power" (defArgs s_power) (defBody s_power) (defScope s_power) [] [] f fd ∧ mg "power" = some (.ref f)
  f_has_top : ∃ f fd, FunD K "has_top" "has_top" (defArgs s_has_top) (defBody s_has_top) (defScope s_has_top) [] [] f fd ∧ mg "has_top" = some (.ref f)
  f_Moment_init : ∃ f fd, FunD K "__init__" "Moment.__init__" (defArgs s_Moment_init) (defBody s_Moment_init) (defScope s_Moment_init) [] [] f fd ∧ Mk K (He.ga K "Moment") f
  f_Receiver_init : ∃ f fd, FunD K "__init__" "Receiver.__init__" (defArgs s_Receiver_init) (defBody s_Receiver_init) (defScope s_Receiver_init) [] [] f fd ∧ Mk K (He.ga K "Receiver") f
  f_Receiver_span : ∃ f fd, FunD K "span" "Receiver.span" (defArgs s_Receiver_span) (defBody s_Receiver_span) (defScope s_Receiver_span) [] [] f fd ∧ Meth K (He.ga K "Receiver") "span" f
  f_Receiver_moment : ∃ f fd, FunD K "moment" "Receiver.moment" (defArgs s_Receiver_moment) (defBody s_Receiver_moment) (defScope s_Receiver_moment) [] [] f fd ∧ Meth K (He.ga K "Receiver") "moment" f
  f_Receiver_passed : ∃ f fd, FunD K "passed" "Receiver.passed" (defArgs s_Receiver_passed) (defBody s_Receiver_passed) (defScope s_Receiver_passed) [] [] f fd ∧ Meth K (He.ga K "Receiver") "passed" f
  f_Receiver_need_packet : ∃ f fd, FunD K "need_packet" "Receiver.need_packet" (defArgs s_Receiver_need_packet) (defBody s_Receiver_need_packet) (defScope s_Receiver_need_packet) [] [] f fd ∧ Meth K (He.ga K "Receiver") "need_packet" f
  f_Receiver_hear : ∃ f fd, FunD K "hear" "Receiver.hear" (defArgs s_Receiver_hear) (defBody s_Receiver_hear) (defScope s_Receiver_hear) [] [] f fd ∧ Meth K (He.ga K "Receiver") "hear" f
  f_Receiver_fresh : ∃ f fd, FunD K "fresh" "Receiver.fresh" (defArgs s_Receiver_fresh) (defBody s_Receiver_fresh) (defScope s_Receiver_fresh) [] [] f fd ∧ Meth K (He.ga K "Receiver") "fresh" f
  f_Receiver_wait : ∃ f fd, FunD K "wait" "Receiver.wait" (defArgs s_Receiver_wait) (defBody s_Receiver_wait) (defScope s_Receiver_wait) [.int 1] [] f fd ∧ Meth K (He.ga K "Receiver") "wait" f
  f_Receiver_now : ∃ p f fd, FunD K "now" "Receiver.now" (defArgs s_Receiver_now) (defBody s_Receiver_now) (defScope s_Receiver_now) [] [] f fd ∧ PropOf K (He.ga K "Receiver") "now" p f
  f_Receiver_told : ∃ p f fd, FunD K "told" "Receiver.told" (defArgs s_Receiver_told) (defBody s_Receiver_told) (defScope s_Receiver_told) [] [] f fd ∧ PropOf K (He.ga K "Receiver") "told" p f
  f_Receiver_late : ∃ p f fd, FunD K "late" "Receiver.late" (defArgs s_Receiver_late) (defBody s_Receiver_late) (defScope s_Receiver_late) [] [] f fd ∧ PropOf K (He.ga K "Receiver") "late" p f
  f_Receiver_known : ∃ f fd, FunD K "known" "Receiver.known" (defArgs s_Receiver_known) (defBody s_Receiver_known) (defScope s_Receiver_known) [] [] f fd ∧ Meth K (He.ga K "Receiver") "known" f
  f_Receiver_worth : ∃ f fd, FunD K "worth" "Receiver.worth" (defArgs s_Receiver_worth) (defBody s_Receiver_worth) (defScope s_Receiver_worth) [] [] f fd ∧ Meth K (He.ga K "Receiver") "worth" f
  f__law_pen : ∃ f fd, FunD K "_law_pen" "_law_pen" (defArgs s__law_pen) (defBody s__law_pen) (defScope s__law_pen) [] [] f fd ∧ mg "_law_pen" = some (.ref f)
  f__law_draw : ∃ f fd, FunD K "_law_draw" "_law_draw" (defArgs s__law_draw) (defBody s__law_draw) (defScope s__law_draw) [] [] f fd ∧ mg "_law_draw" = some (.ref f)
  f__law_pick : ∃ f fd, FunD K "_law_pick" "_law_pick" (defArgs s__law_pick) (defBody s__law_pick) (defScope s__law_pick) [] [] f fd ∧ mg "_law_pick" = some (.ref f)
  f__law_sum : ∃ f fd, FunD K "_law_sum" "_law_sum" (defArgs s__law_sum) (defBody s__law_sum) (defScope s__law_sum) [] [] f fd ∧ mg "_law_sum" = some (.ref f)
  f__law_tick : ∃ f fd, FunD K "_law_tick" "_law_tick" (defArgs s__law_tick) (defBody s__law_tick) (defScope s__law_tick) [] [] f fd ∧ mg "_law_tick" = some (.ref f)
  f__law_ticks : ∃ f fd, FunD K "_law_ticks" "_law_ticks" (defArgs s__law_ticks) (defBody s__law_ticks) (defScope s__law_ticks) [] [] f fd ∧ mg "_law_ticks" = some (.ref f)
  f__law_tick_text : ∃ f fd, FunD K "_law_tick_text" "_law_tick_text" (defArgs s__law_tick_text) (defBody s__law_tick_text) (defScope s__law_tick_text) [] [] f fd ∧ mg "_law_tick_text" = some (.ref f)
  f__law_plan : ∃ f fd, FunD K "_law_plan" "_law_plan" (defArgs s__law_plan) (defBody s__law_plan) (defScope s__law_plan) [] [] f fd ∧ mg "_law_plan" = some (.ref f)
  f__law_bit : ∃ f fd, FunD K "_law_bit" "_law_bit" (defArgs s__law_bit) (defBody s__law_bit) (defScope s__law_bit) [] [] f fd ∧ mg "_law_bit" = some (.ref f)
  f__law_reduced : ∃ f fd, FunD K "_law_reduced" "_law_reduced" (defArgs s__law_reduced) (defBody s__law_reduced) (defScope s__law_reduced) [] [] f fd ∧ mg "_law_reduced" = some (.ref f)
  f__law_added : ∃ f fd, FunD K "_law_added" "_law_added" (defArgs s__law_added) (defBody s__law_added) (defScope s__law_added) [] [] f fd ∧ mg "_law_added" = some (.ref f)
  f__law_sums : ∃ f fd, FunD K "_law_sums" "_law_sums" (defArgs s__law_sums) (defBody s__law_sums) (defScope s__law_sums) [] [] f fd ∧ mg "_law_sums" = some (.ref f)
  f__law_is_mute : ∃ f fd, FunD K "_law_is_mute" "_law_is_mute" (defArgs s__law_is_mute) (defBody s__law_is_mute) (defScope s__law_is_mute) [] [] f fd ∧ mg "_law_is_mute" = some (.ref f)
  f__law_rows : ∃ f fd, FunD K "_law_rows" "_law_rows" (defArgs s__law_rows) (defBody s__law_rows) (defScope s__law_rows) [] [] f fd ∧ mg "_law_rows" = some (.ref f)
  f__law_parts : ∃ f fd, FunD K "_law_parts" "_law_parts" (defArgs s__law_parts) (defBody s__law_parts) (defScope s__law_parts) [] [] f fd ∧ mg "_law_parts" = some (.ref f)
  f__law_begun : ∃ f fd, FunD K "_law_begun" "_law_begun" (defArgs s__law_begun) (defBody s__law_begun) (defScope s__law_begun) [] [] f fd ∧ mg "_law_begun" = some (.ref f)
  f__law_heard_by : ∃ f fd, FunD K "_law_heard_by" "_law_heard_by" (defArgs s__law_heard_by) (defBody s__law_heard_by) (defScope s__law_heard_by) [] [] f fd ∧ mg "_law_heard_by" = some (.ref f)
  f__law_shows : ∃ f fd, FunD K "_law_shows" "_law_shows" (defArgs s__law_shows) (defBody s__law_shows) (defScope s__law_shows) [] [] f fd ∧ mg "_law_shows" = some (.ref f)
  f__law_turn_right : ∃ f fd, FunD K "_law_turn_right" "_law_turn_right" (defArgs s__law_turn_right) (defBody s__law_turn_right) (defScope s__law_turn_right) [] [] f fd ∧ mg "_law_turn_right" = some (.ref f)
  f__law_orders_right : ∃ f fd, FunD K "_law_orders_right" "_law_orders_right" (defArgs s__law_orders_right) (defBody s__law_orders_right) (defScope s__law_orders_right) [] [] f fd ∧ mg "_law_orders_right" = some (.ref f)
  f__law_far_right : ∃ f fd, FunD K "_law_far_right" "_law_far_right" (defArgs s__law_far_right) (defBody s__law_far_right) (defScope s__law_far_right) [] [] f fd ∧ mg "_law_far_right" = some (.ref f)
  f_law : ∃ f fd, FunD K "law" "law" (defArgs s_law) (defBody s_law) (defScope s_law) [] [] f fd ∧ mg "law" = some (.ref f)
end B
end
section
set_option linter.all false
set_option maxRecDepth 100000
namespace B
open PySem PySem.Spec PyProof.Rows L2
/-! ### numbers -/
theorem bxN (a b : Nat) : Builtin.bitXor (a : Int) (b : Int) = ((a ^^^ b : Nat) : Int) := by
  rw [Bits.bitXor_pp (Int.natCast_nonneg _) (Int.natCast_nonneg _), Int.toNat_natCast, Int.toNat_natCast]
theorem baN (a b : Nat) : Builtin.bitAnd (a : Int) (b : Int) = ((a &&& b : Nat) : Int) := by
  rw [bitAnd_pp (Int.natCast_nonneg _) (Int.natCast_nonneg _), Int.toNat_natCast, Int.toNat_natCast]
theorem boN (a b : Nat) : Builtin.bitOr (a : Int) (b : Int) = ((a ||| b : Nat) : Int) := by
  rw [Bits.bitOr_pp (Int.natCast_nonneg _) (Int.natCast_nonneg _), Int.toNat_natCast, Int.toNat_natCast]
abbrev iN (n : Nat) : V := .int (n : Int)
theorem r62 {n : Nat} (h : n < 4611686018427387904) : -(2 ^ 62) ≤ (n : Int) ∧ (n : Int) < 2 ^ 62 := ⟨by omega, by omega⟩
theorem p2s (i : Nat) : ((2 ^ i : Nat) : Int) * 2 = ((2 ^ (i + 1) : Nat) : Int) := by rw [Nat.pow_succ]; exact (Int.natCast_mul _ _).symm
/-! ### checks -/
def sp_is_integer : Sp := fun vs H Q _ => ∃ n : Int, vs = [.int n] ∧ Q (.bl true) H
abbrev nm_is_integer : List Str := ["value"]
theorem sc_is_integer : FnScope nm_is_integer ["value"] (defScope s_is_integer) := ⟨rfl, rfl, rfl, by decide +kernel, rfl, by decide +kernel, by decide +kernel⟩
theorem c_is_integer {P : Program} {w : World} {K : PySem.W.Frag} {mg : Str → Option Value} {base : Heap} {tb : List (Addr × Str)} (T : Tx K mg base tb) : Cf P w K mg base 1 "is_integer" sp_is_integer := by
  obtain ⟨f, fd, F, hm⟩ := T.f_is_integer
  refine ⟨f, @mkR P w K mg base _ _ _ _ _ _ _ (sp_is_integer) 0 F sc_is_integer (fun _ _ _ _ _ _ us hl => match us, hl with | [_], _ => rfl) (fun vs H Q E h => by obtain ⟨n, rfl, q⟩ := h; rfl) (fun cdv A outer s H vs Q E hr h => ⟨_, (pss_one (ps_ret (pe_and (pe_callB call_isi (by rfl) T.n_isinstance (by decide +kernel) (pa_cons (pv 0) (pa_cons (pe_bltn (v := .ty "int") (by rfl) T.n_int (by decide +kernel) rfl) pa_nil))) (pe_one (pe_not (pe_callB call_isi (by rfl) T.n_isinstance (by decide +kernel) (pa_cons (pv 0) (pa_cons (pe_bltn (v := .ty "bool") (by rfl) T.n_bool (by decide +kernel) rfl) pa_nil)))))))), ?_⟩), hm, F.kp⟩
  obtain ⟨n, rfl, q⟩ := h
  exact ⟨_, rfl, _, _, _, _, _, rfl, .ty _, .base (.int _), kit_ty (by decide +kernel), true, rfl, iteT ⟨_, rfl, _, _, _, _, _, rfl, .ty _, .base (.int _), kit_ty (by decide +kernel), false, rfl, q⟩⟩
def sp_is_within : Sp := fun vs H Q _ => ∃ v a b : Int, vs = [.int v, .int a, .int b] ∧ Q (.bl (decide (a ≤ v) && decide (v ≤ b))) H
abbrev nm_is_within : List Str := ["value", "least", "most"]
theorem sc_is_within : FnScope nm_is_within ["value", "least", "most"] (defScope s_is_within) := ⟨rfl, rfl, rfl, by decide +kernel, rfl, by decide +kernel, by decide +kernel⟩
theorem c_is_within {P : Program} {w : World} {K : PySem.W.Frag} {mg : Str → Option Value} {base : Heap} {tb : List (Addr × Str)} (T : Tx K mg base tb) : Cf P w K mg base 2 "is_within" sp_is_within := by
  obtain ⟨f, fd, F, hm⟩ := T.f_is_within
  refine ⟨f, @mkR P w K mg base _ _ _ _ _ _ _ (sp_is_within) 1 F sc_is_within (fun _ _ _ _ _ _ us hl => match us, hl with | [_, _, _], _ => rfl) (fun vs H Q E h => by obtain ⟨v, a, b, rfl, q⟩ := h; rfl) (fun cdv A outer s H vs Q E hr h => ⟨_, (pss_one (ps_ret (pe_and (pe_cR (c_is_integer (K := K) T) hr (by decide) rfl (pa_cons (pv 0) pa_nil)) (pe_one (pe_chain op_le op_le (pv 1) (pv 0) (pv 2)))))), ?_⟩), hm, F.kp⟩
  obtain ⟨v, a, b, rfl, q⟩ := h
  refine ⟨_, rfl, v, rfl, true, rfl, iteT ⟨_, rfl, _, rfl, _, _, rfl, rfl, _, rfl, ite2 (fun h => ⟨_, rfl, _, _, rfl, rfl, ?_⟩) fun h => ?_⟩⟩
  · rw [h, Bool.true_and] at q
    exact q
  · rw [Bool.eq_false_iff.mpr h, Bool.false_and] at q
    exact q
def sp_power : Sp := fun vs H Q _ => ∃ n : Nat, vs = [iN n] ∧ n ≤ 60 ∧ Q (iN (2 ^ n)) H
abbrev nm_power : List Str := ["number", "found", "turn"]
theorem sc_power : FnScope nm_power ["number"] (defScope s_power) := ⟨rfl, rfl, rfl, by decide +kernel, rfl, by decide +kernel, by decide +kernel⟩
theorem c_power {P : Program} {w : World} {K : PySem.W.Frag} {mg : Str → Option Value} {base : Heap} {tb : List (Addr × Str)} (T : Tx K mg base tb) : Cf P w K mg base 1 "power" sp_power := by
  obtain ⟨f, fd, F, hm⟩ := T.f_power
  refine ⟨f, @mkR P w K mg base _ _ _ _ _ _ _ (sp_power) 0 F sc_power (fun _ _ _ _ _ _ us hl => match us, hl with | [_], _ => rfl) (fun vs H Q E h => by obtain ⟨n, rfl, hn, q⟩ := h; rfl) (fun cdv A outer s H vs Q E hr h => ⟨_, (pss_cons (ps_set (i := 1) sc_power.nd rfl (Or.inl rfl) pe_int)
      (pss_cons (ps_for PassesOwn.never rfl (pi_range1 (by rfl) T.n_range (pa_cons (pv 0) pa_nil)) (pg_name (i := 2) sc_power.nd rfl (Or.inl rfl))
      (pss_one (ps_set (i := 1) sc_power.nd rfl (Or.inl rfl) (pe_op op_mul (pv 1) pe_int))))
      (pss_one (ps_ret (pv 1))))), ?_⟩), hm, F.kp⟩
  obtain ⟨n, rfl, hn, q⟩ := h
  refine ⟨_, rfl, _, rfl, (r62 (n := n) (by omega)).1, (r62 (by omega)).2, for_range (lo := 0) (n := (n : Int).toNat) (fun i σ H' => H' = H ∧ ∃ v, σ = [some (iN n), some (iN (2 ^ i)), v]) ⟨rfl, _, rfl⟩ ?_ ?_⟩
  · rintro i σ H' hi ⟨rfl, v, rfl⟩
    refine ⟨_, rfl, _, _, rfl, rfl, .inr ⟨by decide, by decide⟩, rfl, some (.int (0 + (i : Nat))), congrArg (fun z => [some (iN n), some (V.int z), some (V.int (0 + (i : Nat)))]) (p2s i)⟩
  · rintro σ H' ⟨rfl, v, rfl⟩
    rw [Int.toNat_natCast]
    exact ⟨_, rfl, q⟩
def sp_is_age : Sp := fun vs H Q _ => ∃ n : Nat, vs = [iN n] ∧ n ≤ 8 ∧ Q (.bl true) H
abbrev nm_is_age : List Str := ["value"]
theorem sc_is_age : FnScope nm_is_age ["value"] (defScope s_is_age) := ⟨rfl, rfl, rfl, by decide +kernel, rfl, by decide +kernel, by decide +kernel⟩
theorem c_is_age {P : Program} {w : World} {K : PySem.W.Frag} {mg : Str → Option Value} {base : Heap} {tb : List (Addr × Str)} (T : Tx K mg base tb) : Cf P w K mg base 3 "is_age" sp_is_age := by
  obtain ⟨f, fd, F, hm⟩ := T.f_is_age
  refine ⟨f, @mkR P w K mg base _ _ _ _ _ _ _ (sp_is_age) 2 F sc_is_age (fun _ _ _ _ _ _ us hl => match us, hl with | [_], _ => rfl) (fun vs H Q E h => by obtain ⟨n, rfl, hn, q⟩ := h; rfl) (fun cdv A outer s H vs Q E hr h => ⟨_, (pss_one (ps_ret (pe_cR (c_is_within (K := K) T) hr (by decide) rfl (pa_cons (pv 0) (pa_cons pe_int (pa_cons (pe_glob (v := .int 8) rfl T.g_MOST_AGE_checks.choose_spec ⟨_, rfl⟩) pa_nil)))))), ?_⟩), hm, F.kp⟩
  obtain ⟨n, rfl, hn, q⟩ := h
  refine ⟨_, rfl, _, _, _, rfl, ?_⟩
  rw [show (decide ((0 : Int) ≤ (n : Int)) && decide ((n : Int) ≤ 8)) = true from by simp; omega]
  exact q
def sp_is_delay : Sp := fun vs H Q _ => ∃ n : Nat, vs = [iN n] ∧ n ≤ 8 ∧ Q (.bl true) H
abbrev nm_is_delay : List Str := ["value"]
theorem sc_is_delay : FnScope nm_is_delay ["value"] (defScope s_is_delay) := ⟨rfl, rfl, rfl, by decide +kernel, rfl, by decide +kernel, by decide +kernel⟩
theorem c_is_delay {P : Program} {w : World} {K : PySem.W.Frag} {mg : Str → Option Value} {base : Heap} {tb : List (Addr × Str)} (T : Tx K mg base tb) : Cf P w K mg base 3 "is_delay" sp_is_delay := by
  obtain ⟨f, fd, F, hm⟩ := T.f_is_delay
  refine ⟨f, @mkR P w K mg base _ _ _ _ _ _ _ (sp_is_delay) 2 F sc_is_delay (fun _ _ _ _ _ _ us hl => match us, hl with | [_], _ => rfl) (fun vs H Q E h => by obtain ⟨n, rfl, hn, q⟩ := h; rfl) (fun cdv A outer s H vs Q E hr h => ⟨_, (pss_one (ps_ret (pe_cR (c_is_within (K := K) T) hr (by decide) rfl (pa_cons (pv 0) (pa_cons pe_int (pa_cons (pe_glob (v := .int 8) rfl T.g_MOST_DELAY.choose_spec ⟨_, rfl⟩) pa_nil)))))), ?_⟩), hm, F.kp⟩
  obtain ⟨n, rfl, hn, q⟩ := h
  refine ⟨_, rfl, _, _, _, rfl, ?_⟩
  rw [show (decide ((0 : Int) ≤ (n : Int)) && decide ((n : Int) ≤ 8)) = true from by simp; omega]
  exact q
/-! ### powers, bits -/
theorem has_and {m k : Nat} : (m &&& 2 ^ k > 0) ↔ m.testBit k = true := by
  constructor
  · intro h
    cases e : m.testBit k with
    | true => rfl
    | false =>
      have z : m &&& 2 ^ k = 0 := Nat.eq_of_testBit_eq fun i => by
        rw [Nat.testBit_and, Nat.testBit_two_pow, Nat.zero_testBit]
        by_cases hi : k = i
        · rw [← hi, e, Bool.false_and]
        · simp [hi]
      rw [z] at h
      exact absurd h (by decide)
  · intro h
    refine Nat.pos_of_ne_zero fun z => ?_
    have y : (m &&& 2 ^ k).testBit k = true := by rw [Nat.testBit_and, Nat.testBit_two_pow, h]; simp
    rw [z, Nat.zero_testBit] at y
    cases y
def sp_has_top : Sp := fun vs H Q _ => ∃ m o : Nat, vs = [iN m, iN o] ∧ o ≠ 0 ∧ o < 2 ^ 60 ∧ Q (.bl (m.testBit o.log2)) H
abbrev nm_has_top : List Str := ["bits", "own"]
theorem sc_has_top : FnScope nm_has_top ["bits", "own"] (defScope s_has_top) := ⟨rfl, rfl, rfl, by decide +kernel, rfl, by decide +kernel, by decide +kernel⟩
theorem c_has_top {P : Program} {w : World} {K : PySem.W.Frag} {mg : Str → Option Value} {base : Heap} {tb : List (Addr × Str)} (T : Tx K mg base tb) : Cf P w K mg base 2 "has_top" sp_has_top := by
  obtain ⟨f, fd, F, hm⟩ := T.f_has_top
  refine ⟨f, @mkR P w K mg base _ _ _ _ _ _ _ (sp_has_top) 1 F sc_has_top (fun _ _ _ _ _ _ us hl => match us, hl with | [_, _], _ => rfl) (fun vs H Q E h => by obtain ⟨m, o, rfl, ho, hlt, q⟩ := h; rfl) (fun cdv A outer s H vs Q E hr h => ⟨_, (pss_one (ps_ret (pe_cmpR op_gt (pe_op op_and (pv 0) (pe_cR (c_power (K := K) T) hr (by decide) rfl (pa_cons (pe_op op_sub (pe_callB call_len_str (by rfl) T.n_len (by decide +kernel) (pa_cons (pe_joined1 (pe_fmtB (pv 1))) pa_nil)) pe_int) pa_nil))) pe_int (nomark _)))), ?_⟩), hm, F.kp⟩
  obtain ⟨m, o, rfl, ho, hlt, q⟩ := h
  have hl := digits_len o ho
  have h60 : o.log2 < 60 := (Nat.log2_lt ho).mpr hlt
  have hs : (binT o).length = o.log2 + 1 := by rw [binT_len, hl]
  have hz : (60 : Nat) ≤ sizeLine := by decide
  refine ⟨_, rfl, _, rfl, o, rfl, by omega, _, rfl, by omega, _, _, rfl, rfl, o.log2, ?_, by omega, _, _, rfl, rfl, _, _, rfl, rfl, ?_⟩
  · rw [hs]
    exact congrArg (fun z => [V.int z]) (by omega : ((o.log2 + 1 : Nat) : Int) - 1 = (o.log2 : Int))
  · rw [baN]
    show Q (.bl (decide ((0 : Int) < ((m &&& 2 ^ o.log2 : Nat) : Int)))) H
    rw [show decide ((0 : Int) < ((m &&& 2 ^ o.log2 : Nat) : Int)) = m.testBit o.log2 from by
      rw [Bool.eq_iff_iff, decide_eq_true_iff]
      exact Iff.trans (by omega) has_and]
    exact q
def sp__law_bit : Sp := fun vs H Q _ => ∃ n : Nat, vs = [iN n] ∧ n ≤ 60 ∧ Q (iN (2 ^ n)) H
abbrev nm__law_bit : List Str := ["_law_number", "_law_found", "_law_turn"]
theorem sc__law_bit : FnScope nm__law_bit ["_law_number"] (defScope s__law_bit) := ⟨rfl, rfl, rfl, by decide +kernel, rfl, by decide +kernel, by decide +kernel⟩
theorem c__law_bit {P : Program} {w : World} {K : PySem.W.Frag} {mg : Str → Option Value} {base : Heap} {tb : List (Addr × Str)} (T : Tx K mg base tb) : Cf P w K mg base 1 "_law_bit" sp__law_bit := by
  obtain ⟨f, fd, F, hm⟩ := T.f__law_bit
  refine ⟨f, @mkR P w K mg base _ _ _ _ _ _ _ (sp__law_bit) 0 F sc__law_bit (fun _ _ _ _ _ _ us hl => match us, hl with | [_], _ => rfl) (fun vs H Q E h => by obtain ⟨n, rfl, hn, q⟩ := h; rfl) (fun cdv A outer s H vs Q E hr h => ⟨_, (pss_cons (ps_set (i := 1) sc__law_bit.nd rfl (Or.inl rfl) pe_int)
      (pss_cons (ps_for PassesOwn.never rfl (pi_range1 (by rfl) T.n_range (pa_cons (pv 0) pa_nil)) (pg_name (i := 2) sc__law_bit.nd rfl (Or.inl rfl))
      (pss_one (ps_set (i := 1) sc__law_bit.nd rfl (Or.inl rfl) (pe_op op_mul (pv 1) pe_int))))
      (pss_one (ps_ret (pv 1))))), ?_⟩), hm, F.kp⟩
  obtain ⟨n, rfl, hn, q⟩ := h
  refine ⟨_, rfl, _, rfl, (r62 (n := n) (by omega)).1, (r62 (by omega)).2, for_range (lo := 0) (n := (n : Int).toNat) (fun i σ H' => H' = H ∧ ∃ v, σ = [some (iN n), some (iN (2 ^ i)), v]) ⟨rfl, _, rfl⟩ ?_ ?_⟩
  · rintro i σ H' hi ⟨rfl, v, rfl⟩
    refine ⟨_, rfl, _, _, rfl, rfl, .inr ⟨by decide, by decide⟩, rfl, some (.int (0 + (i : Nat))), congrArg (fun z => [some (iN n), some (V.int z), some (V.int (0 + (i : Nat)))]) (p2s i)⟩
  · rintro σ H' ⟨rfl, v, rfl⟩
    rw [Int.toNat_natCast]
    exact ⟨_, rfl, q⟩
end B
end
section
set_option linter.all false
set_option maxRecDepth 100000
namespace B
open PySem PySem.Spec PyProof.Rows L2 La
theorem xN (a b : Nat) : V.int (Builtin.bitXor (a : Int) (b : Int)) = iN (a ^^^ b) := by rw [bxN]
theorem cg2 {α β γ : Type} (f : α → β → γ) {a a' : α} {b b' : β} (h : a = a') (k : b = b') : f a b = f a' b' := by rw [h, k]
/-! ### new instances -/
theorem mk_fin {tb : List (Addr × Str)} {H : Hp} {C : Addr} {fs : List (Str × V)} {Q : V → Hp → Prop} {x dx : Addr} (nx : H x = none) (nd : H dx = none) (h : ∀ H', Gr tb H H' → H' x = some (.ins C dx fs) → Q (.ref x) H') : Q (.ref x) (upd (upd (upd H dx (.own x)) x (.ins C dx [])) x (.ins C dx fs)) :=
  h _ (Gr.made nx nd (Gw.wr upd_same rfl)) upd_same
theorem mkRc {P : Program} {w : World} {K : PySem.W.Frag} {mg : Str → Option Value} {base : Heap} {x qual : Str} {st : Stmt} {f : Addr} {fd : FuncData} {N ps : List Str} {sp : Sp} {k : Nat} (F : FunD K x qual (defArgs st) (defBody st) (defScope st) [] [] f fd) (S : FnScope N ps (defScope st))
    (hb : ∀ (kV doc pm : Value) (an : Option Addr) (cdv ct : Value) (us : List Value), us.length = ps.length → bindArgs (PySem.W.fnOf x qual (defArgs st) (defBody st) (defScope st) .none kV doc pm an cdv ct) ⟨us, []⟩ = pure (ps.zip us))
    (len : ∀ vs H Q E, sp vs H Q E → vs.length = ps.length)
    (hbody : ∀ (A : Around) (outer : List Env) (s : Shared) (H : Hp) (vs : List V) (Q : VK) (E : XK), Room k (A.deeper (envOfC qual (defScope st) s.heap.objs.size f fd.code)) → sp vs H Q E →
      ∃ t, PSs (cxOf CX0 P w K mg base N qual (defScope st) f fd.code A outer s H E).nox (defBody st) t ∧ t { nx := fun _ H' => Q .non H', rt := Q } (start N vs) H) : FnR P w K mg base CX0 (k + 1) f sp := by
  have G : FnOk P w K mg base CX0 (k + 1) f fd ps sp := by
    obtain ⟨oc, od, dV, kV, doc, pm, an, cdv, ct, osl, e, lk, hcd, h1, h2⟩ := F.ex
    subst e
    exact fn_of lk hcd S len fun A outer s H vs Q E hr hsp => by
      obtain ⟨t, h, q⟩ := hbody A outer s H vs Q E hr hsp
      exact ⟨t, h.nox, q⟩
  refine (G.raw (F.bindsN hb) .nil).imp fun vs H Q E h => ?_
  rw [List.append_nil]
  exact h
theorem drop_at {α : Type} {l : List α} {i : Nat} {a : α} (h : l[i]? = some a) : l.drop i = a :: l.drop (i + 1) := by
  obtain ⟨hi, e⟩ := List.getElem?_eq_some_iff.mp h
  rw [List.drop_eq_getElem_cons hi, e]
theorem map_at {α β : Type} {f : α → β} {l : List α} {i : Nat} {b : β} (h : (l.map f)[i]? = some b) : ∃ a, l[i]? = some a ∧ f a = b := by
  rw [List.getElem?_map] at h
  exact Option.map_eq_some_iff.mp h
/-! ### known sums -/
/-- the list at l: a tuple (own, held) each -/
def PL (H : Hp) (l : Addr) (P : List (Nat × Nat)) : Prop := ∃ ts : List (Addr × (Nat × Nat)), ts.map (·.2) = P ∧ H l = some (.lst (ts.map fun t => V.ref t.1)) ∧ ∀ t ∈ ts, H t.1 = some (.tup [iN t.2.1, iN t.2.2])
theorem PL.gr {tb : List (Addr × Str)} {H H' : Hp} {l : Addr} {P : List (Nat × Nat)} (h : PL H l P) (g : Gr tb H H') : PL H' l P := by
  obtain ⟨ts, e, hl, ht⟩ := h
  exact ⟨ts, e, g.at hl, fun t m => g.at (ht t m)⟩
def KI (K : PySem.W.Frag) (H : Hp) (k : Addr) (P : List (Nat × Nat)) : Prop := ∃ dx l, H k = some (.ins (He.ga K "Known") dx [("pairs", .ref l)]) ∧ PL H l P
theorem KI.gr {tb : List (Addr × Str)} {K : PySem.W.Frag} {H H' : Hp} {l : Addr} {P : List (Nat × Nat)} (h : KI K H l P) (g : Gr tb H H') : KI K H' l P := by
  obtain ⟨dx, k, e, p⟩ := h
  exact ⟨dx, k, g.at e, p.gr g⟩
/-- tops that has_top takes -/
def Sm (P : List (Nat × Nat)) : Prop := ∀ p ∈ P, p.1 ≠ 0 ∧ p.1 < 2 ^ 60
def sp_Known_init (K : PySem.W.Frag) : Sp := fun vs H Q _ => ∃ x C dx v, vs = [.ref x, v] ∧ H x = some (.ins C dx []) ∧ C = He.ga K "Known" ∧ Q .non (upd H x (.ins C dx [("pairs", v)]))
abbrev nm_Known_init : List Str := ["self", "pairs"]
theorem sc_Known_init : FnScope nm_Known_init ["self", "pairs"] (defScope s_Known_init) := ⟨rfl, rfl, rfl, by decide +kernel, rfl, by decide +kernel, by decide +kernel⟩
theorem c_Known {P : Program} {w : World} {K : PySem.W.Frag} {mg : Str → Option Value} {base : Heap} {tb : List (Addr × Str)} (T : Tx K mg base tb) : Kf P w K mg base 1 "Known" (He.ga K "Known") (sp_Known_init K) := by
  obtain ⟨f, fd, F, hm⟩ := T.f_Known_init
  refine ⟨f, hm, @mkR P w K mg base _ _ _ _ _ _ _ (sp_Known_init K) 0 F sc_Known_init (fun _ _ _ _ _ _ us hl => match us, hl with | [_, _], _ => rfl) (fun vs H Q E h => by obtain ⟨x, C, dx, v, rfl, hx, rfl, q⟩ := h; rfl) (fun cdv A outer s H vs Q E hr h => ⟨_, (pss_one (ps_fld (pv 0) (pv 1) rfl)), ?_⟩), T.g_Known⟩
  obtain ⟨x, C, dx, v, rfl, hx, rfl, q⟩ := h
  exact ⟨_, rfl, _, rfl, _, _, _, _, rfl, hx, T.cl_Known, T.na_Known_pairs, by decide, q⟩
def sp_Moment_init (K : PySem.W.Frag) : Sp := fun vs H Q _ => ∃ x C dx a b c, vs = [.ref x, a, b, c] ∧ H x = some (.ins C dx []) ∧ C = He.ga K "Moment" ∧ ∀ H', H' = upd (upd (upd H x (.ins C dx [("at_tick", a)])) x (.ins C dx [("at_tick", a), ("sums", b)])) x (.ins C dx [("at_tick", a), ("sums", b), ("rows", c)]) → Q .non H'
abbrev nm_Moment_init : List Str := ["self", "now", "known", "told"]
theorem sc_Moment_init : FnScope nm_Moment_init ["self", "now", "known", "told"] (defScope s_Moment_init) := ⟨rfl, rfl, rfl, by decide +kernel, rfl, by decide +kernel, by decide +kernel⟩
theorem c_Moment {P : Program} {w : World} {K : PySem.W.Frag} {mg : Str → Option Value} {base : Heap} {tb : List (Addr × Str)} (T : Tx K mg base tb) : Kf P w K mg base 1 "Moment" (He.ga K "Moment") (sp_Moment_init K) := by
  obtain ⟨f, fd, F, hm⟩ := T.f_Moment_init
  refine ⟨f, hm, @mkR P w K mg base _ _ _ _ _ _ _ (sp_Moment_init K) 0 F sc_Moment_init (fun _ _ _ _ _ _ us hl => match us, hl with | [_, _, _, _], _ => rfl) (fun vs H Q E h => by obtain ⟨x, C, dx, a, b, c, rfl, hx, rfl, q⟩ := h; rfl) (fun cdv A outer s H vs Q E hr h => ⟨_, (pss_cons (ps_fld (pv 0) (pv 1) rfl)
      (pss_cons (ps_fld (pv 0) (pv 2) rfl)
      (pss_one (ps_fld (pv 0) (pv 3) rfl)))), ?_⟩), T.g_Moment⟩
  obtain ⟨x, C, dx, a, b, c, rfl, hx, rfl, q⟩ := h
  refine ⟨_, rfl, _, rfl, _, _, _, _, rfl, hx, T.cl_Moment, T.na_Moment_at_tick, by decide, ?_⟩
  refine ⟨_, rfl, _, rfl, _, _, _, _, rfl, upd_same, T.cl_Moment, T.na_Moment_sums, (by decide : (1 : Nat) < 1000), ?_⟩
  refine ⟨_, rfl, _, rfl, _, _, _, _, rfl, upd_same, T.cl_Moment, T.na_Moment_rows, (by decide : (2 : Nat) < 1000), ?_⟩
  exact q _ rfl
def sp_Packet_init (K : PySem.W.Frag) : Sp := fun vs H Q _ => ∃ x C dx a b, vs = [.ref x, a, b] ∧ H x = some (.ins C dx []) ∧ C = He.ga K "Packet" ∧ ∀ H', H' = upd (upd H x (.ins C dx [("tick", a)])) x (.ins C dx [("tick", a), ("parts", b)]) → Q .non H'
abbrev nm_Packet_init : List Str := ["self", "tick", "parts"]
theorem sc_Packet_init : FnScope nm_Packet_init ["self", "tick", "parts"] (defScope s_Packet_init) := ⟨rfl, rfl, rfl, by decide +kernel, rfl, by decide +kernel, by decide +kernel⟩
theorem c_Packet {P : Program} {w : World} {K : PySem.W.Frag} {mg : Str → Option Value} {base : Heap} {tb : List (Addr × Str)} (T : Tx K mg base tb) : Kf P w K mg base 1 "Packet" (He.ga K "Packet") (sp_Packet_init K) := by
  obtain ⟨f, fd, F, hm⟩ := T.f_Packet_init
  refine ⟨f, hm, @mkR P w K mg base _ _ _ _ _ _ _ (sp_Packet_init K) 0 F sc_Packet_init (fun _ _ _ _ _ _ us hl => match us, hl with | [_, _, _], _ => rfl) (fun vs H Q E h => by obtain ⟨x, C, dx, a, b, rfl, hx, rfl, q⟩ := h; rfl) (fun cdv A outer s H vs Q E hr h => ⟨_, (pss_cons (ps_fld (pv 0) (pv 1) rfl)
      (pss_one (ps_fld (pv 0) (pv 2) rfl))), ?_⟩), T.g_Packet⟩
  obtain ⟨x, C, dx, a, b, rfl, hx, rfl, q⟩ := h
  refine ⟨_, rfl, _, rfl, _, _, _, _, rfl, hx, T.cl_Packet, T.na_Packet_tick, by decide, ?_⟩
  refine ⟨_, rfl, _, rfl, _, _, _, _, rfl, upd_same, T.cl_Packet, T.na_Packet_parts, (by decide : (1 : Nat) < 1000), ?_⟩
  exact q _ rfl
def sp_Known_reduced (K : PySem.W.Frag) : Sp := fun vs H Q _ => ∃ (k : Addr) (m v : Nat) (P : List (Nat × Nat)), vs = [.ref k, iN m, iN v] ∧ KI K H k P ∧ Sm P ∧ ∀ t, H t = none → Q (.ref t) (upd H t (.tup [iN (red P m v).1, iN (red P m v).2]))
abbrev nm_Known_reduced : List Str := ["self", "bits", "value", "own", "held"]
theorem sc_Known_reduced : FnScope nm_Known_reduced ["self", "bits", "value"] (defScope s_Known_reduced) := ⟨rfl, rfl, rfl, by decide +kernel, rfl, by decide +kernel, by decide +kernel⟩
theorem c_Known_reduced {P : Program} {w : World} {K : PySem.W.Frag} {mg : Str → Option Value} {base : Heap} {tb : List (Addr × Str)} (T : Tx K mg base tb) : Mf P w K mg base 3 (He.ga K "Known") "reduced" (sp_Known_reduced K) := by
  obtain ⟨f, fd, F, hm⟩ := T.f_Known_reduced
  refine ⟨f, T.cl_Known, hm, @mkR P w K mg base _ _ _ _ _ _ _ (sp_Known_reduced K) 2 F sc_Known_reduced (fun _ _ _ _ _ _ us hl => match us, hl with | [_, _, _], _ => rfl) (fun vs H Q E h => by obtain ⟨k, m, v, P', rfl, ⟨dx, l, hk, ts, rfl, hl, ht⟩, hs, q⟩ := h; rfl) (fun cdv A outer s H vs Q E hr h => ⟨_, (pss_cons (ps_for PassesOwn.never rfl (pi_list (pe_fld (pv 0) rfl)) (pg_tup rfl (pgs_cons (pg_name (i := 3) sc_Known_reduced.nd rfl (Or.inl rfl)) (pgs_cons (pg_name (i := 4) sc_Known_reduced.nd rfl (Or.inl rfl)) pgs_nil)))
      (pss_one (ps_if (pt_val (pe_cR (c_has_top (K := K) T) hr (by decide) rfl (pa_cons (pv 1) (pa_cons (pv 3) pa_nil)))) (pss_one (ps_par (i := 1) (j := 2) rfl sc_Known_reduced.nd rfl rfl (by decide) rfl rfl (pa_cons (pe_op op_xor (pv 1) (pv 3)) (pa_cons (pe_op op_xor (pv 2) (pv 4)) pa_nil)) (by rfl))) pss_nil)))
      (pss_one (ps_ret (pe_tup (pa_cons (pv 1) (pa_cons (pv 2) pa_nil)))))), ?_⟩)⟩
  obtain ⟨k, m, v, P', rfl, ⟨dx, l, hk, ts, rfl, hl, ht⟩, hs, q⟩ := h
  refine ⟨_, rfl, _, _, _, _, _, rfl, hk, T.cl_Known, T.na_Known_pairs, rfl, l, rfl, ⟨_, SqL.of hl⟩, for_list (xs := ts.map fun t => V.ref t.1) (fun i σ H' => H' = H ∧ ∃ x y a b, σ = [some (.ref k), some (iN x), some (iN y), a, b] ∧ red ((ts.map (·.2)).drop i) x y = red (ts.map (·.2)) m v) ⟨rfl, _, _, _, _, rfl, rfl⟩ ?_ ?_ ?_⟩
  · rintro i σ H' hi ⟨rfl, _⟩
    exact SqL.of hl
  · rintro i z σ H' hz ⟨rfl, x, y, a, b, rfl, e⟩
    obtain ⟨t, hi, rfl⟩ := map_at hz
    have hm := List.mem_of_getElem? hi
    have hd : (ts.map (·.2)).drop i = t.2 :: (ts.map (·.2)).drop (i + 1) := drop_at (by rw [List.getElem?_map, hi] <;> rfl)
    obtain ⟨h0, h1⟩ := hs t.2 (List.mem_map_of_mem hm)
    rw [hd, red_cons] at e
    refine ⟨_, _, rfl, SqT.of (ht t hm), rfl, _, _, rfl, _, _, rfl, rfl, ?_⟩
    refine ⟨_, rfl, _, rfl, _, _, rfl, h0, h1, _, rfl, ?_⟩
    cases hb : x.testBit t.2.1.log2 with
    | true =>
      rw [hb, if_pos rfl] at e
      refine iteT ⟨_, rfl, _, rfl, _, _, rfl, rfl, _, rfl, _, rfl, _, _, rfl, rfl, _, _, rfl, rfl, x ^^^ t.2.1, y ^^^ t.2.2, _, _, cg2 (fun a b => [some (V.ref k), some a, some b, some (iN t.2.1), some (iN t.2.2)]) (xN _ _) (xN _ _), e⟩
    | false =>
      rw [hb, if_neg Bool.false_ne_true] at e
      exact iteF ⟨rfl, _, _, _, _, rfl, e⟩
  · rintro σ H' ⟨rfl, x, y, a, b, rfl, e⟩
    rw [List.drop_of_length_le (by simp), red_nil] at e
    refine ⟨_, rfl, _, rfl, (by decide : (2 : Nat) ≤ sizeLine), fun t nt => ?_⟩
    have := q t nt
    rw [← e] at this
    exact this
/-! ### one sum more -/
def lessp (r p : Nat × Nat) : Nat × Nat := if p.1.testBit r.1.log2 = true then (p.1 ^^^ r.1, p.2 ^^^ r.2) else p
def leP (a b : Nat × Nat) : Bool := decide (b.1 ≤ a.1)
def withL (P : List (Nat × Nat)) (b v : Nat) : List (Nat × Nat) := if (red P b v).1 = 0 then P else (P.map (lessp (red P b v)) ++ [red P b v]).mergeSort leP
/-- tuples in a list, by their places -/
def PT (H : Hp) (D : Addr) (acc : List (Addr × (Nat × Nat))) : Prop := H D = some (.lst (acc.map fun t => V.ref t.1)) ∧ ∀ t ∈ acc, H t.1 = some (.tup [iN t.2.1, iN t.2.2])
theorem PT.push {H : Hp} {D p : Addr} {acc : List (Addr × (Nat × Nat))} {a b : Nat} (h : PT H D acc) (np : H p = none) :
    (upd H p (.tup [iN a, iN b])) D = some (.lst (acc.map fun t => V.ref t.1)) ∧ PT (upd (upd H p (.tup [iN a, iN b])) D (.lst ((acc.map fun t => V.ref t.1) ++ [.ref p]))) D (acc ++ [(p, (a, b))]) := by
  obtain ⟨hD, ht⟩ := h
  have e : D ≠ p := ne_of_none hD np
  refine ⟨by rw [upd_ne e]; exact hD, by rw [upd_same, List.map_append] <;> rfl, fun t m => ?_⟩
  rcases List.mem_append.mp m with m | m
  · rw [upd_ne (ne_of (ht t m) hD (by intro z; cases z)), upd_ne (ne_of_none (ht t m) np)]
    exact ht t m
  · rw [List.mem_singleton.mp m]
    rw [upd_ne (Ne.symm e), upd_same]
theorem lamP {params : Arguments} {body : Expr} {scope : Scope} (h1 : ∃ p1 j p2 p3, body = .Subscript (.Name "pair" p1) (.Constant (.int 0) j p2) p3) (h2 : scope.kind = .function) (h3 : scope.isCoroutine = false) (h4 : scope.isGenerator = false)
    (h5 : scope.names = [(("pair" : Str), NameKind.local)]) (h6 : ∀ (q : Str) (clo : List (Str × Addr)) (pm cdv ctv u : Value), bindArgs (PySem.W.kla_fn "<lambda>" q params body scope clo pm cdv ctv) ⟨[u], []⟩ = pure [(("pair" : Str), u)]) : LamP params body scope := ⟨h1, h2, h3, h4, h5, h6⟩
def sp_Known_with_sum (K : PySem.W.Frag) (tb : List (Addr × Str)) : Sp := fun vs H Q _ => ∃ (k : Addr) (b v : Nat) (P : List (Nat × Nat)), vs = [.ref k, iN b, iN v] ∧ KI K H k P ∧ Sm P ∧ b < 2 ^ 60 ∧ P.length ≤ 100 ∧ LamX.Tabs tb H ∧
  ∀ k' H', Gr tb H H' → KI K H' k' (withL P b v) → Q (.ref k') H'
abbrev nm_Known_with_sum : List Str := ["self", "bits", "value", "pairs", "own", "held"]
theorem sc_Known_with_sum : FnScope nm_Known_with_sum ["self", "bits", "value"] (defScope s_Known_with_sum) := ⟨rfl, rfl, rfl, by decide +kernel, rfl, by decide +kernel, by decide +kernel⟩
theorem c_Known_with_sum {P : Program} {w : World} {K : PySem.W.Frag} {mg : Str → Option Value} {base : Heap} {tb : List (Addr × Str)} (T : Tx K mg base tb) : Mf P w K mg base 4 (He.ga K "Known") "with_sum" (sp_Known_with_sum K tb) := by
  obtain ⟨f, fd, c, Pt, F, hm, hcd, TB, htb⟩ := T.f_Known_with_sum
  refine ⟨f, T.cl_Known, hm, @mkRc P w K mg base _ _ _ _ _ _ _ (sp_Known_with_sum K tb) 3 F sc_Known_with_sum (fun _ _ _ _ _ _ us hl => match us, hl with | [_, _, _], _ => rfl) (fun vs H Q E h => by obtain ⟨k, b, v, P', rfl, ⟨dx, l, hk, ts, rfl, hl, ht⟩, hs, hb, hlen, hT, q⟩ := h; rfl) (fun A outer s H vs Q E hr h => ⟨_, (pss_cons (ps_asg (pe_mR (c_Known_reduced (K := K) T) hr (by decide) (pv 0) (pa_cons (pv 1) (pa_cons (pv 2) pa_nil))) (pg_tup rfl (pgs_cons (pg_name (i := 1) sc_Known_with_sum.nd rfl (Or.inr rfl)) (pgs_cons (pg_name (i := 2) sc_Known_with_sum.nd rfl (Or.inr rfl)) pgs_nil))))
      (pss_cons (ps_if (pt_cmpR op_eq (pv 1) pe_int (nomark _)) (pss_one (ps_ret (pv 0))) pss_nil)
      (pss_cons (ps_setLc (i := 3) (own := [("own", 4), ("held", 5)]) (g := gTup K 2 (gCons (gName 4) (gCons (gName 5) gNil))) (tt := tYes) rfl sc_Known_with_sum.nd rfl rfl (sw_true rfl rfl rfl (by decide +kernel)) (pi_list (pe_fld (pv 0) rfl)) (blkOk_by (own := [("own", 4), ("held", 5)]) (N := nm_Known_with_sum) (sc := defScope s_Known_with_sum) (by decide +kernel)) (fun _ _ _ _ _ => (pg_tup rfl (pgs_cons (pg_name (i := 4) sc_Known_with_sum.nd rfl (Or.inl rfl)) (pgs_cons (pg_name (i := 5) sc_Known_with_sum.nd rfl (Or.inl rfl)) pgs_nil)))) (fun _ _ _ _ _ => pts_nil) (fun _ _ _ _ _ => (pe_ifExp (pt_val (pe_cR (c_has_top (K := K) T) hr (by decide) rfl (pa_cons (pv 4) (pa_cons (pv 1) pa_nil)))) (pe_tup (pa_cons (pe_op op_xor (pv 4) (pv 1)) (pa_cons (pe_op op_xor (pv 5) (pv 2)) pa_nil))) (pe_tup (pa_cons (pv 4) (pa_cons (pv 5) pa_nil))))))
      (pss_cons (ps_expr (pe_bm PySem.F.plainAttrs_list PySem.F.slot_list_append PySem.F.type_list_append mt_append (pv 3) (pa_cons (pe_tup (pa_cons (pv 1) (pa_cons (pv 2) pa_nil))) pa_nil)))
      (pss_one (ps_ret (pe_kR (c_Known (K := K) T) hr (by decide) rfl (pa_cons (pe_sortLam (tb := tb) hr (lamP ⟨_, _, _, _, rfl⟩ rfl rfl rfl rfl fun _ _ _ _ _ _ => rfl) TB hcd (by rw [htb]; exact List.mem_singleton.mpr rfl) (by rw [htb]; intro p hp _; rw [List.mem_singleton.mp hp] <;> rfl) rfl rfl T.n_sorted (pv 3)) pa_nil)))))))), ?_⟩)⟩
  obtain ⟨k, b, v, P', rfl, ⟨dx, l, hk, ts, rfl, hl, ht⟩, hs, hb, hlen, hT, q⟩ := h
  have hlen' : ts.length ≤ 100 := by rw [List.length_map] at hlen; exact hlen
  refine ⟨_, rfl, k, dx, _, rfl, hk, rfl, _, rfl, _, rfl, k, b, v, _, rfl, ⟨dx, l, hk, ts, rfl, hl, ht⟩, hs, fun t nt => ?_⟩
  refine ⟨_, _, rfl, SqT.of upd_same, rfl, _, _, rfl, _, _, rfl, rfl, ?_⟩
  generalize hr' : red (ts.map (·.2)) b v = r at q ⊢
  have q' := fun k' H' g (e : KI K H' k' (withL (ts.map (·.2)) b v)) => q k' H' g e
  unfold withL at q'
  rw [hr'] at q'
  have hr2 : r.1 < 2 ^ 60 := by
    rw [← hr', red_fst]
    refine rb_lt (fun p hp => ?_) hb
    obtain ⟨y, hy, rfl⟩ := List.mem_map.mp hp
    exact (hs y hy).2
  have g1 : Gr tb H (upd H t (.tup [iN r.1, iN r.2])) := Gr.new nt
  generalize upd H t (.tup [iN r.1, iN r.2]) = H1 at g1 ⊢
  have hk1 := g1.at hk
  have hl1 := g1.at hl
  have ht1 := fun t m => g1.at (ht t m)
  have hT1 := g1.tb hT
  refine ⟨_, rfl, rfl, _, rfl, ite2 (fun hz => ?_) fun hz => ?_⟩
  · have hz' : r.1 = 0 := by simpa using hz
    rw [if_pos hz'] at q'
    exact ⟨_, rfl, q' k H1 g1 ⟨dx, l, hk1, ts, rfl, hl1, ht1⟩⟩
  have hz' : r.1 ≠ 0 := by simpa using hz
  rw [if_neg hz'] at q'
  refine ⟨_, rfl, _, _, _, _, _, rfl, hk1, T.cl_Known, T.na_Known_pairs, rfl, l, rfl, ⟨_, SqL.of hl1⟩, fun D nD => ?_⟩
  refine lc_list (xs := ts.map fun t => V.ref t.1) (fun i H' => ∃ acc : List (Addr × (Nat × Nat)), acc.map (·.2) = ((ts.map (·.2)).take i).map (lessp r) ∧ PT H' D acc ∧ Gw tb D (upd H1 D (.lst [])) H') ⟨[], rfl, ⟨upd_same, fun t m => nomatch m⟩, Gw.refl _⟩ ?_ ?_ ?_
  · rintro i H' hi ⟨acc, _, _, g⟩
    exact SqL.of ((Gr.new nD).gw nD g |>.at hl1)
  · rintro i x H' hx ⟨acc, ea, pt, g⟩
    obtain ⟨t, hi, rfl⟩ := map_at hx
    have hm := List.mem_of_getElem? hi
    have gg := (Gr.new nD).gw nD g
    have hlen2 : acc.length < sizeLine := by
      have := congrArg List.length ea
      rw [List.length_map, List.length_map] at this
      have z : (1000 : Nat) < sizeLine := by decide
      have w := List.length_take_le' i (ts.map (·.2))
      rw [List.length_map] at w
      omega
    have step : ∀ (p : Addr) (a2 b2 : Nat), (a2, b2) = lessp r t.2 → H' p = none → ∃ acc', (upd H' p (.tup [iN a2, iN b2])) D = some (.lst acc') ∧ acc'.length < sizeLine ∧ ∃ acc : List (Addr × (Nat × Nat)), acc.map (·.2) = ((ts.map (·.2)).take (i + 1)).map (lessp r) ∧ PT (upd (upd H' p (.tup [iN a2, iN b2])) D (.lst (acc' ++ [.ref p]))) D acc ∧ Gw tb D (upd H1 D (.lst [])) (upd (upd H' p (.tup [iN a2, iN b2])) D (.lst (acc' ++ [.ref p]))) := by
      intro p a2 b2 e np
      obtain ⟨h1, h2⟩ := pt.push (a := a2) (b := b2) np
      refine ⟨_, h1, by rw [List.length_map]; exact hlen2, _, ?_, h2, (g.trans (Gw.of (Gr.new np))).trans (Gw.wr h1 rfl)⟩
      rw [List.map_append, ea, List.take_add_one, List.getElem?_map, hi, List.map_append, e] <;> rfl
    obtain ⟨h0, h1⟩ := hs t.2 (List.mem_map_of_mem hm)
    refine ⟨_, _, rfl, SqT.of (gg.at (ht1 t hm)), rfl, _, _, rfl, _, _, rfl, rfl, rfl, ?_⟩
    refine ⟨_, rfl, _, rfl, _, _, rfl, hz', hr2, _, rfl, ?_⟩
    cases hb : t.2.1.testBit r.1.log2 with
    | true =>
      refine iteT ⟨_, rfl, _, rfl, _, _, rfl, rfl, _, rfl, _, rfl, _, _, rfl, rfl, (by decide : (2 : Nat) ≤ sizeLine), ?_⟩
      show ∀ p, H' p = none → _
      intro p np
      simp only [xN]
      exact step p _ _ (by unfold lessp; rw [hb, if_pos rfl]) np
    | false =>
      exact iteF ⟨_, rfl, _, rfl, (by decide : (2 : Nat) ≤ sizeLine), fun p np => step p _ _ (by unfold lessp; rw [hb, if_neg Bool.false_ne_true]) np⟩
  · rintro H2 ⟨acc, ea, pt, g⟩
    have gg := g1.trans ((Gr.new nD).gw nD g)
    rw [List.take_of_length_le (by simp)] at ea
    have hla : acc.length = ts.length := by
      have := congrArg List.length ea
      simpa using this
    refine ⟨_, rfl, .inl ⟨rfl, _, SqL.of pt.1⟩, _, rfl, _, rfl, (by decide : (2 : Nat) ≤ sizeLine), fun p np => ?_⟩
    obtain ⟨h1, h2⟩ := pt.push (a := r.1) (b := r.2) np
    refine ⟨D, _, _, rfl, rfl, h1, by
      rw [List.length_map, hla]
      exact Nat.lt_of_le_of_lt hlen' (by decide), ?_⟩
    have g3 : Gw tb D H2 (upd (upd H2 p (.tup [iN r.1, iN r.2])) D (.lst ((acc.map fun t => V.ref t.1) ++ [.ref p]))) := (Gw.of (Gr.new np)).trans (Gw.wr h1 rfl)
    have gD : Gr tb H1 (upd (upd H2 p (.tup [iN r.1, iN r.2])) D (.lst ((acc.map fun t => V.ref t.1) ++ [.ref p]))) := (Gr.new nD).gw nD (g.trans g3)
    generalize upd (upd H2 p (.tup [iN r.1, iN r.2])) D (.lst ((acc.map fun t => V.ref t.1) ++ [.ref p])) = H3 at h2 gD ⊢
    generalize hac : acc ++ [(p, (r.1, r.2))] = ac2 at h2
    refine ⟨_, rfl, D, ac2.map fun t => (t.1, ((t.2.1 : Int), iN t.2.2)), rfl, ?_, ?_, gD.tb hT1, fun p2 H4 g4 hp2 => ?_⟩
    · rw [List.map_map]
      exact h2.1
    · intro t m
      obtain ⟨y, hy, rfl⟩ := List.mem_map.mp m
      exact h2.2 y hy
    intro x dx' nx ndx ne
    refine ⟨x, _, dx', _, rfl, upd_same, rfl, rfl, mk_fin (tb := tb) nx ndx fun H5 g5 e5 => ?_⟩
    have g45 := g4.trans g5
    refine q' x H5 (g1.trans (gD.trans g45)) ⟨dx', p2, e5, ac2.mergeSort (fun a b => leP a.2 b.2), ?_, ?_, ?_⟩
    · rw [List.map_mergeSort (r := fun a b => leP a.2 b.2) (s := leP) (f := fun t : Addr × (Nat × Nat) => t.2) (fun _ _ _ _ => rfl), ← hac, List.map_append, ea] <;> rfl
    · have e : (ac2.map fun t => (t.1, ((t.2.1 : Int), iN t.2.2))).mergeSort leD = (ac2.mergeSort fun a b => leP a.2 b.2).map fun t => (t.1, ((t.2.1 : Int), iN t.2.2)) := by
        refine (List.map_mergeSort fun a _ b _ => ?_).symm
        unfold leP leD
        simp
      rw [e, List.map_map] at hp2
      exact g5.at hp2
    · intro t m
      exact g45.at (h2.2 t (List.mem_mergeSort.mp m))
end B
end
section
set_option linter.all false
set_option maxRecDepth 100000
namespace B
open PySem PySem.Spec PyProof.Rows L2 La
section
variable {X : Cx}
def rLenQ (K : PySem.W.Frag) : List V → Hp → VK → Prop := fun xs H Q => ∃ p ys, xs = [.ref p] ∧ (SqL K H p ys ∨ SqT K H p ys) ∧ Q (.int ys.length) H
theorem call_lenQ : CallR X (.builtin "len") (rLenQ X.K) := call_len_seq
def rTupQ (K : PySem.W.Frag) : List V → Hp → VK → Prop := fun xs H Q => ∃ p ys, xs = [.ref p] ∧ ((SqL K H p ys ∧ ∀ l, H l = none → Q (.ref l) (upd H l (.tup ys))) ∨ (SqT K H p ys ∧ Q (.ref p) H))
theorem call_tupQ : CallR X (.type "tuple") (rTupQ X.K) := call_tuple_of
end
/-- def f(a, *v) -/
def spS1 (sp : Sp) : Sp := fun vs H Q E => ∃ a rest, vs = a :: rest ∧ rest.length ≤ sizeLine ∧ ∀ p, H p = none → sp [a, .ref p] (upd H p (.tup rest)) Q E
theorem mkS {P : Program} {w : World} {K : PySem.W.Frag} {mg : Str → Option Value} {base : Heap} {x qual : Str} {st : Stmt} {f : Addr} {fd : FuncData} {N : List Str} {p1 pv : Str} {sp : Sp} {k : Nat}
    (F : FunD K x qual (defArgs st) (defBody st) (defScope st) [] [] f fd) (S : FnScope N [p1, pv] (defScope st))
    (hb : ∀ (kV doc pm : Value) (an : Option Addr) (cdv ct : Value) (us rest : List Value), us.length = [p1].length → bindArgs (PySem.W.fnOf x qual (defArgs st) (defBody st) (defScope st) .none kV doc pm an cdv ct) ⟨us ++ rest, []⟩ = (newTuple rest >>= fun t => pure ([p1].zip us ++ [(pv, t)])))
    (hbody : ∀ (cdv : Value) (A : Around) (outer : List Env) (s : Shared) (H : Hp) (vs : List V) (Q : VK) (E : XK), Room k (A.deeper (envOfC qual (defScope st) s.heap.objs.size f cdv)) → sp vs H Q E →
      ∃ t, PSs (cxOf CX0 P w K mg base N qual (defScope st) f cdv A outer s H E).nox (defBody st) t ∧ t { nx := fun _ H' => Q .non H', rt := Q } (start N vs) H) : FnR P w K mg base CX0 (k + 1) f (spS1 sp) := by
  obtain ⟨oc, od, dV, kV, doc, pm, an, cdv, ct, osl, e, lk, hcd, hD, _⟩ := F.ex
  subst e
  rcases hD with ⟨_, rfl⟩ | ⟨e, _⟩
  case inr => exact absurd rfl e
  refine (StX.fn_star (ps := [p1]) (pv := pv) (sp := sp) lk hcd S StX.cxUp_none (hb kV doc pm an cdv ct) fun A outer s H vs Q E hr h => ?_).imp fun vs H Q E h => ?_
  · obtain ⟨t, ht, q⟩ := hbody cdv A outer s H vs Q E hr h
    exact ⟨t, ht.nox, q⟩
  · obtain ⟨a, rest, rfl, hz, q⟩ := h
    exact ⟨[a], rest, rfl, rfl, hz, q⟩
/-- a comprehension of values: what is told of the list needs no heap -/
theorem lcV {J : It} {n : Nat} {G : Hp → Prop} {Y : Nat → Hp → V → Hp → Prop} (w : Walk J n G Y) {g : TG} {tt : TT} {te : TE} {vs : List Nat} {σ : L2.St} {H1 : Hp} {D : Addr} {Qd : Hp → Prop} (tb : List (Addr × Str)) (nD : H1 D = none) (hn : n ≤ 1000)
    (R : Nat → List V → Prop) (h0 : R 0 []) (hG : ∀ H, Gr tb H1 H → G H)
    (hs : ∀ i x H H' acc (K1 : V → Hp → Prop) (K2 : Hp → Prop), i < n → R i acc → Gr tb H1 H → Y i H x H' → (∀ y H4, Gr tb H H4 → R (i + 1) (acc ++ [y]) → K1 y H4) → (∀ H3, Gr tb H H3 → R (i + 1) acc → K2 H3) →
      g x (wipe σ vs) H' fun σ2 H2 => wipe σ2 vs = wipe σ vs ∧ tt σ2 H2 fun b H3 => if b = true then te σ2 H3 K1 else K2 H3)
    (hd : ∀ H acc, Gr tb H1 H → H D = some (.lst acc) → R n acc → Qd H) :
    ∃ W : Nat → Nat → Hp → Prop, (∃ m, W 0 m (upd H1 D (.lst []))) ∧ ∀ i m H, W i m H →
      (J.stop i H ∧ Qd H) ∨ (J.go i H ∧ ∃ Nx : Hp → Prop, (∀ H', Nx H' → ∃ m', m' < m ∧ W (i + 1) m' H') ∧ ∀ x H', J.yld i H x H' → g x (wipe σ vs) H' fun σ2 H2 => wipe σ2 vs = wipe σ vs ∧ tt σ2 H2 fun b H3 =>
        if b = true then te σ2 H3 fun y H4 => ∃ acc, H4 D = some (.lst acc) ∧ acc.length < sizeLine ∧ Nx (upd H4 D (.lst (acc ++ [y]))) else Nx H3) := by
  refine lc_it w (fun i H => ∃ acc, H D = some (.lst acc) ∧ acc.length ≤ i ∧ R i acc ∧ Gw tb D (upd H1 D (.lst [])) H) ⟨[], upd_same, Nat.zero_le _, h0, Gw.refl _⟩ ?_ ?_ ?_
  · rintro i H hi ⟨acc, _, _, _, gw⟩
    exact hG H ((Gr.new nD).gw nD gw)
  · rintro i x H H' hi ⟨acc, hD, hl, r, gw⟩ y
    refine hs i x H H' acc _ _ hi r ((Gr.new nD).gw nD gw) y (fun y H4 g4 r' => ?_) fun H3 g3 r' => ?_
    · have hD4 := g4.at hD
      have z : (1000 : Nat) < sizeLine := by decide
      exact ⟨acc, hD4, by omega, acc ++ [y], upd_same, by rw [List.length_append]; exact Nat.succ_le_succ hl, r', (gw.trans (Gw.of g4)).trans (Gw.wr hD4 rfl)⟩
    · exact ⟨acc, g3.at hD, by omega, r', gw.trans (Gw.of g3)⟩
  · rintro H ⟨acc, hD, _, r, gw⟩
    exact hd H acc ((Gr.new nD).gw nD gw) hD r
/-- a comprehension of pairs of numbers -/
theorem lcT {J : It} {n : Nat} {G : Hp → Prop} {Y : Nat → Hp → V → Hp → Prop} (w : Walk J n G Y) {g : TG} {tt : TT} {te : TE} {vs : List Nat} {σ : L2.St} {H1 : Hp} {D : Addr} {Qd : Hp → Prop} (tb : List (Addr × Str)) (nD : H1 D = none) (hn : n ≤ 1000)
    (R : Nat → List (Nat × Nat) → Prop) (h0 : R 0 []) (hG : ∀ H, Gr tb H1 H → G H)
    (hs : ∀ i x H H' acc (K1 : V → Hp → Prop) (K2 : Hp → Prop), i < n → R i acc → Gr tb H1 H → Y i H x H' → (∀ p (a b : Nat) H4, Gr tb H H4 → H4 p = none → R (i + 1) (acc ++ [(a, b)]) → K1 (.ref p) (upd H4 p (.tup [iN a, iN b]))) → (∀ H3, Gr tb H H3 → R (i + 1) acc → K2 H3) →
      g x (wipe σ vs) H' fun σ2 H2 => wipe σ2 vs = wipe σ vs ∧ tt σ2 H2 fun b H3 => if b = true then te σ2 H3 K1 else K2 H3)
    (hd : ∀ H ts, Gr tb H1 H → PT H D ts → R n (ts.map (·.2)) → Qd H) :
    ∃ W : Nat → Nat → Hp → Prop, (∃ m, W 0 m (upd H1 D (.lst []))) ∧ ∀ i m H, W i m H →
      (J.stop i H ∧ Qd H) ∨ (J.go i H ∧ ∃ Nx : Hp → Prop, (∀ H', Nx H' → ∃ m', m' < m ∧ W (i + 1) m' H') ∧ ∀ x H', J.yld i H x H' → g x (wipe σ vs) H' fun σ2 H2 => wipe σ2 vs = wipe σ vs ∧ tt σ2 H2 fun b H3 =>
        if b = true then te σ2 H3 fun y H4 => ∃ acc, H4 D = some (.lst acc) ∧ acc.length < sizeLine ∧ Nx (upd H4 D (.lst (acc ++ [y]))) else Nx H3) := by
  refine lc_it w (fun i H => ∃ ts : List (Addr × (Nat × Nat)), PT H D ts ∧ ts.length ≤ i ∧ R i (ts.map (·.2)) ∧ Gw tb D (upd H1 D (.lst [])) H) ⟨[], ⟨upd_same, fun t m => nomatch m⟩, Nat.zero_le _, h0, Gw.refl _⟩ ?_ ?_ ?_
  · rintro i H hi ⟨ts, _, _, _, gw⟩
    exact hG H ((Gr.new nD).gw nD gw)
  · rintro i x H H' hi ⟨ts, pt, hl, r, gw⟩ y
    refine hs i x H H' _ _ _ hi r ((Gr.new nD).gw nD gw) y (fun p a b H4 g4 np r' => ?_) fun H3 g3 r' => ?_
    · have z : (1000 : Nat) < sizeLine := by decide
      have pt4 : PT H4 D ts := ⟨g4.at pt.1, fun t m => g4.at (pt.2 t m)⟩
      obtain ⟨h1, h2⟩ := pt4.push (a := a) (b := b) np
      exact ⟨_, h1, by rw [List.length_map]; omega, ts ++ [(p, (a, b))], h2, by rw [List.length_append]; exact Nat.succ_le_succ hl, by rw [List.map_append]; exact r', (gw.trans (Gw.of (g4.trans (Gr.new np)))).trans (Gw.wr h1 rfl)⟩
    · exact ⟨ts, ⟨g3.at pt.1, fun t m => g3.at (pt.2 t m)⟩, by omega, r', gw.trans (Gw.of g3)⟩
  · rintro H ⟨ts, pt, _, r, gw⟩
    exact hd H ts ((Gr.new nD).gw nD gw) pt r
theorem PT.pl {H : Hp} {D : Addr} {ts : List (Addr × (Nat × Nat))} {P : List (Nat × Nat)} (h : PT H D ts) (e : ts.map (·.2) = P) : PL H D P := ⟨ts, e, h.1, h.2⟩
/-! ### what stands in lists, tuples -/
def LstOf {α : Type} (R : Hp → Addr → α → Prop) (H : Hp) (l : Addr) (xs : List α) : Prop := ∃ ts : List (Addr × α), ts.map (·.2) = xs ∧ H l = some (.lst (ts.map fun t => V.ref t.1)) ∧ ∀ t ∈ ts, R H t.1 t.2
def TupOf {α : Type} (R : Hp → Addr → α → Prop) (H : Hp) (l : Addr) (xs : List α) : Prop := ∃ ts : List (Addr × α), ts.map (·.2) = xs ∧ H l = some (.tup (ts.map fun t => V.ref t.1)) ∧ ∀ t ∈ ts, R H t.1 t.2
/-- ages -/
def AgesAt (H : Hp) (a : Addr) (s : List Nat) : Prop := H a = some (.tup (s.map fun n => iN n))
abbrev SumsAt : Hp → Addr → List (List Nat) → Prop := TupOf AgesAt
abbrev Tk : Type := List (List Nat) × Bool
def TickI (K : PySem.W.Frag) (H : Hp) (t : Addr) (k : Tk) : Prop := ∃ dx sa, H t = some (.ins (He.ga K "Tick") dx [("sums", .ref sa), ("mute", .bl k.2)]) ∧ SumsAt H sa k.1
def PlanI (K : PySem.W.Frag) (H : Hp) (p : Addr) (ks : List Tk) : Prop := ∃ dx ta, H p = some (.ins (He.ga K "Plan") dx [("own_ticks", .ref ta)]) ∧ TupOf (TickI K) H ta ks
/-- the law's own tick: (sums, is mute) -/
def LTick (H : Hp) (a : Addr) (k : Tk) : Prop := ∃ sa, H a = some (.tup [.ref sa, .bl k.2]) ∧ SumsAt H sa k.1
abbrev LTicks : Hp → Addr → List Tk → Prop := LstOf LTick
section
variable {tb : List (Addr × Str)} {K : PySem.W.Frag} {H H' : Hp} {a : Addr} {α : Type} {R : Hp → Addr → α → Prop}
theorem LstOf.gr (hR : ∀ a x, R H a x → R H' a x) {xs : List α} (h : LstOf R H a xs) (g : Gr tb H H') : LstOf R H' a xs := by
  obtain ⟨ts, e, hl, ht⟩ := h
  exact ⟨ts, e, g.at hl, fun t m => hR _ _ (ht t m)⟩
theorem TupOf.gr (hR : ∀ a x, R H a x → R H' a x) {xs : List α} (h : TupOf R H a xs) (g : Gr tb H H') : TupOf R H' a xs := by
  obtain ⟨ts, e, hl, ht⟩ := h
  exact ⟨ts, e, g.at hl, fun t m => hR _ _ (ht t m)⟩
theorem AgesAt.gr {s : List Nat} (h : AgesAt H a s) (g : Gr tb H H') : AgesAt H' a s := Gr.at g h
theorem sums_gr {s : List (List Nat)} (h : SumsAt H a s) (g : Gr tb H H') : SumsAt H' a s := TupOf.gr (fun _ _ x => x.gr g) h g
theorem TickI.gr {k : Tk} (h : TickI K H a k) (g : Gr tb H H') : TickI K H' a k := by
  obtain ⟨dx, sa, e, s⟩ := h
  exact ⟨dx, sa, g.at e, sums_gr s g⟩
theorem PlanI.gr {ks : List Tk} (h : PlanI K H a ks) (g : Gr tb H H') : PlanI K H' a ks := by
  obtain ⟨dx, ta, e, s⟩ := h
  exact ⟨dx, ta, g.at e, s.gr (fun _ _ x => x.gr g) g⟩
theorem LTick.gr {k : Tk} (h : LTick H a k) (g : Gr tb H H') : LTick H' a k := by
  obtain ⟨sa, e, s⟩ := h
  exact ⟨sa, g.at e, sums_gr s g⟩
theorem lticks_gr {ks : List Tk} (h : LTicks H a ks) (g : Gr tb H H') : LTicks H' a ks := LstOf.gr (fun _ _ x => x.gr g) h g
end
/-- sums, ticks as they may be -/
def OkS (s : List Nat) : Prop := s ≠ [] ∧ s.Pairwise (· < ·) ∧ ∀ a ∈ s, a ≤ 8
def OkT (k : Tk) : Prop := (∀ s ∈ k.1, OkS s) ∧ k.1.Nodup ∧ k.1.length ≤ 4 ∧ (k.2 = true → ∀ s ∈ k.1, 0 ∉ s)
def OkP (ks : List Tk) : Prop := ks ≠ [] ∧ ks.length ≤ 4 ∧ ∀ k ∈ ks, OkT k
theorem asc_len : ∀ (s : List Nat) (lo : Nat), s.Pairwise (· < ·) → (∀ a ∈ s, lo ≤ a ∧ a ≤ 8) → s.length ≤ 9 - lo
  | [], lo, _, _ => Nat.zero_le _
  | a :: s, lo, h, hb => by
    obtain ⟨h1, h2⟩ := List.pairwise_cons.mp h
    have ha := hb a List.mem_cons_self
    have := asc_len s (a + 1) h2 fun b m => ⟨h1 b m, (hb b (List.mem_cons_of_mem _ m)).2⟩
    rw [List.length_cons]
    omega
theorem OkS.len {s : List Nat} (h : OkS s) : s.length ≤ 9 := asc_len s 0 h.2.1 fun a m => ⟨Nat.zero_le _, h.2.2 a m⟩
end B
end
section
set_option linter.all false
set_option maxRecDepth 100000
namespace B
open PySem PySem.Spec PyProof.Rows L2 La
theorem neq0 {n : Nat} (h : n ≠ 0) : decide (V.int (n : Int) = V.int 0) = false := decide_eq_false fun e => h (by injection e with e; omega)
theorem all_rep {bs : List Bool} (h : ∀ b ∈ bs, b = true) : bs.all id = true := List.all_eq_true.mpr fun b m => h b m
theorem mtup {α : Type} {f : α → V} {s : List α} : (s.map f).length = s.length := List.length_map ..
theorem z2 : (2 : Nat) ≤ sizeLine := by decide
theorem z1000 {n : Nat} (h : n ≤ 1000) : n ≤ sizeLine := Nat.le_trans h (by decide)
theorem ev {Q : V → Hp → Prop} {x y : V} {H : Hp} (e : x = y) (h : Q y H) : Q x H := by rw [e]; exact h
def sp_is_sum (tb : List (Addr × Str)) : Sp := fun vs H Q _ => ∃ (a : Addr) (s : List Nat), vs = [.ref a] ∧ AgesAt H a s ∧ OkS s ∧ ∀ H', Gr tb H H' → Q (.bl true) H'
abbrev nm_is_sum : List Str := ["value", "at", "age"]
theorem sc_is_sum : FnScope nm_is_sum ["value"] (defScope s_is_sum) := ⟨rfl, rfl, rfl, by decide +kernel, rfl, by decide +kernel, by decide +kernel⟩
theorem c_is_sum {P : Program} {w : World} {K : PySem.W.Frag} {mg : Str → Option Value} {base : Heap} {tb : List (Addr × Str)} (T : Tx K mg base tb) : Cf P w K mg base 4 "is_sum" (sp_is_sum tb) := by
  obtain ⟨f, fd, F, hm⟩ := T.f_is_sum
  refine ⟨f, @mkR P w K mg base _ _ _ _ _ _ _ (sp_is_sum tb) 3 F sc_is_sum (fun _ _ _ _ _ _ us hl => match us, hl with | [_], _ => rfl) (fun vs H Q E h => by obtain ⟨a, s, rfl, ha, ok, q⟩ := h; rfl) (fun cdv A outer s H vs Q E hr h => ⟨_, (pss_cons (ps_if (PW.pt (pw_or (pt_not (pt_val (pe_callB call_isi (by rfl) T.n_isinstance (by decide +kernel) (pa_cons (pv 0) (pa_cons (pe_bltn (v := .ty "tuple") (by rfl) T.n_tuple (by decide +kernel) rfl) pa_nil))))) (pw_or (pt_cmpR op_eq (pe_callB call_lenQ (by rfl) T.n_len (by decide +kernel) (pa_cons (pv 0) pa_nil)) pe_int (nomark _)) (pw_or1 (pt_not (pt_val (pe_callB (cr_all rfl) (by rfl) T.n_all (by decide +kernel) (pa_cons (pe_lc (own := [("age", 2)]) (g := gName 2) (tt := tYes) rfl sc_is_sum.nd (pi_tup (pv 0)) (blkOk_by (own := [("age", 2)]) (N := nm_is_sum) (sc := defScope s_is_sum) (by decide +kernel)) (fun _ _ _ _ _ => pg_name (i := 2) sc_is_sum.nd rfl (Or.inl rfl)) (fun _ _ _ _ _ => pts_nil) (fun _ _ _ _ _ => (pe_cR (c_is_age (K := K) T) hr (by decide) rfl (pa_cons (pv 2) pa_nil)))) pa_nil)))))))) (pss_one (ps_ret pe_bl)) pss_nil)
      (pss_one (ps_ret (pe_callB (cr_all rfl) (by rfl) T.n_all (by decide +kernel) (pa_cons (pe_lc (own := [("at", 1)]) (g := gName 1) (tt := tYes) rfl sc_is_sum.nd (pi_range1 (by rfl) T.n_range (pa_cons (pe_op op_sub (pe_callB call_lenQ (by rfl) T.n_len (by decide +kernel) (pa_cons (pv 0) pa_nil)) pe_int) pa_nil)) (blkOk_by (own := [("at", 1)]) (N := nm_is_sum) (sc := defScope s_is_sum) (by decide +kernel)) (fun _ _ _ _ _ => pg_name (i := 1) sc_is_sum.nd rfl (Or.inl rfl)) (fun _ _ _ _ _ => pts_nil) (fun _ _ _ _ _ => (pe_cmpR op_lt (pe_ix (show IxR _ (rIxT K) from ix_tup) (pv 0) (pv 1) (fun _ _ => rfl)) (pe_ix (show IxR _ (rIxT K) from ix_tup) (pv 0) (pe_op op_add (pv 1) pe_int) (fun _ _ => rfl)) (nomark _)))) pa_nil))))), ?_⟩), hm, F.kp⟩
  obtain ⟨a, s, rfl, ha, ok, q⟩ := h
  have hl : (s.map fun n => iN n).length = s.length := List.length_map ..
  have hlen := ok.len
  refine ⟨_, rfl, _, _, _, _, _, rfl, .ty _, .base (.tup ha), kit_ty (r := true) (by decide +kernel), _, rfl, ?_⟩
  refine ⟨_, rfl, _, _, rfl, .inr (SqT.of ha), rfl, _, rfl, ?_⟩
  rw [hl, neq0 (fun z => ok.1 (List.length_eq_zero_iff.mp z))]
  refine iteF ⟨_, rfl, _, rfl, ⟨_, SqT.of ha⟩, fun D nD => ?_⟩
  refine lcV walk_tup tb nD (by rw [hl]; omega) (fun i acc => acc = List.replicate i (V.bl true)) rfl (fun H1 g => SqT.of (g.at ha)) ?_ ?_
  · rintro i x H1 H2 acc K1 K2 hi rfl g ⟨rfl, hx⟩ k1 _
    obtain ⟨n, hn, rfl⟩ := map_at hx
    exact ⟨rfl, _, rfl, n, rfl, ok.2.2 n (List.mem_of_getElem? hn), k1 _ _ (Gr.refl _) (List.replicate_succ'.symm)⟩
  rintro H1 acc g1 hD rfl
  have ha1 : AgesAt H1 a s := ha.gr g1
  refine ⟨_, List.replicate s.length true, rfl, by rw [List.map_replicate, ← hl]; exact SqL.of hD, _, rfl, ?_⟩
  rw [all_rep (fun b m => (List.mem_replicate.mp m).2)]
  refine ⟨_, rfl, _, _, rfl, .inr (SqT.of ha1), _, _, rfl, rfl, _, rfl, ?_, ?_, fun D2 nD2 => ?_⟩
  · rw [hl]; omega
  · rw [hl]; omega
  refine lcV walk_range tb nD2 (by rw [hl]; omega) (fun i acc => acc = List.replicate i (V.bl true)) rfl (fun _ _ => True.intro) ?_ ?_
  · rintro i x H2 H3 acc K1 K2 hi rfl g ⟨rfl, rfl⟩ k1 _
    rw [hl] at hi
    have hi1 : i + 1 < s.length := by omega
    have ha2 : AgesAt H3 a s := ha1.gr g
    have h1 : (s.map fun n => iN n)[i]? = some (iN s[i]) := by rw [List.getElem?_map, List.getElem?_eq_getElem (by omega)] <;> rfl
    have h2 : (s.map fun n => iN n)[i + 1]? = some (iN s[i + 1]) := by rw [List.getElem?_map, List.getElem?_eq_getElem hi1] <;> rfl
    refine ⟨rfl, _, rfl, _, rfl, a, _, _, _, rfl, rfl, SqT.of ha2, by rw [Int.zero_add]; exact atI_nat h1, _, rfl, _, rfl, _, _, rfl, rfl, a, _, _, _, rfl, rfl, SqT.of ha2, by rw [Int.zero_add]; exact atI_nat h2, _, _, rfl, rfl, ?_⟩
    exact ev (y := .bl true) (congrArg V.bl (decide_eq_true (show ((s[i] : Nat) : Int) < ((s[i + 1] : Nat) : Int) from by
      have := List.pairwise_iff_getElem.mp ok.2.1 i (i + 1) (by omega) hi1 (by omega)
      omega))) (k1 _ _ (Gr.refl _) (List.replicate_succ'.symm))
  rintro H2 acc g2 hD2 rfl
  refine ⟨_, List.replicate _ true, rfl, by rw [List.map_replicate]; exact SqL.of hD2, ?_⟩
  rw [all_rep (fun b m => (List.mem_replicate.mp m).2)]
  exact q H2 (g1.trans g2)
def maskOf (s : List Nat) : Nat := s.foldl (fun m a => m ||| 2 ^ a) 0
theorem maskOf_next {s : List Nat} {i a : Nat} (h : s[i]? = some a) : maskOf (s.take (i + 1)) = maskOf (s.take i) ||| 2 ^ a := by
  unfold maskOf
  rw [List.take_add_one, h, List.foldl_append] <;> rfl
def sp_mask_of : Sp := fun vs H Q _ => ∃ (a : Addr) (s : List Nat), vs = [.ref a] ∧ AgesAt H a s ∧ OkS s ∧ Q (iN (maskOf s)) H
abbrev nm_mask_of : List Str := ["ages", "found", "age", "bit", "turn"]
theorem sc_mask_of : FnScope nm_mask_of ["ages"] (defScope s_mask_of) := ⟨rfl, rfl, rfl, by decide +kernel, rfl, by decide +kernel, by decide +kernel⟩
theorem c_mask_of {P : Program} {w : World} {K : PySem.W.Frag} {mg : Str → Option Value} {base : Heap} {tb : List (Addr × Str)} (T : Tx K mg base tb) : Cf P w K mg base 1 "mask_of" sp_mask_of := by
  obtain ⟨f, fd, F, hm⟩ := T.f_mask_of
  refine ⟨f, @mkR P w K mg base _ _ _ _ _ _ _ (sp_mask_of) 0 F sc_mask_of (fun _ _ _ _ _ _ us hl => match us, hl with | [_], _ => rfl) (fun vs H Q E h => by obtain ⟨a, s, rfl, ha, ok, q⟩ := h; rfl) (fun cdv A outer s H vs Q E hr h => ⟨_, (pss_cons (ps_set (i := 1) sc_mask_of.nd rfl (Or.inl rfl) pe_int)
      (pss_cons (ps_for PassesOwn.never rfl (pi_tup (pv 0)) (pg_name (i := 2) sc_mask_of.nd rfl (Or.inl rfl))
      (pss_cons (ps_set (i := 3) sc_mask_of.nd rfl (Or.inl rfl) pe_int)
      (pss_cons (ps_for PassesOwn.never rfl (pi_range1 (by rfl) T.n_range (pa_cons (pv 2) pa_nil)) (pg_name (i := 4) sc_mask_of.nd rfl (Or.inl rfl))
      (pss_one (ps_set (i := 3) sc_mask_of.nd rfl (Or.inl rfl) (pe_op op_mul (pv 3) pe_int))))
      (pss_one (ps_set (i := 1) sc_mask_of.nd rfl (Or.inl rfl) (pe_op op_or (pv 1) (pv 3)))))))
      (pss_one (ps_ret (pv 1))))), ?_⟩), hm, F.kp⟩
  obtain ⟨a, s, rfl, ha, ok, q⟩ := h
  refine ⟨_, rfl, _, rfl, ⟨_, SqT.of ha⟩, for_tup (xs := s.map fun n => iN n) (fun i σ H' => H' = H ∧ ∃ x y z, σ = [some (.ref a), some (iN (maskOf (s.take i))), x, y, z]) ⟨rfl, _, _, _, rfl⟩ ?_ ?_ ?_⟩
  · rintro i σ H' hi ⟨rfl, _⟩
    exact SqT.of ha
  · rintro i v σ H' hv ⟨rfl, x, y, z, rfl⟩
    obtain ⟨n, hn, rfl⟩ := map_at hv
    have n8 := ok.2.2 n (List.mem_of_getElem? hn)
    refine ⟨_, rfl, _, rfl, (r62 (n := n) (by omega)).1, (r62 (by omega)).2, for_range (lo := 0) (n := (n : Int).toNat) (fun j σ H2 => H2 = H' ∧ ∃ z, σ = [some (.ref a), some (iN (maskOf (s.take i))), some (iN n), some (iN (2 ^ j)), z]) ⟨rfl, _, rfl⟩ ?_ ?_⟩
    · rintro j σ H2 hj ⟨rfl, z, rfl⟩
      exact ⟨_, rfl, _, _, rfl, rfl, .inr ⟨by decide, by decide⟩, rfl, some (.int (0 + (j : Nat))), congrArg (fun z => [some (V.ref a), some (iN (maskOf (s.take i))), some (iN n), some (V.int z), some (V.int (0 + (j : Nat)))]) (p2s j)⟩
    · rintro σ H2 ⟨rfl, z, rfl⟩
      refine ⟨_, rfl, _, rfl, _, _, rfl, rfl, rfl, some (iN n), some (iN (2 ^ (n : Int).toNat)), z, ?_⟩
      · exact congrArg (fun w => [some (V.ref a), some w, some (iN n), some (iN (2 ^ (n : Int).toNat)), z]) (show V.int (Builtin.bitOr _ _) = _ by rw [boN, maskOf_next hn] <;> rfl)
  · rintro σ H' ⟨rfl, x, y, z, rfl⟩
    rw [List.take_of_length_le (by rw [mtup]; exact Nat.le_refl _)]
    exact ⟨_, rfl, q⟩
def sp_Tick_masks (K : PySem.W.Frag) (tb : List (Addr × Str)) : Sp := fun vs H Q _ => ∃ (t : Addr) (k : Tk), vs = [.ref t] ∧ TickI K H t k ∧ OkT k ∧ ∀ p H', Gr tb H H' → H' p = some (.tup (k.1.map fun s => iN (maskOf s))) → Q (.ref p) H'
abbrev nm_Tick_masks : List Str := ["self", "ages"]
theorem sc_Tick_masks : FnScope nm_Tick_masks ["self"] (defScope s_Tick_masks) := ⟨rfl, rfl, rfl, by decide +kernel, rfl, by decide +kernel, by decide +kernel⟩
theorem c_Tick_masks {P : Program} {w : World} {K : PySem.W.Frag} {mg : Str → Option Value} {base : Heap} {tb : List (Addr × Str)} (T : Tx K mg base tb) : Pf P w K mg base 2 (He.ga K "Tick") "masks" (sp_Tick_masks K tb) := by
  obtain ⟨p, f, fd, F, hp⟩ := T.f_Tick_masks
  refine ⟨p, f, T.cl_Tick, hp, @mkR P w K mg base _ _ _ _ _ _ _ (sp_Tick_masks K tb) 1 F sc_Tick_masks (fun _ _ _ _ _ _ us hl => match us, hl with | [_], _ => rfl) (fun vs H Q E h => by obtain ⟨t, k, rfl, ⟨dx, sa, ht, ts, e, hs, hts⟩, ok, q⟩ := h; rfl) (fun cdv A outer s H vs Q E hr h => ⟨_, (pss_one (ps_ret (pe_callTy call_tupQ (by rfl) T.n_tuple (by decide +kernel) (pa_cons (pe_lc (own := [("ages", 1)]) (g := gName 1) (tt := tYes) rfl sc_Tick_masks.nd (pi_tup (pe_fld (pv 0) rfl)) (blkOk_by (own := [("ages", 1)]) (N := nm_Tick_masks) (sc := defScope s_Tick_masks) (by decide +kernel)) (fun _ _ _ _ _ => pg_name (i := 1) sc_Tick_masks.nd rfl (Or.inl rfl)) (fun _ _ _ _ _ => pts_nil) (fun _ _ _ _ _ => (pe_cR (c_mask_of (K := K) T) hr (by decide) rfl (pa_cons (pv 1) pa_nil)))) pa_nil)))), ?_⟩)⟩
  obtain ⟨t, k, rfl, ⟨dx, sa, ht, ts, e, hs, hts⟩, ok, q⟩ := h
  have hlen : ts.length ≤ 4 := by have := ok.2.2.1; rw [← e, List.length_map] at this; exact this
  refine ⟨_, rfl, _, _, _, _, _, rfl, ht, T.cl_Tick, T.na_Tick_sums, rfl, sa, rfl, ⟨_, SqT.of hs⟩, fun D nD => ?_⟩
  refine lcV walk_tup tb nD (by rw [mtup]; omega) (fun i acc => acc = (k.1.take i).map fun s => iN (maskOf s)) rfl (fun H1 g => SqT.of (g.at hs)) ?_ ?_
  · rintro i x H1 H2 acc K1 K2 hi rfl g ⟨rfl, hx⟩ k1 _
    obtain ⟨n, hn, rfl⟩ := map_at hx
    have hm := List.mem_of_getElem? hn
    have hk : k.1[i]? = some n.2 := by rw [← e, List.getElem?_map, hn] <;> rfl
    refine ⟨rfl, _, rfl, n.1, n.2, rfl, (hts n hm).gr g, ok.1 _ (List.mem_of_getElem? hk), k1 _ _ (Gr.refl _) ?_⟩
    rw [List.take_add_one, hk, List.map_append] <;> rfl
  rintro H1 acc g1 hD rfl
  rw [List.take_of_length_le (by rw [mtup, ← e, List.length_map]; exact Nat.le_refl _)] at hD
  exact ⟨_, _, rfl, .inl ⟨SqL.of hD, fun l nl => q l _ (g1.trans (Gr.new nl)) upd_same⟩⟩
def tkAt (ks : List Tk) (n : Nat) : Tk := ks.getD (n % ks.length) ([], false)
def sp_Plan_tick_at (K : PySem.W.Frag) : Sp := fun vs H Q _ => ∃ (p : Addr) (n : Nat) (ks : List Tk), vs = [.ref p, iN n] ∧ PlanI K H p ks ∧ ks ≠ [] ∧ ∀ t, TickI K H t (tkAt ks n) → Q (.ref t) H
abbrev nm_Plan_tick_at : List Str := ["self", "number"]
theorem sc_Plan_tick_at : FnScope nm_Plan_tick_at ["self", "number"] (defScope s_Plan_tick_at) := ⟨rfl, rfl, rfl, by decide +kernel, rfl, by decide +kernel, by decide +kernel⟩
theorem c_Plan_tick_at {P : Program} {w : World} {K : PySem.W.Frag} {mg : Str → Option Value} {base : Heap} {tb : List (Addr × Str)} (T : Tx K mg base tb) : Mf P w K mg base 2 (He.ga K "Plan") "tick_at" (sp_Plan_tick_at K) := by
  obtain ⟨f, fd, F, hm⟩ := T.f_Plan_tick_at
  refine ⟨f, T.cl_Plan, hm, @mkR P w K mg base _ _ _ _ _ _ _ (sp_Plan_tick_at K) 1 F sc_Plan_tick_at (fun _ _ _ _ _ _ us hl => match us, hl with | [_, _], _ => rfl) (fun vs H Q E h => by obtain ⟨p, n, ks, rfl, ⟨dx, ta, hp, ts, rfl, hs, hts⟩, hne, q⟩ := h; rfl) (fun cdv A outer s H vs Q E hr h => ⟨_, (pss_cons (ps_if (PW.pt (pw_or (pt_not (pt_val (pe_cR (c_is_integer (K := K) T) hr (by decide) rfl (pa_cons (pv 1) pa_nil)))) (pw_or1 (pt_cmpR op_lt (pv 1) pe_int (nomark _))))) (pss_one ps_never) pss_nil)
      (pss_one (ps_ret (pe_ix ix_tup (pe_fld (pv 0) rfl) (pe_op op_mod (pe_callTy call_int1 (by rfl) T.n_int (by decide +kernel) (pa_cons (pv 1) pa_nil)) (pe_callB call_lenQ (by rfl) T.n_len (by decide +kernel) (pa_cons (pe_fld (pv 0) rfl) pa_nil))) (fun _ _ => rfl))))), ?_⟩)⟩
  obtain ⟨p, n, ks, rfl, ⟨dx, ta, hp, ts, rfl, hs, hts⟩, hne, q⟩ := h
  have hl : 0 < ts.length := List.length_pos_iff.mpr fun z => hne (by rw [z] <;> rfl)
  have hmod : n % ts.length < ts.length := Nat.mod_lt _ hl
  refine ⟨_, rfl, (n : Int), rfl, _, rfl, ?_⟩
  refine ⟨_, rfl, _, _, rfl, rfl, _, rfl, ?_⟩
  rw [decide_eq_false (show ¬ ((n : Int) < 0) by omega)]
  refine iteF ⟨_, rfl, _, _, _, _, _, rfl, hp, T.cl_Plan, T.na_Plan_own_ticks, rfl, _, rfl, .inl ⟨_, rfl, ?_⟩⟩
  have hg : ts[n % ts.length]? = some ts[n % ts.length] := List.getElem?_eq_getElem hmod
  refine ⟨_, rfl, _, _, _, _, _, rfl, hp, T.cl_Plan, T.na_Plan_own_ticks, rfl, _, _, rfl, .inr (SqT.of hs), _, _, rfl, rfl, ?_, ta, _, _, .ref ts[n % ts.length].1, rfl, rfl, SqT.of hs, ?_, ?_⟩
  · rw [mtup]
    omega
  · rw [mtup, ← Int.natCast_emod]
    exact atI_nat (by rw [List.getElem?_map, hg] <;> rfl)
  · refine q _ ?_
    have h2 := hts _ (List.mem_of_getElem? hg)
    have e2 : tkAt (ts.map (·.2)) n = ts[n % ts.length].2 := by
      unfold tkAt
      rw [List.length_map, List.getD_eq_getElem?_getD, List.getElem?_map, hg] <;> rfl
    rw [e2]
    exact h2
theorem fold_max : ∀ (l : List Nat) (a m : Nat), (m = a ∨ m ∈ l) → a ≤ m → (∀ x ∈ l, x ≤ m) → l.foldl max a = m
  | [], a, m, h, _, _ => by
    rcases h with h | h
    · exact h.symm
    · cases h
  | x :: l, a, m, h, ha, hl => by
    have hx := hl x List.mem_cons_self
    have e : ∀ b, (x :: l).foldl max b = l.foldl max (max b x) := fun _ => rfl
    rw [e]
    refine fold_max l (max a x) m ?_ (by omega) fun y hy => hl y (List.mem_cons_of_mem _ hy)
    rcases h with h | h
    · exact .inl (by omega)
    · rcases List.mem_cons.mp h with h | h
      · exact .inl (by omega)
      · exact .inr h
theorem max_cast {ns : List Nat} {m : Int} (h : m ∈ ns.map fun n : Nat => (n : Int)) (h2 : ∀ y ∈ ns.map (fun n : Nat => (n : Int)), y ≤ m) : m = ((ns.foldl max 0 : Nat) : Int) := by
  obtain ⟨n, hn, rfl⟩ := List.mem_map.mp h
  rw [fold_max ns 0 n (.inr hn) (Nat.zero_le _) fun x hx => by
    have := h2 _ (List.mem_map_of_mem hx)
    omega]
theorem last_at {s : List Nat} (h : s ≠ []) : atI (s.map fun n => iN n) (-1) = some (iN (s.getLastD 0)) := by
  have e : s = s.dropLast ++ [s.getLastD 0] := by
    rw [List.getLastD_eq_getLast?, List.getLast?_eq_some_getLast h]
    exact (List.dropLast_concat_getLast h).symm
  have e2 : (s.map fun n => iN n) = (s.dropLast.map fun n => iN n) ++ [iN (s.getLastD 0)] := by
    conv => lhs; rw [e]
    rw [List.map_append] <;> rfl
  rw [e2]
  exact atI_last _ _
def ageT (k : Tk) : Nat := (k.1.map fun s => s.getLastD 0).foldl max 0
def ageP (ks : List Tk) : Nat := (ks.map ageT).foldl max 0
def sp_Tick_ages (K : PySem.W.Frag) (tb : List (Addr × Str)) : Sp := fun vs H Q _ => ∃ (t : Addr) (k : Tk), vs = [.ref t] ∧ TickI K H t k ∧ OkT k ∧ ∀ H', Gr tb H H' → Q (iN (ageT k)) H'
abbrev nm_Tick_ages : List Str := ["self", "ages"]
theorem sc_Tick_ages : FnScope nm_Tick_ages ["self"] (defScope s_Tick_ages) := ⟨rfl, rfl, rfl, by decide +kernel, rfl, by decide +kernel, by decide +kernel⟩
theorem c_Tick_ages {P : Program} {w : World} {K : PySem.W.Frag} {mg : Str → Option Value} {base : Heap} {tb : List (Addr × Str)} (T : Tx K mg base tb) : Pf P w K mg base 1 (He.ga K "Tick") "ages" (sp_Tick_ages K tb) := by
  obtain ⟨p, f, fd, F, hp⟩ := T.f_Tick_ages
  refine ⟨p, f, T.cl_Tick, hp, @mkR P w K mg base _ _ _ _ _ _ _ (sp_Tick_ages K tb) 0 F sc_Tick_ages (fun _ _ _ _ _ _ us hl => match us, hl with | [_], _ => rfl) (fun vs H Q E h => by obtain ⟨t, k, rfl, ⟨dx, sa, ht, ts, e, hs, hts⟩, ok, q⟩ := h; rfl) (fun cdv A outer s H vs Q E hr h => ⟨_, (pss_one (ps_ret (pe_callB (cr_max rfl) (by rfl) T.n_max (by decide +kernel) (pa_cons (pe_lst (pa_cons pe_int (StX.pa_star (pe_lc (own := [("ages", 1)]) (g := gName 1) (tt := tYes) rfl sc_Tick_ages.nd (pi_tup (pe_fld (pv 0) rfl)) (blkOk_by (own := [("ages", 1)]) (N := nm_Tick_ages) (sc := defScope s_Tick_ages) (by decide +kernel)) (fun _ _ _ _ _ => pg_name (i := 1) sc_Tick_ages.nd rfl (Or.inl rfl)) (fun _ _ _ _ _ => pts_nil) (fun _ _ _ _ _ => (pe_callTy call_int1 (by rfl) T.n_int (by decide +kernel) (pa_cons (pe_ix (show IxR _ (rIxT K) from ix_tup) (pv 1) (pe_un un_neg pe_int) (fun _ _ => rfl)) pa_nil)))) pa_nil))) pa_nil)))), ?_⟩)⟩
  obtain ⟨t, k, rfl, ⟨dx, sa, ht, ts, e, hs, hts⟩, ok, q⟩ := h
  have hlen : ts.length ≤ 4 := by have := ok.2.2.1; rw [← e, List.length_map] at this; exact this
  refine ⟨_, rfl, _, _, _, _, _, rfl, ht, T.cl_Tick, T.na_Tick_sums, rfl, sa, rfl, ⟨_, SqT.of hs⟩, fun D nD => ?_⟩
  refine lcV walk_tup tb nD (by rw [mtup]; omega) (fun i acc => acc = (k.1.take i).map fun s => iN (s.getLastD 0)) rfl (fun H1 g => SqT.of (g.at hs)) ?_ ?_
  · rintro i x H1 H2 acc K1 K2 hi rfl g ⟨rfl, hx⟩ k1 _
    obtain ⟨n, hn, rfl⟩ := map_at hx
    have hm := List.mem_of_getElem? hn
    have hk : k.1[i]? = some n.2 := by rw [← e, List.getElem?_map, hn] <;> rfl
    refine ⟨rfl, _, rfl, _, rfl, n.1, _, _, _, rfl, rfl, SqT.of ((hts n hm).gr g), last_at (ok.1 _ (List.mem_of_getElem? hk)).1, .inl ⟨_, rfl, k1 _ _ (Gr.refl _) ?_⟩⟩
    rw [List.take_add_one, hk, List.map_append] <;> rfl
  rintro H1 acc g1 hD rfl
  rw [List.take_of_length_le (by rw [mtup, ← e, List.length_map]; exact Nat.le_refl _)] at hD
  have hk4 := ok.2.2.1
  refine ⟨D, _, rfl, .inr (SqL.of hD), ?_, fun p np => ?_⟩
  · refine z1000 ?_
    simp
    omega
  · refine ⟨p, (0 :: k.1.map fun s => s.getLastD 0).map fun n : Nat => (n : Int), rfl, SqL.of ?_, Nat.succ_pos _, fun m h1 h2 => ?_⟩
    · rw [upd_same] <;> simp
    · rw [max_cast h1 h2]
      exact q _ (g1.trans (Gr.new np))
def sp_Plan_ages (K : PySem.W.Frag) (tb : List (Addr × Str)) : Sp := fun vs H Q _ => ∃ (p : Addr) (ks : List Tk), vs = [.ref p] ∧ PlanI K H p ks ∧ OkP ks ∧ ∀ H', Gr tb H H' → Q (iN (ageP ks)) H'
abbrev nm_Plan_ages : List Str := ["self", "tick"]
theorem sc_Plan_ages : FnScope nm_Plan_ages ["self"] (defScope s_Plan_ages) := ⟨rfl, rfl, rfl, by decide +kernel, rfl, by decide +kernel, by decide +kernel⟩
theorem c_Plan_ages {P : Program} {w : World} {K : PySem.W.Frag} {mg : Str → Option Value} {base : Heap} {tb : List (Addr × Str)} (T : Tx K mg base tb) : Pf P w K mg base 3 (He.ga K "Plan") "ages" (sp_Plan_ages K tb) := by
  obtain ⟨p, f, fd, F, hp⟩ := T.f_Plan_ages
  refine ⟨p, f, T.cl_Plan, hp, @mkR P w K mg base _ _ _ _ _ _ _ (sp_Plan_ages K tb) 2 F sc_Plan_ages (fun _ _ _ _ _ _ us hl => match us, hl with | [_], _ => rfl) (fun vs H Q E h => by obtain ⟨p, ks, rfl, ⟨dx, ta, hp, ts, rfl, hs, hts⟩, ok, q⟩ := h; rfl) (fun cdv A outer s H vs Q E hr h => ⟨_, (pss_one (ps_ret (pe_callB (cr_max rfl) (by rfl) T.n_max (by decide +kernel) (pa_cons (pe_lc (own := [("tick", 1)]) (g := gName 1) (tt := tYes) rfl sc_Plan_ages.nd (pi_tup (pe_fld (pv 0) rfl)) (blkOk_by (own := [("tick", 1)]) (N := nm_Plan_ages) (sc := defScope s_Plan_ages) (by decide +kernel)) (fun _ _ _ _ _ => pg_name (i := 1) sc_Plan_ages.nd rfl (Or.inl rfl)) (fun _ _ _ _ _ => pts_nil) (fun _ _ _ _ _ => (pe_callTy call_int1 (by rfl) T.n_int (by decide +kernel) (pa_cons (pe_pR (c_Tick_ages (K := K) T) hr (by decide) (pv 1) (by rfl)) pa_nil)))) pa_nil)))), ?_⟩)⟩
  obtain ⟨p, ks, rfl, ⟨dx, ta, hp, ts, rfl, hs, hts⟩, ok, q⟩ := h
  have hlen : ts.length ≤ 4 := by have := ok.2.1; rw [List.length_map] at this; exact this
  have hpos : 0 < ts.length := List.length_pos_iff.mpr fun z => ok.1 (by rw [z] <;> rfl)
  refine ⟨_, rfl, _, _, _, _, _, rfl, hp, T.cl_Plan, T.na_Plan_own_ticks, rfl, ta, rfl, ⟨_, SqT.of hs⟩, fun D nD => ?_⟩
  refine lcV walk_tup tb nD (by rw [mtup]; omega) (fun i acc => acc = (ts.take i).map fun t => iN (ageT t.2)) rfl (fun H1 g => SqT.of (g.at hs)) ?_ ?_
  · rintro i x H1 H2 acc K1 K2 hi rfl g ⟨rfl, hx⟩ k1 _
    obtain ⟨n, hn, rfl⟩ := map_at hx
    have hm := List.mem_of_getElem? hn
    have htk := (hts n hm).gr g
    obtain ⟨d, sa, e1, e2⟩ := id htk
    refine ⟨rfl, _, rfl, n.1, d, _, rfl, e1, n.1, n.2, rfl, htk, ok.2.2 _ (List.mem_map_of_mem hm), fun H3 g3 => .inl ⟨_, rfl, k1 _ _ g3 ?_⟩⟩
    rw [List.take_add_one, hn, List.map_append] <;> rfl
  rintro H1 acc g1 hD rfl
  rw [List.take_of_length_le (by rw [mtup]; exact Nat.le_refl _)] at hD
  refine ⟨D, (ts.map fun t => ageT t.2).map fun n : Nat => (n : Int), rfl, SqL.of ?_, ?_, fun m h1 h2 => ?_⟩
  · rw [hD] <;> simp
  · simpa using hpos
  · rw [max_cast h1 h2]
    refine ev ?_ (q _ g1)
    unfold ageP
    rw [List.map_map] <;> rfl
def sp_Plan_init (K : PySem.W.Frag) (tb : List (Addr × Str)) : Sp := fun vs H Q _ => ∃ (x ta C dx : Addr) (ks : List Tk), vs = [.ref x, .ref ta] ∧ H x = some (.ins C dx []) ∧ C = He.ga K "Plan" ∧ TupOf (TickI K) H ta ks ∧ OkP ks ∧ ∀ H', Gw tb x H H' → H' x = some (.ins C dx [("own_ticks", .ref ta)]) → Q .non H'
abbrev nm_Plan_init : List Str := ["self", "ticks", "at", "tick"]
theorem sc_Plan_init : FnScope nm_Plan_init ["self", "ticks"] (defScope s_Plan_init) := ⟨rfl, rfl, rfl, by decide +kernel, rfl, by decide +kernel, by decide +kernel⟩
theorem c_Plan {P : Program} {w : World} {K : PySem.W.Frag} {mg : Str → Option Value} {base : Heap} {tb : List (Addr × Str)} (T : Tx K mg base tb) : Kf P w K mg base 1 "Plan" (He.ga K "Plan") (spS1 (sp_Plan_init K tb)) := by
  obtain ⟨f, fd, F, hm⟩ := T.f_Plan_init
  refine ⟨f, hm, @mkS P w K mg base _ _ _ _ _ _ _ _ (sp_Plan_init K tb) 0 F sc_Plan_init (fun _ _ _ _ _ _ => StX.bind_star1 (B := fun l => bindArgs _ ⟨l, []⟩) (fun _ => rfl) (fun _ _ _ => rfl)) (fun cdv A outer s H vs Q E hr h => ⟨_, (pss_cons (ps_for PassesOwn.never rfl (pi_enumT (by rfl) T.n_enumerate (pa_cons (pv 1) pa_nil)) (pg_tup rfl (pgs_cons (pg_name (i := 2) sc_Plan_init.nd rfl (Or.inl rfl)) (pgs_cons (pg_name (i := 3) sc_Plan_init.nd rfl (Or.inl rfl)) pgs_nil)))
      (pss_one (ps_if (pt_not (pt_val (pe_callB (C8.call_isC T.i_Tick) (by rfl) T.n_isinstance (by decide +kernel) (pa_cons (pv 3) (pa_cons (pe_glob (v := .ref (He.ga K "Tick")) rfl T.g_Tick rfl) pa_nil))))) (pss_one ps_never) pss_nil)))
      (pss_cons (ps_if (pt_cmpR op_eq (pe_callB call_lenQ (by rfl) T.n_len (by decide +kernel) (pa_cons (pv 1) pa_nil)) pe_int (nomark _)) (pss_one ps_never) pss_nil)
      (pss_cons (ps_if (pt_cmpR op_gt (pe_callB call_lenQ (by rfl) T.n_len (by decide +kernel) (pa_cons (pv 1) pa_nil)) (pe_glob (v := .int 6) rfl T.g_MOST_PHASES.choose_spec ⟨_, rfl⟩) (nomark _)) (pss_one ps_never) pss_nil)
      (pss_one (ps_fld (pv 0) (pe_callTy call_tupQ (by rfl) T.n_tuple (by decide +kernel) (pa_cons (pv 1) pa_nil)) rfl))))), ?_⟩), T.g_Plan⟩
  obtain ⟨x, ta, C, dx, ks, rfl, hx, rfl, ⟨ts, rfl, hs, hts⟩, ok, q⟩ := h
  have hlen : ts.length ≤ 4 := by have := ok.2.1; rw [List.length_map] at this; exact this
  have hpos : ts.length ≠ 0 := fun z => ok.1 (by rw [List.length_eq_zero_iff.mp z] <;> rfl)
  refine ⟨_, rfl, ta, _, rfl, SqT.of hs, for_it walk_enumT (fun i σ H' => Gr tb H H' ∧ ∃ a b, σ = [some (.ref x), some (.ref ta), a, b]) ⟨Gr.refl _, _, _, rfl⟩ (fun i σ H' hi ⟨g, _⟩ => SqT.of (g.at hs)) ?_ ?_⟩
  · rintro i v σ H1 H2 hi ⟨g, a, b, rfl⟩ ⟨p, y, z, rfl, np, rfl, hy, hz⟩
    obtain ⟨n, hn, rfl⟩ := map_at hz
    injection hy with hy
    subst hy
    have g2 := g.trans (Gr.new (tb := tb) (o := .tup [.int (i : Nat), .ref n.1]) np)
    obtain ⟨d, sa, e1, e2⟩ := (hts n (List.mem_of_getElem? hn)).gr g2
    exact ⟨p, _, rfl, SqT.of upd_same, rfl, _, _, rfl, _, _, rfl, rfl, _, rfl, n.1, d, _, rfl, e1, _, rfl, g2, _, _, rfl⟩
  rintro σ H1 ⟨g, a, b, rfl⟩
  have hs1 := g.at hs
  refine ⟨_, rfl, _, _, rfl, .inr (SqT.of hs1), rfl, _, rfl, ?_⟩
  rw [mtup, neq0 hpos]
  refine iteF ⟨_, rfl, _, _, rfl, .inr (SqT.of hs1), _, _, rfl, rfl, _, rfl, ?_⟩
  rw [mtup, decide_eq_false (show ¬ ((6 : Int) < (ts.length : Nat)) by omega)]
  refine iteF ⟨_, rfl, _, _, rfl, .inr ⟨SqT.of hs1, ?_⟩⟩
  refine ⟨_, rfl, _, _, _, _, rfl, g.at hx, T.cl_Plan, T.na_Plan_own_ticks, (by decide : (0 : Nat) < 1000), q _ ?_ upd_same⟩
  exact (Gw.of g).trans (Gw.wr (g.at hx) rfl)
end B
end
section
set_option linter.all false
namespace B
open La
/-! ### known sums: what holds of all -/
structure JS (S : Nat) (P : List (Nat × Nat)) : Prop where
  desc : Desc (P.map (·.1))
  nz : ∀ p ∈ P, p.1 ≠ 0
  lt : ∀ p ∈ P, p.1 < 2 ^ (S + 1)
def olderL (S : Nat) (P : List (Nat × Nat)) : List (Nat × Nat) := (P.filter fun p => decide (p.1 * 2 < 2 ^ (S + 1))).map fun p => (p.1 * 2, p.2)
section
variable {S : Nat} {P : List (Nat × Nat)}
theorem JS.nz1 (j : JS S P) : ∀ o ∈ P.map (·.1), o ≠ 0 := fun o h => by
  obtain ⟨p, hp, rfl⟩ := List.mem_map.mp h
  exact j.nz p hp
theorem JS.lt1 (j : JS S P) : ∀ o ∈ P.map (·.1), o < 2 ^ (S + 1) := fun o h => by
  obtain ⟨p, hp, rfl⟩ := List.mem_map.mp h
  exact j.lt p hp
theorem JS.sm (j : JS S P) (h : S ≤ 59) : Sm P := fun p hp => ⟨j.nz p hp, Nat.lt_of_lt_of_le (j.lt p hp) (Nat.pow_le_pow_right (by decide) (by omega))⟩
theorem JS.len (j : JS S P) : P.length ≤ S + 1 := by
  have := j.desc.len (k := S + 1) fun o h => log2_lt_of (j.nz1 o h) (j.lt1 o h)
  rwa [List.length_map] at this
theorem withL_fst {b v : Nat} (h : (red P b v).1 ≠ 0) : ((withL P b v).map (·.1)).Perm ((P.map (·.1)).map (less (rb (P.map (·.1)) b)) ++ [rb (P.map (·.1)) b]) ∧ ((withL P b v).map (·.1)).Pairwise fun a b => b ≤ a := by
  unfold withL
  rw [if_neg h]
  refine ⟨?_, ?_⟩
  · refine ((List.mergeSort_perm _ _).map _).trans ?_
    rw [List.map_append, List.map_map, List.map_map, ← red_fst]
    refine (List.Perm.refl _).append_right _ |>.trans ?_
    have e : (fun x => x.1) ∘ lessp (red P b v) = less (red P b v).1 ∘ fun x => x.1 := by
      funext p
      show (lessp (red P b v) p).1 = less (red P b v).1 p.1
      unfold lessp less
      split <;> rfl
    rw [e]
    exact List.Perm.refl _
  · refine List.pairwise_map.mpr ?_
    have := List.pairwise_mergeSort (le := leP) (fun a b c h1 h2 => by unfold leP at *; simp at *; omega) (fun a b => by unfold leP; simp; omega) (P.map (lessp (red P b v)) ++ [red P b v])
    exact this.imp fun h => by unfold leP at h; simpa using h
theorem JS.with (j : JS S P) {b v : Nat} (hb : b < 2 ^ (S + 1)) : JS S (withL P b v) := by
  by_cases h : (red P b v).1 = 0
  · unfold withL
    rw [if_pos h]
    exact j
  · obtain ⟨h1, h2⟩ := withL_fst h
    rw [red_fst] at h
    obtain ⟨h3, h4⟩ := with_desc j.desc j.nz1 h h1 h2
    have h5 := with_lt j.lt1 hb h1
    exact ⟨h3, fun p hp => h4 _ (List.mem_map_of_mem hp), fun p hp => h5 _ (List.mem_map_of_mem hp)⟩
theorem JS.older (j : JS S P) : JS S (olderL S P) := by
  unfold olderL
  refine ⟨?_, ?_, ?_⟩
  · rw [List.map_map]
    refine List.pairwise_map.mpr ?_
    have h1 : P.Pairwise fun a b => b.1.log2 < a.1.log2 := List.pairwise_map.mp j.desc
    refine (List.Pairwise.imp_of_mem (R := fun a b => b.1.log2 < a.1.log2) ?_ (h1.filter _))
    intro a b ha hb h
    have a0 := j.nz a (List.mem_filter.mp ha).1
    have b0 := j.nz b (List.mem_filter.mp hb).1
    show (b.1 * 2).log2 < (a.1 * 2).log2
    rw [Nat.mul_comm b.1, Nat.mul_comm a.1, log2_dbl a0, log2_dbl b0]
    omega
  · intro p hp
    obtain ⟨q, hq, rfl⟩ := List.mem_map.mp hp
    have := j.nz q (List.mem_filter.mp hq).1
    show q.1 * 2 ≠ 0
    omega
  · intro p hp
    obtain ⟨q, hq, rfl⟩ := List.mem_map.mp hp
    exact of_decide_eq_true (List.mem_filter.mp hq).2
end
end B
end
section
set_option linter.all false
set_option maxRecDepth 100000
namespace B
open PySem PySem.Spec PyProof.Rows L2 La
theorem ev2 {Q : V → Hp → Prop} {x : V} {H H' : Hp} (e : H = H') (h : Q x H') : Q x H := by rw [e]; exact h
theorem ageT_le {k : Tk} (h : OkT k) : ageT k ≤ 8 := by
  have : ∀ (l : List Nat) (a : Nat), a ≤ 8 → (∀ x ∈ l, x ≤ 8) → l.foldl max a ≤ 8 := by
    intro l
    induction l with
    | nil => exact fun a ha _ => ha
    | cons x l ih => exact fun a ha hl => ih _ (by have := hl x List.mem_cons_self; omega) fun y hy => hl y (List.mem_cons_of_mem _ hy)
  refine this _ _ (by decide) fun x hx => ?_
  obtain ⟨s, hs, rfl⟩ := List.mem_map.mp hx
  have ok := h.1 s hs
  rw [List.getLastD_eq_getLast?, List.getLast?_eq_some_getLast ok.1]
  exact ok.2.2 _ (List.getLast_mem ok.1)
theorem ageP_le {ks : List Tk} (h : OkP ks) : ageP ks ≤ 8 := by
  have : ∀ (l : List Nat) (a : Nat), a ≤ 8 → (∀ x ∈ l, x ≤ 8) → l.foldl max a ≤ 8 := by
    intro l
    induction l with
    | nil => exact fun a ha _ => ha
    | cons x l ih => exact fun a ha hl => ih _ (by have := hl x List.mem_cons_self; omega) fun y hy => hl y (List.mem_cons_of_mem _ hy)
  refine this _ _ (by decide) fun x hx => ?_
  obtain ⟨k, hk, rfl⟩ := List.mem_map.mp hx
  exact ageT_le (h.2.2 k hk)
def sp_Known_older (K : PySem.W.Frag) (tb : List (Addr × Str)) : Sp := fun vs H Q _ => ∃ (k : Addr) (S : Nat) (P : List (Nat × Nat)), vs = [.ref k, iN S] ∧ KI K H k P ∧ S ≤ 59 ∧ P.length ≤ 100 ∧ ∀ k' H', Gr tb H H' → KI K H' k' (olderL S P) → Q (.ref k') H'
abbrev nm_Known_older : List Str := ["self", "most", "end", "own", "held"]
theorem sc_Known_older : FnScope nm_Known_older ["self", "most"] (defScope s_Known_older) := ⟨rfl, rfl, rfl, by decide +kernel, rfl, by decide +kernel, by decide +kernel⟩
theorem c_Known_older {P : Program} {w : World} {K : PySem.W.Frag} {mg : Str → Option Value} {base : Heap} {tb : List (Addr × Str)} (T : Tx K mg base tb) : Mf P w K mg base 3 (He.ga K "Known") "older" (sp_Known_older K tb) := by
  obtain ⟨f, fd, F, hm⟩ := T.f_Known_older
  refine ⟨f, T.cl_Known, hm, @mkR P w K mg base _ _ _ _ _ _ _ (sp_Known_older K tb) 2 F sc_Known_older (fun _ _ _ _ _ _ us hl => match us, hl with | [_, _], _ => rfl) (fun vs H Q E h => by obtain ⟨k, S, P', rfl, ⟨dx, l, hk, ts, rfl, hl, ht⟩, hS, hlen, q⟩ := h; rfl) (fun cdv A outer s H vs Q E hr h => ⟨_, (pss_cons (ps_set (i := 2) sc_Known_older.nd rfl (Or.inr rfl) (pe_cR (c_power (K := K) T) hr (by decide) rfl (pa_cons (pe_op op_add (pv 1) pe_int) pa_nil)))
      (pss_one (ps_ret (pe_kR (c_Known (K := K) T) hr (by decide) rfl (pa_cons (pe_lc (own := [("own", 3), ("held", 4)]) (g := gTup K 2 (gCons (gName 3) (gCons (gName 4) gNil))) rfl sc_Known_older.nd (pi_list (pe_fld (pv 0) rfl)) (blkOk_by (own := [("own", 3), ("held", 4)]) (N := nm_Known_older) (sc := defScope s_Known_older) (by decide +kernel)) (fun _ _ _ _ _ => (pg_tup rfl (pgs_cons (pg_name (i := 3) sc_Known_older.nd rfl (Or.inl rfl)) (pgs_cons (pg_name (i := 4) sc_Known_older.nd rfl (Or.inl rfl)) pgs_nil)))) (fun _ _ _ _ _ => pts_one (pt_cmpR op_lt (pe_op op_mul (pv 3) pe_int) (pv 2) (nomark _))) (fun _ _ _ _ _ => (pe_tup (pa_cons (pe_op op_mul (pv 3) pe_int) (pa_cons (pv 4) pa_nil))))) pa_nil))))), ?_⟩)⟩
  obtain ⟨k, S, P', rfl, ⟨dx, l, hk, ts, rfl, hl, ht⟩, hS, hlen, q⟩ := h
  have hlen' : ts.length ≤ 100 := by rw [List.length_map] at hlen; exact hlen
  refine ⟨_, rfl, _, _, rfl, rfl, S + 1, rfl, by omega, ?_⟩
  refine ⟨_, rfl, _, _, _, _, _, rfl, hk, T.cl_Known, T.na_Known_pairs, rfl, l, rfl, ⟨_, SqL.of hl⟩, fun D nD => ?_⟩
  refine lcT walk_list tb nD (by rw [mtup]; omega) (fun i acc => acc = olderL S ((ts.map (·.2)).take i)) rfl (fun H1 g => SqL.of (g.at hl)) ?_ ?_
  · rintro i x H1 H2 acc K1 K2 hi e g ⟨rfl, hx⟩ k1 k2
    obtain ⟨t, hi, rfl⟩ := map_at hx
    have hm := List.mem_of_getElem? hi
    have ht' : (ts.map (·.2))[i]? = some t.2 := by rw [List.getElem?_map, hi] <;> rfl
    have e2 : olderL S ((ts.map (·.2)).take (i + 1)) = olderL S ((ts.map (·.2)).take i) ++ if t.2.1 * 2 < 2 ^ (S + 1) then [(t.2.1 * 2, t.2.2)] else [] := by
      unfold olderL
      rw [List.take_add_one, ht', List.filter_append, List.map_append]
      by_cases h : t.2.1 * 2 < 2 ^ (S + 1)
      · rw [if_pos h]; simp [h]
      · rw [if_neg h]; simp [h]
    refine ⟨_, _, rfl, SqT.of (g.at (ht t hm)), rfl, _, _, rfl, _, _, rfl, rfl, rfl, ?_⟩
    refine ⟨_, rfl, _, _, rfl, rfl, .inr ⟨by decide, by decide⟩, _, rfl, _, _, rfl, rfl, _, rfl, ?_⟩
    refine ite2 (fun h => ?_) fun h => ?_
    · have h' : t.2.1 * 2 < 2 ^ (S + 1) := by have := of_decide_eq_true h; omega
      refine ⟨_, rfl, _, _, rfl, rfl, .inr ⟨by decide, by decide⟩, _, rfl, z2, fun p np => ?_⟩
      refine ev2 ?_ (k1 p (t.2.1 * 2) t.2.2 H2 (Gr.refl _) np (by rw [e, e2, if_pos h']))
      exact congrArg (fun z => upd H2 p (.tup [V.int z, iN t.2.2])) (Int.natCast_mul _ _).symm
    · have h' : ¬ t.2.1 * 2 < 2 ^ (S + 1) := fun z => h (decide_eq_true (by omega))
      exact k2 H2 (Gr.refl _) (by rw [e, e2, if_neg h', List.append_nil])
  rintro H1 ts2 g1 pt e1
  intro x dx' nx ndx ne
  refine ⟨x, _, dx', _, rfl, upd_same, rfl, rfl, mk_fin (tb := tb) nx ndx fun H5 g5 e5 => ?_⟩
  refine q x H5 (g1.trans g5) ⟨dx', D, e5, (pt.pl ?_).gr g5⟩
  rw [e1, List.take_of_length_le (by rw [List.length_map, List.length_map]; exact Nat.le_refl _)]
/-! ### moments, packets, receivers -/
def kvT (told : List (Nat × Nat)) : List (Key × V) := told.map fun p => (Sum.inl (p.1 : Int), iN p.2)
def MomI (K : PySem.W.Frag) (H : Hp) (m : Addr) (N : Nat) (P told : List (Nat × Nat)) : Prop := ∃ dx k dd, H m = some (.ins (He.ga K "Moment") dx [("at_tick", .int ((N : Int) - 1)), ("sums", .ref k), ("rows", .ref dd)]) ∧ KI K H k P ∧ H dd = some (.dK (kvT told))
def PktI (K : PySem.W.Frag) (H : Hp) (p : Addr) (n : Nat) (vs : List Nat) : Prop := ∃ dx pa, H p = some (.ins (He.ga K "Packet") dx [("tick", iN n), ("parts", .ref pa)]) ∧ H pa = some (.tup (vs.map fun v => iN v))
/-- a receiver of the plan ks, that allows d, at tick N - 1 -/
def RcvI (K : PySem.W.Frag) (c : Nat) (H : Hp) (r : Addr) (ks : List Tk) (d N : Nat) (P told : List (Nat × Nat)) : Prop :=
  ∃ dx pl past ms m, H r = some (.ins (He.ga K "Receiver") dx [("plan", .ref pl), ("delay", iN d), ("own_past", .ref past)]) ∧ PlanI K H pl ks ∧ H past = some (.lst (ms ++ [V.ref m])) ∧ ms.length ≤ c ∧ MomI K H m N P told
structure OkR (ks : List Tk) (d N : Nat) (P told : List (Nat × Nat)) : Prop where
  p : OkP ks
  d8 : d ≤ 8
  js : JS (d + ageP ks) P
  nd : (told.map (·.1)).Nodup
  n4 : N ≤ 400
  lt : ∀ p ∈ told, p.1 < N
theorem MomI.gr {tb : List (Addr × Str)} {K : PySem.W.Frag} {H H' : Hp} {m : Addr} {N : Nat} {P told : List (Nat × Nat)} (h : MomI K H m N P told) (g : Gr tb H H') : MomI K H' m N P told := by
  obtain ⟨dx, k, dd, e, p, t⟩ := h
  exact ⟨dx, k, dd, g.at e, p.gr g, g.at t⟩
theorem PktI.gr {tb : List (Addr × Str)} {K : PySem.W.Frag} {H H' : Hp} {m : Addr} {N : Nat} {vs : List Nat} (h : PktI K H m N vs) (g : Gr tb H H') : PktI K H' m N vs := by
  obtain ⟨dx, pa, e, p⟩ := h
  exact ⟨dx, pa, g.at e, g.at p⟩
theorem RcvI.gr {tb : List (Addr × Str)} {K : PySem.W.Frag} {c : Nat} {H H' : Hp} {r : Addr} {ks : List Tk} {d N : Nat} {P told : List (Nat × Nat)} (h : RcvI K c H r ks d N P told) (g : Gr tb H H') : RcvI K c H' r ks d N P told := by
  obtain ⟨dx, pl, past, ms, m, e, p, hp, hl, hm⟩ := h
  exact ⟨dx, pl, past, ms, m, g.at e, p.gr g, g.at hp, hl, hm.gr g⟩
theorem tkAt_mem {ks : List Tk} (h : ks ≠ []) (n : Nat) : tkAt ks n ∈ ks := by
  have hl : n % ks.length < ks.length := Nat.mod_lt _ (List.length_pos_iff.mpr h)
  unfold tkAt
  rw [List.getD_eq_getElem?_getD, List.getElem?_eq_getElem hl]
  exact List.getElem_mem hl
def sp_Receiver_span (K : PySem.W.Frag) (tb : List (Addr × Str)) : Sp := fun vs H Q _ => ∃ (r dx pl : Addr) (fs : List (Str × V)) (d : Nat) (ks : List Tk), vs = [.ref r] ∧ H r = some (.ins (He.ga K "Receiver") dx fs) ∧ fs.lookup ("plan" : Str) = some (.ref pl) ∧ fs.lookup ("delay" : Str) = some (iN d) ∧ PlanI K H pl ks ∧ OkP ks ∧ ∀ H', Gr tb H H' → Q (iN (d + ageP ks)) H'
abbrev nm_Receiver_span : List Str := ["self"]
theorem sc_Receiver_span : FnScope nm_Receiver_span ["self"] (defScope s_Receiver_span) := ⟨rfl, rfl, rfl, by decide +kernel, rfl, by decide +kernel, by decide +kernel⟩
theorem c_Receiver_span {P : Program} {w : World} {K : PySem.W.Frag} {mg : Str → Option Value} {base : Heap} {tb : List (Addr × Str)} (T : Tx K mg base tb) : Mf P w K mg base 5 (He.ga K "Receiver") "span" (sp_Receiver_span K tb) := by
  obtain ⟨f, fd, F, hm⟩ := T.f_Receiver_span
  refine ⟨f, T.cl_Receiver, hm, @mkR P w K mg base _ _ _ _ _ _ _ (sp_Receiver_span K tb) 4 F sc_Receiver_span (fun _ _ _ _ _ _ us hl => match us, hl with | [_], _ => rfl) (fun vs H Q E h => by obtain ⟨r, dx, pl, fs, d, ks, rfl, hr', hp, hd, hpl, ok, q⟩ := h; rfl) (fun cdv A outer s H vs Q E hr h => ⟨_, (pss_one (ps_ret (pe_op op_add (pe_fld (pv 0) rfl) (pe_pR (c_Plan_ages (K := K) T) hr (by decide) (pe_fld (pv 0) rfl) (by rfl))))), ?_⟩)⟩
  obtain ⟨r, dx, pl, fs, d, ks, rfl, hr', hp, hd, hpl, ok, q⟩ := h
  obtain ⟨dx2, ta, e1, e2⟩ := id hpl
  exact ⟨_, rfl, _, _, _, _, _, rfl, hr', T.cl_Receiver, T.na_Receiver_delay, hd, _, rfl, _, _, _, _, _, rfl, hr', T.cl_Receiver, T.na_Receiver_plan, hp, pl, dx2, _, rfl, e1, pl, ks, rfl, hpl, ok, fun H' g => ⟨_, _, rfl, rfl, ev (congrArg V.int (Int.natCast_add _ _).symm) (q H' g)⟩⟩
def sp_Receiver_moment (K : PySem.W.Frag) : Sp := fun vs H Q _ => ∃ (r : Addr) (c d N : Nat) (ks : List Tk) (P told : List (Nat × Nat)), vs = [.ref r] ∧ RcvI K c H r ks d N P told ∧ ∀ m, MomI K H m N P told → Q (.ref m) H
abbrev nm_Receiver_moment : List Str := ["self"]
theorem sc_Receiver_moment : FnScope nm_Receiver_moment ["self"] (defScope s_Receiver_moment) := ⟨rfl, rfl, rfl, by decide +kernel, rfl, by decide +kernel, by decide +kernel⟩
theorem c_Receiver_moment {P : Program} {w : World} {K : PySem.W.Frag} {mg : Str → Option Value} {base : Heap} {tb : List (Addr × Str)} (T : Tx K mg base tb) : Mf P w K mg base 1 (He.ga K "Receiver") "moment" (sp_Receiver_moment K) := by
  obtain ⟨f, fd, F, hm⟩ := T.f_Receiver_moment
  refine ⟨f, T.cl_Receiver, hm, @mkR P w K mg base _ _ _ _ _ _ _ (sp_Receiver_moment K) 0 F sc_Receiver_moment (fun _ _ _ _ _ _ us hl => match us, hl with | [_], _ => rfl) (fun vs H Q E h => by obtain ⟨r, c, d, N, ks, P', told, rfl, ⟨dx, pl, past, ms, m, hr', hp, hpa, hl, hm'⟩, q⟩ := h; rfl) (fun cdv A outer s H vs Q E hr h => ⟨_, (pss_one (ps_ret (pe_ix ix_list (pe_fld (pv 0) rfl) (pe_un un_neg pe_int) (fun _ _ => rfl)))), ?_⟩)⟩
  obtain ⟨r, c, d, N, ks, P', told, rfl, ⟨dx, pl, past, ms, m, hr', hp, hpa, hl, hm'⟩, q⟩ := h
  exact ⟨_, rfl, _, _, _, _, _, rfl, hr', T.cl_Receiver, T.na_Receiver_own_past, rfl, _, rfl, past, _, _, _, rfl, rfl, SqL.of hpa, atI_last _ _, q m hm'⟩
def sp_Receiver_now (K : PySem.W.Frag) : Sp := fun vs H Q _ => ∃ (r : Addr) (c d N : Nat) (ks : List Tk) (P told : List (Nat × Nat)), vs = [.ref r] ∧ RcvI K c H r ks d N P told ∧ Q (.int ((N : Int) - 1)) H
abbrev nm_Receiver_now : List Str := ["self"]
theorem sc_Receiver_now : FnScope nm_Receiver_now ["self"] (defScope s_Receiver_now) := ⟨rfl, rfl, rfl, by decide +kernel, rfl, by decide +kernel, by decide +kernel⟩
theorem c_Receiver_now {P : Program} {w : World} {K : PySem.W.Frag} {mg : Str → Option Value} {base : Heap} {tb : List (Addr × Str)} (T : Tx K mg base tb) : Pf P w K mg base 1 (He.ga K "Receiver") "now" (sp_Receiver_now K) := by
  obtain ⟨p, f, fd, F, hp⟩ := T.f_Receiver_now
  refine ⟨p, f, T.cl_Receiver, hp, @mkR P w K mg base _ _ _ _ _ _ _ (sp_Receiver_now K) 0 F sc_Receiver_now (fun _ _ _ _ _ _ us hl => match us, hl with | [_], _ => rfl) (fun vs H Q E h => by obtain ⟨r, c, d, N, ks, P', told, rfl, ⟨dx, pl, past, ms, m, hr', hp, hpa, hl, ⟨dm, k, dd, em, ek, ed⟩⟩, q⟩ := h; rfl) (fun cdv A outer s H vs Q E hr h => ⟨_, (pss_one (ps_ret (pe_fld (pe_ix ix_list (pe_fld (pv 0) rfl) (pe_un un_neg pe_int) (fun _ _ => rfl)) rfl))), ?_⟩)⟩
  obtain ⟨r, c, d, N, ks, P', told, rfl, ⟨dx, pl, past, ms, m, hr', hp, hpa, hl, ⟨dm, k, dd, em, ek, ed⟩⟩, q⟩ := h
  exact ⟨_, rfl, _, _, _, _, _, rfl, hr', T.cl_Receiver, T.na_Receiver_own_past, rfl, _, rfl, past, _, _, _, rfl, rfl, SqL.of hpa, atI_last _ _, m, _, _, _, _, rfl, em, T.cl_Moment, T.na_Moment_at_tick, rfl, q⟩
/-! ### passing time -/
def stepL (ks : List Tk) (S n : Nat) (P : List (Nat × Nat)) : List (Nat × Nat) := if (tkAt ks n).2 = true then withL (olderL S P) 1 0 else olderL S P
def passL (ks : List Tk) (S : Nat) : Nat → Nat → List (Nat × Nat) → List (Nat × Nat)
  | _, 0, P => P
  | n, k + 1, P => passL ks S (n + 1) k (stepL ks S n P)
theorem JS.step {S n : Nat} {ks : List Tk} {P : List (Nat × Nat)} (j : JS S P) : JS S (stepL ks S n P) := by
  unfold stepL
  split
  · exact j.older.with (Nat.one_lt_two_pow (by omega))
  · exact j.older
theorem JS.pass {S : Nat} {ks : List Tk} : ∀ {k n : Nat} {P : List (Nat × Nat)}, JS S P → JS S (passL ks S n k P)
  | 0, _, _, j => j
  | k + 1, n, P, j => JS.pass (k := k) (n := n + 1) j.step
theorem passL_snoc {S : Nat} {ks : List Tk} : ∀ (k n : Nat) (P : List (Nat × Nat)), passL ks S n (k + 1) P = stepL ks S (n + k) (passL ks S n k P)
  | 0, n, P => rfl
  | k + 1, n, P => by
    show passL ks S (n + 1) (k + 1) (stepL ks S n P) = _
    rw [passL_snoc k (n + 1), show n + 1 + k = n + (k + 1) by omega]
    rfl
end B
end
section
set_option linter.all false
set_option maxRecDepth 100000
namespace B
open PySem PySem.Spec PyProof.Rows L2 La
theorem mk_mom {tb : List (Addr × Str)} {H : Hp} {C : Addr} {f1 f2 fs : List (Str × V)} {Q : V → Hp → Prop} {x dx : Addr} (nx : H x = none) (nd : H dx = none) (h : ∀ H', Gr tb H H' → H' x = some (.ins C dx fs) → Q (.ref x) H') :
    Q (.ref x) (upd (upd (upd (upd (upd H dx (.own x)) x (.ins C dx [])) x (.ins C dx f1)) x (.ins C dx f2)) x (.ins C dx fs)) :=
  h _ (Gr.made nx nd ((Gw.wr upd_same rfl).trans ((Gw.wr upd_same rfl).trans (Gw.wr upd_same rfl)))) upd_same
theorem mk_two {tb : List (Addr × Str)} {H : Hp} {C : Addr} {f1 fs : List (Str × V)} {Q : V → Hp → Prop} {x dx : Addr} (nx : H x = none) (nd : H dx = none) (h : ∀ H', Gr tb H H' → H' x = some (.ins C dx fs) → Q (.ref x) H') :
    Q (.ref x) (upd (upd (upd (upd H dx (.own x)) x (.ins C dx [])) x (.ins C dx f1)) x (.ins C dx fs)) :=
  h _ (Gr.made nx nd ((Gw.wr upd_same rfl).trans (Gw.wr upd_same rfl))) upd_same
def sp_Receiver_passed (K : PySem.W.Frag) (tb : List (Addr × Str)) : Sp := fun vs H Q _ => ∃ (r m : Addr) (c d N M N' k : Nat) (ks : List Tk) (P P2 told t2 : List (Nat × Nat)), vs = [.ref r, .ref m, .int ((N' : Int) - 1)] ∧ RcvI K c H r ks d M P2 t2 ∧ MomI K H m N P told ∧ OkR ks d N P told ∧ N' = N + k ∧ N' ≤ 400 ∧ LamX.Tabs tb H ∧
  ∀ m' H', Gr tb H H' → MomI K H' m' N' (passL ks (d + ageP ks) N k P) told → Q (.ref m') H'
abbrev nm_Receiver_passed : List Str := ["self", "moment", "now", "sums", "number"]
theorem sc_Receiver_passed : FnScope nm_Receiver_passed ["self", "moment", "now"] (defScope s_Receiver_passed) := ⟨rfl, rfl, rfl, by decide +kernel, rfl, by decide +kernel, by decide +kernel⟩
theorem c_Receiver_passed {P : Program} {w : World} {K : PySem.W.Frag} {mg : Str → Option Value} {base : Heap} {tb : List (Addr × Str)} (T : Tx K mg base tb) : Mf P w K mg base 6 (He.ga K "Receiver") "passed" (sp_Receiver_passed K tb) := by
  obtain ⟨f, fd, F, hm⟩ := T.f_Receiver_passed
  refine ⟨f, T.cl_Receiver, hm, @mkR P w K mg base _ _ _ _ _ _ _ (sp_Receiver_passed K tb) 5 F sc_Receiver_passed (fun _ _ _ _ _ _ us hl => match us, hl with | [_, _, _], _ => rfl) (fun vs H Q E h => by obtain ⟨r, m, c, d, N, M, N', k, ks, P', P2, told, t2, rfl, hR, hM, ok, hk, hN, hT, q⟩ := h; rfl) (fun cdv A outer s H vs Q E hr h => ⟨_, (pss_cons (ps_set (i := 3) sc_Receiver_passed.nd rfl (Or.inl rfl) (pe_fld (pv 1) rfl))
      (pss_cons (ps_for PassesOwn.never rfl (pi_range2 (by rfl) T.n_range (pa_cons (pe_op op_add (pe_fld (pv 1) rfl) pe_int) (pa_cons (pe_op op_add (pv 2) pe_int) pa_nil))) (pg_name (i := 4) sc_Receiver_passed.nd rfl (Or.inl rfl))
      (pss_cons (ps_set (i := 3) sc_Receiver_passed.nd rfl (Or.inl rfl) (pe_mR (c_Known_older (K := K) T) hr (by decide) (pv 3) (pa_cons (pe_mR0 (c_Receiver_span (K := K) T) hr (by decide) (pv 0)) pa_nil)))
      (pss_one (ps_if (pt_val (pe_fld (pe_mR (c_Plan_tick_at (K := K) T) hr (by decide) (pe_fld (pv 0) rfl) (pa_cons (pv 4) pa_nil)) rfl)) (pss_one (ps_set (i := 3) sc_Receiver_passed.nd rfl (Or.inl rfl) (pe_mR (c_Known_with_sum (K := K) T) hr (by decide) (pv 3) (pa_cons pe_int (pa_cons pe_int pa_nil))))) pss_nil))))
      (pss_one (ps_ret (pe_kR (c_Moment (K := K) T) hr (by decide) rfl (pa_cons (pv 2) (pa_cons (pv 3) (pa_cons (pe_fld (pv 1) rfl) pa_nil)))))))), ?_⟩)⟩
  obtain ⟨r, m, c, d, N, M, N', k, ks, P', P2, told, t2, rfl, hR, hM, ok, hk, hN, hT, q⟩ := h
  obtain ⟨dm, kn, dd, em, ek, ed⟩ := id hM
  obtain ⟨dx, pl, past, ms, mm, hr', hp, hpa, hl, hmm⟩ := id hR
  have hS : d + ageP ks ≤ 16 := by have := ageP_le ok.p; have := ok.d8; omega
  have hE : ((N' : Int) - 1 + 1 - ((N : Int) - 1 + 1)).toNat = k := by omega
  refine ⟨_, rfl, _, _, _, _, _, rfl, em, T.cl_Moment, T.na_Moment_sums, rfl, ?_⟩
  refine ⟨_, rfl, _, _, _, _, _, rfl, em, T.cl_Moment, T.na_Moment_at_tick, rfl, _, _, rfl, rfl, _, rfl, _, _, rfl, rfl, _, _, rfl, ⟨by omega, by omega, by omega, by omega⟩, ?_⟩
  refine for_range (fun i σ H' => Gr tb H H' ∧ ∃ kn' a, KI K H' kn' (passL ks (d + ageP ks) N i P') ∧ σ = [some (.ref r), some (.ref m), some (.int ((N' : Int) - 1)), some (.ref kn'), a]) ⟨Gr.refl _, kn, _, ek, rfl⟩ ?_ ?_
  · rintro i σ H1 hi ⟨g, kn', a, hk1, rfl⟩
    have hJ : JS (d + ageP ks) (passL ks (d + ageP ks) N i P') := ok.js.pass
    have hJo := hJ.older
    have l1 := hJ.len
    have l2 := hJo.len
    obtain ⟨dk, lk, e1, e2⟩ := id hk1
    have hp1 := hp.gr g
    have en : V.int ((N : Int) - 1 + 1 + (i : Nat)) = iN (N + i) := congrArg V.int (by omega)
    refine ⟨_, rfl, kn', _, _, rfl, e1, rfl, _, rfl, r, _, _, rfl, g.at hr', rfl, r, _, _, _, _, _, rfl, g.at hr', rfl, rfl, hp1, ok.p, fun H2 g2 => ?_⟩
    refine ⟨kn', _, _, rfl, hk1.gr g2, by omega, by omega, fun k2 H3 g3 hk3 => ?_⟩
    have g123 := g.trans (g2.trans g3)
    have hp3 := hp.gr g123
    obtain ⟨dp, ta, ep, ep2⟩ := id hp3
    refine ⟨_, rfl, _, _, _, _, _, rfl, g123.at hr', T.cl_Receiver, T.na_Receiver_plan, rfl, pl, dp, _, rfl, ep, rfl, _, rfl, pl, N + i, ks, congrArg (fun z => [V.ref pl, z]) en, hp3, ok.p.1, fun t ht => ?_⟩
    obtain ⟨dt, st, et, et2⟩ := id ht
    refine ⟨t, _, _, _, _, rfl, et, T.cl_Tick, T.na_Tick_mute, rfl, _, rfl, ?_⟩
    have e5 := passL_snoc (S := d + ageP ks) (ks := ks) i N P'
    unfold stepL at e5
    cases hm : (tkAt ks (N + i)).2 with
    | true =>
      rw [hm, if_pos rfl] at e5
      obtain ⟨dk3, lk3, f1, f2⟩ := id hk3
      refine iteT ⟨_, rfl, k2, _, _, rfl, f1, rfl, k2, 1, 0, _, rfl, hk3, hJo.sm (by omega), by decide, by omega, (g123.tb hT), fun k4 H4 g4 hk4 => ?_⟩
      exact ⟨g123.trans g4, k4, _, by rw [e5]; exact hk4, rfl⟩
    | false =>
      rw [hm, if_neg Bool.false_ne_true] at e5
      exact iteF ⟨g123, k2, _, by rw [e5]; exact hk3, rfl⟩
  · rintro σ H1 ⟨g, kn', a, hk1, rfl⟩
    rw [hE] at hk1
    refine ⟨_, rfl, _, rfl, _, rfl, _, _, _, _, _, rfl, g.at em, T.cl_Moment, T.na_Moment_rows, rfl, ?_⟩
    intro x dx' nx ndx ne
    refine ⟨x, _, dx', _, _, _, rfl, upd_same, rfl, fun H5 e5 => ⟨rfl, ?_⟩⟩
    subst e5
    refine mk_mom (tb := tb) nx ndx fun H5 g5 e5 => q x H5 (g.trans g5) ⟨dx', kn', dd, e5, hk1.gr g5, (g.trans g5).at ed⟩
end B
end
section
set_option linter.all false
set_option maxRecDepth 100000
namespace B
open PySem PySem.Spec PyProof.Rows L2 La
/-- a tuple of pairs -/
def TPL (H : Hp) (a : Addr) (P : List (Nat × Nat)) : Prop := ∃ ts : List (Addr × (Nat × Nat)), ts.map (·.2) = P ∧ H a = some (.tup (ts.map fun t => V.ref t.1)) ∧ ∀ t ∈ ts, H t.1 = some (.tup [iN t.2.1, iN t.2.2])
theorem TPL.gr {tb : List (Addr × Str)} {H H' : Hp} {l : Addr} {P : List (Nat × Nat)} (h : TPL H l P) (g : Gr tb H H') : TPL H' l P := by
  obtain ⟨ts, e, hl, ht⟩ := h
  exact ⟨ts, e, g.at hl, fun t m => g.at (ht t m)⟩
theorem valV_kvT (n : Nat) : ∀ told : List (Nat × Nat), valV (kvT told) (Sum.inl (n : Int)) = (told.lookup n).map fun v => iN v
  | [] => rfl
  | p :: r => by
    have ih := valV_kvT n r
    obtain ⟨k, v⟩ := p
    show valV ((Sum.inl (k : Int), iN v) :: kvT r) _ = _
    by_cases e : n = k
    · subst e
      rw [valV_pos rfl, List.lookup_cons, beq_self_eq_true] <;> rfl
    · rw [valV_neg (fun z => e (by injection z with z; omega)), ih, List.lookup_cons, show (n == k) = false from beq_eq_false_iff_ne.mpr e]
def frF (ks : List Tk) (d N : Nat) (P told : List (Nat × Nat)) (i : Nat) : Option (Nat × Nat) :=
  if d - i < N ∧ (red P (2 ^ (d - i)) 0).1 = 0 ∧ told.lookup (N - 1 - (d - i)) = none ∧ (tkAt ks (N - 1 - (d - i))).2 = false then some (N - 1 - (d - i), (red P (2 ^ (d - i)) 0).2) else none
def freshL (ks : List Tk) (d N : Nat) (P told : List (Nat × Nat)) : List (Nat × Nat) := (List.range (d + 1)).filterMap (frF ks d N P told)
theorem fm_succ {α : Type} {f : Nat → Option α} {i : Nat} : (List.range (i + 1)).filterMap f = (List.range i).filterMap f ++ (f i).toList := by
  rw [List.range_succ, List.filterMap_append, List.filterMap_cons, List.filterMap_nil]
  cases f i <;> rfl
theorem fm_len {α : Type} {f : Nat → Option α} {i : Nat} : ((List.range i).filterMap f).length ≤ i := by
  have := List.length_filterMap_le f (List.range i)
  rwa [List.length_range] at this
def sp_Receiver_fresh (K : PySem.W.Frag) (tb : List (Addr × Str)) : Sp := fun vs H Q _ => ∃ (r k dd : Addr) (c d M N : Nat) (ks : List Tk) (P P2 told t2 : List (Nat × Nat)), vs = [.ref r, .int ((N : Int) - 1), .ref k, .ref dd] ∧ RcvI K c H r ks d M P2 t2 ∧ KI K H k P ∧ H dd = some (.dK (kvT told)) ∧ OkR ks d N P told ∧
  ∀ a H', Gr tb H H' → TPL H' a (freshL ks d N P told) → Q (.ref a) H'
abbrev nm_Receiver_fresh : List Str := ["self", "now", "sums", "told", "found", "age", "bits", "value", "number"]
theorem sc_Receiver_fresh : FnScope nm_Receiver_fresh ["self", "now", "sums", "told"] (defScope s_Receiver_fresh) := ⟨rfl, rfl, rfl, by decide +kernel, rfl, by decide +kernel, by decide +kernel⟩
theorem c_Receiver_fresh {P : Program} {w : World} {K : PySem.W.Frag} {mg : Str → Option Value} {base : Heap} {tb : List (Addr × Str)} (T : Tx K mg base tb) : Mf P w K mg base 4 (He.ga K "Receiver") "fresh" (sp_Receiver_fresh K tb) := by
  obtain ⟨f, fd, F, hm⟩ := T.f_Receiver_fresh
  refine ⟨f, T.cl_Receiver, hm, @mkR P w K mg base _ _ _ _ _ _ _ (sp_Receiver_fresh K tb) 3 F sc_Receiver_fresh (fun _ _ _ _ _ _ us hl => match us, hl with | [_, _, _, _], _ => rfl) (fun vs H Q E h => by obtain ⟨r, k, dd, c, d, M, N, ks, P', P2, told, t2, rfl, hR, hk, hd, ok, q⟩ := h; rfl) (fun cdv A outer s H vs Q E hr h => ⟨_, (pss_cons (ps_set (i := 4) sc_Receiver_fresh.nd rfl (Or.inl rfl) (pe_lst pa_nil))
      (pss_cons (ps_for PassesOwn.never rfl (pi_range3 (by rfl) T.n_range (pa_cons (pe_fld (pv 0) rfl) (pa_cons (pe_un un_neg pe_int) (pa_cons (pe_un un_neg pe_int) pa_nil)))) (pg_name (i := 5) sc_Receiver_fresh.nd rfl (Or.inl rfl))
      (pss_cons (ps_asg (pe_mR (c_Known_reduced (K := K) T) hr (by decide) (pv 2) (pa_cons (pe_cR (c_power (K := K) T) hr (by decide) rfl (pa_cons (pv 5) pa_nil)) (pa_cons pe_int pa_nil))) (pg_tup rfl (pgs_cons (pg_name (i := 6) sc_Receiver_fresh.nd rfl (Or.inl rfl)) (pgs_cons (pg_name (i := 7) sc_Receiver_fresh.nd rfl (Or.inl rfl)) pgs_nil))))
      (pss_cons (ps_set (i := 8) sc_Receiver_fresh.nd rfl (Or.inl rfl) (pe_op op_sub (pv 1) (pv 5)))
      (pss_one (ps_if (PW.pt (pw_and (pt_cmpR op_ge (pv 8) pe_int (nomark _)) (pw_and (pt_cmpR op_eq (pv 6) pe_int (nomark _)) (pw_and (pt_cmp (pc_dnotin (hu_of hr) (pv 8) (pv 3))) (pw_and1 (pt_not (pt_val (pe_fld (pe_mR (c_Plan_tick_at (K := K) T) hr (by decide) (pe_fld (pv 0) rfl) (pa_cons (pv 8) pa_nil)) rfl)))))))) (pss_one (ps_expr (pe_bm PySem.F.plainAttrs_list PySem.F.slot_list_append PySem.F.type_list_append mt_append (pv 4) (pa_cons (pe_tup (pa_cons (pv 8) (pa_cons (pv 7) pa_nil))) pa_nil)))) pss_nil)))))
      (pss_one (ps_ret (pe_callTy call_tupQ (by rfl) T.n_tuple (by decide +kernel) (pa_cons (pv 4) pa_nil)))))), ?_⟩)⟩
  obtain ⟨r, k, dd, c, d, M, N, ks, P', P2, told, t2, rfl, hR, hk, hd, ok, q⟩ := h
  obtain ⟨dx, pl, past, ms, mm, hr', hp, hpa, hl, hmm⟩ := id hR
  have hS : d + ageP ks ≤ 16 := by have := ageP_le ok.p; have := ok.d8; omega
  have d8 := ok.d8
  have n4 := ok.n4
  refine ⟨(by decide : (0 : Nat) ≤ sizeLine), fun D nD => ?_⟩
  refine ⟨_, rfl, _, _, _, _, _, rfl, (Gr.new (tb := tb) nD).at hr', T.cl_Receiver, T.na_Receiver_delay, rfl, _, rfl, _, rfl, _, _, _, ((d : Int) - -1).toNat, rfl, RgC.neg (by omega) (by omega) (by decide) (by decide), ?_⟩
  refine for_rangeC (fun i σ H' => ∃ ts a b c e, PT H' D ts ∧ ts.map (·.2) = (List.range i).filterMap (frF ks d N P' told) ∧ Gw tb D (upd H D (.lst [])) H' ∧ σ = [some (.ref r), some (.int ((N : Int) - 1)), some (.ref k), some (.ref dd), some (.ref D), a, b, c, e]) ⟨[], _, _, _, _, ⟨upd_same, fun t m => nomatch m⟩, rfl, Gw.refl _, rfl⟩ ?_ ?_
  · rintro i σ H1 hi ⟨ts, a, b, c2, e, pt, et, gw, rfl⟩
    have gg := (Gr.new nD).gw nD gw
    have hid : i ≤ d := by omega
    rw [show V.int ((d : Int) + (i : Nat) * -1) = iN (d - i) from congrArg V.int (by omega)]
    obtain ⟨dk, lk, e1, e2⟩ := hk.gr gg
    refine ⟨_, rfl, k, _, _, rfl, e1, rfl, _, rfl, d - i, rfl, by omega, k, 2 ^ (d - i), 0, _, rfl, hk.gr gg, ok.js.sm (by omega), fun t nt => ?_⟩
    refine ⟨t, _, rfl, SqT.of upd_same, rfl, _, _, rfl, _, _, rfl, rfl, ?_⟩
    generalize hrr : red P' (2 ^ (d - i)) 0 = rr
    have g2 : Gr tb H1 (upd H1 t (.tup [iN rr.1, iN rr.2])) := Gr.new nt
    generalize upd H1 t (.tup [iN rr.1, iN rr.2]) = H2 at g2 ⊢
    have gg2 := gg.trans g2
    have pt2 : PT H2 D ts := ⟨g2.at pt.1, fun t m => g2.at (pt.2 t m)⟩
    have gw2 := gw.trans (Gw.of g2)
    refine ⟨_, rfl, _, rfl, _, _, rfl, rfl, ?_⟩
    have skip : frF ks d N P' told i = none → ∃ ts' : List (Addr × (Nat × Nat)), PT H2 D ts' ∧ ts'.map (·.2) = (List.range (i + 1)).filterMap (frF ks d N P' told) ∧ Gw tb D (upd H D (.lst [])) H2 := fun z => ⟨ts, pt2, by rw [fm_succ, z, et]; simp, gw2⟩
    by_cases hN : d - i < N
    · dsimp only
      rw [show V.int ((N : Int) - 1 - ((d - i : Nat) : Int)) = iN (N - 1 - (d - i)) from congrArg V.int (by omega)]
      refine ⟨_, rfl, _, _, rfl, rfl, _, rfl, ?_⟩
      rw [decide_eq_true (show (0 : Int) ≤ ((N - 1 - (d - i) : Nat) : Int) by omega)]
      refine iteT ?_
      refine ⟨_, rfl, rfl, _, rfl, ite2 (fun hz => ?_) fun hz => ?_⟩
      · have hz' : rr.1 = 0 := by simpa using hz
        refine ⟨_, rfl, _, rfl, dd, _, rfl, DGet.k (k := Sum.inl ((N - 1 - (d - i) : Nat) : Int)) (gg2.at hd), _, rfl, ?_⟩
        rw [valV_kvT]
        cases hlk : told.lookup (N - 1 - (d - i)) with
        | some v =>
          obtain ⟨ts', h1, h2, h3⟩ := skip (by unfold frF; rw [if_neg (fun z => by rw [hlk] at z; cases z.2.2.1)])
          exact iteF ⟨ts', _, _, _, _, h1, h2, h3, rfl⟩
        | none =>
          refine iteT ?_
          obtain ⟨dp, ta, ep, ep2⟩ := id (hp.gr gg2)
          refine ⟨_, rfl, _, _, _, _, _, rfl, gg2.at hr', T.cl_Receiver, T.na_Receiver_plan, rfl, pl, dp, _, rfl, ep, rfl, _, rfl, pl, N - 1 - (d - i), ks, rfl, hp.gr gg2, ok.p.1, fun t2 ht2 => ?_⟩
          obtain ⟨dt, st, et1, et2⟩ := id ht2
          refine ⟨t2, _, _, _, _, rfl, et1, T.cl_Tick, T.na_Tick_mute, rfl, _, rfl, ?_⟩
          cases hmu : (tkAt ks (N - 1 - (d - i))).2 with
          | true =>
            obtain ⟨ts', h1, h2, h3⟩ := skip (by unfold frF; rw [if_neg (fun z => by rw [hmu] at z; cases z.2.2.2)])
            exact iteF ⟨ts', _, _, _, _, h1, h2, h3, rfl⟩
          | false =>
            refine iteT ⟨_, rfl, .inl ⟨rfl, _, SqL.of pt2.1⟩, _, rfl, _, rfl, z2, fun p np => ?_⟩
            obtain ⟨h1, h2⟩ := pt2.push (a := N - 1 - (d - i)) (b := rr.2) np
            have hle : ts.length ≤ i := by
              have := fm_len (f := frF ks d N P' told) (i := i)
              rw [← et, List.length_map] at this
              exact this
            have z : (1000 : Nat) < sizeLine := by decide
            refine ⟨D, _, _, rfl, rfl, h1, by rw [List.length_map]; omega, ts ++ [(p, (N - 1 - (d - i), rr.2))], _, _, _, _, h2, ?_, (gw2.trans (Gw.of (Gr.new np))).trans (Gw.wr h1 rfl), rfl⟩
            have ef : frF ks d N P' told i = some (N - 1 - (d - i), rr.2) := by
              unfold frF
              rw [hrr, if_pos ⟨hN, hz', hlk, hmu⟩]
            rw [fm_succ, ef, List.map_append, et] <;> rfl
      · have hz' : rr.1 ≠ 0 := by simpa using hz
        obtain ⟨ts', h1, h2, h3⟩ := skip (by unfold frF; rw [hrr, if_neg (fun z => hz' z.2.1)])
        exact iteF ⟨ts', _, _, _, _, h1, h2, h3, rfl⟩
    · have hneg : decide ((0 : Int) ≤ (N : Int) - 1 - ((d - i : Nat) : Int)) = false := decide_eq_false (by omega)
      refine ⟨_, rfl, _, _, rfl, rfl, _, rfl, ?_⟩
      rw [hneg]
      obtain ⟨ts', h1, h2, h3⟩ := skip (by unfold frF; rw [if_neg (fun z => hN z.1)])
      exact iteF ⟨ts', _, _, _, _, h1, h2, h3, rfl⟩
  · rintro σ H1 ⟨ts, a, b, c2, e, pt, et, gw, rfl⟩
    have gg := (Gr.new nD).gw nD gw
    refine ⟨_, rfl, D, _, rfl, .inl ⟨SqL.of pt.1, fun l nl => q l _ (gg.trans (Gr.new nl)) ⟨ts, ?_, upd_same, fun t m => (Gr.new (tb := tb) nl).at (pt.2 t m)⟩⟩⟩
    rw [et, show ((d : Int) - -1).toNat = d + 1 by omega] <;> rfl
def sp_Receiver_worth (K : PySem.W.Frag) (tb : List (Addr × Str)) : Sp := fun vs H Q _ => ∃ (r : Addr) (c d N b : Nat) (ks : List Tk) (P told : List (Nat × Nat)), vs = [.ref r, iN b] ∧ RcvI K c H r ks d N P told ∧ OkR ks d N P told ∧ b < 2 ^ (d + 1) ∧
  ∀ H', Gr tb H H' → Q (if (red P b 0).1 = 0 then iN (red P b 0).2 else .non) H'
abbrev nm_Receiver_worth : List Str := ["self", "bits", "left", "found"]
theorem sc_Receiver_worth : FnScope nm_Receiver_worth ["self", "bits"] (defScope s_Receiver_worth) := ⟨rfl, rfl, rfl, by decide +kernel, rfl, by decide +kernel, by decide +kernel⟩
theorem c_Receiver_worth {P : Program} {w : World} {K : PySem.W.Frag} {mg : Str → Option Value} {base : Heap} {tb : List (Addr × Str)} (T : Tx K mg base tb) : Mf P w K mg base 4 (He.ga K "Receiver") "worth" (sp_Receiver_worth K tb) := by
  obtain ⟨f, fd, F, hm⟩ := T.f_Receiver_worth
  refine ⟨f, T.cl_Receiver, hm, @mkR P w K mg base _ _ _ _ _ _ _ (sp_Receiver_worth K tb) 3 F sc_Receiver_worth (fun _ _ _ _ _ _ us hl => match us, hl with | [_, _], _ => rfl) (fun vs H Q E h => by obtain ⟨r, c, d, N, b, ks, P', told, rfl, hR, ok, hb, q⟩ := h; rfl) (fun cdv A outer s H vs Q E hr h => ⟨_, (pss_cons (ps_if (pt_not (pt_val (pe_cR (c_is_within (K := K) T) hr (by decide) rfl (pa_cons (pv 1) (pa_cons pe_int (pa_cons (pe_op op_sub (pe_cR (c_power (K := K) T) hr (by decide) rfl (pa_cons (pe_op op_add (pe_fld (pv 0) rfl) pe_int) pa_nil)) pe_int) pa_nil)))))) (pss_one ps_never) pss_nil)
      (pss_cons (ps_asg (pe_mR (c_Known_reduced (K := K) T) hr (by decide) (pe_fld (pe_mR0 (c_Receiver_moment (K := K) T) hr (by decide) (pv 0)) rfl) (pa_cons (pv 1) (pa_cons pe_int pa_nil))) (pg_tup rfl (pgs_cons (pg_name (i := 2) sc_Receiver_worth.nd rfl (Or.inl rfl)) (pgs_cons (pg_name (i := 3) sc_Receiver_worth.nd rfl (Or.inl rfl)) pgs_nil))))
      (pss_one (ps_ret (pe_ifExp (pt_cmpR op_eq (pv 2) pe_int (nomark _)) (pv 3) pe_non))))), ?_⟩)⟩
  obtain ⟨r, c, d, N, b, ks, P', told, rfl, hR, ok, hb, q⟩ := h
  obtain ⟨dx, pl, past, ms, mm, hr', hp, hpa, hl, hmm⟩ := id hR
  have hS : d + ageP ks ≤ 16 := by have := ageP_le ok.p; have := ok.d8; omega
  have d8 := ok.d8
  refine ⟨_, rfl, _, rfl, _, _, _, _, _, rfl, hr', T.cl_Receiver, T.na_Receiver_delay, rfl, _, _, rfl, rfl, d + 1, rfl, by omega, _, _, rfl, rfl, b, 0, _, rfl, ?_⟩
  rw [decide_eq_true (show (0 : Int) ≤ (b : Int) by omega), decide_eq_true (show (b : Int) ≤ ((2 ^ (d + 1) : Nat) : Int) - 1 by omega)]
  refine ⟨_, rfl, ?_⟩
  refine iteF ⟨_, rfl, r, dx, _, rfl, hr', rfl, r, c, d, N, ks, P', told, rfl, hR, fun m hm' => ?_⟩
  obtain ⟨dm, k, dd, em, ek, ed⟩ := id hm'
  obtain ⟨dk, lk, e1, e2⟩ := id ek
  refine ⟨m, _, _, _, _, rfl, em, T.cl_Moment, T.na_Moment_sums, rfl, k, _, _, rfl, e1, rfl, _, rfl, k, b, 0, _, rfl, ek, ok.js.sm (by omega), fun t nt => ?_⟩
  refine ⟨t, _, rfl, SqT.of upd_same, rfl, _, _, rfl, _, _, rfl, rfl, ?_⟩
  have q' := q _ (Gr.new (tb := tb) (o := .tup [iN (red P' b 0).1, iN (red P' b 0).2]) nt)
  refine ⟨_, rfl, rfl, _, rfl, ite2 (fun hz => ?_) fun hz => ?_⟩
  · have hz' : (red P' b 0).1 = 0 := by simpa using hz
    rw [if_pos hz'] at q'
    exact ⟨_, rfl, q'⟩
  · have hz' : (red P' b 0).1 ≠ 0 := by simpa using hz
    rw [if_neg hz'] at q'
    exact q'
end B
end
section
set_option linter.all false
set_option maxRecDepth 100000
namespace B
open PySem PySem.Spec PyProof.Rows L2 La
def sp_Receiver_need_packet (K : PySem.W.Frag) (tb : List (Addr × Str)) : Sp := fun vs H Q _ => ∃ (r p : Addr) (c d N n : Nat) (ks : List Tk) (P told : List (Nat × Nat)) (vals : List Nat), vs = [.ref r, .ref p] ∧ RcvI K c H r ks d N P told ∧ OkR ks d N P told ∧ PktI K H p n vals ∧ vals.length = (tkAt ks n).1.length ∧ n ≤ N + 50 ∧ vals.length ≤ 50 ∧
  ∀ H', Gr tb H H' → Q .non H'
abbrev nm_Receiver_need_packet : List Str := ["self", "packet", "parts", "some", "part"]
theorem sc_Receiver_need_packet : FnScope nm_Receiver_need_packet ["self", "packet"] (defScope s_Receiver_need_packet) := ⟨rfl, rfl, rfl, by decide +kernel, rfl, by decide +kernel, by decide +kernel⟩
theorem c_Receiver_need_packet {P : Program} {w : World} {K : PySem.W.Frag} {mg : Str → Option Value} {base : Heap} {tb : List (Addr × Str)} (T : Tx K mg base tb) : Mf P w K mg base 3 (He.ga K "Receiver") "need_packet" (sp_Receiver_need_packet K tb) := by
  obtain ⟨f, fd, F, hm⟩ := T.f_Receiver_need_packet
  refine ⟨f, T.cl_Receiver, hm, @mkR P w K mg base _ _ _ _ _ _ _ (sp_Receiver_need_packet K tb) 2 F sc_Receiver_need_packet (fun _ _ _ _ _ _ us hl => match us, hl with | [_, _], _ => rfl) (fun vs H Q E h => by obtain ⟨r, p, c, d, N, n, ks, P', told, vals, rfl, hR, ok, ⟨dxp, pa, hpk, hpa⟩, hlen, hn, h50, q⟩ := h; rfl) (fun cdv A outer s H vs Q E hr h => ⟨_, (pss_cons (ps_if (pt_not (pt_val (pe_callB (C8.call_isC T.i_Packet) (by rfl) T.n_isinstance (by decide +kernel) (pa_cons (pv 1) (pa_cons (pe_glob (v := .ref (He.ga K "Packet")) rfl T.g_Packet rfl) pa_nil))))) (pss_one ps_never) pss_nil)
      (pss_cons (ps_if (PW.pt (pw_or (pt_not (pt_val (pe_cR (c_is_integer (K := K) T) hr (by decide) rfl (pa_cons (pe_fld (pv 1) rfl) pa_nil)))) (pw_or1 (pt_cmpR op_lt (pe_fld (pv 1) rfl) pe_int (nomark _))))) (pss_one ps_never) pss_nil)
      (pss_cons (ps_par (i := 2) (j := 3) rfl sc_Receiver_need_packet.nd rfl rfl (by decide) rfl rfl (pa_cons (pe_fld (pv 1) rfl) (pa_cons (pe_fld (pe_mR (c_Plan_tick_at (K := K) T) hr (by decide) (pe_fld (pv 0) rfl) (pa_cons (pe_fld (pv 1) rfl) pa_nil)) rfl) pa_nil)) (by rfl))
      (pss_cons (ps_if (PW.pt (pw_or (pt_not (pt_val (pe_callB call_isi (by rfl) T.n_isinstance (by decide +kernel) (pa_cons (pv 2) (pa_cons (pe_bltn (v := .ty "tuple") (by rfl) T.n_tuple (by decide +kernel) rfl) pa_nil))))) (pw_or1 (pt_cmpR op_ne (pe_callB call_lenQ (by rfl) T.n_len (by decide +kernel) (pa_cons (pv 2) pa_nil)) (pe_callB call_lenQ (by rfl) T.n_len (by decide +kernel) (pa_cons (pv 3) pa_nil)) (nomark _))))) (pss_one ps_never) pss_nil)
      (pss_cons (ps_if (pt_not (pt_val (pe_callB (cr_all rfl) (by rfl) T.n_all (by decide +kernel) (pa_cons (pe_lc (own := [("part", 4)]) (g := gName 4) (tt := tYes) rfl sc_Receiver_need_packet.nd (pi_tup (pv 2)) (blkOk_by (own := [("part", 4)]) (N := nm_Receiver_need_packet) (sc := defScope s_Receiver_need_packet) (by decide +kernel)) (fun _ _ _ _ _ => pg_name (i := 4) sc_Receiver_need_packet.nd rfl (Or.inl rfl)) (fun _ _ _ _ _ => pts_nil) (fun _ _ _ _ _ => (pe_and (pe_cR (c_is_integer (K := K) T) hr (by decide) rfl (pa_cons (pv 4) pa_nil)) (pe_one (pe_cmpR op_ge (pv 4) pe_int (nomark _)))))) pa_nil)))) (pss_one ps_never) pss_nil)
      (pss_one (ps_if (pt_cmpR op_gt (pe_fld (pv 1) rfl) (pe_op op_add (pe_pR (c_Receiver_now (K := K) T) hr (by decide) (pv 0) (by rfl)) (pe_glob (v := .int 100) rfl T.g_MOST_JUMP.choose_spec ⟨_, rfl⟩)) (nomark _)) (pss_one ps_never) pss_nil))))))), ?_⟩)⟩
  obtain ⟨r, p, c, d, N, n, ks, P', told, vals, rfl, hR, ok, ⟨dxp, pa, hpk, hpa⟩, hlen, hn, h50, q⟩ := h
  obtain ⟨dx, pl, past, ms, mm, hr', hp, hpast, hl, hmm⟩ := id hR
  obtain ⟨dp, ta, ep, ep2⟩ := id hp
  refine ⟨_, rfl, p, _, _, rfl, hpk, _, rfl, ?_⟩
  refine iteF ?_
  refine ⟨_, rfl, _, _, _, _, _, rfl, hpk, T.cl_Packet, T.na_Packet_tick, rfl, _, rfl, _, rfl, ?_⟩
  refine ⟨_, rfl, _, _, _, _, _, rfl, hpk, T.cl_Packet, T.na_Packet_tick, rfl, _, _, rfl, rfl, _, rfl, ?_⟩
  rw [decide_eq_false (show ¬ ((n : Int) < 0) by omega)]
  refine iteF ?_
  refine ⟨_, rfl, _, _, _, _, _, rfl, hpk, T.cl_Packet, T.na_Packet_parts, rfl, ?_⟩
  refine ⟨_, rfl, _, _, _, _, _, rfl, hr', T.cl_Receiver, T.na_Receiver_plan, rfl, pl, dp, _, rfl, ep, rfl, _, rfl, _, _, _, _, _, rfl, hpk, T.cl_Packet, T.na_Packet_tick, rfl, pl, n, ks, rfl, hp, ok.p.1, fun t ht => ?_⟩
  obtain ⟨dt, st, et, ts, es, hs, hts⟩ := id ht
  refine ⟨t, _, _, _, _, rfl, et, T.cl_Tick, T.na_Tick_sums, rfl, _, _, rfl, ?_⟩
  refine ⟨_, rfl, _, _, _, _, _, rfl, .ty _, .base (.tup hpa), kit_ty (r := true) (by decide +kernel), _, rfl, ?_⟩
  refine ⟨_, rfl, pa, _, rfl, .inr (SqT.of hpa), _, rfl, st, _, rfl, .inr (SqT.of hs), rfl, _, rfl, ?_⟩
  have e1 : (vals.map fun v => iN v).length = (ts.map fun t => V.ref t.1).length := by
    rw [mtup, mtup, hlen, ← es, List.length_map]
  rw [e1]
  have e2 : (!decide (V.int ((ts.map fun t => V.ref t.1).length : Int) = V.int ((ts.map fun t => V.ref t.1).length : Int))) = false := by rw [decide_eq_true rfl] <;> rfl
  rw [e2]
  refine iteF ?_
  refine ⟨_, rfl, _, rfl, ⟨_, SqT.of hpa⟩, fun D nD => ?_⟩
  refine lcV walk_tup tb nD (by rw [mtup]; omega) (fun i acc => acc = List.replicate i (V.bl true)) rfl (fun H1 g => SqT.of (g.at hpa)) ?_ ?_
  · rintro i x H1 H2 acc K1 K2 hi rfl g ⟨rfl, hx⟩ k1 _
    obtain ⟨v, hv, rfl⟩ := map_at hx
    refine ⟨rfl, _, rfl, _, rfl, _, rfl, iteT ⟨_, rfl, _, _, rfl, rfl, ?_⟩⟩
    exact ev (y := .bl true) (congrArg V.bl (decide_eq_true (show (0 : Int) ≤ (v : Int) by omega))) (k1 _ _ (Gr.refl _) (List.replicate_succ'.symm))
  rintro H1 acc g1 hD rfl
  refine ⟨D, List.replicate _ true, rfl, by rw [List.map_replicate]; exact SqL.of hD, _, rfl, ?_⟩
  rw [all_rep (fun b m => (List.mem_replicate.mp m).2)]
  refine iteF ?_
  refine ⟨_, rfl, _, _, _, _, _, rfl, g1.at hpk, T.cl_Packet, T.na_Packet_tick, rfl, _, rfl, r, dx, _, rfl, g1.at hr', r, c, d, N, ks, P', told, rfl, hR.gr g1, _, _, rfl, rfl, _, _, rfl, rfl, _, rfl, ?_⟩
  rw [decide_eq_false (show ¬ ((N : Int) - 1 + 100 < (n : Int)) by omega)]
  exact iteF (q H1 g1)
def sp_Receiver_late (K : PySem.W.Frag) (tb : List (Addr × Str)) : Sp := fun vs H Q _ => ∃ (r : Addr) (c d N : Nat) (ks : List Tk) (P told : List (Nat × Nat)), vs = [.ref r] ∧ RcvI K c H r ks d N P told ∧ OkR ks d N P told ∧
  ∀ a H', Gr tb H H' → H' a = some (.tup (((List.range (N - 1 - d)).filter fun n => decide (told.lookup n = none) && !(tkAt ks n).2).map fun n => iN n)) → Q (.ref a) H'
abbrev nm_Receiver_late : List Str := ["self", "rows", "found", "number"]
theorem sc_Receiver_late : FnScope nm_Receiver_late ["self"] (defScope s_Receiver_late) := ⟨rfl, rfl, rfl, by decide +kernel, rfl, by decide +kernel, by decide +kernel⟩
theorem c_Receiver_late {P : Program} {w : World} {K : PySem.W.Frag} {mg : Str → Option Value} {base : Heap} {tb : List (Addr × Str)} (T : Tx K mg base tb) : Pf P w K mg base 3 (He.ga K "Receiver") "late" (sp_Receiver_late K tb) := by
  obtain ⟨p, f, fd, F, hp⟩ := T.f_Receiver_late
  refine ⟨p, f, T.cl_Receiver, hp, @mkR P w K mg base _ _ _ _ _ _ _ (sp_Receiver_late K tb) 2 F sc_Receiver_late (fun _ _ _ _ _ _ us hl => match us, hl with | [_], _ => rfl) (fun vs H Q E h => by obtain ⟨r, c, d, N, ks, P', told, rfl, hR, ok, q⟩ := h; rfl) (fun cdv A outer s H vs Q E hr h => ⟨_, (pss_cons (ps_set (i := 1) sc_Receiver_late.nd rfl (Or.inl rfl) (pe_fld (pe_ix ix_list (pe_fld (pv 0) rfl) (pe_un un_neg pe_int) (fun _ _ => rfl)) rfl))
      (pss_cons (ps_set (i := 2) sc_Receiver_late.nd rfl (Or.inl rfl) (pe_lst pa_nil))
      (pss_cons (ps_for PassesOwn.never rfl (pi_range1 (by rfl) T.n_range (pa_cons (pe_callB (call_max2 rfl) (by rfl) T.n_max (by decide +kernel) (pa_cons pe_int (pa_cons (pe_callTy call_int1 (by rfl) T.n_int (by decide +kernel) (pa_cons (pe_op op_sub (pe_pR (c_Receiver_now (K := K) T) hr (by decide) (pv 0) (by rfl)) (pe_fld (pv 0) rfl)) pa_nil)) pa_nil))) pa_nil)) (pg_name (i := 3) sc_Receiver_late.nd rfl (Or.inl rfl))
      (pss_one (ps_if (PW.pt (pw_and (pt_cmp (pc_dnotin (hu_of hr) (pv 3) (pv 1))) (pw_and1 (pt_not (pt_val (pe_fld (pe_mR (c_Plan_tick_at (K := K) T) hr (by decide) (pe_fld (pv 0) rfl) (pa_cons (pv 3) pa_nil)) rfl)))))) (pss_one (ps_expr (pe_bm PySem.F.plainAttrs_list PySem.F.slot_list_append PySem.F.type_list_append mt_append (pv 2) (pa_cons (pv 3) pa_nil)))) pss_nil)))
      (pss_one (ps_ret (pe_callTy call_tupQ (by rfl) T.n_tuple (by decide +kernel) (pa_cons (pv 2) pa_nil))))))), ?_⟩)⟩
  obtain ⟨r, c, d, N, ks, P', told, rfl, hR, ok, q⟩ := h
  obtain ⟨dx, pl, past, ms, m, hr', hp, hpast, hl, hmm⟩ := id hR
  obtain ⟨dm, k, dd, em, ek, ed⟩ := id hmm
  refine ⟨_, rfl, _, _, _, _, _, rfl, hr', T.cl_Receiver, T.na_Receiver_own_past, rfl, _, rfl, past, _, _, _, rfl, rfl, SqL.of hpast, atI_last _ _, m, _, _, _, _, rfl, em, T.cl_Moment, T.na_Moment_rows, rfl, ?_⟩
  refine ⟨(by decide : (0 : Nat) ≤ sizeLine), fun D nD => ?_⟩
  have g0 : Gr tb H (upd H D (.lst [])) := Gr.new nD
  refine ⟨_, rfl, r, dx, _, rfl, g0.at hr', r, c, d, N, ks, P', told, rfl, hR.gr g0, ?_⟩
  have n4 := ok.n4
  have d8 := ok.d8
  have eM : (if (N : Int) - 1 - (d : Nat) > 0 then (N : Int) - 1 - (d : Nat) else 0).toNat = N - 1 - d := by split <;> omega
  let fl := fun i : Nat => (List.range i).filter fun n => decide (told.lookup n = none) && !(tkAt ks n).2
  have fls : ∀ i, fl (i + 1) = fl i ++ if (decide (told.lookup i = none) && !(tkAt ks i).2) = true then [i] else [] := fun i => by
    show (List.range (i + 1)).filter _ = _
    rw [List.range_succ, List.filter_append, List.filter_cons, List.filter_nil]
  have fll : ∀ i, (fl i).length ≤ i := fun i => by
    have := List.length_filter_le (fun n => decide (told.lookup n = none) && !(tkAt ks n).2) (List.range i)
    rwa [List.length_range] at this
  refine ⟨_, rfl, _, _, _, _, _, rfl, g0.at hr', T.cl_Receiver, T.na_Receiver_delay, rfl, _, _, rfl, rfl, .inl ⟨_, rfl, _, _, rfl, _, rfl, ?_, ?_, ?_⟩⟩
  · split <;> omega
  · split <;> omega
  refine for_range (lo := 0) (n := (if (N : Int) - 1 - (d : Nat) > 0 then (N : Int) - 1 - (d : Nat) else 0).toNat) (fun i σ H' => ∃ a, H' D = some (.lst ((fl i).map fun n => iN n)) ∧ Gw tb D (upd H D (.lst [])) H' ∧ σ = [some (.ref r), some (.ref dd), some (.ref D), a]) ⟨_, upd_same, Gw.refl _, rfl⟩ ?_ ?_
  · rintro i σ H1 hi ⟨a, hD, gw, rfl⟩
    rw [eM] at hi
    have gg := (Gr.new nD).gw nD gw
    rw [show V.int (0 + (i : Nat)) = iN i from congrArg V.int (by omega)]
    obtain ⟨dp, ta, ep, ep2⟩ := id (hp.gr gg)
    refine ⟨_, rfl, _, rfl, dd, _, rfl, DGet.k (k := Sum.inl (i : Int)) (gg.at ed), _, rfl, ?_⟩
    rw [valV_kvT]
    have skip : (decide (told.lookup i = none) && !(tkAt ks i).2) = false → ∃ a, H1 D = some (.lst ((fl (i + 1)).map fun n => iN n)) ∧ Gw tb D (upd H D (.lst [])) H1 ∧ [some (V.ref r), some (V.ref dd), some (V.ref D), some (iN i)] = [some (V.ref r), some (V.ref dd), some (V.ref D), a] := fun z => by
      refine ⟨_, ?_, gw, rfl⟩
      rw [fls, if_neg (by rw [z]; decide), List.append_nil]
      exact hD
    cases hlk : told.lookup i with
    | some v => exact iteF (skip (by rw [hlk] <;> rfl))
    | none =>
      refine iteT ⟨_, rfl, _, _, _, _, _, rfl, gg.at hr', T.cl_Receiver, T.na_Receiver_plan, rfl, pl, dp, _, rfl, ep, rfl, _, rfl, pl, i, ks, rfl, hp.gr gg, ok.p.1, fun t2 ht2 => ?_⟩
      obtain ⟨dt, st, et1, et2⟩ := id ht2
      refine ⟨t2, _, _, _, _, rfl, et1, T.cl_Tick, T.na_Tick_mute, rfl, _, rfl, ?_⟩
      cases hmu : (tkAt ks i).2 with
      | true => exact iteF (skip (by rw [hmu]; simp))
      | false =>
        have z : (1000 : Nat) < sizeLine := by decide
        have := fll i
        refine iteT ⟨_, rfl, .inl ⟨rfl, _, SqL.of hD⟩, _, rfl, D, _, _, rfl, rfl, hD, by rw [mtup]; omega, _, ?_, gw.trans (Gw.wr hD rfl), rfl⟩
        rw [upd_same, fls, if_pos (by rw [hlk, hmu] <;> rfl), List.map_append] <;> rfl
  · rintro σ H1 ⟨a, hD, gw, rfl⟩
    rw [eM] at hD
    have gg := (Gr.new nD).gw nD gw
    exact ⟨_, rfl, D, _, rfl, .inl ⟨SqL.of hD, fun l nl => q l _ (gg.trans (Gr.new nl)) upd_same⟩⟩
end B
end
section
set_option linter.all false
set_option maxRecDepth 100000
namespace B
open PySem PySem.Spec PyProof.Rows L2 La
theorem tabs_upd {tb : List (Addr × Str)} {H : Hp} {p : Addr} {o o' : HO} (hp : H p = some o) (h1 : ∀ ps, o ≠ .tbl ps) (h2 : ∀ f, o ≠ .ext f) (t : LamX.Tabs tb H) : LamX.Tabs tb (upd H p o') := by
  intro q hq
  obtain ⟨ps, e1, e2, e3⟩ := t q hq
  refine ⟨ps, by rw [upd_ne (ne_of e1 hp (fun z => h1 ps z.symm))]; exact e1, e2, fun pos cv hc => ?_⟩
  obtain ⟨d, f1, f2⟩ := e3 pos cv hc
  exact ⟨d, f1, by rw [upd_ne (ne_of f2 hp (fun z => h2 _ z.symm))]; exact f2⟩
/-- a dict walked under a lock -/
theorem Gr.unlock {tb : List (Addr × Str)} {H H2 : Hp} {d : Addr} {od : Obj} {kvs : List (Key × V)} (hd : H d = some (.dK kvs)) (g : Gr tb (upd H d (.frz od (.dK kvs))) H2) : Gr tb H (upd H2 d (.dK kvs)) := by
  have h2 : H2 d = some (.frz od (.dK kvs)) := g.at upd_same
  refine ⟨fun b o e n => ?_, fun t => ?_⟩
  · by_cases hb : b = d
    · subst hb
      rw [hd] at e
      rw [upd_same]
      exact e
    · rw [upd_ne hb]
      exact g.ex b o (by rw [upd_ne hb]; exact e) n
  · exact tabs_upd h2 (fun ps z => by cases z) (fun f z => by cases z) (g.tb (tabs_upd hd (fun ps z => by cases z) (fun f z => by cases z) t))
theorem put_len {kvs : List (Key × V)} {k : Key} {z : V} : (putK kvs k z).length ≤ kvs.length + 1 := by
  unfold putK
  split
  · rw [List.length_map]; omega
  · rw [List.length_append]; exact Nat.le_refl _
theorem dcV {K : PySem.W.Frag} {a : Addr} {xs : List V} {g : TG} {tt : TT} {tk tv : TE} {vs : List Nat} {σ : L2.St} {H1 : Hp} {D : Addr} {Qd : Hp → Prop} (tb : List (Addr × Str)) (nD : H1 D = none) (hn : xs.length ≤ 1000) (R : Nat → List (Key × V) → Prop) (h0 : R 0 [])
    (hG : ∀ H, Gr tb H1 H → SqL K H a xs)
    (hs : ∀ i x H acc (K1 : V → V → Hp → Prop) (K2 : Hp → Prop), xs[i]? = some x → R i acc → Gr tb H1 H → (∀ k z H5, Gr tb H H5 → R (i + 1) (putK acc k z) → K1 (kV k) z H5) →
      g x (wipe σ vs) H fun σ2 H2 => wipe σ2 vs = wipe σ vs ∧ tt σ2 H2 fun b H3 => if b = true then tk σ2 H3 fun y H4 => tv σ2 H4 fun z H5 => K1 y z H5 else K2 H3)
    (hd : ∀ H acc, Gr tb H1 H → H D = some (.dK acc) → R xs.length acc → Qd H) :
    ∃ W : Nat → Nat → Hp → Prop, (∃ m, W 0 m (upd H1 D (.dK []))) ∧ ∀ i m H, W i m H →
      ((Itl K a).stop i H ∧ Qd H) ∨ ((Itl K a).go i H ∧ ∃ Nx : Hp → Prop, (∀ H', Nx H' → ∃ m', m' < m ∧ W (i + 1) m' H') ∧ ∀ x H', (Itl K a).yld i H x H' → g x (wipe σ vs) H' fun σ2 H2 => wipe σ2 vs = wipe σ vs ∧ tt σ2 H2 fun b H3 =>
        if b = true then tk σ2 H3 fun y H4 => tv σ2 H4 fun z H5 => ∃ kvs k, y = kV k ∧ H5 D = some (.dK kvs) ∧ kvs.length < sizeLine ∧ Nx (upd H5 D (.dK (putK kvs k z))) else Nx H3) := by
  have w := walk_list (K := K) (a := a) (xs := xs)
  refine ⟨fun i m H => m = xs.length - i ∧ i ≤ xs.length ∧ ∃ acc, H D = some (.dK acc) ∧ acc.length ≤ i ∧ R i acc ∧ Gw tb D (upd H1 D (.dK [])) H, ⟨_, rfl, Nat.zero_le _, [], upd_same, Nat.zero_le _, h0, Gw.refl _⟩, ?_⟩
  rintro i m H ⟨rfl, hi, acc, hD, hl, r, gw⟩
  have gg := (Gr.new nD).gw nD gw
  have sq := hG H gg
  by_cases hlt : i < xs.length
  · refine .inr ⟨w.goes i H hlt sq, fun H' => ∃ acc, H' D = some (.dK acc) ∧ acc.length ≤ i + 1 ∧ R (i + 1) acc ∧ Gw tb D (upd H1 D (.dK [])) H', fun H' p' => ⟨_, by omega, rfl, hlt, p'⟩, fun x H' y => ?_⟩
    obtain ⟨rfl, hx⟩ := w.yields i H x H' hlt sq y
    refine hs i x H' acc _ _ hx r gg fun k z H5 g5 r' => ?_
    have z' : (1000 : Nat) < sizeLine := by decide
    have := put_len (kvs := acc) (k := k) (z := z)
    exact ⟨acc, k, rfl, g5.at hD, by omega, _, upd_same, by omega, r', (gw.trans (Gw.of g5)).trans (Gw.wr (g5.at hD) rfl)⟩
  · have e : i = xs.length := by omega
    subst e
    exact .inl ⟨w.stops H sq, hd H acc gg hD r⟩
theorem put_new {kvs : List (Key × V)} {k : Key} {z : V} (h : ∀ p ∈ kvs, p.1 ≠ k) : putK kvs k z = kvs ++ [(k, z)] := by
  unfold putK
  rw [if_neg]
  intro a
  obtain ⟨p, hp, e⟩ := List.any_eq_true.mp a
  exact h p hp (of_decide_eq_true e)
theorem nodup_len : ∀ (N : Nat) (l : List Nat), l.Nodup → (∀ x ∈ l, x < N) → l.length ≤ N
  | 0, [], _, _ => Nat.le_refl _
  | 0, x :: l, _, h => absurd (h x List.mem_cons_self) (Nat.not_lt_zero _)
  | N + 1, l, hn, h => by
    by_cases hm : N ∈ l
    · have h1 := nodup_len N (l.erase N) (hn.erase N) fun x hx => by
        have h2 := (hn.mem_erase_iff).mp hx
        have := h x h2.2
        have := h2.1
        omega
      have := List.length_erase_of_mem hm
      omega
    · have := nodup_len N l hn fun x hx => by
        have := h x hx
        have : x ≠ N := fun e => hm (e ▸ hx)
        omega
      omega
theorem OkR.len {ks : List Tk} {d N : Nat} {P told : List (Nat × Nat)} (ok : OkR ks d N P told) : told.length ≤ N := by
  have := nodup_len N (told.map (·.1)) ok.nd fun x hx => by
    obtain ⟨p, hp, rfl⟩ := List.mem_map.mp hx
    exact ok.lt p hp
  rwa [List.length_map] at this
theorem kvT_len (told : List (Nat × Nat)) : (kvT told).length = told.length := List.length_map ..
theorem lookup_mem' {n : Nat} : ∀ {told : List (Nat × Nat)}, n ∈ told.map (·.1) → ∃ v, told.lookup n = some v
  | (k, v) :: r, h => by
    rw [List.lookup_cons]
    by_cases e : n = k
    · rw [e, beq_self_eq_true]
      exact ⟨v, rfl⟩
    · rw [beq_eq_false_iff_ne.mpr e]
      rcases List.mem_cons.mp h with h | h
      · exact absurd h e
      · exact lookup_mem' h
def sp_Receiver_told (K : PySem.W.Frag) (tb : List (Addr × Str)) : Sp := fun vs H Q _ => ∃ (r : Addr) (c d N : Nat) (ks : List Tk) (P told : List (Nat × Nat)), vs = [.ref r] ∧ RcvI K c H r ks d N P told ∧ OkR ks d N P told ∧
  ∀ a H' (ls : List Nat), Gr tb H H' → ls.Perm (told.map (·.1)) → ls.Pairwise (· ≤ ·) → H' a = some (.dK (ls.map fun n : Nat => (Sum.inl ((n : Nat) : Int), iN ((told.lookup n).getD 0)))) → Q (.ref a) H'
abbrev nm_Receiver_told : List Str := ["self", "rows", "number"]
theorem sc_Receiver_told : FnScope nm_Receiver_told ["self"] (defScope s_Receiver_told) := ⟨rfl, rfl, rfl, by decide +kernel, rfl, by decide +kernel, by decide +kernel⟩
theorem c_Receiver_told {P : Program} {w : World} {K : PySem.W.Frag} {mg : Str → Option Value} {base : Heap} {tb : List (Addr × Str)} (T : Tx K mg base tb) : Pf P w K mg base 1 (He.ga K "Receiver") "told" (sp_Receiver_told K tb) := by
  obtain ⟨p, f, fd, F, hp⟩ := T.f_Receiver_told
  refine ⟨p, f, T.cl_Receiver, hp, @mkR P w K mg base _ _ _ _ _ _ _ (sp_Receiver_told K tb) 0 F sc_Receiver_told (fun _ _ _ _ _ _ us hl => match us, hl with | [_], _ => rfl) (fun vs H Q E h => by obtain ⟨r, c, d, N, ks, P', told, rfl, hR, ok, q⟩ := h; rfl) (fun cdv A outer s H vs Q E hr h => ⟨_, (pss_cons (ps_set (i := 1) sc_Receiver_told.nd rfl (Or.inr rfl) (pe_fld (pe_ix ix_list (pe_fld (pv 0) rfl) (pe_un un_neg pe_int) (fun _ _ => rfl)) rfl))
      (pss_one (ps_ret (pe_dc (own := [("number", 2)]) (g := gName 2) (tt := tYes) rfl sc_Receiver_told.nd (pi_list (pe_callB cr_sortedI (by rfl) T.n_sorted (by decide +kernel) (pa_cons (pe_lock (pe_lc (own := [("number", 2)]) (g := gName 2) (tt := tYes) rfl sc_Receiver_told.nd (pi_keys (pv 1)) (blkOk_by (own := [("number", 2)]) (N := nm_Receiver_told) (sc := defScope s_Receiver_told) (by decide +kernel)) (fun _ _ _ _ _ => pg_name (i := 2) sc_Receiver_told.nd rfl (Or.inl rfl)) (fun _ _ _ _ _ => pts_nil) (fun _ _ _ _ _ => (pe_callTy call_int1 (by rfl) T.n_int (by decide +kernel) (pa_cons (pv 2) pa_nil))))) pa_nil))) (blkOk_by (own := [("number", 2)]) (N := nm_Receiver_told) (sc := defScope s_Receiver_told) (by decide +kernel)) (fun _ _ _ _ _ => pg_name (i := 2) sc_Receiver_told.nd rfl (Or.inl rfl)) (fun _ _ _ _ _ => pts_nil) (fun _ _ _ _ _ => (pv 2)) (fun _ _ _ _ _ => (pe_dget (hu_of hr) (pv 1) (pv 2) (fun _ _ => rfl))))))), ?_⟩)⟩
  obtain ⟨r, c, d, N, ks, P', told, rfl, hR, ok, q⟩ := h
  obtain ⟨dx, pl, past, ms, m, hr', hp, hpast, hl, hmm⟩ := id hR
  obtain ⟨dm, k, dd, em, ek, ed⟩ := id hmm
  have hlen := ok.len
  have n4 := ok.n4
  refine ⟨_, rfl, _, _, _, _, _, rfl, hr', T.cl_Receiver, T.na_Receiver_own_past, rfl, _, rfl, past, _, _, _, rfl, rfl, SqL.of hpast, atI_last _ _, m, _, _, _, _, rfl, em, T.cl_Moment, T.na_Moment_rows, rfl, ?_⟩
  refine ⟨dd, _, ed, True.intro, fun od => ?_⟩
  refine ⟨_, rfl, dd, od, rfl, .inl ⟨_, upd_same, fun D nD => ?_⟩⟩
  refine lcV walk_keys tb nD (by rw [kvT_len]; omega) (fun i acc => acc = (told.take i).map fun p => iN p.1) rfl (fun H1 g => g.at upd_same) ?_ ?_
  · rintro i x H1 H2 acc K1 K2 hi rfl g ⟨rfl, kk, v, hkv, rfl⟩ k1 _
    obtain ⟨p, hp, e⟩ := map_at hkv
    injection e with e1 e2
    subst e1
    refine ⟨rfl, _, rfl, .inl ⟨_, rfl, k1 _ _ (Gr.refl _) ?_⟩⟩
    rw [List.take_add_one, hp, List.map_append] <;> rfl
  rintro H1 acc g1 hD rfl
  rw [List.take_of_length_le (by rw [kvT_len]; exact Nat.le_refl _)] at hD
  have hne : D ≠ dd := by
    intro z
    rw [z, upd_same] at nD
    cases nD
  refine ⟨g1.at upd_same, ?_⟩
  have gu := Gr.unlock ed g1
  have hD2 : (upd H1 dd (.dK (kvT told))) D = some (.lst ((told.map fun p => (p.1 : Int)).map V.int)) := by
    rw [upd_ne hne, hD, List.map_map] <;> rfl
  generalize upd H1 dd (.dK (kvT told)) = H2 at gu hD2 ⊢
  refine ⟨D, _, rfl, SqL.of hD2, fun ns p perm srt np => ?_⟩
  obtain ⟨ls, rfl⟩ : ∃ ls : List Nat, ns = ls.map fun n : Nat => (n : Int) := by
    refine ⟨ns.map Int.toNat, ?_⟩
    rw [List.map_map]
    refine (List.map_id ns).symm.trans (List.map_congr_left fun x hx => ?_)
    obtain ⟨y, _, rfl⟩ := List.mem_map.mp (perm.mem_iff.mp hx)
    rfl
  have hpl : ls.Perm (told.map (·.1)) := by
    have := perm.map Int.toNat
    rw [List.map_map, List.map_map] at this
    have e1 : ls.map (Int.toNat ∘ fun n : Nat => (n : Int)) = ls := (List.map_congr_left fun x _ => rfl).trans (List.map_id ls)
    rw [e1] at this
    exact this
  have hsl : ls.Pairwise (· ≤ ·) := (List.pairwise_map.mp srt).imp fun h => by omega
  have g3 := gu.trans (Gr.new (tb := tb) (o := .lst ((ls.map fun n : Nat => (n : Int)).map V.int)) np)
  refine ⟨p, rfl, ⟨_, SqL.of upd_same⟩, fun D2 nD2 => ?_⟩
  have hll : ls.length = told.length := by rw [hpl.length_eq, List.length_map]
  refine dcV tb nD2 (by simp; omega) (fun i acc => acc = (ls.take i).map fun n : Nat => (Sum.inl ((n : Nat) : Int), iN ((told.lookup n).getD 0))) rfl (fun H3 g => SqL.of (g.at upd_same)) ?_ ?_
  · rintro i x H3 acc K1 K2 hx rfl g k1
    rw [List.map_map] at hx
    obtain ⟨n, hn, rfl⟩ := map_at hx
    obtain ⟨v, hv⟩ := lookup_mem' (told := told) (n := n) (hpl.mem_iff.mp (List.mem_of_getElem? hn))
    refine ⟨rfl, _, rfl, _, rfl, _, rfl, dd, iN v, rfl, ?_, ?_⟩
    · have := DGet.k (k := Sum.inl (n : Int)) ((g3.trans g).at ed)
      rw [valV_kvT, hv] at this
      exact this
    · refine k1 (Sum.inl (n : Int)) _ _ (Gr.refl _) ?_
      rw [put_new, List.take_add_one, hn, List.map_append]
      · simp [hv]
      · intro p hp e
        obtain ⟨y, hy, rfl⟩ := List.mem_map.mp hp
        have e' : y = n := by injection e with e; omega
        have hnd : ls.Nodup := hpl.nodup_iff.mpr ok.nd
        obtain ⟨j, hj, ej⟩ := List.mem_take_iff_getElem.mp hy
        obtain ⟨hi, ei⟩ := List.getElem?_eq_some_iff.mp hn
        have := (List.getElem_inj hnd (h₀ := by omega) (h₁ := hi)).mp (ej.trans (e'.trans ei.symm))
        omega
  · rintro H3 acc g hD3 rfl
    rw [List.take_of_length_le (by simp)] at hD3
    exact q D2 H3 ls (g3.trans g) hpl hsl hD3
end B
end
section
set_option linter.all false
set_option maxRecDepth 100000
namespace B
open PySem PySem.Spec PyProof.Rows L2 La
theorem hbw {K : PySem.W.Frag} {f : Addr} {fd : FuncData} (F : FunD K "wait" "Receiver.wait" (defArgs s_Receiver_wait) (defBody s_Receiver_wait) (defScope s_Receiver_wait) [.int 1] [] f fd) :
    ∀ (s : Shared) (u v : Value), K.In s.heap → BindsTo s fd ⟨[u], [(("ticks" : Str), v)]⟩ ((["self", "ticks"] : List Str).zip [u, v]) := by
  obtain ⟨oc, od, dV, kV, doc, pm, an, cdv, ct, osl, e, lk, hcd, h1, h2⟩ := F.ex
  subst e
  intro s u v X
  rcases h1 with ⟨e, _⟩ | ⟨_, D, o, its, n, rfl, ho, hs, hv⟩
  · cases e
  obtain ⟨a, rfl⟩ : ∃ a, its = [a] := by
    cases hv with
    | cons h t =>
      cases t
      exact ⟨_, rfl⟩
  exact BindsTo.of_defaults rfl (X _ _ ho) hs rfl rfl
theorem sumsW {tb : List (Addr × Str)} {H H' : Hp} {x a C dx : Addr} {fs : List (Str × V)} {s : List (List Nat)} (h : SumsAt H a s) (g : Gw tb x H H') (hx : H x = some (.ins C dx fs)) : SumsAt H' a s := by
  obtain ⟨ts, e, hl, ht⟩ := h
  exact ⟨ts, e, g.at hl hx (fun z => by cases z), fun t m => Gw.at g (ht t m) hx (fun z => by cases z)⟩
theorem planW {tb : List (Addr × Str)} {K : PySem.W.Frag} {H H' : Hp} {x p dx C : Addr} {fs : List (Str × V)} {ks : List Tk} (h : PlanI K H p ks) (g : Gw tb x H H') (hx : H x = some (.ins C dx fs)) (hp : p ≠ x) (ht : ∀ t, (∃ k, TickI K H t k) → t ≠ x) : PlanI K H' p ks := by
  obtain ⟨d2, ta, e, ts, e2, hl, hts⟩ := h
  refine ⟨d2, ta, g.at' e hp, ts, e2, g.at hl hx (fun z => by cases z), fun t m => ?_⟩
  obtain ⟨dt, sa, e3, e4⟩ := hts t m
  exact ⟨dt, sa, g.at' e3 (ht _ ⟨_, hts t m⟩), sumsW e4 g hx⟩
def begunL (S : Nat) : List (Nat × Nat) := (List.range (S + 1)).map fun i => (2 ^ (S - i), 0)
def sp_Receiver_init (K : PySem.W.Frag) (tb : List (Addr × Str)) : Sp := fun vs H Q _ => ∃ (x dx pl : Addr) (C : Addr) (d : Nat) (ks : List Tk), vs = [.ref x, .ref pl, iN d] ∧ H x = some (.ins C dx []) ∧ C = He.ga K "Receiver" ∧ PlanI K H pl ks ∧ OkP ks ∧ d ≤ 8 ∧
  ∀ H', Gw tb x H H' → RcvI K 0 H' x ks d 0 (begunL (d + ageP ks)) [] → Q .non H'
abbrev nm_Receiver_init : List Str := ["self", "plan", "delay", "begun", "age"]
theorem sc_Receiver_init : FnScope nm_Receiver_init ["self", "plan", "delay"] (defScope s_Receiver_init) := ⟨rfl, rfl, rfl, by decide +kernel, rfl, by decide +kernel, by decide +kernel⟩
theorem c_Receiver {P : Program} {w : World} {K : PySem.W.Frag} {mg : Str → Option Value} {base : Heap} {tb : List (Addr × Str)} (T : Tx K mg base tb) : Kf P w K mg base 6 "Receiver" (He.ga K "Receiver") (sp_Receiver_init K tb) := by
  obtain ⟨f, fd, F, hm⟩ := T.f_Receiver_init
  refine ⟨f, hm, @mkR P w K mg base _ _ _ _ _ _ _ (sp_Receiver_init K tb) 5 F sc_Receiver_init (fun _ _ _ _ _ _ us hl => match us, hl with | [_, _, _], _ => rfl) (fun vs H Q E h => by obtain ⟨x, dx, pl, C, d, ks, rfl, hx, rfl, hp, ok, d8, q⟩ := h; rfl) (fun cdv A outer s H vs Q E hr h => ⟨_, (pss_cons (ps_if (pt_not (pt_val (pe_callB (C8.call_isC T.i_Plan) (by rfl) T.n_isinstance (by decide +kernel) (pa_cons (pv 1) (pa_cons (pe_glob (v := .ref (He.ga K "Plan")) rfl T.g_Plan rfl) pa_nil))))) (pss_one ps_never) pss_nil)
      (pss_cons (ps_if (pt_not (pt_val (pe_cR (c_is_delay (K := K) T) hr (by decide) rfl (pa_cons (pv 2) pa_nil)))) (pss_one ps_never) pss_nil)
      (pss_cons (ps_fld (pv 0) (pv 1) rfl)
      (pss_cons (ps_fld (pv 0) (pv 2) rfl)
      (pss_cons (ps_set (i := 3) sc_Receiver_init.nd rfl (Or.inl rfl) (pe_kR (c_Known (K := K) T) hr (by decide) rfl (pa_cons (pe_lc (own := [("age", 4)]) (g := gName 4) (tt := tYes) rfl sc_Receiver_init.nd (pi_range3 (by rfl) T.n_range (pa_cons (pe_mR0 (c_Receiver_span (K := K) T) hr (by decide) (pv 0)) (pa_cons (pe_un un_neg pe_int) (pa_cons (pe_un un_neg pe_int) pa_nil)))) (blkOk_by (own := [("age", 4)]) (N := nm_Receiver_init) (sc := defScope s_Receiver_init) (by decide +kernel)) (fun _ _ _ _ _ => pg_name (i := 4) sc_Receiver_init.nd rfl (Or.inl rfl)) (fun _ _ _ _ _ => pts_nil) (fun _ _ _ _ _ => (pe_tup (pa_cons (pe_cR (c_power (K := K) T) hr (by decide) rfl (pa_cons (pv 4) pa_nil)) (pa_cons pe_int pa_nil))))) pa_nil)))
      (pss_one (ps_fld (pv 0) (pe_lst (pa_cons (pe_kR (c_Moment (K := K) T) hr (by decide) rfl (pa_cons (pe_un un_neg pe_int) (pa_cons (pv 3) (pa_cons pe_dnewK pa_nil)))) pa_nil)) rfl))))))), ?_⟩), T.g_Receiver⟩
  obtain ⟨x, dx, pl, C, d, ks, rfl, hx, rfl, hp, ok, d8, q⟩ := h
  obtain ⟨dp, ta, ep, ep2⟩ := id hp
  have hS := ageP_le ok
  refine ⟨_, rfl, pl, _, _, rfl, ep, _, rfl, iteF ?_⟩
  refine ⟨_, rfl, d, rfl, d8, _, rfl, iteF ?_⟩
  refine ⟨_, rfl, _, rfl, x, _, dx, _, rfl, hx, T.cl_Receiver, T.na_Receiver_plan, (by decide : (0 : Nat) < 1000), ?_⟩
  refine ⟨_, rfl, _, rfl, x, _, dx, _, rfl, upd_same, T.cl_Receiver, T.na_Receiver_delay, (by decide : (1 : Nat) < 1000), ?_⟩
  generalize hH : upd (upd H x (.ins (He.ga K "Receiver") dx (putF "plan" (.ref pl) []))) x (.ins (He.ga K "Receiver") dx (putF "delay" (iN d) (putF "plan" (.ref pl) []))) = H1
  have g1 : Gw tb x H H1 := by rw [← hH]; exact (Gw.wr hx rfl).trans (Gw.wr upd_same rfl)
  have e1 : H1 x = some (.ins (He.ga K "Receiver") dx [("plan", .ref pl), ("delay", iN d)]) := by rw [← hH]; exact upd_same
  have hne : pl ≠ x := fun z => by rw [z, hx] at ep; injection ep with ep; injection ep with e1 e2 e3; cases e3
  have hp1 : PlanI K H1 pl ks := planW hp g1 hx hne fun t ⟨k, dt, sa, et, _⟩ z => by rw [z, hx] at et; injection et with et; injection et with e1 e2 e3; cases e3
  refine ⟨_, rfl, x, dx, _, rfl, e1, rfl, x, dx, pl, _, d, ks, rfl, e1, rfl, rfl, hp1, ok, fun H2 g2 => ?_⟩
  refine ⟨_, rfl, _, rfl, _, _, _, (((d + ageP ks : Nat) : Int) - -1).toNat, rfl, RgC.neg (by omega) (by omega) (by decide) (by decide), fun D nD => ?_⟩
  refine lcT walk_rangeC tb nD (by omega) (fun i acc => acc = (List.range i).map fun i => (2 ^ (d + ageP ks - i), 0)) rfl (fun _ _ => True.intro) ?_ ?_
  · rintro i y H3 H4 acc K1 K2 hi rfl g ⟨rfl, ey⟩ k1 _
    obtain rfl : y = iN (d + ageP ks - i) := ey.trans (congrArg V.int (by omega))
    refine ⟨rfl, _, rfl, d + ageP ks - i, rfl, by omega, z2, fun p np => ?_⟩
    refine k1 p (2 ^ (d + ageP ks - i)) 0 H4 (Gr.refl _) np ?_
    rw [List.range_succ, List.map_append] <;> rfl
  rintro H3 ts g3 pt e3 x2 dx2 nx2 ndx2 ne2
  refine ⟨x2, _, dx2, _, rfl, upd_same, rfl, rfl, ?_⟩
  have g4 : Gr tb H3 (upd (upd (upd H3 dx2 (.own x2)) x2 (.ins (He.ga K "Known") dx2 [])) x2 (.ins (He.ga K "Known") dx2 [("pairs", .ref D)])) := Gr.made nx2 ndx2 (Gw.wr upd_same rfl)
  generalize hH4 : upd (upd (upd H3 dx2 (.own x2)) x2 (.ins (He.ga K "Known") dx2 [])) x2 (.ins (He.ga K "Known") dx2 [("pairs", .ref D)]) = H4 at g4 ⊢
  have e4 : H4 x2 = some (.ins (He.ga K "Known") dx2 [("pairs", .ref D)]) := by rw [← hH4]; exact upd_same
  have hk4 : KI K H4 x2 (begunL (d + ageP ks)) := ⟨dx2, D, e4, (pt.pl (by rw [e3, show (((d + ageP ks : Nat) : Int) - -1).toNat = d + ageP ks + 1 by omega] <;> rfl)).gr g4⟩
  have g24 := g2.trans (g3.trans g4)
  refine ⟨_, rfl, _, rfl, fun dd ndd => ?_⟩
  intro x5 dx5 nx5 ndx5 ne5
  refine ⟨x5, _, dx5, _, _, _, rfl, upd_same, rfl, fun H5 e5 => ⟨rfl, ?_⟩⟩
  subst e5
  have gd := Gr.new (tb := tb) (o := .dK []) ndd
  have ed4 : (upd H4 dd (.dK [])) dd = some (.dK []) := upd_same
  have g5 : Gr tb (upd H4 dd (.dK [])) (upd (upd (upd (upd (upd (upd H4 dd (.dK [])) dx5 (.own x5)) x5 (.ins (He.ga K "Moment") dx5 [])) x5 (.ins (He.ga K "Moment") dx5 [("at_tick", .int (-1))])) x5 (.ins (He.ga K "Moment") dx5 [("at_tick", .int (-1)), ("sums", .ref x2)])) x5 (.ins (He.ga K "Moment") dx5 [("at_tick", .int (-1)), ("sums", .ref x2), ("rows", .ref dd)])) :=
    Gr.made nx5 ndx5 ((Gw.wr upd_same rfl).trans ((Gw.wr upd_same rfl).trans (Gw.wr upd_same rfl)))
  generalize hH5 : upd (upd (upd (upd (upd (upd H4 dd (.dK [])) dx5 (.own x5)) x5 (.ins (He.ga K "Moment") dx5 [])) x5 (.ins (He.ga K "Moment") dx5 [("at_tick", .int (-1))])) x5 (.ins (He.ga K "Moment") dx5 [("at_tick", .int (-1)), ("sums", .ref x2)])) x5 (.ins (He.ga K "Moment") dx5 [("at_tick", .int (-1)), ("sums", .ref x2), ("rows", .ref dd)]) = H5 at g5 ⊢
  have e5 : H5 x5 = some (.ins (He.ga K "Moment") dx5 [("at_tick", .int (-1)), ("sums", .ref x2), ("rows", .ref dd)]) := by rw [← hH5]; exact upd_same
  refine ⟨(by decide : (1 : Nat) ≤ sizeLine), fun l nl => ?_⟩
  have gl := Gr.new (tb := tb) (o := .lst [V.ref x5]) nl
  have g15 := g24.trans (gd.trans (g5.trans gl))
  have gx := g15.at e1
  refine ⟨_, rfl, x, _, dx, _, rfl, gx, T.cl_Receiver, T.na_Receiver_own_past, (by decide : (2 : Nat) < 1000), ?_⟩
  have gf := (g1.trans (Gw.of g15)).trans (Gw.wr (o' := .ins (He.ga K "Receiver") dx [("plan", .ref pl), ("delay", iN d), ("own_past", .ref l)]) gx rfl)
  have gw : Gw tb x _ _ := Gw.wr (tb := tb) (o' := .ins (He.ga K "Receiver") dx [("plan", .ref pl), ("delay", iN d), ("own_past", .ref l)]) gx rfl
  refine q _ gf ⟨dx, pl, l, [], x5, upd_same, ?_, ?_, Nat.le_refl _, ?_⟩
  · exact planW (hp1.gr g15) gw gx hne fun t ⟨k, dt, sa, et, _⟩ z => by
      rw [z, gx] at et; injection et with et; injection et with e1 e2 e3; cases e3
  · exact gw.at upd_same gx (fun z => by cases z)
  · refine ⟨dx5, x2, dd, gw.at' (gl.at e5) ?_, ?_, gw.at (gl.at (g5.at ed4)) gx (fun z => by cases z)⟩
    · intro z; rw [z] at nx5; have := gd.at (g24.at e1); rw [nx5] at this; cases this
    · obtain ⟨k1, k2, k3, ts, k4, k5, k6⟩ := (hk4.gr (gd.trans (g5.trans gl)))
      exact ⟨k1, k2, gw.at' k3 (fun z => by rw [z, gx] at k3; injection k3 with k3; injection k3 with e1 e2 e3; cases e3), ts, k4, gw.at k5 gx (fun z => by cases z), fun t m => Gw.at gw (k6 t m) gx (fun z => by cases z)⟩
theorem ins_ne {H : Hp} {a b C C' dx dx' : Addr} {fs fs' : List (Str × V)} (h : H a = some (.ins C dx fs)) (k : H b = some (.ins C' dx' fs')) (hf : decide (fs.map (·.1) = fs'.map (·.1)) = false := by rfl) : a ≠ b := by
  intro z
  rw [z, k] at h
  injection h with h
  injection h with _ _ h
  rw [h, decide_eq_true rfl] at hf
  cases hf
abbrev rcvF (pl : Addr) (d : Nat) (l : Addr) : List (Str × V) := [("plan", .ref pl), ("delay", iN d), ("own_past", .ref l)]
theorem rcv_set {tb : List (Addr × Str)} {K : PySem.W.Frag} {H : Hp} {r C dx pl l0 l m : Addr} {d c N : Nat} {ks : List Tk} {P told : List (Nat × Nat)} {xs : List V} (hC : C = He.ga K "Receiver") (hr : H r = some (.ins C dx (rcvF pl d l0))) (hp : PlanI K H pl ks) (e : H l = some (.lst (xs ++ [.ref m]))) (hl : xs.length ≤ c) (hm : MomI K H m N P told) :
    Gw tb r H (upd H r (.ins C dx (rcvF pl d l))) ∧ RcvI K c (upd H r (.ins C dx (rcvF pl d l))) r ks d N P told := by
  subst hC
  have gw : Gw tb r H (upd H r (.ins (He.ga K "Receiver") dx (rcvF pl d l))) := Gw.wr hr rfl
  refine ⟨gw, dx, pl, l, xs, m, upd_same, ?_, gw.at e hr (fun z => by cases z), hl, ?_⟩
  · obtain ⟨d2, ta, e2, ts, e3, hl2, hts⟩ := hp
    refine ⟨d2, ta, gw.at' e2 (ins_ne e2 hr), ts, e3, gw.at hl2 hr (fun z => by cases z), fun t mt => ?_⟩
    obtain ⟨dt, sa, e4, e5⟩ := hts t mt
    exact ⟨dt, sa, gw.at' e4 (ins_ne e4 hr), sumsW e5 gw hr⟩
  · obtain ⟨dm, k, dd, e2, ⟨dk, lk, e3, ts, e4, e5, e6⟩, e7⟩ := hm
    exact ⟨dm, k, dd, gw.at' e2 (ins_ne e2 hr), ⟨dk, lk, gw.at' e3 (ins_ne e3 hr), ts, e4, gw.at e5 hr (fun z => by cases z), fun t mt => Gw.at gw (e6 t mt) hr (fun z => by cases z)⟩, gw.at e7 hr (fun z => by cases z)⟩
def foldW (P : List (Nat × Nat)) (bs : List (Nat × Nat)) : List (Nat × Nat) := bs.foldl (fun P b => withL P b.1 b.2) P
/-- what a receiver holds behind a packet -/
def hearP (ks : List Tk) (d N n : Nat) (P : List (Nat × Nat)) (vals : List Nat) : List (Nat × Nat) :=
  foldW (passL ks (d + ageP ks) N (max N (n + 1) - N) P) (((tkAt ks n).1.map fun s => maskOf s * 2 ^ (max N (n + 1) - 1 - n)).zip vals)
def sp_Receiver_wait (K : PySem.W.Frag) (tb : List (Addr × Str)) : Sp := fun vs H Q _ => ∃ (r : Addr) (c d N t : Nat) (ks : List Tk) (P told : List (Nat × Nat)), vs = [.ref r, iN t] ∧ RcvI K c H r ks d N P told ∧ OkR ks d N P told ∧ 1 ≤ t ∧ t ≤ 50 ∧ N + t ≤ 400 ∧ c ≤ 500 ∧ LamX.Tabs tb H ∧
  ∀ H', Gw tb r H H' → RcvI K (c + 1) H' r ks d (N + t) (passL ks (d + ageP ks) N t P) told → Q .non H'
abbrev nm_Receiver_wait : List Str := ["self", "ticks"]
theorem sc_Receiver_wait : FnScope nm_Receiver_wait ["self", "ticks"] (defScope s_Receiver_wait) := ⟨rfl, rfl, rfl, by decide +kernel, rfl, by decide +kernel, by decide +kernel⟩
theorem c_Receiver_wait {P : Program} {w : World} {K : PySem.W.Frag} {mg : Str → Option Value} {base : Heap} {tb : List (Addr × Str)} (T : Tx K mg base tb) : KwF P w K mg base 7 (He.ga K "Receiver") "wait" "ticks" (sp_Receiver_wait K tb) := by
  obtain ⟨f, fd, F, hm⟩ := T.f_Receiver_wait
  refine ⟨f, fd, ["self", "ticks"], T.cl_Receiver, hm, @FunD.ok P w K mg base _ _ _ _ _ _ _ _ _ _ _ _ 6 (sp_Receiver_wait K tb) F sc_Receiver_wait (fun vs H Q E h => by obtain ⟨r, c, d, N, t, ks, P', told, rfl, hR, ok, t1, t2, hN, hc, hT, q⟩ := h; rfl) (fun cdv A outer s H vs Q E hr h => ⟨_, PSs.nox ((pss_cons (ps_if (pt_not (pt_val (pe_cR (c_is_within (K := K) T) hr (by decide) rfl (pa_cons (pv 1) (pa_cons pe_int (pa_cons (pe_glob (v := .int 100) rfl T.g_MOST_JUMP.choose_spec ⟨_, rfl⟩) pa_nil)))))) (pss_one ps_never) pss_nil)
      (pss_one (ps_fld (pv 0) (pe_lst (StX.pa_star (pe_fld (pv 0) rfl) (pa_cons (pe_mR (c_Receiver_passed (K := K) T) hr (by decide) (pv 0) (pa_cons (pe_mR0 (c_Receiver_moment (K := K) T) hr (by decide) (pv 0)) (pa_cons (pe_op op_add (pe_pR (c_Receiver_now (K := K) T) hr (by decide) (pv 0) (by rfl)) (pv 1)) pa_nil))) pa_nil))) rfl)))), ?_⟩), hbw F⟩
  obtain ⟨r, c, d, N, t, ks, P', told, rfl, hR, ok, t1, t2, hN, hc, hT, q⟩ := h
  obtain ⟨dx, pl, past, ms, m, hr', hp, hpast, hl, hmm⟩ := id hR
  refine ⟨_, rfl, t, _, _, rfl, ?_⟩
  rw [decide_eq_true (show (1 : Int) ≤ (t : Int) by omega), decide_eq_true (show (t : Int) ≤ 100 by omega)]
  refine ⟨_, rfl, iteF ?_⟩
  refine ⟨_, rfl, _, _, _, _, _, rfl, hr', T.cl_Receiver, T.na_Receiver_own_past, rfl, past, _, rfl, .inr (SqL.of hpast), ?_⟩
  refine ⟨_, rfl, r, dx, _, rfl, hr', rfl, _, rfl, r, dx, _, rfl, hr', rfl, r, c, d, N, ks, P', told, rfl, hR, fun m2 hm2 => ?_⟩
  refine ⟨_, rfl, r, dx, _, rfl, hr', r, c, d, N, ks, P', told, rfl, hR, _, rfl, _, _, rfl, rfl, ?_⟩
  refine ⟨r, m2, c, d, N, N, N + t, t, ks, P', P', told, told, congrArg (fun z => [V.ref r, V.ref m2, V.int z]) (show (N : Int) - 1 + (t : Int) = ((N + t : Nat) : Int) - 1 by omega), hR, hm2, ok, rfl, hN, hT, fun m3 H1 g1 hm3 => ?_⟩
  have z : (1000 : Nat) < sizeLine := by decide
  refine ⟨by simp; omega, fun l nl => ?_⟩
  have g2 := g1.trans (Gr.new (tb := tb) (o := .lst ((ms ++ [V.ref m]) ++ [V.ref m3])) nl)
  have gl := Gr.new (tb := tb) (H := H1) (o := .lst ((ms ++ [V.ref m]) ++ [V.ref m3])) nl
  refine ⟨_, rfl, r, _, dx, _, rfl, g2.at hr', T.cl_Receiver, T.na_Receiver_own_past, (by decide : (3 : Nat) < 1000), ?_⟩
  obtain ⟨h1, h2⟩ := rcv_set (tb := tb) (c := c + 1) rfl (g2.at hr') (hp.gr g2) (l := l) (xs := ms ++ [V.ref m]) (m := m3) upd_same (by simp; omega) (hm3.gr gl)
  exact q _ ((Gw.of g2).trans h1) h2
end B
end
section
set_option linter.all false
set_option maxRecDepth 100000
namespace B
open PySem PySem.Spec PyProof.Rows L2 La
theorem le_fold : ∀ (l : List Nat) (a : Nat), a ≤ l.foldl max a ∧ ∀ x ∈ l, x ≤ l.foldl max a
  | [], a => ⟨Nat.le_refl _, fun x h => nomatch h⟩
  | y :: l, a => by
    obtain ⟨h1, h2⟩ := le_fold l (max a y)
    have e : (y :: l).foldl max a = l.foldl max (max a y) := rfl
    rw [e]
    refine ⟨by omega, fun x hx => ?_⟩
    rcases List.mem_cons.mp hx with rfl | hx
    · omega
    · exact h2 x hx
theorem le_last : ∀ {s : List Nat}, s.Pairwise (· < ·) → ∀ a ∈ s, a ≤ s.getLastD 0
  | [x], _, a, h => by rw [List.mem_singleton.mp h]; exact Nat.le_refl _
  | x :: y :: s, hp, a, h => by
    obtain ⟨h1, h2⟩ := List.pairwise_cons.mp hp
    have ih := le_last (s := y :: s) h2
    have e : (x :: y :: s).getLastD 0 = (y :: s).getLastD 0 := by simp [List.getLastD_eq_getLast?, List.getLast?_cons_cons]
    rw [e]
    rcases List.mem_cons.mp h with rfl | h
    · have := h1 y List.mem_cons_self
      have := ih y List.mem_cons_self
      omega
    · exact ih a h
theorem age_le {ks : List Tk} {k : Tk} {s : List Nat} {a : Nat} (ok : OkP ks) (hk : k ∈ ks) (hs : s ∈ k.1) (ha : a ∈ s) : a ≤ ageP ks := by
  have h1 := le_last ((ok.2.2 k hk).1 s hs).2.1 a ha
  have h2 := (le_fold (k.1.map fun s => s.getLastD 0) 0).2 _ (List.mem_map_of_mem hs)
  have h3 := (le_fold (ks.map ageT) 0).2 _ (List.mem_map_of_mem hk)
  exact Nat.le_trans h1 (Nat.le_trans h2 h3)
theorem maskOf_lt {s : List Nat} {A : Nat} (h : ∀ a ∈ s, a ≤ A) : maskOf s < 2 ^ (A + 1) := by
  have : ∀ (s : List Nat) (m : Nat), m < 2 ^ (A + 1) → (∀ a ∈ s, a ≤ A) → s.foldl (fun m a => m ||| 2 ^ a) m < 2 ^ (A + 1) := by
    intro s
    induction s with
    | nil => exact fun m hm _ => hm
    | cons a s ih => exact fun m hm ha => ih _ (Nat.or_lt_two_pow hm (Nat.pow_lt_pow_right (by decide) (by have := ha a List.mem_cons_self; omega))) fun b hb => ha b (List.mem_cons_of_mem _ hb)
  exact this s 0 (Nat.two_pow_pos _) h
theorem JS.fold {S : Nat} : ∀ {bs : List (Nat × Nat)} {P : List (Nat × Nat)}, JS S P → (∀ b ∈ bs, b.1 < 2 ^ (S + 1)) → JS S (foldW P bs)
  | [], P, j, _ => j
  | b :: bs, P, j, h => JS.fold (bs := bs) (j.with (v := b.2) (h b List.mem_cons_self)) fun c hc => h c (List.mem_cons_of_mem _ hc)
theorem foldW_next {P bs : List (Nat × Nat)} {i : Nat} {b : Nat × Nat} (h : bs[i]? = some b) : foldW P (bs.take (i + 1)) = withL (foldW P (bs.take i)) b.1 b.2 := by
  unfold foldW
  rw [List.take_add_one, h, List.foldl_append] <;> rfl
theorem merge_new : ∀ {more kvs : List (Key × V)}, ((kvs ++ more).map (·.1)).Nodup → mergeK kvs more = kvs ++ more
  | [], kvs, _ => (List.append_nil _).symm
  | (k, v) :: more, kvs, h => by
    show mergeK (putK kvs k v) more = _
    have h' : ((kvs ++ [(k, v)]) ++ more) = kvs ++ (k, v) :: more := by simp
    rw [put_new, merge_new, h']
    · rw [h']; exact h
    · intro p hp e
      rw [List.map_append, List.map_cons] at h
      have h2 := (List.nodup_append.mp h).2.2 p.1 (List.mem_map_of_mem hp) k List.mem_cons_self
      exact h2 e
theorem paired_app {α β : Type} {F : α → β → Prop} : ∀ {l1 l2 : List α} {k1 k2 : List β}, Paired F l1 k1 → Paired F l2 k2 → Paired F (l1 ++ l2) (k1 ++ k2)
  | [], _, [], _, .nil, h => h
  | _ :: _, _, _ :: _, _, .cons a r, h => .cons a (paired_app r h)
theorem paired_map {α β γ : Type} {F : α → β → Prop} {f : γ → α} {g : γ → β} : ∀ {l : List γ}, (∀ x ∈ l, F (f x) (g x)) → Paired F (l.map f) (l.map g)
  | [], _ => .nil
  | x :: l, h => .cons (h x List.mem_cons_self) (paired_map fun y hy => h y (List.mem_cons_of_mem _ hy))
theorem paired_len {α β : Type} {F : α → β → Prop} : ∀ {l : List α} {k : List β}, Paired F l k → l.length = k.length
  | [], [], .nil => rfl
  | _ :: _, _ :: _, .cons _ r => congrArg (· + 1) (paired_len r)
theorem kvT_nd {told : List (Nat × Nat)} (h : (told.map (·.1)).Nodup) : ((kvT told).map (·.1)).Nodup := by
  unfold kvT
  rw [List.map_map]
  have : told.map ((fun x : Key × V => x.1) ∘ fun p : Nat × Nat => (Sum.inl (p.1 : Int), iN p.2)) = (told.map (·.1)).map fun n : Nat => (Sum.inl (n : Int) : Key) := by rw [List.map_map] <;> rfl
  rw [this]
  exact List.pairwise_map.mpr (h.imp fun hab e => hab (by injection e with e; omega))
theorem fresh_nd {ks : List Tk} {d N : Nat} {P told : List (Nat × Nat)} (hnd : (told.map (·.1)).Nodup) : ((told ++ freshL ks d N P told).map (·.1)).Nodup := by
  rw [List.map_append]
  refine List.nodup_append.mpr ⟨hnd, ?_, ?_⟩
  · unfold freshL
    have : ∀ (l : List Nat), l.Pairwise (· < ·) → (∀ x ∈ l, x ≤ d) → ((l.filterMap (frF ks d N P told)).map (·.1)).Nodup := by
      intro l
      induction l with
      | nil => exact fun _ _ => List.nodup_nil
      | cons i l ih =>
        intro hp hx
        obtain ⟨h1, h2⟩ := List.pairwise_cons.mp hp
        have ih' := ih h2 fun y hy => hx y (List.mem_cons_of_mem _ hy)
        rw [List.filterMap_cons]
        cases e : frF ks d N P told i with
        | none => exact ih'
        | some p =>
          show ((p :: _).map (·.1)).Nodup
          rw [List.map_cons]
          refine List.nodup_cons.mpr ⟨fun hm => ?_, ih'⟩
          obtain ⟨q, hq, eq⟩ := List.mem_map.mp hm
          obtain ⟨j, hj, ej⟩ := List.mem_filterMap.mp hq
          have hij := h1 j hj
          have hjd := hx j (List.mem_cons_of_mem _ hj)
          unfold frF at e ej
          split at e
          · rename_i c1
            split at ej
            · rename_i c2
              injection e with e
              injection ej with ej
              rw [← e, ← ej] at eq
              have := c1.1
              have := c2.1
              simp only at eq
              omega
            · cases ej
          · cases e
    exact this _ List.pairwise_lt_range fun x hx => by have := List.mem_range.mp hx; omega
  · intro x hx y hy e
    subst e
    obtain ⟨q, hq, eq⟩ := List.mem_map.mp hy
    obtain ⟨j, hj, ej⟩ := List.mem_filterMap.mp hq
    obtain ⟨v, hv⟩ := lookup_mem' hx
    unfold frF at ej
    split at ej
    · rename_i c
      injection ej with ej
      rw [← ej] at eq
      simp only at eq
      rw [eq, hv] at c
      cases c.2.2.1
    · cases ej
theorem fresh_lt {ks : List Tk} {d N : Nat} {P told : List (Nat × Nat)} : ∀ p ∈ freshL ks d N P told, p.1 < N := by
  intro p hp
  obtain ⟨j, hj, ej⟩ := List.mem_filterMap.mp hp
  unfold frF at ej
  split at ej
  · rename_i c
    injection ej with ej
    rw [← ej]
    have := c.1
    show N - 1 - (d - j) < N
    omega
  · cases ej
def sp_Receiver_hear (K : PySem.W.Frag) (tb : List (Addr × Str)) : Sp := fun vs H Q _ => ∃ (r p : Addr) (c d N n : Nat) (ks : List Tk) (P told : List (Nat × Nat)) (vals : List Nat), vs = [.ref r, .ref p] ∧ RcvI K c H r ks d N P told ∧ OkR ks d N P told ∧ PktI K H p n vals ∧ vals.length = (tkAt ks n).1.length ∧ n ≤ N + 50 ∧ n ≤ 300 ∧ c ≤ 500 ∧ LamX.Tabs tb H ∧
  (n + d + 1 < N → ∀ a H', Gr tb H H' → TPL H' a [] → Q (.ref a) H') ∧
  (¬ n + d + 1 < N → ∀ a H', Gw tb r H H' → TPL H' a (freshL ks d (max N (n + 1)) (hearP ks d N n P vals) told) → RcvI K (c + 1) H' r ks d (max N (n + 1)) (hearP ks d N n P vals) (told ++ freshL ks d (max N (n + 1)) (hearP ks d N n P vals) told) → Q (.ref a) H')
abbrev nm_Receiver_hear : List Str := ["self", "packet", "then", "later", "lag", "sums", "mask", "part", "found", "told"]
theorem sc_Receiver_hear : FnScope nm_Receiver_hear ["self", "packet"] (defScope s_Receiver_hear) := ⟨rfl, rfl, rfl, by decide +kernel, rfl, by decide +kernel, by decide +kernel⟩
theorem c_Receiver_hear {P : Program} {w : World} {K : PySem.W.Frag} {mg : Str → Option Value} {base : Heap} {tb : List (Addr × Str)} (T : Tx K mg base tb) : Mf P w K mg base 7 (He.ga K "Receiver") "hear" (sp_Receiver_hear K tb) := by
  obtain ⟨f, fd, F, hm⟩ := T.f_Receiver_hear
  refine ⟨f, T.cl_Receiver, hm, @mkR P w K mg base _ _ _ _ _ _ _ (sp_Receiver_hear K tb) 6 F sc_Receiver_hear (fun _ _ _ _ _ _ us hl => match us, hl with | [_, _], _ => rfl) (fun vs H Q E h => by obtain ⟨r, p, c, d, N, n, ks, P', told, vals, rfl, hR, ok, hpk, hlen, hn, hn3, hc, hT, q1, q2⟩ := h; rfl) (fun cdv A outer s H vs Q E hr h => ⟨_, (pss_cons (ps_expr (pe_mR (c_Receiver_need_packet (K := K) T) hr (by decide) (pv 0) (pa_cons (pv 1) pa_nil)))
      (pss_cons (ps_if (pt_cmpR op_lt (pe_fld (pv 1) rfl) (pe_op op_sub (pe_pR (c_Receiver_now (K := K) T) hr (by decide) (pv 0) (by rfl)) (pe_fld (pv 0) rfl)) (nomark _)) (pss_one (ps_ret (pe_tup pa_nil))) pss_nil)
      (pss_cons (ps_set (i := 2) sc_Receiver_hear.nd rfl (Or.inl rfl) (pe_mR0 (c_Receiver_moment (K := K) T) hr (by decide) (pv 0)))
      (pss_cons (ps_set (i := 3) sc_Receiver_hear.nd rfl (Or.inl rfl) (pe_mR (c_Receiver_passed (K := K) T) hr (by decide) (pv 0) (pa_cons (pv 2) (pa_cons (pe_callB (call_max2 rfl) (by rfl) T.n_max (by decide +kernel) (pa_cons (pe_callTy call_int1 (by rfl) T.n_int (by decide +kernel) (pa_cons (pe_fld (pv 1) rfl) pa_nil)) (pa_cons (pe_callTy call_int1 (by rfl) T.n_int (by decide +kernel) (pa_cons (pe_pR (c_Receiver_now (K := K) T) hr (by decide) (pv 0) (by rfl)) pa_nil)) pa_nil))) pa_nil))))
      (pss_cons (ps_par (i := 4) (j := 5) rfl sc_Receiver_hear.nd rfl rfl (by decide) rfl rfl (pa_cons (pe_op op_sub (pe_fld (pv 3) rfl) (pe_fld (pv 1) rfl)) (pa_cons (pe_fld (pv 3) rfl) pa_nil)) (by rfl))
      (pss_cons (ps_for PassesOwn.never rfl (RZ.pi_zipA (by rfl) T.n_zip (pa_cons (pe_pR (c_Tick_masks (K := K) T) hr (by decide) (pe_mR (c_Plan_tick_at (K := K) T) hr (by decide) (pe_fld (pv 0) rfl) (pa_cons (pe_fld (pv 1) rfl) pa_nil)) (by rfl)) (pa_cons (pe_fld (pv 1) rfl) pa_nil))) (pg_tup rfl (pgs_cons (pg_name (i := 6) sc_Receiver_hear.nd rfl (Or.inl rfl)) (pgs_cons (pg_name (i := 7) sc_Receiver_hear.nd rfl (Or.inl rfl)) pgs_nil)))
      (pss_one (ps_set (i := 5) sc_Receiver_hear.nd rfl (Or.inl rfl) (pe_mR (c_Known_with_sum (K := K) T) hr (by decide) (pv 5) (pa_cons (pe_op op_mul (pv 6) (pe_cR (c_power (K := K) T) hr (by decide) rfl (pa_cons (pv 4) pa_nil))) (pa_cons (pv 7) pa_nil))))))
      (pss_cons (ps_set (i := 8) sc_Receiver_hear.nd rfl (Or.inl rfl) (pe_mR (c_Receiver_fresh (K := K) T) hr (by decide) (pv 0) (pa_cons (pe_fld (pv 3) rfl) (pa_cons (pv 5) (pa_cons (pe_fld (pv 2) rfl) pa_nil)))))
      (pss_cons (ps_set (i := 9) sc_Receiver_hear.nd rfl (Or.inl rfl) (pe_callTy (call_dictP rfl) (by rfl) T.n_dict (by decide +kernel) (pa_cons (pe_lst (pa_starItems (pe_fld (pv 2) rfl) (StX.pa_star (pv 8) pa_nil) rfl)) pa_nil)))
      (pss_cons (ps_fld (pv 0) (pe_lst (StX.pa_star (pe_fld (pv 0) rfl) (pa_cons (pe_kR (c_Moment (K := K) T) hr (by decide) rfl (pa_cons (pe_fld (pv 3) rfl) (pa_cons (pv 5) (pa_cons (pv 9) pa_nil)))) pa_nil))) rfl)
      (pss_one (ps_ret (pv 8)))))))))))), ?_⟩)⟩
  obtain ⟨r, p, c, d, N, n, ks, P', told, vals, rfl, hR, ok, hpk, hlen, hn, hn3, hc, hT, q1, q2⟩ := h
  obtain ⟨dx, pl, past, ms, m, hr', hp, hpast, hl, hmm⟩ := id hR
  have n4 := ok.n4
  have d8 := ok.d8
  have hA := ageP_le ok.p
  obtain ⟨dxp, pa, ekp, epa⟩ := id hpk
  have hv4 : vals.length ≤ 4 := by rw [hlen]; exact (ok.p.2.2 _ (tkAt_mem ok.p.1 n)).2.2.1
  refine ⟨_, rfl, r, dx, _, rfl, hr', rfl, _, rfl, r, p, c, d, N, n, ks, P', told, vals, rfl, hR, ok, hpk, hlen, hn, by omega, fun H1 g1 => ?_⟩
  refine ⟨_, rfl, _, _, _, _, _, rfl, g1.at ekp, T.cl_Packet, T.na_Packet_tick, rfl, _, rfl, r, dx, _, rfl, g1.at hr', r, c, d, N, ks, P', told, rfl, hR.gr g1, _, rfl, _, _, _, _, _, rfl, g1.at hr', T.cl_Receiver, T.na_Receiver_delay, rfl, _, _, rfl, rfl, _, _, rfl, rfl, _, rfl, ite2 (fun h => ?_) fun h => ?_⟩
  · have h' := of_decide_eq_true h
    exact ⟨(by decide : (0 : Nat) ≤ sizeLine), fun a na => q1 (by omega) a _ (g1.trans (Gr.new na)) ⟨[], rfl, upd_same, fun t m => nomatch m⟩⟩
  have hnot : ¬ n + d + 1 < N := fun z => h (decide_eq_true (by omega))
  have q2' := q2 hnot
  refine ⟨_, rfl, r, dx, _, rfl, g1.at hr', rfl, r, c, d, N, ks, P', told, rfl, hR.gr g1, fun m2 hm2 => ?_⟩
  refine ⟨_, rfl, r, dx, _, rfl, g1.at hr', rfl, _, rfl, ?_⟩
  refine ⟨_, rfl, _, _, _, _, _, rfl, g1.at ekp, T.cl_Packet, T.na_Packet_tick, rfl, .inl ⟨_, rfl, _, rfl, r, dx, _, rfl, g1.at hr', r, c, d, N, ks, P', told, rfl, hR.gr g1, .inl ⟨_, rfl, _, _, rfl, ?_⟩⟩⟩
  have eN : (if (N : Int) - 1 > (n : Int) then (N : Int) - 1 else (n : Int)) = ((max N (n + 1) : Nat) : Int) - 1 := by split <;> omega
  refine ⟨r, m2, c, d, N, N, max N (n + 1), max N (n + 1) - N, ks, P', P', told, told, congrArg (fun z => [V.ref r, V.ref m2, V.int z]) eN, hR.gr g1, hm2, ok, by omega, by omega, g1.tb hT, fun m3 H2 g2 hm3 => ?_⟩
  have hlag : max N (n + 1) - 1 - n ≤ d := by omega
  have hMN : n + 1 ≤ max N (n + 1) := by omega
  have hM4 : max N (n + 1) ≤ 400 := by omega
  have hNM : N ≤ max N (n + 1) := by omega
  have j1 : JS (d + ageP ks) (passL ks (d + ageP ks) N (max N (n + 1) - N) P') := ok.js.pass
  have q3 : ∀ a H', Gw tb r H H' → TPL H' a (freshL ks d (max N (n + 1)) (hearP ks d N n P' vals) told) → RcvI K (c + 1) H' r ks d (max N (n + 1)) (hearP ks d N n P' vals) (told ++ freshL ks d (max N (n + 1)) (hearP ks d N n P' vals) told) → Q (.ref a) H' := q2'
  unfold hearP at q3
  generalize passL ks (d + ageP ks) N (max N (n + 1) - N) P' = P1 at q3 hm3 j1
  generalize hM : max N (n + 1) = M at q3 hm3 hlag hMN hM4 hNM ⊢
  generalize hL : M - 1 - n = lag at q3 hlag
  have g12 := g1.trans g2
  obtain ⟨dm3, k3, dd3, em3, ek3, ed3⟩ := id hm3
  refine ⟨_, rfl, _, _, _, _, _, rfl, em3, T.cl_Moment, T.na_Moment_at_tick, rfl, _, rfl, _, _, _, _, _, rfl, g12.at ekp, T.cl_Packet, T.na_Packet_tick, rfl, _, _, rfl, rfl, _, rfl, _, _, _, _, _, rfl, em3, T.cl_Moment, T.na_Moment_sums, rfl, _, _, rfl, ?_⟩
  refine ⟨_, rfl, _, _, _, _, _, rfl, g12.at hr', T.cl_Receiver, T.na_Receiver_plan, rfl, ?_⟩
  obtain ⟨dp, ta, ep, ep2⟩ := id (hp.gr g12)
  refine ⟨pl, dp, _, rfl, ep, rfl, _, rfl, _, _, _, _, _, rfl, g12.at ekp, T.cl_Packet, T.na_Packet_tick, rfl, pl, n, ks, rfl, hp.gr g12, ok.p.1, fun t ht => ?_⟩
  obtain ⟨dt, st, et, et2⟩ := id ht
  have okt := ok.p.2.2 _ (tkAt_mem ok.p.1 n)
  have htm := tkAt_mem ok.p.1 n
  refine ⟨t, dt, _, rfl, et, t, tkAt ks n, rfl, ht, okt, fun pm H3 g3 hpm => ?_⟩
  have g13 := g12.trans g3
  refine ⟨_, rfl, _, _, _, _, _, rfl, g13.at ekp, T.cl_Packet, T.na_Packet_parts, rfl, pm, pa, _, _, rfl, .inr ⟨SqT.of hpm, SqT.of (g13.at epa), ?_⟩⟩
  generalize tkAt ks n = kt at q3 hlen okt htm hpm
  have hbs : ∀ b ∈ (kt.1.map fun s => maskOf s * 2 ^ lag).zip vals, b.1 < 2 ^ (d + ageP ks + 1) := by
    intro b hb
    have hb1 := (List.of_mem_zip hb).1
    obtain ⟨s2, hs2, e⟩ := List.mem_map.mp hb1
    rw [← e]
    have h1 : maskOf s2 < 2 ^ (ageP ks + 1) := maskOf_lt fun a ha => age_le ok.p htm hs2 ha
    have h2 : 2 ^ lag ≤ 2 ^ d := Nat.pow_le_pow_right (by decide) hlag
    calc maskOf s2 * 2 ^ lag < 2 ^ (ageP ks + 1) * 2 ^ lag := Nat.mul_lt_mul_of_pos_right h1 (Nat.two_pow_pos _)
      _ ≤ 2 ^ (ageP ks + 1) * 2 ^ d := Nat.mul_le_mul_left _ h2
      _ = 2 ^ (d + ageP ks + 1) := by rw [← Nat.pow_add]; congr 1; omega
  have hzl : ((kt.1.map fun s => maskOf s * 2 ^ lag).zip vals).length = kt.1.length := by rw [List.length_zip, List.length_map, hlen, Nat.min_self]
  generalize hbse : (kt.1.map fun s => maskOf s * 2 ^ lag).zip vals = bs at q3 hbs hzl
  refine for_it (walk_zipT (by rw [mtup, mtup, hlen])) (fun i σ H' => Gr tb H3 H' ∧ ∃ z k a b, z = (lag : Int) ∧ KI K H' k (foldW P1 (bs.take i)) ∧ σ = [some (.ref r), some (.ref p), some (.ref m2), some (.ref m3), some (.int z), some (.ref k), a, b, none, none]) ⟨Gr.refl _, _, k3, _, _, by omega, ek3.gr g3, rfl⟩ (fun i σ H' _ ⟨g, _⟩ => ⟨SqT.of (g.at hpm), SqT.of (g.at (g13.at epa))⟩) ?_ ?_
  · rintro i x σ H4 H5 hi ⟨g, z, k, a, b, rfl, hk, rfl⟩ ⟨tt, y1, y2, rfl, np, rfl, hy1, hy2⟩
    obtain ⟨s2, hs2, rfl⟩ := map_at hy1
    obtain ⟨v, hv, rfl⟩ := map_at hy2
    have hb : bs[i]? = some (maskOf s2 * 2 ^ lag, v) := by
      rw [← hbse]
      exact List.getElem?_zip_eq_some.mpr ⟨by rw [List.getElem?_map, hs2] <;> rfl, hv⟩
    have hbl := hbs _ (List.mem_of_getElem? hb)
    have hm9 : maskOf s2 < 2 ^ (8 + 1) := maskOf_lt (okt.1 s2 (List.mem_of_getElem? hs2)).2.2
    have g6 := Gr.new (tb := tb) (o := .tup [iN (maskOf s2), iN v]) np
    refine ⟨tt, _, rfl, SqT.of upd_same, rfl, _, _, rfl, _, _, rfl, rfl, ?_⟩
    generalize upd H4 tt (.tup [iN (maskOf s2), iN v]) = H6 at g6 ⊢
    have gg := g.trans g6
    have hk6 := hk.gr g6
    obtain ⟨dk, lk, e1, e2⟩ := id hk6
    have jf : JS (d + ageP ks) (foldW P1 (bs.take i)) := j1.fold fun b hb => hbs b (List.mem_of_mem_take hb)
    have jl := jf.len
    have b60 : maskOf s2 * 2 ^ lag < 2 ^ 60 := Nat.lt_of_lt_of_le hbl (Nat.pow_le_pow_right (by decide) (by omega))
    refine ⟨_, rfl, k, dk, _, rfl, e1, rfl, _, rfl, _, rfl, lag, rfl, by omega, _, _, rfl, rfl, .inl ⟨by omega, by omega⟩, _, rfl, k, maskOf s2 * 2 ^ lag, v, _, congrArg (fun z => [V.ref k, V.int z, iN v]) (Int.natCast_mul _ _).symm, hk6, jf.sm (by omega), b60, by omega, (g13.trans gg).tb hT, fun k2 H7 g7 hk7 => ?_⟩
    exact ⟨gg.trans g7, _, k2, _, _, rfl, by rw [foldW_next hb]; exact hk7, rfl⟩
  · rintro σ H4 ⟨g, z, k, a, b, rfl, hk, rfl⟩
    have j2 := j1.fold hbs
    rw [List.take_of_length_le (by rw [mtup, hzl]; exact Nat.le_refl _)] at hk
    generalize foldW P1 bs = P2 at q3 hk j2
    have g14 := g13.trans g
    have g34 := g3.trans g
    have hm24 := hm2.gr (g2.trans g34)
    obtain ⟨dm2, k22, dd2, em2, ek2, ed2⟩ := id hm24
    have ok2 : OkR ks d M P2 told := ⟨ok.p, d8, j2, ok.nd, hM4, fun p hp => Nat.lt_of_lt_of_le (ok.lt p hp) hNM⟩
    refine ⟨_, rfl, r, dx, _, rfl, g14.at hr', rfl, _, rfl, _, _, _, _, _, rfl, g34.at em3, T.cl_Moment, T.na_Moment_at_tick, rfl, _, rfl, _, rfl, _, _, _, _, _, rfl, em2, T.cl_Moment, T.na_Moment_rows, rfl, r, k, dd2, c, d, N, M, ks, P2, P', told, told, rfl, hR.gr g14, hk, ed2, ok2, fun a5 H5 g5 hT5 => ?_⟩
    generalize hfr : freshL ks d M P2 told = fr at q3 hT5
    have hnd : ((told ++ fr).map (·.1)).Nodup := by rw [← hfr]; exact fresh_nd ok.nd
    have hltf : ∀ p ∈ fr, p.1 < M := by rw [← hfr]; exact fresh_lt
    obtain ⟨ts5, et5, hl5, ht5⟩ := id hT5
    have g15 := g14.trans g5
    refine ⟨_, rfl, _, _, _, _, _, rfl, g5.at em2, T.cl_Moment, T.na_Moment_rows, rfl, dd2, kvT told, rfl, g5.at ed2, fun H6 ts6 hx6 hp6 => ?_⟩
    have g6 : Gr tb H5 H6 := Gr.of hx6
    have hl6 := paired_len hp6
    have hok := ok.len
    have z : (1000 : Nat) < sizeLine := by decide
    have hfl : ts5.length ≤ 9 := by
      have := congrArg List.length et5
      rw [List.length_map, ← hfr] at this
      have := fm_len (f := frF ks d M P2 told) (i := d + 1)
      unfold freshL at *
      omega
    refine ⟨_, rfl, a5, _, rfl, .inl (SqT.of (g6.at hl5)), ?_, fun l nl => ?_⟩
    · rw [kvT_len] at hl6
      simp
      omega
    have gl := Gr.new (tb := tb) (o := .lst ((ts6.map V.ref) ++ ((ts5.map fun t => V.ref t.1) ++ []))) nl
    refine ⟨l, ts6 ++ ts5.map (·.1), kvT told ++ kvT fr, rfl, SqL.of ?_, paired_app (L2.Paired.mapP hp6 fun a b h => SqT.of (gl.at h)) ?_, fun d7 nd7 => ?_⟩
    · rw [upd_same] <;> simp
    · rw [← et5]
      unfold kvT
      rw [List.map_map]
      exact paired_map fun t mt => SqT.of (gl.at (g6.at (ht5 t mt)))
    have em : mergeK [] (kvT told ++ kvT fr) = kvT (told ++ fr) := by
      have e : kvT told ++ kvT fr = kvT (told ++ fr) := by unfold kvT; rw [List.map_append]
      rw [e, merge_new (by rw [List.nil_append]; exact kvT_nd hnd), List.nil_append]
    rw [em]
    have g7 := (g6.trans gl).trans (Gr.new (tb := tb) (o := .dK (kvT (told ++ fr))) nd7)
    have ed7 : (upd (upd H6 l (.lst ((ts6.map V.ref) ++ ((ts5.map fun t => V.ref t.1) ++ [])))) d7 (.dK (kvT (told ++ fr)))) d7 = some (.dK (kvT (told ++ fr))) := upd_same
    generalize upd (upd H6 l (.lst ((ts6.map V.ref) ++ ((ts5.map fun t => V.ref t.1) ++ [])))) d7 (.dK (kvT (told ++ fr))) = H7 at g7 ed7 ⊢
    have g17 := g15.trans g7
    refine ⟨_, rfl, _, _, _, _, _, rfl, g17.at hr', T.cl_Receiver, T.na_Receiver_own_past, rfl, past, _, rfl, .inr (SqL.of (g17.at hpast)), ?_⟩
    refine ⟨_, rfl, _, _, _, _, _, rfl, (g34.trans (g5.trans g7)).at em3, T.cl_Moment, T.na_Moment_at_tick, rfl, _, rfl, _, rfl, ?_⟩
    intro x8 dx8 nx8 ndx8 ne8
    refine ⟨x8, _, dx8, _, _, _, rfl, upd_same, rfl, fun H8 e8 => ⟨rfl, ?_⟩⟩
    subst e8
    have g8 : Gr tb H7 (upd (upd (upd (upd (upd H7 dx8 (.own x8)) x8 (.ins (He.ga K "Moment") dx8 [])) x8 (.ins (He.ga K "Moment") dx8 [("at_tick", .int ((M : Int) - 1))])) x8 (.ins (He.ga K "Moment") dx8 [("at_tick", .int ((M : Int) - 1)), ("sums", .ref k)])) x8 (.ins (He.ga K "Moment") dx8 [("at_tick", .int ((M : Int) - 1)), ("sums", .ref k), ("rows", .ref d7)])) :=
      Gr.made nx8 ndx8 ((Gw.wr upd_same rfl).trans ((Gw.wr upd_same rfl).trans (Gw.wr upd_same rfl)))
    generalize hH8 : upd (upd (upd (upd (upd H7 dx8 (.own x8)) x8 (.ins (He.ga K "Moment") dx8 [])) x8 (.ins (He.ga K "Moment") dx8 [("at_tick", .int ((M : Int) - 1))])) x8 (.ins (He.ga K "Moment") dx8 [("at_tick", .int ((M : Int) - 1)), ("sums", .ref k)])) x8 (.ins (He.ga K "Moment") dx8 [("at_tick", .int ((M : Int) - 1)), ("sums", .ref k), ("rows", .ref d7)]) = H8 at g8 ⊢
    have e8 : H8 x8 = some (.ins (He.ga K "Moment") dx8 [("at_tick", .int ((M : Int) - 1)), ("sums", .ref k), ("rows", .ref d7)]) := by rw [← hH8]; exact upd_same
    refine ⟨by simp; omega, fun l9 nl9 => ?_⟩
    have g9 := Gr.new (tb := tb) (o := .lst ((ms ++ [V.ref m]) ++ [V.ref x8])) nl9
    have g19 := g17.trans (g8.trans g9)
    refine ⟨_, rfl, r, _, dx, _, rfl, g19.at hr', T.cl_Receiver, T.na_Receiver_own_past, (by decide : (3 : Nat) < 1000), ?_⟩
    have hm9 : MomI K (upd H8 l9 (.lst ((ms ++ [V.ref m]) ++ [V.ref x8]))) x8 M P2 (told ++ fr) := ⟨dx8, k, d7, g9.at e8, hk.gr (g5.trans (g7.trans (g8.trans g9))), (g8.trans g9).at ed7⟩
    obtain ⟨h1, h2⟩ := rcv_set (tb := tb) (c := c + 1) rfl (g19.at hr') (hp.gr g19) (l := l9) (xs := ms ++ [V.ref m]) (m := x8) upd_same (by simp; omega) hm9
    refine ⟨_, rfl, q3 a5 _ ((Gw.of g19).trans h1) ?_ h2⟩
    exact ⟨ts5, et5, h1.at ((g7.trans (g8.trans g9)).at hl5) (g19.at hr') (fun z => by cases z), fun t mt => Gw.at h1 ((g7.trans (g8.trans g9)).at (ht5 t mt)) (g19.at hr') (fun z => by cases z)⟩
end B
end
section
set_option linter.all false
set_option maxRecDepth 100000
namespace B
open PySem PySem.Spec PyProof.Rows L2 La
/-- a list or a tuple, walked -/
def iSeq (K : PySem.W.Frag) (tl : TE) : TI := fun σ H R => tl σ H fun x H1 => ∃ a, x = .ref a ∧ (((∃ xs, SqL K H1 a xs) ∧ R (Itl K a) H1) ∨ ((∃ xs, SqT K H1 a xs) ∧ R (Itt K a) H1))
theorem pi_seq {X : Cx} {tg l : Expr} {tl : TE} (hl : PE X l tl) : PI X tg l (iSeq X.K tl) := by
  refine ⟨fun pins s σ H R I h => thn (hl.run pins s σ H _ I h) fun v s1 hv => ?_⟩
  obtain ⟨x, H1, I1, r1, a, ex, hq⟩ := hv
  subst ex
  cases r1
  have lt := Nat.le_refl s1.heap.objs.size
  have fp := I1.fpOk lt (I1.hok.fresh lt)
  rcases hq with ⟨⟨xs, hx⟩, q⟩ | ⟨⟨xs, hx⟩, q⟩
  · obtain ⟨its, _, p, _⟩ := I1.list hx
    refine wpAny_pyIter_list p.isList ⟨s1.heap.objs.size, [s1.heap.objs.size], _, _, H1, rfl, I1.kept (t' := s1.toks) fun _ _ z => Heap.get?_push_of_some _ z, turn_list a _, ⟨_, Heap.get?_push_size _ rfl, rfl, rfl⟩, fun b hb => ?_, q⟩
    rw [List.mem_singleton.mp hb]
    exact fp
  · obtain ⟨its, _, p, _⟩ := I1.tuple hx
    refine wpAny_pyIter_tuple (show s1.heap.IsTuple a its.toArray from p) ⟨s1.heap.objs.size, [s1.heap.objs.size], _, _, H1, rfl, I1.kept (t' := s1.toks) fun _ _ z => Heap.get?_push_of_some _ z, turn_tuple a _, ⟨_, Heap.get?_push_size _ rfl, rfl, rfl⟩, fun b hb => ?_, q⟩
    rw [List.mem_singleton.mp hb]
    exact fp
theorem bits_of {n : Nat} (h : n ≠ 0) : Builtin.Int.intBits (n : Int) = n.log2 + 1 := by
  unfold Builtin.Int.intBits
  simp [h]
theorem bit_test {b k : Nat} : decide (V.int (Builtin.bitAnd ((b : Int) / 2 ^ k) 1) = V.int 1) = b.testBit k := by
  have e : ((b : Int) / 2 ^ k) = ((b / 2 ^ k : Nat) : Int) := by rw [Int.natCast_ediv, Int.natCast_pow] <;> rfl
  have e1 : Builtin.bitAnd ((b : Int) / 2 ^ k) 1 = ((b / 2 ^ k % 2 : Nat) : Int) := by
    rw [e]
    have := baN (b / 2 ^ k) 1
    rw [Nat.and_one_is_mod] at this
    exact this
  rw [e1, Nat.testBit_eq_decide_div_mod_eq, Bool.eq_iff_iff, decide_eq_true_iff, decide_eq_true_iff]
  constructor
  · intro h
    injection h with h
    omega
  · intro h
    rw [h] <;> rfl
def sp_rest_of (K : PySem.W.Frag) : Sp := fun vs H Q _ => ∃ (a : Addr) (f : List Nat) (b : Nat), vs = [.ref a, iN b] ∧ (SqL K H a (f.map fun n => iN n) ∨ SqT K H a (f.map fun n => iN n)) ∧ (∀ o ∈ f, o ≠ 0) ∧ Q (iN (rb f b)) H
abbrev nm_rest_of : List Str := ["rows", "bits", "row"]
theorem sc_rest_of : FnScope nm_rest_of ["rows", "bits"] (defScope s_rest_of) := ⟨rfl, rfl, rfl, by decide +kernel, rfl, by decide +kernel, by decide +kernel⟩
theorem c_rest_of {P : Program} {w : World} {K : PySem.W.Frag} {mg : Str → Option Value} {base : Heap} {tb : List (Addr × Str)} (T : Tx K mg base tb) : Cf P w K mg base 1 "rest_of" (sp_rest_of K) := by
  obtain ⟨f, fd, F, hm⟩ := T.f_rest_of
  refine ⟨f, @mkR P w K mg base _ _ _ _ _ _ _ (sp_rest_of K) 0 F sc_rest_of (fun _ _ _ _ _ _ us hl => match us, hl with | [_, _], _ => rfl) (fun vs H Q E h => by obtain ⟨a, f', b, rfl, hs, hf, q⟩ := h; rfl) (fun cdv A outer s H vs Q E hr h => ⟨_, (pss_cons (ps_for PassesOwn.never rfl (pi_seq (pv 0)) (pg_name (i := 2) sc_rest_of.nd rfl (Or.inl rfl))
      (pss_one (ps_if (pt_cmpR op_eq (pe_op op_and (pe_op op_shr (pv 1) (pe_op op_sub (pe_bits (pv 2)) pe_int)) pe_int) pe_int (nomark _)) (pss_one (ps_set (i := 1) sc_rest_of.nd rfl (Or.inl rfl) (pe_op op_xor (pv 1) (pv 2)))) pss_nil)))
      (pss_one (ps_ret (pv 1)))), ?_⟩), hm, F.kp⟩
  obtain ⟨a, f', b, rfl, hs, hf, q⟩ := h
  refine ⟨_, rfl, a, rfl, ?_⟩
  rcases hs with hs | hs
  · refine .inl ⟨⟨_, hs⟩, for_it walk_list (fun i σ H' => H' = H ∧ ∃ x c, σ = [some (.ref a), some (iN x), c] ∧ rb (f'.drop i) x = rb f' b) ⟨rfl, b, _, rfl, rfl⟩ (fun i σ H' _ ⟨e, _⟩ => by rw [e]; exact hs) ?_ ?_⟩
    · rintro i v σ H1 H2 hi ⟨rfl, x, c, rfl, e⟩ ⟨rfl, hv⟩
      obtain ⟨o, ho, rfl⟩ := map_at hv
      have h0 := hf o (List.mem_of_getElem? ho)
      rw [drop_at ho, rb_cons] at e
      have hb := bits_of h0
      have e3 : (((o.log2 + 1 : Nat) : Int) - 1).toNat = o.log2 := by omega
      refine ⟨_, rfl, _, rfl, _, rfl, _, _, rfl, rfl, _, _, rfl, rfl, by rw [hb]; omega, _, _, rfl, rfl, rfl, _, rfl, ?_⟩
      rw [hb, e3, bit_test]
      cases ht : x.testBit o.log2 with
      | true =>
        rw [ht, if_pos rfl] at e
        exact iteT ⟨_, rfl, _, rfl, _, _, rfl, rfl, rfl, x ^^^ o, some (iN o), cg2 (fun a b => [some (V.ref a), some b, some (iN o)]) rfl (xN _ _), e⟩
      | false =>
        rw [ht, if_neg Bool.false_ne_true] at e
        exact iteF ⟨rfl, x, some (iN o), rfl, e⟩
    · rintro σ H1 ⟨rfl, x, c, rfl, e⟩
      rw [List.drop_of_length_le (by rw [mtup]; exact Nat.le_refl _), rb_nil] at e
      exact ⟨_, rfl, by rw [e]; exact q⟩
  · refine .inr ⟨⟨_, hs⟩, for_it walk_tup (fun i σ H' => H' = H ∧ ∃ x c, σ = [some (.ref a), some (iN x), c] ∧ rb (f'.drop i) x = rb f' b) ⟨rfl, b, _, rfl, rfl⟩ (fun i σ H' _ ⟨e, _⟩ => by rw [e]; exact hs) ?_ ?_⟩
    · rintro i v σ H1 H2 hi ⟨rfl, x, c, rfl, e⟩ ⟨rfl, hv⟩
      obtain ⟨o, ho, rfl⟩ := map_at hv
      have h0 := hf o (List.mem_of_getElem? ho)
      rw [drop_at ho, rb_cons] at e
      have hb := bits_of h0
      have e3 : (((o.log2 + 1 : Nat) : Int) - 1).toNat = o.log2 := by omega
      refine ⟨_, rfl, _, rfl, _, rfl, _, _, rfl, rfl, _, _, rfl, rfl, by rw [hb]; omega, _, _, rfl, rfl, rfl, _, rfl, ?_⟩
      rw [hb, e3, bit_test]
      cases ht : x.testBit o.log2 with
      | true =>
        rw [ht, if_pos rfl] at e
        exact iteT ⟨_, rfl, _, rfl, _, _, rfl, rfl, rfl, x ^^^ o, some (iN o), cg2 (fun a b => [some (V.ref a), some b, some (iN o)]) rfl (xN _ _), e⟩
      | false =>
        rw [ht, if_neg Bool.false_ne_true] at e
        exact iteF ⟨rfl, x, some (iN o), rfl, e⟩
    · rintro σ H1 ⟨rfl, x, c, rfl, e⟩
      rw [List.drop_of_length_le (by rw [mtup]; exact Nat.le_refl _), rb_nil] at e
      exact ⟨_, rfl, by rw [e]; exact q⟩
end B
end
section
set_option linter.all false
set_option maxRecDepth 100000
namespace B
open PySem PySem.Spec PyProof.Rows L2 La
def stepR (f : List Nat) (n : Nat) : List Nat := if rb f n = 0 then f else f.map (less (rb f n)) ++ [rb f n]
def rref (ns : List Nat) : List Nat := ns.foldl stepR []
def leN (a b : Nat) : Bool := decide (a ≤ b)
def rrefS (ns : List Nat) : List Nat := (rref ns).mergeSort leN
theorem sorted_eq {l k : List Nat} (h : l.Perm k) (s : l.Pairwise (· ≤ ·)) : l = k.mergeSort leN := by
  have hk : (k.mergeSort leN).Pairwise (· ≤ ·) := by
    have := List.pairwise_mergeSort (le := leN) (fun a b c h1 h2 => by unfold leN at *; simp at *; omega) (fun a b => by unfold leN; simp; omega) k
    exact this.imp fun h => by unfold leN at h; simpa using h
  exact List.Perm.eq_of_pairwise (le := fun a b : Nat => a ≤ b) (fun a b _ _ h1 h2 => Nat.le_antisymm h1 h2) s hk (h.trans (List.mergeSort_perm k leN).symm)
theorem rref_next {ns : List Nat} {i n : Nat} (h : ns[i]? = some n) : rref (ns.take (i + 1)) = stepR (rref (ns.take i)) n := by
  unfold rref
  rw [List.take_add_one, h, List.foldl_append] <;> rfl
structure FOk (k : Nat) (f : List Nat) : Prop where
  ech : ∀ o ∈ f, ∀ p ∈ f, o ≠ p → p.testBit o.log2 = false
  nz : ∀ o ∈ f, o ≠ 0
  lt : ∀ o ∈ f, o < 2 ^ k
theorem stepR_nz {k n : Nat} {f : List Nat} (hn : n < 2 ^ k) (h1 : Ech f) (h : ∀ o ∈ f, o ≠ 0) (hl : ∀ o ∈ f, o < 2 ^ k) : (∀ o ∈ stepR f n, o ≠ 0) ∧ ∀ o ∈ stepR f n, o < 2 ^ k := by
  unfold stepR
  split
  · exact ⟨h, hl⟩
  · rename_i hr
    have hb := rb_lt hl hn
    have hc := rb_clear h1 h n
    refine ⟨fun o ho => ?_, fun o ho => ?_⟩
    · rcases List.mem_append.mp ho with ho | ho
      · obtain ⟨p, hp, rfl⟩ := List.mem_map.mp ho
        exact (less_log2 (h p hp) hr (hc p hp)).2
      · rw [List.mem_singleton.mp ho]; exact hr
    · rcases List.mem_append.mp ho with ho | ho
      · obtain ⟨p, hp, rfl⟩ := List.mem_map.mp ho
        exact less_lt (hl p hp) hb
      · rw [List.mem_singleton.mp ho]; exact hb
/-- each row alone has its greatest bit -/
def Red (f : List Nat) : Prop := f.Pairwise fun a b => b.testBit a.log2 = false ∧ a.testBit b.log2 = false
theorem Red.ech {f : List Nat} (h : Red f) : Ech f := h.imp fun h => h.1
theorem less_top {b o : Nat} (hb : b ≠ 0) : (less b o).testBit b.log2 = false := by
  unfold less
  split
  · rename_i h
    rw [Nat.testBit_xor, h, testBit_top hb] <;> rfl
  · rename_i h
    exact Bool.eq_false_iff.mpr h
theorem stepR_red {n : Nat} {f : List Nat} (h : Red f) (h0 : ∀ o ∈ f, o ≠ 0) : Red (stepR f n) := by
  unfold stepR
  split
  · exact h
  · rename_i hr
    have hc := rb_clear h.ech h0 n
    refine List.pairwise_append.mpr ⟨?_, List.pairwise_singleton _ _, ?_⟩
    · refine List.pairwise_map.mpr (h.imp_of_mem fun {a b} ha hb hab => ?_)
      have la := less_log2 (h0 a ha) hr (hc a ha)
      have lb := less_log2 (h0 b hb) hr (hc b hb)
      rw [la.1, lb.1]
      have key : ∀ x y, y ∈ f → x.testBit y.log2 = false → (less (rb f n) x).testBit y.log2 = false := fun x y hy hx => by
        unfold less
        split
        · rw [Nat.testBit_xor, hx, hc y hy] <;> rfl
        · exact hx
      exact ⟨key b a ha hab.1, key a b hb hab.2⟩
    · intro a ha b hb
      obtain ⟨p, hp, rfl⟩ := List.mem_map.mp ha
      rw [List.mem_singleton.mp hb]
      have lp := less_log2 (h0 p hp) hr (hc p hp)
      rw [lp.1]
      exact ⟨hc p hp, less_top hr⟩
theorem rref_ok {k : Nat} : ∀ (ns f : List Nat), (∀ n ∈ ns, n < 2 ^ k) → Red f → (∀ o ∈ f, o ≠ 0) → (∀ o ∈ f, o < 2 ^ k) → Red (ns.foldl stepR f) ∧ (∀ o ∈ ns.foldl stepR f, o ≠ 0) ∧ ∀ o ∈ ns.foldl stepR f, o < 2 ^ k
  | [], f, _, h1, h2, h3 => ⟨h1, h2, h3⟩
  | n :: ns, f, hn, h1, h2, h3 => by
    have h4 := stepR_nz (hn n List.mem_cons_self) h1.ech h2 h3
    exact rref_ok ns (stepR f n) (fun m hm => hn m (List.mem_cons_of_mem _ hm)) (stepR_red h1 h2) h4.1 h4.2
theorem stepR_len {f : List Nat} {n : Nat} : (stepR f n).length ≤ f.length + 1 := by
  unfold stepR
  split
  · omega
  · rw [List.length_append, List.length_map]; exact Nat.le_refl _
theorem rref_len : ∀ (ns f : List Nat), (ns.foldl stepR f).length ≤ f.length + ns.length
  | [], f => Nat.le_refl _
  | n :: ns, f => by
    have := rref_len ns (stepR f n)
    have := stepR_len (f := f) (n := n)
    rw [List.length_cons]
    show (ns.foldl stepR (stepR f n)).length ≤ _
    omega
def sp_reduced (K : PySem.W.Frag) (tb : List (Addr × Str)) : Sp := fun vs H Q _ => ∃ (a : Addr) (ns : List Nat), vs = [.ref a] ∧ H a = some (.tup (ns.map fun n => iN n)) ∧ (∀ n ∈ ns, n < 2 ^ 16) ∧ ns.length ≤ 50 ∧ ∀ p H', Gr tb H H' → H' p = some (.tup ((rrefS ns).map fun n => iN n)) → Q (.ref p) H'
abbrev nm_reduced : List Str := ["numbers", "found", "number", "rest", "top", "row"]
theorem sc_reduced : FnScope nm_reduced ["numbers"] (defScope s_reduced) := ⟨rfl, rfl, rfl, by decide +kernel, rfl, by decide +kernel, by decide +kernel⟩
theorem c_reduced {P : Program} {w : World} {K : PySem.W.Frag} {mg : Str → Option Value} {base : Heap} {tb : List (Addr × Str)} (T : Tx K mg base tb) : Cf P w K mg base 2 "reduced" (sp_reduced K tb) := by
  obtain ⟨f, fd, F, hm⟩ := T.f_reduced
  refine ⟨f, @mkR P w K mg base _ _ _ _ _ _ _ (sp_reduced K tb) 1 F sc_reduced (fun _ _ _ _ _ _ us hl => match us, hl with | [_], _ => rfl) (fun vs H Q E h => by obtain ⟨a, ns, rfl, ha, hn, hl, q⟩ := h; rfl) (fun cdv A outer s H vs Q E hr h => ⟨_, (pss_cons (ps_set (i := 1) sc_reduced.nd rfl (Or.inl rfl) (pe_lst pa_nil))
      (pss_cons (ps_for PassesOwn.never rfl (pi_tup (pv 0)) (pg_name (i := 2) sc_reduced.nd rfl (Or.inl rfl))
      (pss_cons (ps_set (i := 3) sc_reduced.nd rfl (Or.inr rfl) (pe_cR (c_rest_of (K := K) T) hr (by decide) rfl (pa_cons (pv 1) (pa_cons (pv 2) pa_nil))))
      (pss_one (ps_if (pt_cmpR op_gt (pv 3) pe_int (nomark _)) (pss_cons (ps_set (i := 4) sc_reduced.nd rfl (Or.inr rfl) (pe_op op_sub (pe_bits (pv 3)) pe_int))
      (pss_cons (ps_setLc (i := 1) (own := [("row", 5)]) (g := gName 5) (tt := tYes) rfl sc_reduced.nd rfl rfl (sw_true rfl rfl rfl (by decide +kernel)) (pi_list (pv 1)) (blkOk_by (own := [("row", 5)]) (N := nm_reduced) (sc := defScope s_reduced) (by decide +kernel)) (fun _ _ _ _ _ => pg_name (i := 5) sc_reduced.nd rfl (Or.inl rfl)) (fun _ _ _ _ _ => pts_nil) (fun _ _ _ _ _ => (pe_ifExp (pt_cmpR op_eq (pe_op op_and (pe_op op_shr (pv 5) (pv 4)) pe_int) pe_int (nomark _)) (pe_op op_xor (pv 5) (pv 3)) (pv 5))))
      (pss_one (ps_expr (pe_bm PySem.F.plainAttrs_list PySem.F.slot_list_append PySem.F.type_list_append mt_append (pv 1) (pa_cons (pv 3) pa_nil)))))) pss_nil))))
      (pss_one (ps_ret (pe_callTy call_tupQ (by rfl) T.n_tuple (by decide +kernel) (pa_cons (pe_callB cr_sortedI (by rfl) T.n_sorted (by decide +kernel) (pa_cons (pe_lc (own := [("row", 5)]) (g := gName 5) (tt := tYes) rfl sc_reduced.nd (pi_list (pv 1)) (blkOk_by (own := [("row", 5)]) (N := nm_reduced) (sc := defScope s_reduced) (by decide +kernel)) (fun _ _ _ _ _ => pg_name (i := 5) sc_reduced.nd rfl (Or.inl rfl)) (fun _ _ _ _ _ => pts_nil) (fun _ _ _ _ _ => (pe_callTy call_int1 (by rfl) T.n_int (by decide +kernel) (pa_cons (pv 5) pa_nil)))) pa_nil)) pa_nil)))))), ?_⟩), hm, F.kp⟩
  obtain ⟨a, ns, rfl, ha, hn, hl, q⟩ := h
  refine ⟨(by decide : (0 : Nat) ≤ sizeLine), fun D nD => ?_⟩
  have g0 := Gr.new (tb := tb) (o := .lst []) nD
  have e0 : (upd H D (.lst [])) D = some (.lst ((rref (ns.take 0)).map fun n => iN n)) := upd_same
  generalize upd H D (.lst []) = H1 at g0 e0 ⊢
  refine ⟨_, rfl, a, rfl, ⟨_, SqT.of (g0.at ha)⟩, for_it walk_tup (fun i σ H' => Gr tb H H' ∧ ∃ D x y z w, H' D = some (.lst ((rref (ns.take i)).map fun n => iN n)) ∧ σ = [some (.ref a), some (.ref D), x, y, z, w]) ⟨g0, D, _, _, _, _, e0, rfl⟩ (fun i σ H' _ ⟨g, _⟩ => SqT.of (g.at ha)) ?_ ?_⟩
  · rintro i v σ H2 H3 hi ⟨g, D, x, y, z, w, hD, rfl⟩ ⟨rfl, hv⟩
    obtain ⟨n, hin, rfl⟩ := map_at hv
    have hro : Red (rref (ns.take i)) ∧ (∀ o ∈ rref (ns.take i), o ≠ 0) ∧ ∀ o ∈ rref (ns.take i), o < 2 ^ 16 := rref_ok (k := 16) (ns.take i) [] (fun m hm => hn m (List.mem_of_mem_take hm)) List.Pairwise.nil (fun _ h => nomatch h) (fun _ h => nomatch h)
    have hrl : (rref (ns.take i)).length ≤ ([] : List Nat).length + (ns.take i).length := rref_len (ns.take i) []
    have hfn := rref_next hin
    have htl : (ns.take i).length ≤ ns.length := List.length_take_le' i ns
    generalize rref (ns.take i) = F at hD hro hrl hfn
    refine ⟨_, rfl, _, rfl, D, F, n, rfl, .inl (SqL.of hD), hro.2.1, _, rfl, _, _, rfl, rfl, _, rfl, ?_⟩
    unfold stepR at hfn
    by_cases hz : rb F n = 0
    · rw [if_pos hz] at hfn
      rw [decide_eq_false (show ¬ ((0 : Int) < ((rb F n : Nat) : Int)) by omega)]
      exact iteF ⟨g, D, _, _, _, _, by rw [hfn]; exact hD, rfl⟩
    · rw [if_neg hz] at hfn
      rw [decide_eq_true (show (0 : Int) < ((rb F n : Nat) : Int) by omega)]
      have hb := bits_of hz
      generalize rb F n = r at hz hfn hb ⊢
      refine iteT ⟨_, rfl, _, rfl, _, _, rfl, rfl, ?_⟩
      dsimp only
      rw [hb, show V.int (((r.log2 + 1 : Nat) : Int) - 1) = iN r.log2 from congrArg V.int (by omega)]
      refine ⟨_, rfl, D, rfl, ⟨_, SqL.of hD⟩, fun D2 nD2 => ?_⟩
      refine lcV walk_list tb nD2 (by rw [mtup]; simp at hrl; omega) (fun i acc => acc = (F.take i).map fun o => iN (less r o)) rfl (fun H4 g4 => SqL.of (g4.at hD)) ?_ ?_
      · rintro j x H4 H5 acc K1 K2 hj rfl g4 ⟨rfl, hx⟩ k1 _
        obtain ⟨o, ho, rfl⟩ := map_at hx
        refine ⟨rfl, _, rfl, _, rfl, _, _, rfl, rfl, by omega, _, _, rfl, rfl, rfl, _, rfl, ?_⟩
        have e3 : ((r.log2 : Nat) : Int).toNat = r.log2 := Int.toNat_natCast _
        rw [e3, bit_test]
        have k2 := k1 (iN (less r o)) H5 (Gr.refl _) (by rw [List.take_add_one, ho, List.map_append] <;> rfl)
        unfold less at k2
        cases ht : o.testBit r.log2 with
        | true =>
          rw [ht, if_pos rfl] at k2
          exact iteT ⟨_, rfl, _, rfl, _, _, rfl, rfl, ev (xN _ _) k2⟩
        | false =>
          rw [ht, if_neg Bool.false_ne_true] at k2
          exact iteF ⟨_, rfl, k2⟩
      rintro H4 acc g4 hD2 rfl
      rw [List.take_of_length_le (by rw [mtup]; exact Nat.le_refl _)] at hD2
      have z' : (1000 : Nat) < sizeLine := by decide
      refine ⟨_, rfl, .inl ⟨rfl, _, SqL.of hD2⟩, _, rfl, D2, _, _, rfl, rfl, hD2, by rw [mtup]; simp at hrl; omega, ?_⟩
      have gw : Gw tb D2 H4 (upd H4 D2 (.lst ((F.map fun o => iN (less r o)) ++ [iN r]))) := Gw.wr hD2 rfl
      refine ⟨g.trans (g4.gw nD2 gw), D2, _, _, _, _, ?_, rfl⟩
      rw [upd_same, hfn, List.map_append, List.map_map] <;> rfl
  · rintro σ H2 ⟨g, D, x, y, z, w, hD, rfl⟩
    rw [List.take_of_length_le (by rw [mtup]; exact Nat.le_refl _)] at hD
    have hrl : (rref ns).length ≤ ([] : List Nat).length + ns.length := rref_len ns []
    refine ⟨_, rfl, D, rfl, ⟨_, SqL.of hD⟩, fun D2 nD2 => ?_⟩
    refine lcV walk_list tb nD2 (by rw [mtup]; simp at hrl; omega) (fun i acc => acc = ((rref ns).take i).map fun o => iN o) rfl (fun H4 g4 => SqL.of (g4.at hD)) ?_ ?_
    · rintro j x H4 H5 acc K1 K2 hj rfl g4 ⟨rfl, hx⟩ k1 _
      obtain ⟨o, ho, rfl⟩ := map_at hx
      exact ⟨rfl, _, rfl, .inl ⟨_, rfl, k1 _ _ (Gr.refl _) (by rw [List.take_add_one, ho, List.map_append] <;> rfl)⟩⟩
    rintro H4 acc g4 hD2 rfl
    rw [List.take_of_length_le (by rw [mtup]; exact Nat.le_refl _)] at hD2
    refine ⟨D2, (rref ns).map fun n : Nat => (n : Int), rfl, SqL.of (by rw [hD2, List.map_map] <;> rfl), fun ns' p perm srt np => ?_⟩
    obtain ⟨ls, rfl⟩ : ∃ ls : List Nat, ns' = ls.map fun n : Nat => (n : Int) := by
      refine ⟨ns'.map Int.toNat, ?_⟩
      rw [List.map_map]
      refine (List.map_id ns').symm.trans (List.map_congr_left fun x hx => ?_)
      obtain ⟨y, _, rfl⟩ := List.mem_map.mp (perm.mem_iff.mp hx)
      rfl
    have hpl : ls.Perm (rref ns) := by
      have := perm.map Int.toNat
      rw [List.map_map, List.map_map] at this
      have e1 : ∀ l : List Nat, l.map (Int.toNat ∘ fun n : Nat => (n : Int)) = l := fun l => (List.map_congr_left fun x _ => rfl).trans (List.map_id l)
      rw [e1, e1] at this
      exact this
    have hsl : ls.Pairwise (· ≤ ·) := (List.pairwise_map.mp srt).imp fun h => by omega
    have e := sorted_eq hpl hsl
    refine ⟨p, _, rfl, .inl ⟨SqL.of upd_same, fun t nt => q t _ ((g.trans (g4.trans (Gr.new np))).trans (Gr.new nt)) ?_⟩⟩
    rw [upd_same, e, List.map_map] <;> rfl
theorem sortN {ns' : List Int} {k : List Nat} (perm : ns'.Perm (k.map fun n : Nat => (n : Int))) (srt : ns'.Pairwise (· ≤ ·)) : ns' = (k.mergeSort leN).map fun n : Nat => (n : Int) := by
  obtain ⟨ls, rfl⟩ : ∃ ls : List Nat, ns' = ls.map fun n : Nat => (n : Int) := by
    refine ⟨ns'.map Int.toNat, ?_⟩
    rw [List.map_map]
    refine (List.map_id ns').symm.trans (List.map_congr_left fun x hx => ?_)
    obtain ⟨y, _, rfl⟩ := List.mem_map.mp (perm.mem_iff.mp hx)
    rfl
  have hpl : ls.Perm k := by
    have := perm.map Int.toNat
    rw [List.map_map, List.map_map] at this
    have e1 : ∀ l : List Nat, l.map (Int.toNat ∘ fun n : Nat => (n : Int)) = l := fun l => (List.map_congr_left fun x _ => rfl).trans (List.map_id l)
    rw [e1, e1] at this
    exact this
  rw [sorted_eq hpl ((List.pairwise_map.mp srt).imp fun h => by omega)]
/-! ### spaces -/
def SpcI (K : PySem.W.Frag) (H : Hp) (s : Addr) (rows : List Nat) : Prop := ∃ dx ta, H s = some (.ins (He.ga K "Space") dx [("rows", .ref ta)]) ∧ H ta = some (.tup (rows.map fun n => iN n))
theorem SpcI.gr {tb : List (Addr × Str)} {K : PySem.W.Frag} {H H' : Hp} {s : Addr} {rows : List Nat} (h : SpcI K H s rows) (g : Gr tb H H') : SpcI K H' s rows := by
  obtain ⟨dx, ta, e, f⟩ := h
  exact ⟨dx, ta, g.at e, g.at f⟩
def sp_need_bits : Sp := fun vs H Q _ => ∃ (n : Nat) (x : V), vs = [iN n, x] ∧ n < 2 ^ 16 ∧ Q .non H
abbrev nm_need_bits : List Str := ["value", "part"]
theorem sc_need_bits : FnScope nm_need_bits ["value", "part"] (defScope s_need_bits) := ⟨rfl, rfl, rfl, by decide +kernel, rfl, by decide +kernel, by decide +kernel⟩
theorem c_need_bits {P : Program} {w : World} {K : PySem.W.Frag} {mg : Str → Option Value} {base : Heap} {tb : List (Addr × Str)} (T : Tx K mg base tb) : Cf P w K mg base 3 "need_bits" sp_need_bits := by
  obtain ⟨f, fd, F, hm⟩ := T.f_need_bits
  refine ⟨f, @mkR P w K mg base _ _ _ _ _ _ _ (sp_need_bits) 2 F sc_need_bits (fun _ _ _ _ _ _ us hl => match us, hl with | [_, _], _ => rfl) (fun vs H Q E h => by obtain ⟨n, x, rfl, hn, q⟩ := h; rfl) (fun cdv A outer s H vs Q E hr h => ⟨_, (pss_one (ps_if (pt_not (pt_val (pe_cR (c_is_within (K := K) T) hr (by decide) rfl (pa_cons (pv 0) (pa_cons pe_int (pa_cons (pe_glob (v := .int 65535) rfl T.g_MOST_BITS.choose_spec ⟨_, rfl⟩) pa_nil)))))) (pss_one ps_never) pss_nil)), ?_⟩), hm, F.kp⟩
  obtain ⟨n, x, rfl, hn, q⟩ := h
  refine ⟨_, rfl, _, _, _, rfl, ?_⟩
  rw [show (decide ((0 : Int) ≤ (n : Int)) && decide ((n : Int) ≤ 65535)) = true from by simp; omega]
  exact ⟨_, rfl, iteF q⟩
def sp_Space_init (K : PySem.W.Frag) (tb : List (Addr × Str)) : Sp := fun vs H Q _ => ∃ (x a C dx : Addr) (ns : List Nat), vs = [.ref x, .ref a] ∧ H x = some (.ins C dx []) ∧ C = He.ga K "Space" ∧ H a = some (.tup (ns.map fun n => iN n)) ∧ (∀ n ∈ ns, n < 2 ^ 16) ∧ ns.length ≤ 50 ∧
  ∀ H', Gw tb x H H' → SpcI K H' x (rrefS ns) → Q .non H'
abbrev nm_Space_init : List Str := ["self", "rows", "row"]
theorem sc_Space_init : FnScope nm_Space_init ["self", "rows"] (defScope s_Space_init) := ⟨rfl, rfl, rfl, by decide +kernel, rfl, by decide +kernel, by decide +kernel⟩
theorem c_Space {P : Program} {w : World} {K : PySem.W.Frag} {mg : Str → Option Value} {base : Heap} {tb : List (Addr × Str)} (T : Tx K mg base tb) : Kf P w K mg base 4 "Space" (He.ga K "Space") (spS1 (sp_Space_init K tb)) := by
  obtain ⟨f, fd, F, hm⟩ := T.f_Space_init
  refine ⟨f, hm, @mkS P w K mg base _ _ _ _ _ _ _ _ (sp_Space_init K tb) 3 F sc_Space_init (fun _ _ _ _ _ _ => StX.bind_star1 (B := fun l => bindArgs _ ⟨l, []⟩) (fun _ => rfl) (fun _ _ _ => rfl)) (fun cdv A outer s H vs Q E hr h => ⟨_, (pss_cons (ps_for PassesOwn.never rfl (pi_tup (pv 1)) (pg_name (i := 2) sc_Space_init.nd rfl (Or.inl rfl))
      (pss_one (ps_expr (pe_cR (c_need_bits (K := K) T) hr (by decide) rfl (pa_cons (pv 2) (pa_cons pe_str pa_nil))))))
      (pss_one (ps_fld (pv 0) (pe_cR (c_reduced (K := K) T) hr (by decide) rfl (pa_cons (pv 1) pa_nil)) rfl))), ?_⟩), T.g_Space⟩
  obtain ⟨x, a, C, dx, ns, rfl, hx, rfl, ha, hn, hl, q⟩ := h
  refine ⟨_, rfl, a, rfl, ⟨_, SqT.of ha⟩, for_it walk_tup (fun i σ H' => H' = H ∧ ∃ z, σ = [some (.ref x), some (.ref a), z]) ⟨rfl, _, rfl⟩ (fun i σ H' _ ⟨e, _⟩ => by rw [e]; exact SqT.of ha) ?_ ?_⟩
  · rintro i v σ H1 H2 hi ⟨rfl, z, rfl⟩ ⟨rfl, hv⟩
    obtain ⟨n, hin, rfl⟩ := map_at hv
    exact ⟨_, rfl, n, _, rfl, hn n (List.mem_of_getElem? hin), rfl, _, rfl⟩
  · rintro σ H1 ⟨rfl, z, rfl⟩
    refine ⟨_, rfl, a, ns, rfl, ha, hn, hl, fun p H2 g hp => ?_⟩
    have gw : Gw tb x H2 (upd H2 x (.ins (He.ga K "Space") dx [("rows", .ref p)])) := Gw.wr (g.at hx) rfl
    exact ⟨_, rfl, x, _, dx, _, rfl, g.at hx, T.cl_Space, T.na_Space_rows, (by decide : (0 : Nat) < 1000), q _ ((Gw.of g).trans gw) ⟨dx, p, upd_same, gw.at hp (g.at hx) (fun z => by cases z)⟩⟩
def sp_Space_contains (K : PySem.W.Frag) : Sp := fun vs H Q _ => ∃ (s : Addr) (rows : List Nat) (b : Nat), vs = [.ref s, iN b] ∧ SpcI K H s rows ∧ (∀ o ∈ rows, o ≠ 0) ∧ b < 2 ^ 16 ∧ Q (.bl (decide (rb rows b = 0))) H
abbrev nm_Space_contains : List Str := ["self", "bits"]
theorem sc_Space_contains : FnScope nm_Space_contains ["self", "bits"] (defScope s_Space_contains) := ⟨rfl, rfl, rfl, by decide +kernel, rfl, by decide +kernel, by decide +kernel⟩
theorem c_Space_contains {P : Program} {w : World} {K : PySem.W.Frag} {mg : Str → Option Value} {base : Heap} {tb : List (Addr × Str)} (T : Tx K mg base tb) : InF P w K mg base 3 (He.ga K "Space") (sp_Space_contains K) := by
  obtain ⟨f, fd, F, h1, h2⟩ := T.f_Space_contains
  refine ⟨f, h1, h2, @mkR P w K mg base _ _ _ _ _ _ _ (sp_Space_contains K) 2 F sc_Space_contains (fun _ _ _ _ _ _ us hl => match us, hl with | [_, _], _ => rfl) (fun vs H Q E h => by obtain ⟨s, rows, b, rfl, ⟨dx, ta, hs, hta⟩, h0, hb, q⟩ := h; rfl) (fun cdv A outer s H vs Q E hr h => ⟨_, (pss_one (ps_ret (pe_and (pe_cR (c_is_within (K := K) T) hr (by decide) rfl (pa_cons (pv 1) (pa_cons pe_int (pa_cons (pe_glob (v := .int 65535) rfl T.g_MOST_BITS.choose_spec ⟨_, rfl⟩) pa_nil)))) (pe_one (pe_cmpR op_eq (pe_cR (c_rest_of (K := K) T) hr (by decide) rfl (pa_cons (pe_fld (pv 0) rfl) (pa_cons (pv 1) pa_nil))) pe_int (nomark _)))))), ?_⟩)⟩
  obtain ⟨s, rows, b, rfl, ⟨dx, ta, hs, hta⟩, h0, hb, q⟩ := h
  refine ⟨_, rfl, _, _, _, rfl, ?_⟩
  rw [show (decide ((0 : Int) ≤ (b : Int)) && decide ((b : Int) ≤ 65535)) = true from by simp; omega]
  refine ⟨_, rfl, iteT ⟨_, rfl, _, _, _, _, _, rfl, hs, T.cl_Space, T.na_Space_rows, rfl, _, rfl, ta, rows, b, rfl, .inr (SqT.of hta), h0, rfl, ?_⟩⟩
  refine ev ?_ q
  refine congrArg V.bl ?_
  rw [Bool.eq_iff_iff, decide_eq_true_iff, decide_eq_true_iff]
  constructor
  · intro h; injection h with h; omega
  · intro h; rw [h] <;> rfl
end B
end
section
set_option linter.all false
set_option maxRecDepth 100000
namespace B
open PySem PySem.Spec PyProof.Rows L2 La
theorem hu5 {k : Nat} {A : Around} (r : Room k A) : A.units + 65 < cLine := by have := r.un; omega
/-! ### data -/
def Sh (k : Nat) (d : PyData) : Prop := d.canLay0 = true ∧ d.depth ≤ k
theorem Sh.mono {k j : Nat} {d : PyData} (h : Sh k d) (hk : k ≤ j) : Sh j d := ⟨h.1, Nat.le_trans h.2 hk⟩
theorem Sh.shaped {k : Nat} {d : PyData} (h : Sh k d) (hk : k ≤ 64) : SeqAt.shaped d = true := by
  unfold SeqAt.shaped
  rw [h.1, decide_eq_true (Nat.le_trans h.2 hk)] <;> rfl
theorem Sh.all {k : Nat} : ∀ {ds : List PyData}, (∀ d ∈ ds, Sh k d) → PyData.canLayAll0 ds = true ∧ PyData.depthAll ds ≤ k
  | [], _ => ⟨by simp [PyData.canLayAll0], by simp [PyData.depthAll]⟩
  | d :: ds, h => by
    obtain ⟨h1, h2⟩ := Sh.all (ds := ds) fun e he => h e (List.mem_cons_of_mem _ he)
    obtain ⟨h3, h4⟩ := h d List.mem_cons_self
    refine ⟨by simp [PyData.canLayAll0, h1, h3], ?_⟩
    simp only [PyData.depthAll]
    omega
theorem Sh.int (k : Nat) (i : Int) : Sh k (.int i) := ⟨by simp [PyData.canLay0], by simp [PyData.depth]⟩
theorem Sh.non (k : Nat) : Sh k .none := ⟨by simp [PyData.canLay0], by simp [PyData.depth]⟩
theorem Sh.tup {k : Nat} {ds : List PyData} (h : ∀ d ∈ ds, Sh k d) : Sh (k + 1) (.tuple ds) := by
  obtain ⟨h1, h2⟩ := Sh.all h
  exact ⟨by simp only [PyData.canLay0]; exact h1, by simp only [PyData.depth]; omega⟩
theorem Sh.lst {k : Nat} {ds : List PyData} (h : ∀ d ∈ ds, Sh k d) : Sh (k + 1) (.list ds) := by
  obtain ⟨h1, h2⟩ := Sh.all h
  exact ⟨by simp only [PyData.canLay0]; exact h1, by simp only [PyData.depth]; omega⟩
theorem Sh.eqv {k : Nat} {d : PyData} (h : Sh k d) : PyData.eqv d d = true := SeqAt.eqv_refl d h.1
def dN (n : Nat) : PyData := .int (n : Int)
def dS (s : List Nat) : PyData := .tuple (s.map dN)
def dP (p : Nat × Nat) : PyData := .tuple [dN p.1, dN p.2]
theorem Sh.dN (k n : Nat) : Sh k (dN n) := Sh.int _ _
theorem Sh.ns {k : Nat} {s : List Nat} : ∀ d ∈ s.map B.dN, Sh k d := fun d h => by
  obtain ⟨n, _, rfl⟩ := List.mem_map.mp h
  exact .dN k n
theorem Sh.dS (s : List Nat) : Sh 1 (dS s) := Sh.tup Sh.ns
theorem Sh.dP (p : Nat × Nat) : Sh 1 (dP p) := Sh.tup fun d h => by
  rcases List.mem_cons.mp h with rfl | h
  · exact .dN 0 _
  · rw [List.mem_singleton.mp h]; exact .dN 0 _
section
variable {K : PySem.W.Frag} {H : Hp} {a : Addr}
theorem dpa_map {α : Type} {f : α → V} {g : α → PyData} : ∀ {xs : List α}, (∀ x ∈ xs, Dp K H (f x) (g x)) → DpAll K H (xs.map f) (xs.map g)
  | [], _ => .nil
  | x :: xs, h => .cons (h x List.mem_cons_self) (dpa_map fun y hy => h y (List.mem_cons_of_mem _ hy))
theorem dpa_ns (s : List Nat) : DpAll K H (s.map fun n => iN n) (s.map dN) := dpa_map fun n _ => .int _
theorem AgesAt.dp {s : List Nat} (h : AgesAt H a s) : Dp K H (.ref a) (dS s) := .tup (SqT.of h) (dpa_ns s)
theorem pair_dp {p : Nat × Nat} (h : H a = some (.tup [iN p.1, iN p.2])) : Dp K H (.ref a) (dP p) := .tup (SqT.of h) (.cons (.int _) (.cons (.int _) .nil))
theorem TPL.dp {P : List (Nat × Nat)} (h : TPL H a P) : Dp K H (.ref a) (.tuple (P.map dP)) := by
  obtain ⟨ts, e, hl, ht⟩ := h
  rw [← e, List.map_map]
  exact .tup (SqT.of hl) (dpa_map fun t m => pair_dp (ht t m))
theorem sums_dp {ss : List (List Nat)} (h : SumsAt H a ss) : Dp K H (.ref a) (.tuple (ss.map dS)) := by
  obtain ⟨ts, e, hl, ht⟩ := h
  rw [← e, List.map_map]
  exact .tup (SqT.of hl) (dpa_map fun t m => (ht t m).dp)
theorem lsums_dp {ss : List (List Nat)} (h : LstOf AgesAt H a ss) : Dp K H (.ref a) (.list (ss.map dS)) := by
  obtain ⟨ts, e, hl, ht⟩ := h
  rw [← e, List.map_map]
  exact .lst (SqL.of hl) (dpa_map fun t m => (ht t m).dp)
end
theorem Sh.ps {P : List (Nat × Nat)} : Sh 2 (.tuple (P.map B.dP)) := Sh.tup fun d h => by
  obtain ⟨n, _, rfl⟩ := List.mem_map.mp h
  exact .dP n
theorem Sh.ss {P : List (List Nat)} : Sh 2 (.tuple (P.map B.dS)) := Sh.tup fun d h => by
  obtain ⟨n, _, rfl⟩ := List.mem_map.mp h
  exact .dS n
theorem Sh.ssl {P : List (List Nat)} : Sh 2 (.list (P.map B.dS)) := Sh.lst fun d h => by
  obtain ⟨n, _, rfl⟩ := List.mem_map.mp h
  exact .dS n
theorem eqv_ns : ∀ s t : List Nat, PyData.eqvAll (s.map dN) (t.map dN) = decide (s = t)
  | [], [] => by simp [PyData.eqvAll]
  | [], _ :: _ => by simp [PyData.eqvAll]
  | _ :: _, [] => by simp [PyData.eqvAll]
  | a :: s, b :: t => by
    simp only [List.map_cons, PyData.eqvAll, eqv_ns s t]
    have : PyData.eqv (dN a) (dN b) = decide (a = b) := by
      unfold dN
      simp only [PyData.eqv]
      by_cases h : a = b
      · simp [h]
      · simp [h]; omega
    rw [this]
    by_cases h : a = b <;> by_cases h' : s = t <;> simp [h, h']
theorem eqv_dS (s t : List Nat) : PyData.eqv (dS s) (dS t) = decide (s = t) := by
  unfold dS
  simp only [PyData.eqv]
  exact eqv_ns s t
theorem any_dS (ss : List (List Nat)) (s : List Nat) : ((ss.map dS).any fun y => PyData.eqv y (dS s)) = decide (s ∈ ss) := by
  rw [List.any_map, Bool.eq_iff_iff, List.any_eq_true, decide_eq_true_iff]
  constructor
  · rintro ⟨x, hx, e⟩
    have e2 : PyData.eqv (dS x) (dS s) = true := e
    rw [eqv_dS] at e2
    rw [← of_decide_eq_true e2]
    exact hx
  · intro h
    exact ⟨s, h, by show PyData.eqv (dS s) (dS s) = true; rw [eqv_dS]; exact decide_eq_true rfl⟩
theorem any_dN (ss : List Nat) (s : Nat) : ((ss.map dN).any fun y => PyData.eqv y (dN s)) = decide (s ∈ ss) := by
  rw [List.any_map, Bool.eq_iff_iff, List.any_eq_true, decide_eq_true_iff]
  constructor
  · rintro ⟨x, hx, e⟩
    have e2 : PyData.eqv (dN x) (dN s) = true := e
    unfold dN at e2
    simp only [PyData.eqv] at e2
    have : x = s := by have : (x : Int) = (s : Int) := by simpa using e2
                       omega
    rw [← this]
    exact hx
  · intro h
    exact ⟨s, h, (Sh.dN 0 s).eqv⟩
end B
end
section
set_option linter.all false
set_option maxRecDepth 100000
namespace B
open PySem PySem.Spec PyProof.Rows L2 La
def sp_Space_eq (K : PySem.W.Frag) : Sp := fun vs H Q _ => ∃ (a b : Addr) (rows : List Nat), vs = [.ref a, .ref b] ∧ SpcI K H a rows ∧ SpcI K H b rows ∧ Q (.bl true) H
abbrev nm_Space_eq : List Str := ["self", "other"]
theorem sc_Space_eq : FnScope nm_Space_eq ["self", "other"] (defScope s_Space_eq) := ⟨rfl, rfl, rfl, by decide +kernel, rfl, by decide +kernel, by decide +kernel⟩
theorem c_Space_eq {P : Program} {w : World} {K : PySem.W.Frag} {mg : Str → Option Value} {base : Heap} {tb : List (Addr × Str)} (T : Tx K mg base tb) : EqF P w K mg base 1 (He.ga K "Space") (sp_Space_eq K) := by
  obtain ⟨f, fd, F, h1, h2⟩ := T.f_Space_eq
  refine ⟨f, h1, h2, @mkR P w K mg base _ _ _ _ _ _ _ (sp_Space_eq K) 0 F sc_Space_eq (fun _ _ _ _ _ _ us hl => match us, hl with | [_, _], _ => rfl) (fun vs H Q E h => by obtain ⟨a, b, rows, rfl, ⟨dx, ta, hs, hta⟩, ⟨dx2, ta2, hs2, hta2⟩, q⟩ := h; rfl) (fun cdv A outer s H vs Q E hr h => ⟨_, (pss_one (ps_ret (pe_and (pe_callB (C8.call_isC T.i_Space) (by rfl) T.n_isinstance (by decide +kernel) (pa_cons (pv 1) (pa_cons (pe_glob (v := .ref (He.ga K "Space")) rfl T.g_Space rfl) pa_nil))) (pe_one (pe_cmpR (op_eqD (Room.units hr)) (pe_fld (pv 0) rfl) (pe_fld (pv 1) rfl) (nomark _)))))), ?_⟩)⟩
  obtain ⟨a, b, rows, rfl, ⟨dx, ta, hs, hta⟩, ⟨dx2, ta2, hs2, hta2⟩, q⟩ := h
  refine ⟨_, rfl, b, dx2, _, rfl, hs2, true, rfl, iteT ⟨_, rfl, _, _, _, _, _, rfl, hs, T.cl_Space, T.na_Space_rows, rfl, _, rfl, _, _, _, _, _, rfl, hs2, T.cl_Space, T.na_Space_rows, rfl, _, _, AgesAt.dp hta, AgesAt.dp hta2, (Sh.dS _).shaped (by decide), (Sh.dS _).shaped (by decide), ?_⟩⟩
  exact ev (congrArg V.bl (Sh.dS _).eqv) q
/-- the rows that a receiver knows of the last most + 1 -/
def knownL (P : List (Nat × Nat)) (most : Nat) : List Nat := (P.map (·.1)).filter fun o => decide (o < 2 ^ (most + 1))
def sp_Receiver_known (K : PySem.W.Frag) (tb : List (Addr × Str)) : Sp := fun vs H Q _ => ∃ (r : Addr) (c d N most : Nat) (ks : List Tk) (P told : List (Nat × Nat)), vs = [.ref r, iN most] ∧ RcvI K c H r ks d N P told ∧ OkR ks d N P told ∧ most ≤ d ∧
  ∀ s H', Gr tb H H' → SpcI K H' s (rrefS (knownL P most)) → Q (.ref s) H'
abbrev nm_Receiver_known : List Str := ["self", "most", "rows", "own", "held"]
theorem sc_Receiver_known : FnScope nm_Receiver_known ["self", "most"] (defScope s_Receiver_known) := ⟨rfl, rfl, rfl, by decide +kernel, rfl, by decide +kernel, by decide +kernel⟩
theorem c_Receiver_known {P : Program} {w : World} {K : PySem.W.Frag} {mg : Str → Option Value} {base : Heap} {tb : List (Addr × Str)} (T : Tx K mg base tb) : Mf P w K mg base 6 (He.ga K "Receiver") "known" (sp_Receiver_known K tb) := by
  obtain ⟨f, fd, F, hm⟩ := T.f_Receiver_known
  refine ⟨f, T.cl_Receiver, hm, @mkR P w K mg base _ _ _ _ _ _ _ (sp_Receiver_known K tb) 5 F sc_Receiver_known (fun _ _ _ _ _ _ us hl => match us, hl with | [_, _], _ => rfl) (fun vs H Q E h => by obtain ⟨r, c, d, N, most, ks, P', told, rfl, hR, ok, hmo, q⟩ := h; rfl) (fun cdv A outer s H vs Q E hr h => ⟨_, (pss_cons (ps_if (pt_not (pt_val (pe_cR (c_is_within (K := K) T) hr (by decide) rfl (pa_cons (pv 1) (pa_cons pe_int (pa_cons (pe_fld (pv 0) rfl) pa_nil)))))) (pss_one ps_never) pss_nil)
      (pss_cons (ps_setLc (i := 2) (own := [("own", 3), ("held", 4)]) (g := gTup K 2 (gCons (gName 3) (gCons (gName 4) gNil))) rfl sc_Receiver_known.nd rfl rfl (sw_true rfl rfl rfl (by decide +kernel)) (pi_list (pe_fld (pe_fld (pe_mR0 (c_Receiver_moment (K := K) T) hr (by decide) (pv 0)) rfl) rfl)) (blkOk_by (own := [("own", 3), ("held", 4)]) (N := nm_Receiver_known) (sc := defScope s_Receiver_known) (by decide +kernel)) (fun _ _ _ _ _ => (pg_tup rfl (pgs_cons (pg_name (i := 3) sc_Receiver_known.nd rfl (Or.inl rfl)) (pgs_cons (pg_name (i := 4) sc_Receiver_known.nd rfl (Or.inl rfl)) pgs_nil)))) (fun _ _ _ _ _ => pts_one (pt_cmpR op_lt (pv 3) (pe_cR (c_power (K := K) T) hr (by decide) rfl (pa_cons (pe_op op_add (pv 1) pe_int) pa_nil)) (nomark _))) (fun _ _ _ _ _ => (pv 3)))
      (pss_one (ps_ret (pe_kS (c_Space (K := K) T) hr (by decide) rfl (pv 2)))))), ?_⟩)⟩
  obtain ⟨r, c, d, N, most, ks, P', told, rfl, hR, ok, hmo, q⟩ := h
  obtain ⟨dx, pl, past, ms, mm, hr', hp, hpast, hl, hmm⟩ := id hR
  have hA := ageP_le ok.p
  have d8 := ok.d8
  have hPl := ok.js.len
  refine ⟨_, rfl, _, rfl, _, _, _, _, _, rfl, hr', T.cl_Receiver, T.na_Receiver_delay, rfl, _, _, _, rfl, ?_⟩
  rw [show (decide ((0 : Int) ≤ (most : Int)) && decide ((most : Int) ≤ (d : Int))) = true from by simp; omega]
  refine ⟨_, rfl, iteF ?_⟩
  refine ⟨_, rfl, r, dx, _, rfl, hr', rfl, r, c, d, N, ks, P', told, rfl, hR, fun m hm' => ?_⟩
  obtain ⟨dm, k, dd, em, ek, ed⟩ := id hm'
  obtain ⟨dk, lk, e1, ts, e2, e3, e4⟩ := id ek
  have htl : ts.length = P'.length := by rw [← e2, List.length_map]
  refine ⟨m, _, _, _, _, rfl, em, T.cl_Moment, T.na_Moment_sums, rfl, k, _, _, _, _, rfl, e1, T.cl_Known, T.na_Known_pairs, rfl, lk, rfl, ⟨_, SqL.of e3⟩, fun D nD => ?_⟩
  refine lcV walk_list tb nD (by rw [mtup]; omega) (fun i acc => acc = (((ts.take i).map (·.2.1)).filter fun o => decide (o < 2 ^ (most + 1))).map fun o => iN o) rfl (fun H4 g4 => SqL.of (g4.at e3)) ?_ ?_
  · rintro j x H4 H5 acc K1 K2 hj e g4 ⟨rfl, hx⟩ k1 k2
    obtain ⟨t, ht, rfl⟩ := map_at hx
    have en : ((ts.take (j + 1)).map (·.2.1)).filter (fun o => decide (o < 2 ^ (most + 1))) = ((ts.take j).map (·.2.1)).filter (fun o => decide (o < 2 ^ (most + 1))) ++ if t.2.1 < 2 ^ (most + 1) then [t.2.1] else [] := by
      rw [List.take_add_one, ht, List.map_append, List.filter_append]
      by_cases h : t.2.1 < 2 ^ (most + 1)
      · rw [if_pos h]; simp [h]
      · rw [if_neg h]; simp [h]
    refine ⟨t.1, _, rfl, SqT.of (g4.at (e4 t (List.mem_of_getElem? ht))), rfl, _, _, rfl, _, _, rfl, rfl, rfl, ?_⟩
    refine ⟨_, rfl, _, rfl, _, _, rfl, rfl, most + 1, rfl, by omega, _, _, rfl, rfl, _, rfl, ite2 (fun h => ?_) fun h => ?_⟩
    · have h' : t.2.1 < 2 ^ (most + 1) := by have := of_decide_eq_true h; omega
      exact ⟨_, rfl, k1 _ _ (Gr.refl _) (by rw [en, e, if_pos h', List.map_append] <;> rfl)⟩
    · have h' : ¬ t.2.1 < 2 ^ (most + 1) := fun z => h (decide_eq_true (by omega))
      exact k2 _ (Gr.refl _) (by rw [en, e, if_neg h', List.append_nil])
  rintro H4 acc g4 hD rfl
  rw [List.take_of_length_le (by rw [mtup]; exact Nat.le_refl _)] at hD
  have ek2 : ((ts.map (·.2.1)).filter fun o => decide (o < 2 ^ (most + 1))) = knownL P' most := by
    unfold knownL
    rw [← e2, List.map_map] <;> rfl
  rw [ek2] at hD
  have hkl : (knownL P' most).length ≤ P'.length := by
    unfold knownL
    have := List.length_filter_le (fun o => decide (o < 2 ^ (most + 1))) (P'.map (·.1))
    rwa [List.length_map] at this
  refine ⟨_, rfl, D, _, rfl, .inr (SqL.of hD), fun x dx2 nx ndx ne => ⟨_, _, rfl, z1000 (by rw [mtup]; omega), fun p np => ?_⟩⟩
  have gA : Gw tb x (upd (upd H4 dx2 (.own x)) x (.ins (He.ga K "Space") dx2 [])) (upd (upd (upd H4 dx2 (.own x)) x (.ins (He.ga K "Space") dx2 [])) p (.tup ((knownL P' most).map fun o => iN o))) := Gw.of (Gr.new np)
  have hxp : x ≠ p := ne_of_none upd_same np
  refine ⟨x, p, _, dx2, knownL P' most, rfl, by rw [upd_ne hxp]; exact upd_same, rfl, upd_same, ?_, by omega, fun H5 g5 h5 => ⟨rfl, ?_⟩⟩
  · intro o ho
    have h1 := of_decide_eq_true (List.mem_filter.mp ho).2
    exact Nat.lt_of_lt_of_le h1 (Nat.pow_le_pow_right (by decide) (by omega))
  · exact q x H5 (g4.trans (Gr.made nx ndx (gA.trans g5))) h5
end B
end
section
set_option linter.all false
set_option maxRecDepth 100000
namespace B
open PySem PySem.Spec PyProof.Rows L2 La
/-! ### words -/
inductive Tok where
  | num (k : Nat)
  | comma
  | dash
  | slash
  | mute
  deriving DecidableEq
def Tok.cs : Tok → List Nat
  | .num k => [48 + k]
  | .comma => [44]
  | .dash => [45]
  | .slash => [47]
  | .mute => [109, 117, 116, 101]
def tS (t : Tok) : Str := SX.S t.cs
def upS : Option Tok → Str
  | none => Str.empty
  | some t => tS t
def OkK : Tok → Prop
  | .num k => k ≤ 8
  | _ => True
theorem nine {p : Nat → Prop} (h0 : p 0) (h1 : p 1) (h2 : p 2) (h3 : p 3) (h4 : p 4) (h5 : p 5) (h6 : p 6) (h7 : p 7) (h8 : p 8) {k : Nat} (hk : k ≤ 8) : p k := by
  match k, hk with
  | 0, _ => exact h0
  | 1, _ => exact h1
  | 2, _ => exact h2
  | 3, _ => exact h3
  | 4, _ => exact h4
  | 5, _ => exact h5
  | 6, _ => exact h6
  | 7, _ => exact h7
  | 8, _ => exact h8
theorem str_num {k : Nat} (hk : k ≤ 8) : toString (k : Int) = tS (.num k) :=
  nine (p := fun k => toString (k : Int) = tS (.num k)) rfl rfl rfl rfl rfl rfl rfl rfl rfl hk
theorem up_eq {o : Option Tok} (ok : ∀ t, o = some t → OkK t) (u : Tok) (hu : ∀ k, u ≠ .num k) : decide (V.str (upS o) = V.str (tS u)) = decide (o = some u) := by
  match o, ok with
  | none, _ => cases u <;> first | rfl | decide | exact absurd rfl (hu _)
  | some (.num k), ok =>
    refine nine (p := fun k => decide (V.str (upS (some (.num k))) = V.str (tS u)) = decide (some (Tok.num k) = some u)) ?_ ?_ ?_ ?_ ?_ ?_ ?_ ?_ ?_ (ok _ rfl) <;> (cases u <;> first | rfl | decide | exact absurd rfl (hu _))
  | some .comma, _ => cases u <;> first | rfl | decide | exact absurd rfl (hu _)
  | some .dash, _ => cases u <;> first | rfl | decide | exact absurd rfl (hu _)
  | some .slash, _ => cases u <;> first | rfl | decide | exact absurd rfl (hu _)
  | some .mute, _ => cases u <;> first | rfl | decide | exact absurd rfl (hu _)
def numsD : List PyData := (List.range 9).map fun k => .str (tS (.num k))
def isNum : Option Tok → Bool
  | some (.num _) => true
  | _ => false
theorem up_num {o : Option Tok} (ok : ∀ t, o = some t → OkK t) : (numsD.any fun z => PyData.eqv z (.str (upS o))) = isNum o := by
  match o, ok with
  | none, _ => decide +kernel
  | some (.num k), ok => exact nine (p := fun k => (numsD.any fun z => PyData.eqv z (.str (upS (some (.num k))))) = isNum (some (.num k))) (by decide +kernel) (by decide +kernel) (by decide +kernel) (by decide +kernel) (by decide +kernel) (by decide +kernel) (by decide +kernel) (by decide +kernel) (by decide +kernel) (ok _ rfl)
  | some .comma, _ => decide +kernel
  | some .dash, _ => decide +kernel
  | some .slash, _ => decide +kernel
  | some .mute, _ => decide +kernel
theorem int_num {k : Nat} (hk : k ≤ 8) : PySem.intText? (tS (.num k)) = some (k : Int) :=
  nine (p := fun k => PySem.intText? (tS (.num k)) = some (k : Int)) (by decide +kernel) (by decide +kernel) (by decide +kernel) (by decide +kernel) (by decide +kernel) (by decide +kernel) (by decide +kernel) (by decide +kernel) (by decide +kernel) hk
def Words (H : Hp) (w : Addr) (ws : List Tok) : Prop := H w = some (.lst (ws.map fun t => V.str (tS t)))
theorem lenW {H : Hp} {w : Addr} {ws : List Tok} : (ws.map fun t => V.str (tS t)).length = ws.length := List.length_map ..
def sp_upcoming : Sp := fun vs H Q _ => ∃ (w : Addr) (ws : List Tok) (i : Nat), vs = [.ref w, iN i] ∧ Words H w ws ∧ Q (.str (upS ws[i]?)) H
abbrev nm_upcoming : List Str := ["words", "spot"]
theorem sc_upcoming : FnScope nm_upcoming ["words", "spot"] (defScope s_upcoming) := ⟨rfl, rfl, rfl, by decide +kernel, rfl, by decide +kernel, by decide +kernel⟩
theorem c_upcoming {P : Program} {w : World} {K : PySem.W.Frag} {mg : Str → Option Value} {base : Heap} {tb : List (Addr × Str)} (T : Tx K mg base tb) : Cf P w K mg base 1 "upcoming" sp_upcoming := by
  obtain ⟨f, fd, F, hm⟩ := T.f_upcoming
  refine ⟨f, @mkR P w K mg base _ _ _ _ _ _ _ (sp_upcoming) 0 F sc_upcoming (fun _ _ _ _ _ _ us hl => match us, hl with | [_, _], _ => rfl) (fun vs H Q E h => by obtain ⟨w, ws, i, rfl, hw, q⟩ := h; rfl) (fun cdv A outer s H vs Q E hr h => ⟨_, (pss_one (ps_ret (pe_ifExp (pt_cmpR op_lt (pv 1) (pe_callB call_lenQ (by rfl) T.n_len (by decide +kernel) (pa_cons (pv 0) pa_nil)) (nomark _)) (pe_ix ix_list (pv 0) (pv 1) (fun _ _ => rfl)) pe_str))), ?_⟩), hm, F.kp⟩
  obtain ⟨w, ws, i, rfl, hw, q⟩ := h
  refine ⟨_, rfl, _, rfl, w, _, rfl, .inl (SqL.of hw), _, _, rfl, rfl, _, rfl, ite2 (fun h => ?_) fun h => ?_⟩
  · have h' : i < ws.length := by have := of_decide_eq_true h; rw [List.length_map] at this; omega
    rw [List.getElem?_eq_getElem h'] at q
    exact ⟨_, rfl, _, rfl, w, _, _, _, rfl, rfl, SqL.of hw, atI_nat (by rw [List.getElem?_map, List.getElem?_eq_getElem h'] <;> rfl), q⟩
  · have h' : ¬ i < ws.length := fun z => h (decide_eq_true (by rw [List.length_map]; omega))
    rw [List.getElem?_eq_none (by omega)] at q
    exact q
end B
end
section
set_option linter.all false
set_option maxRecDepth 100000
namespace B
open PySem PySem.Spec PyProof.Rows L2 La
theorem Sh.up {o : Option Tok} (ok : ∀ t, o = some t → OkK t) : Sh 0 (.str (upS o)) := by
  match o, ok with
  | none, _ => exact ⟨by decide +kernel, by decide +kernel⟩
  | some (.num k), ok => exact nine (p := fun k => Sh 0 (.str (upS (some (.num k))))) ⟨by decide +kernel, by decide +kernel⟩ ⟨by decide +kernel, by decide +kernel⟩ ⟨by decide +kernel, by decide +kernel⟩ ⟨by decide +kernel, by decide +kernel⟩ ⟨by decide +kernel, by decide +kernel⟩ ⟨by decide +kernel, by decide +kernel⟩ ⟨by decide +kernel, by decide +kernel⟩ ⟨by decide +kernel, by decide +kernel⟩ ⟨by decide +kernel, by decide +kernel⟩ (ok _ rfl)
  | some .comma, _ => exact ⟨by decide +kernel, by decide +kernel⟩
  | some .dash, _ => exact ⟨by decide +kernel, by decide +kernel⟩
  | some .slash, _ => exact ⟨by decide +kernel, by decide +kernel⟩
  | some .mute, _ => exact ⟨by decide +kernel, by decide +kernel⟩
theorem numsD_sh : SeqAt.shaped (.list numsD) = true := by decide +kernel
theorem nums_dp {K : PySem.W.Frag} {H : Hp} {a : Addr} (h : H a = some (.lst ((List.range 9).map fun k => V.str (tS (.num k))))) : Dp K H (.ref a) (.list numsD) := .lst (SqL.of h) (dpa_map fun k _ => .str _)
theorem drop_get {α : Type} {ws a b : List α} {i j : Nat} (h : ws.drop i = a ++ b) (hj : j < a.length) : ws[i + j]? = a[j]? := by
  have : (ws.drop i)[j]? = ws[i + j]? := List.getElem?_drop
  rw [← this, h, List.getElem?_append_left hj]
theorem drop_head {α : Type} {ws a b : List α} {i : Nat} (h : ws.drop i = a ++ b) : ws[i + a.length]? = b.head? := by
  have : (ws.drop i)[a.length]? = ws[i + a.length]? := List.getElem?_drop
  rw [← this, h, List.getElem?_append_right (Nat.le_refl _), Nat.sub_self, List.head?_eq_getElem?]
def sp_read_sum (tb : List (Addr × Str)) : Sp := fun vs H Q _ => ∃ (w : Addr) (ws : List Tok) (i : Nat) (mu : Bool) (s : List Nat) (rest : List Tok), vs = [.ref w, iN i, .bl mu] ∧ Words H w ws ∧ (∀ t ∈ ws, OkK t) ∧ OkS s ∧ (mu = true → 0 ∉ s) ∧ ws.drop i = s.map Tok.num ++ rest ∧ isNum rest.head? = false ∧
  ∀ t a H', Gr tb H H' → AgesAt H' a s → H' t = some (.tup [iN (i + s.length), .ref a]) → Q (.ref t) H'
abbrev nm_read_sum : List Str := ["words", "spot", "is_mute", "ages", "least", "numbers", "word", "number"]
theorem sc_read_sum : FnScope nm_read_sum ["words", "spot", "is_mute"] (defScope s_read_sum) := ⟨rfl, rfl, rfl, by decide +kernel, rfl, by decide +kernel, by decide +kernel⟩
theorem c_read_sum {P : Program} {w : World} {K : PySem.W.Frag} {mg : Str → Option Value} {base : Heap} {tb : List (Addr × Str)} (T : Tx K mg base tb) : Cf P w K mg base 2 "read_sum" (sp_read_sum tb) := by
  obtain ⟨f, fd, F, hm⟩ := T.f_read_sum
  refine ⟨f, @mkR P w K mg base _ _ _ _ _ _ _ (sp_read_sum tb) 1 F sc_read_sum (fun _ _ _ _ _ _ us hl => match us, hl with | [_, _, _], _ => rfl) (fun vs H Q E h => by obtain ⟨w, ws, i, mu, s, rest, rfl, hw, hok, os, hmu, hd, hrest, q⟩ := h; rfl) (fun cdv A outer s H vs Q E hr h => ⟨_, (pss_cons (ps_set (i := 3) sc_read_sum.nd rfl (Or.inl rfl) (pe_tup pa_nil))
      (pss_cons (ps_set (i := 4) sc_read_sum.nd rfl (Or.inl rfl) (pe_callTy call_int1 (by rfl) T.n_int (by decide +kernel) (pa_cons (pv 2) pa_nil)))
      (pss_cons (ps_setLc (i := 5) (own := [("number", 7)]) (g := gName 7) (tt := tYes) rfl sc_read_sum.nd rfl rfl (sw_true rfl rfl rfl (by decide +kernel)) (pi_range1 (by rfl) T.n_range (pa_cons (pe_op op_add (pe_glob (v := .int 8) rfl T.g_MOST_AGE_checks.choose_spec ⟨_, rfl⟩) pe_int) pa_nil)) (blkOk_by (own := [("number", 7)]) (N := nm_read_sum) (sc := defScope s_read_sum) (by decide +kernel)) (fun _ _ _ _ _ => pg_name (i := 7) sc_read_sum.nd rfl (Or.inl rfl)) (fun _ _ _ _ _ => pts_nil) (fun _ _ _ _ _ => (pe_callTy call_str_int (by rfl) T.n_str (by decide +kernel) (pa_cons (pv 7) pa_nil))))
      (pss_cons (ps_while PassesOwn.never (PW.pt (pw_or (pt_cmpR op_eq (pe_callB call_lenQ (by rfl) T.n_len (by decide +kernel) (pa_cons (pv 3) pa_nil)) pe_int (nomark _)) (pw_or1 (pt_cmpR (op_inD (hu5 hr)) (pe_cR (c_upcoming (K := K) T) hr (by decide) rfl (pa_cons (pv 0) (pa_cons (pv 1) pa_nil))) (pv 5) rfl)))) (pss_cons (ps_set (i := 6) sc_read_sum.nd rfl (Or.inl rfl) (pe_cR (c_upcoming (K := K) T) hr (by decide) rfl (pa_cons (pv 0) (pa_cons (pv 1) pa_nil))))
      (pss_cons (ps_if (PW.pt (pw_or (pt_cmpR (op_notInD (hu5 hr)) (pv 6) (pv 5) rfl) (pw_or1 (pt_cmpR op_lt (pe_callTy call_int_str (by rfl) T.n_int (by decide +kernel) (pa_cons (pv 6) pa_nil)) (pv 4) (nomark _))))) (pss_one ps_never) pss_nil)
      (pss_cons (ps_set (i := 3) sc_read_sum.nd rfl (Or.inl rfl) (pe_tup (StX.pa_star (pv 3) (pa_cons (pe_callTy call_int_str (by rfl) T.n_int (by decide +kernel) (pa_cons (pv 6) pa_nil)) pa_nil))))
      (pss_cons (ps_set (i := 4) sc_read_sum.nd rfl (Or.inl rfl) (pe_op op_add (pe_callTy call_int_str (by rfl) T.n_int (by decide +kernel) (pa_cons (pv 6) pa_nil)) pe_int))
      (pss_one (ps_aug (i := 1) sc_read_sum.nd rfl (Or.inl rfl) pe_int ip_add)))))))
      (pss_one (ps_ret (pe_tup (pa_cons (pv 1) (pa_cons (pv 3) pa_nil))))))))), ?_⟩), hm, F.kp⟩
  obtain ⟨w, ws, i, mu, s, rest, rfl, hw, hok, os, hmu, hd, hrest, q⟩ := h
  have hlen := os.len
  have okw : ∀ j, ∀ t, ws[j]? = some t → OkK t := fun j t h => hok t (List.mem_of_getElem? h)
  refine ⟨(by decide : (0 : Nat) ≤ sizeLine), fun a0 na0 => ?_⟩
  have g0 := Gr.new (tb := tb) (o := .tup []) na0
  have e0 : AgesAt (upd H a0 (.tup [])) a0 (s.take 0) := upd_same
  generalize upd H a0 (.tup []) = H1 at g0 e0 ⊢
  refine ⟨_, rfl, .inr ⟨_, rfl, ?_⟩⟩
  refine ⟨_, _, rfl, rfl, _, rfl, (by decide : -(2 ^ 62) ≤ (8 : Int) + 1), (by decide : (8 : Int) + 1 < 2 ^ 62), fun nb nnb => ?_⟩
  refine lcV walk_range tb nnb (by decide) (fun i acc => acc = (List.range i).map fun k => V.str (tS (.num k))) rfl (fun _ _ => True.intro) ?_ ?_
  · rintro k x H2 H3 acc K1 K2 hk rfl g ⟨rfl, rfl⟩ k1 _
    have hk8 : k ≤ 8 := by have : k < ((8 : Int) + 1).toNat := hk; omega
    refine ⟨rfl, _, rfl, _, rfl, ?_, ev (y := .str (tS (.num k))) ?_ (k1 _ _ (Gr.refl _) ?_)⟩
    · refine nine (p := fun k => (0 + (k : Int)).natAbs.log2 < 1920) ?_ ?_ ?_ ?_ ?_ ?_ ?_ ?_ ?_ hk8 <;> decide +kernel
    · rw [show (0 : Int) + (k : Nat) = (k : Int) by omega, str_num hk8]
    · rw [List.range_succ, List.map_append] <;> rfl
  rintro H2 acc g2 hnb rfl
  have hnb' : H2 nb = some (.lst ((List.range 9).map fun k => V.str (tS (.num k)))) := hnb
  have g02 := g0.trans g2
  have hmu0 : ∃ l0 : Nat, (V.int (if mu = true then 1 else 0)) = iN l0 ∧ ∀ v, s[0]? = some v → l0 ≤ v := by
    cases mu with
    | true => exact ⟨1, rfl, fun v hv => by
        have : v ≠ 0 := fun z => hmu rfl (by rw [← z]; exact List.mem_of_getElem? hv)
        omega⟩
    | false => exact ⟨0, rfl, fun v hv => Nat.zero_le _⟩
  obtain ⟨l0, el0, hl0⟩ := hmu0
  rw [el0]
  refine ⟨fun m σ H' => ∃ j a l x, m = s.length - j ∧ j ≤ s.length ∧ Gr tb H2 H' ∧ AgesAt H' a (s.take j) ∧ (∀ v, s[j]? = some v → l ≤ v) ∧ σ = [some (.ref w), some (iN (i + j)), some (.bl mu), some (.ref a), some (iN l), some (.ref nb), x, none], ⟨_, 0, a0, l0, _, rfl, Nat.zero_le _, Gr.refl _, e0.gr g2, hl0, rfl⟩, ?_⟩
  rintro m σ H3 ⟨j, a, l, x, rfl, hj, g3, ha, hl, rfl⟩
  have hw3 : Words H3 w ws := (g02.trans g3).at hw
  have hnb3 := g3.at hnb'
  refine ⟨_, rfl, a, _, rfl, .inr (SqT.of ha), rfl, _, rfl, ?_⟩
  rw [mtup, List.length_take, Nat.min_eq_left hj]
  by_cases hjs : j < s.length
  · have hwj : ws[i + j]? = some (.num s[j]) := by
      rw [drop_get hd (by rw [List.length_map]; exact hjs), List.getElem?_map, List.getElem?_eq_getElem hjs] <;> rfl
    have h8 : s[j] ≤ 8 := os.2.2 _ (List.getElem_mem hjs)
    have okup := okw (i + j)
    rw [hwj] at okup
    rcases Decidable.em (j = 0) with h0 | h0
    case' inl =>
      rw [show decide (V.int (j : Int) = V.int 0) = true from by rw [h0] <;> rfl]
      refine iteT (iteT ?_)
    case' inr =>
      rw [neq0 h0]
      refine iteF ⟨_, rfl, _, rfl, w, ws, i + j, rfl, hw3, _, rfl, .str _, numsD, .str _, nums_dp hnb3, (Sh.up (okw (i + j))).shaped (by decide), numsD_sh, _, rfl, ?_⟩
      rw [up_num (okw (i + j)), hwj]
      refine iteT ?_
    all_goals
      refine ⟨_, fun σ' H' h => h, ?_⟩
      refine ⟨_, rfl, _, rfl, w, ws, i + j, rfl, hw3, ?_⟩
      rw [hwj]
      refine ⟨_, rfl, _, rfl, .str _, numsD, .str _, nums_dp hnb3, (Sh.up okup).shaped (by decide), numsD_sh, _, rfl, ?_⟩
      rw [up_num okup]
      refine iteF ⟨_, rfl, _, _, rfl, int_num h8, ?_, _, rfl, _, _, rfl, rfl, _, rfl, ?_⟩
      · exact nine (p := fun k => (tS (.num k)).length ≤ 640) (by decide) (by decide) (by decide) (by decide) (by decide) (by decide) (by decide) (by decide) (by decide) h8
      have hle := hl s[j] (List.getElem?_eq_getElem hjs)
      rw [decide_eq_false (show ¬ ((s[j] : Nat) : Int) < (l : Int) by omega)]
      refine iteF ⟨_, rfl, a, _, rfl, .inl (SqT.of ha), _, rfl, _, _, rfl, int_num h8, ?_, ?_, fun p np => ?_⟩
      · exact nine (p := fun k => (tS (.num k)).length ≤ 640) (by decide) (by decide) (by decide) (by decide) (by decide) (by decide) (by decide) (by decide) (by decide) h8
      · refine z1000 ?_
        simp
        omega
      refine ⟨_, rfl, _, _, rfl, int_num h8, ?_, _, _, rfl, rfl, ?_⟩
      · exact nine (p := fun k => (tS (.num k)).length ≤ 640) (by decide) (by decide) (by decide) (by decide) (by decide) (by decide) (by decide) (by decide) (by decide) h8
      refine ⟨_, rfl, _, _, rfl, rfl, ?_⟩
      refine ⟨s.length - (j + 1), by omega, j + 1, p, s[j] + 1, some (.str (upS (some (Tok.num s[j])))), rfl, hjs, g3.trans (Gr.new np), ?_, ?_, ?_⟩
      · show _ = _
        rw [upd_same, List.take_add_one, List.getElem?_eq_getElem hjs, List.map_append] <;> rfl
      · intro v hv
        obtain ⟨hj1, ev1⟩ := List.getElem?_eq_some_iff.mp hv
        have := List.pairwise_iff_getElem.mp os.2.1 j (j + 1) hjs hj1 (by omega)
        omega
      · rfl
  · have hjl : j = s.length := by omega
    subst hjl
    have h0 : s.length ≠ 0 := fun z => os.1 (List.length_eq_zero_iff.mp z)
    rw [neq0 h0]
    have hwj : ws[i + s.length]? = rest.head? := by
      have := drop_head hd
      rw [List.length_map] at this
      exact this
    refine iteF ⟨_, rfl, _, rfl, w, ws, i + s.length, rfl, hw3, _, rfl, .str _, numsD, .str _, nums_dp hnb3, (Sh.up (okw (i + s.length))).shaped (by decide), numsD_sh, _, rfl, ?_⟩
    rw [up_num (okw (i + s.length)), hwj, hrest]
    rw [List.take_of_length_le (Nat.le_refl _)] at ha
    refine iteF ⟨_, rfl, _, rfl, z2, fun t nt => q t a _ ((g02.trans g3).trans (Gr.new nt)) (AgesAt.gr (tb := tb) ha (Gr.new nt)) upd_same⟩
end B
end
section
set_option linter.all false
set_option maxRecDepth 100000
namespace B
open PySem PySem.Spec PyProof.Rows L2 La
def sp_Tick_init (K : PySem.W.Frag) (tb : List (Addr × Str)) : Sp := fun vs H Q _ => ∃ (x sa C dx : Addr) (k : Tk), vs = [.ref x, .bl k.2, .ref sa] ∧ H x = some (.ins C dx []) ∧ C = He.ga K "Tick" ∧ SumsAt H sa k.1 ∧ OkT k ∧
  ∀ H', Gw tb x H H' → TickI K H' x k → Q .non H'
abbrev nm_Tick_init : List Str := ["self", "mute", "sums", "at", "ages"]
theorem sc_Tick_init : FnScope nm_Tick_init ["self", "mute", "sums"] (defScope s_Tick_init) := ⟨rfl, rfl, rfl, by decide +kernel, rfl, by decide +kernel, by decide +kernel⟩
theorem c_Tick {P : Program} {w : World} {K : PySem.W.Frag} {mg : Str → Option Value} {base : Heap} {tb : List (Addr × Str)} (T : Tx K mg base tb) : TkF P w K mg base 5 "Tick" (He.ga K "Tick") (sp_Tick_init K tb) := by
  obtain ⟨f, fd, F, hm⟩ := T.f_Tick_init
  refine ⟨f, hm, @mkTick P w K mg base 4 _ _ _ (sp_Tick_init K tb) _ F sc_Tick_init (fun cdv A outer s H vs Q E hr h => ⟨_, (pss_cons (ps_for PassesOwn.never rfl (pi_enumT (by rfl) T.n_enumerate (pa_cons (pv 2) pa_nil)) (pg_tup rfl (pgs_cons (pg_name (i := 3) sc_Tick_init.nd rfl (Or.inl rfl)) (pgs_cons (pg_name (i := 4) sc_Tick_init.nd rfl (Or.inl rfl)) pgs_nil)))
      (pss_one (ps_if (PW.pt (pw_or (pt_not (pt_val (pe_cR (c_is_sum (K := K) T) hr (by decide) rfl (pa_cons (pv 4) pa_nil)))) (pw_or1 (pt_cmpR (op_inDT (hu5 hr)) (pv 4) (pe_slice sl_tupA (pv 2) po_none (po_some (pv 3))) rfl)))) (pss_one ps_never) pss_nil)))
      (pss_cons (ps_if (pt_cmpR op_gt (pe_callB call_lenQ (by rfl) T.n_len (by decide +kernel) (pa_cons (pv 2) pa_nil)) (pe_glob (v := .int 6) rfl T.g_MOST_SUMS.choose_spec ⟨_, rfl⟩) (nomark _)) (pss_one ps_never) pss_nil)
      (pss_cons (ps_if (PW.pt (pw_or (pt_not (pt_val (pe_callB call_isi (by rfl) T.n_isinstance (by decide +kernel) (pa_cons (pv 1) (pa_cons (pe_bltn (v := .ty "bool") (by rfl) T.n_bool (by decide +kernel) rfl) pa_nil))))) (pw_or1 (PW.pt (pw_and (pt_val (pv 1)) (pw_and1 (pt_val (pe_callB (cr_any rfl) (by rfl) T.n_any (by decide +kernel) (pa_cons (pe_lc (own := [("ages", 4)]) (g := gName 4) (tt := tYes) rfl sc_Tick_init.nd (pi_tup (pv 2)) (blkOk_by (own := [("ages", 4)]) (N := nm_Tick_init) (sc := defScope s_Tick_init) (by decide +kernel)) (fun _ _ _ _ _ => pg_name (i := 4) sc_Tick_init.nd rfl (Or.inl rfl)) (fun _ _ _ _ _ => pts_nil) (fun _ _ _ _ _ => (pe_cmpR (show OpR _ _ (rInDT K) from op_inDT (hu5 hr)) pe_int (pv 4) rfl))) pa_nil))))))))) (pss_one ps_never) pss_nil)
      (pss_cons (ps_fld (pv 0) (pe_callTy call_tupQ (by rfl) T.n_tuple (by decide +kernel) (pa_cons (pv 2) pa_nil)) rfl)
      (pss_one (ps_fld (pv 0) (pv 1) rfl)))))), ?_⟩), T.g_Tick⟩
  obtain ⟨x, sa, C, dx, k, rfl, hx, rfl, hss, ok, q⟩ := h
  obtain ⟨ts, e, hs, hts⟩ := id hss
  have h4 := ok.2.2.1
  have hlen : ts.length ≤ 4 := by have := ok.2.2.1; rw [← e, List.length_map] at this; exact this
  refine ⟨_, rfl, sa, _, rfl, SqT.of hs, for_it walk_enumT (fun i σ H' => Gr tb H H' ∧ ∃ a b, σ = [some (.ref x), some (.bl k.2), some (.ref sa), a, b]) ⟨Gr.refl _, _, _, rfl⟩ (fun i σ H' hi ⟨g, _⟩ => SqT.of (g.at hs)) ?_ ?_⟩
  · rintro i v σ H1 H2 hi ⟨g, a, b, rfl⟩ ⟨p, y, z, rfl, np, rfl, hy, hz⟩
    obtain ⟨t, hn, rfl⟩ := map_at hz
    injection hy with hy
    subst hy
    have ht : k.1[i]? = some t.2 := by rw [← e, List.getElem?_map, hn] <;> rfl
    have g2 := g.trans (Gr.new (tb := tb) (o := .tup [.int (i : Nat), .ref t.1]) np)
    refine ⟨p, _, rfl, SqT.of upd_same, rfl, _, _, rfl, _, _, rfl, rfl, ?_⟩
    generalize upd H1 p (.tup [.int (i : Nat), .ref t.1]) = H2 at g2 ⊢
    refine ⟨_, rfl, t.1, t.2, rfl, (hts t (List.mem_of_getElem? hn)).gr g2, ok.1 _ (List.mem_of_getElem? ht), fun H3 g3 => ⟨_, rfl, iteF ?_⟩⟩
    have g4 := g2.trans g3
    have htl : (ts.map fun t => V.ref t.1).length = k.1.length := by rw [mtup, ← e, List.length_map]
    rw [mtup] at hi
    refine ⟨_, rfl, _, rfl, _, rfl, _, rfl, sa, _, rfl, SqT.of (g4.at hs), fun hw => ?_, fun hnw p5 np5 => ?_⟩
    · exfalso
      have := hw.2
      rw [HT.sIx_nat, mtup] at this
      omega
    have g5 := g4.trans (Gr.new (tb := tb) (o := .tup (cutV (ts.map fun t => V.ref t.1) none (some ((i : Nat) : Int)))) np5)
    have ec : cutV (ts.map fun t => V.ref t.1) none (some ((i : Nat) : Int)) = (ts.take i).map fun t => V.ref t.1 := by
      unfold cutV
      rw [HT.sIx_none, HT.sIx_nat, mtup, List.drop_zero, Nat.sub_zero, Nat.min_eq_left (by omega), List.map_take]
    have hS : SumsAt (upd H3 p5 (.tup (cutV (ts.map fun t => V.ref t.1) none (some ((i : Nat) : Int))))) p5 (k.1.take i) := ⟨ts.take i, by rw [← e, List.map_take], by rw [upd_same, ec], fun u hu => (hts u (List.mem_of_mem_take hu)).gr g5⟩
    refine ⟨dS t.2, (k.1.take i).map dS, ((hts t (List.mem_of_getElem? hn)).gr g5).dp, sums_dp hS, (Sh.dS _).shaped (by decide), Sh.ss.shaped (by decide), _, rfl, ?_⟩
    rw [any_dS, decide_eq_false (fun hm => by
      obtain ⟨j, hj, ej⟩ := List.mem_take_iff_getElem.mp hm
      obtain ⟨hi2, ei⟩ := List.getElem?_eq_some_iff.mp ht
      have := (List.getElem_inj ok.2.1 (h₀ := by omega) (h₁ := hi2)).mp (ej.trans ei.symm)
      omega)]
    exact iteF ⟨g5, _, _, rfl⟩
  rintro σ H1 ⟨g, a, b, rfl⟩
  have hs1 := g.at hs
  refine ⟨_, rfl, _, _, rfl, .inr (SqT.of hs1), _, _, rfl, rfl, _, rfl, ?_⟩
  rw [mtup, decide_eq_false (show ¬ ((6 : Int) < (ts.length : Nat)) by omega)]
  refine iteF ⟨_, rfl, _, _, _, _, _, rfl, .ty _, .base (.bl _), kit_ty (r := true) (by decide +kernel), _, rfl, ?_⟩
  obtain ⟨ss, mu⟩ := k
  simp only at hss e ok h4
  refine iteF ⟨_, rfl, _, rfl, ?_⟩
  cases mu with
  | true =>
    refine iteT ⟨_, rfl, sa, rfl, ⟨_, SqT.of hs1⟩, fun D nD => ?_⟩
    refine lcV walk_tup tb nD (by rw [mtup]; omega) (fun i acc => acc = List.replicate i (V.bl false)) rfl (fun H2 g2 => SqT.of (g2.at hs1)) ?_ ?_
    · rintro i y H2 H3 acc K1 K2 hi rfl g2 ⟨rfl, hy⟩ k1 _
      obtain ⟨t, ht, rfl⟩ := map_at hy
      have hm := List.mem_of_getElem? ht
      have h0 : (0 : Nat) ∉ t.2 := ok.2.2.2 rfl t.2 (by rw [← e]; exact List.mem_map_of_mem hm)
      refine ⟨rfl, _, rfl, dN 0, t.2.map dN, .int 0, (((hts t hm).gr g).gr g2).dp, (Sh.dN 0 0).shaped (by decide), (Sh.dS _).shaped (by decide), ?_⟩
      rw [any_dN, decide_eq_false h0]
      exact k1 _ _ (Gr.refl _) (List.replicate_succ'.symm)
    rintro H2 acc g2 hD rfl
    have gg := g.trans g2
    refine ⟨D, List.replicate _ false, rfl, by rw [List.map_replicate]; exact SqL.of hD, _, rfl, ?_⟩
    rw [show (List.replicate (ts.map fun t => V.ref t.1).length false).any id = false from by simp]
    refine iteF ?_
    refine ⟨_, rfl, sa, _, rfl, .inr ⟨SqT.of (gg.at hs), ?_⟩⟩
    have gw1 : Gw tb x H2 (upd H2 x (.ins (He.ga K "Tick") dx (putF "sums" (.ref sa) []))) := Gw.wr (gg.at hx) rfl
    refine ⟨_, rfl, x, _, dx, _, rfl, gg.at hx, T.cl_Tick, T.na_Tick_sums, (by decide : (0 : Nat) < 1000), ?_⟩
    refine ⟨_, rfl, _, rfl, x, _, dx, _, rfl, upd_same, T.cl_Tick, T.na_Tick_mute, (by decide : (1 : Nat) < 1000), ?_⟩
    have gw2 := ((Gw.of gg).trans gw1).trans (Gw.wr (o' := .ins (He.ga K "Tick") dx (putF "mute" (.bl true) (putF "sums" (.ref sa) []))) upd_same rfl)
    exact q _ gw2 ⟨dx, sa, upd_same, sumsW hss gw2 hx⟩
  | false =>
    refine iteF ?_
    refine ⟨_, rfl, sa, _, rfl, .inr ⟨SqT.of (g.at hs), ?_⟩⟩
    have gw1 : Gw tb x H1 (upd H1 x (.ins (He.ga K "Tick") dx (putF "sums" (.ref sa) []))) := Gw.wr (g.at hx) rfl
    refine ⟨_, rfl, x, _, dx, _, rfl, g.at hx, T.cl_Tick, T.na_Tick_sums, (by decide : (0 : Nat) < 1000), ?_⟩
    refine ⟨_, rfl, _, rfl, x, _, dx, _, rfl, upd_same, T.cl_Tick, T.na_Tick_mute, (by decide : (1 : Nat) < 1000), ?_⟩
    have gw2 := ((Gw.of g).trans gw1).trans (Gw.wr (o' := .ins (He.ga K "Tick") dx (putF "mute" (.bl false) (putF "sums" (.ref sa) []))) upd_same rfl)
    exact q _ gw2 ⟨dx, sa, upd_same, sumsW hss gw2 hx⟩
end B
end
section
set_option linter.all false
set_option maxRecDepth 100000
namespace B
open PySem PySem.Spec PyProof.Rows L2 La
theorem up_mute {o : Option Tok} (ok : ∀ t, o = some t → OkK t) : decide (V.str (upS o) = V.str "mute") = decide (o = some .mute) := by
  rw [show ("mute" : Str) = tS .mute from by decide +kernel]
  exact up_eq ok .mute fun _ z => by cases z
theorem up_dash {o : Option Tok} (ok : ∀ t, o = some t → OkK t) : decide (V.str (upS o) = V.str "-") = decide (o = some .dash) := by
  rw [show ("-" : Str) = tS .dash from by decide +kernel]
  exact up_eq ok .dash fun _ z => by cases z
theorem up_comma {o : Option Tok} (ok : ∀ t, o = some t → OkK t) : decide (V.str (upS o) = V.str ",") = decide (o = some .comma) := by
  rw [show ("," : Str) = tS .comma from by decide +kernel]
  exact up_eq ok .comma fun _ z => by cases z
theorem up_slash {o : Option Tok} (ok : ∀ t, o = some t → OkK t) : decide (V.str (upS o) = V.str "/") = decide (o = some .slash) := by
  rw [show ("/" : Str) = tS .slash from by decide +kernel]
  exact up_eq ok .slash fun _ z => by cases z
def sumsToks : List (List Nat) → List Tok
  | [] => [.dash]
  | [s] => s.map .num
  | s :: t :: r => s.map .num ++ .comma :: sumsToks (t :: r)
def tickToks (k : Tk) : List Tok := (if k.2 = true then [.mute] else []) ++ sumsToks k.1
def planToks : List Tk → List Tok
  | [] => []
  | [k] => tickToks k
  | k :: l :: r => tickToks k ++ .slash :: planToks (l :: r)
/-- what is left of the sums, as the loop of read_tick meets it -/
def leftToks (ss : List (List Nat)) : List Tok := match ss with
  | [] => []
  | s :: r => .comma :: sumsToks (s :: r)
theorem sumsToks_cons (s : List Nat) (r : List (List Nat)) : sumsToks (s :: r) = s.map .num ++ leftToks r := by
  cases r with
  | nil => exact (List.append_nil _).symm
  | cons t r => rfl
theorem drop_app {α : Type} {ws a b : List α} {i : Nat} (h : ws.drop i = a ++ b) : ws.drop (i + a.length) = b := by
  rw [← List.drop_drop, h, List.drop_left]
theorem mkTk {tb : List (Addr × Str)} {K : PySem.W.Frag} {H : Hp} {Q : V → Hp → Prop} {vs : List V} {k : Tk} (ok : OkT k) (ts : List (Addr × List Nat)) (e : ts.map (·.2) = k.1) (ev : vs = ts.map fun t => V.ref t.1) (ht : ∀ t ∈ ts, AgesAt H t.1 t.2)
    (q : ∀ x H', Gr tb H H' → TickI K H' x k → Q (.ref x) H') : tTick (He.ga K "Tick") (sp_Tick_init K tb) vs (.bl k.2) H Q := by
  have h4 := ok.2.2.1
  rw [← e, List.length_map] at h4
  refine ⟨by rw [ev, mtup]; exact z1000 (by omega), fun x dx nx ndx ne p np => ?_⟩
  have g1 : Gr tb H (upd H dx (.own x)) := Gr.new ndx
  have nx1 : (upd H dx (.own x)) x = none := by rw [upd_ne (Ne.symm ne)]; exact nx
  have g2 := g1.trans (Gr.new (tb := tb) (o := .ins (He.ga K "Tick") dx []) nx1)
  have g3 := g2.trans (Gr.new (tb := tb) (o := .tup vs) np)
  have gp := Gr.new (tb := tb) (o := .tup vs) np
  refine ⟨x, p, _, dx, k, rfl, gp.at upd_same, rfl, ⟨ts, e, by rw [upd_same, ev], fun t m => (ht t m).gr g3⟩, ok, fun H' gw hT => ⟨rfl, ?_⟩⟩
  exact q x H' (Gr.made nx ndx ((Gw.of gp).trans gw)) hT
def sp_read_tick (K : PySem.W.Frag) (tb : List (Addr × Str)) : Sp := fun vs H Q _ => ∃ (w : Addr) (ws : List Tok) (i : Nat) (k : Tk) (rest : List Tok), vs = [.ref w, iN i] ∧ Words H w ws ∧ (∀ t ∈ ws, OkK t) ∧ OkT k ∧ ws.drop i = tickToks k ++ rest ∧ (rest.head? = none ∨ rest.head? = some .slash) ∧
  ∀ t x H', Gr tb H H' → TickI K H' x k → H' t = some (.tup [iN (i + (tickToks k).length), .ref x]) → Q (.ref t) H'
abbrev nm_read_tick : List Str := ["words", "spot", "is_mute", "sums", "ages"]
theorem sc_read_tick : FnScope nm_read_tick ["words", "spot"] (defScope s_read_tick) := ⟨rfl, rfl, rfl, by decide +kernel, rfl, by decide +kernel, by decide +kernel⟩
theorem c_read_tick {P : Program} {w : World} {K : PySem.W.Frag} {mg : Str → Option Value} {base : Heap} {tb : List (Addr × Str)} (T : Tx K mg base tb) : Cf P w K mg base 7 "read_tick" (sp_read_tick K tb) := by
  obtain ⟨f, fd, F, hm⟩ := T.f_read_tick
  refine ⟨f, @mkR P w K mg base _ _ _ _ _ _ _ (sp_read_tick K tb) 6 F sc_read_tick (fun _ _ _ _ _ _ us hl => match us, hl with | [_, _], _ => rfl) (fun vs H Q E h => by obtain ⟨w, ws, i, k, rest, rfl, hw, hok, ok, hd, hrest, q⟩ := h; rfl) (fun cdv A outer s H vs Q E hr h => ⟨_, (pss_cons (ps_set (i := 2) sc_read_tick.nd rfl (Or.inl rfl) (pe_cmpR op_eq (pe_cR (c_upcoming (K := K) T) hr (by decide) rfl (pa_cons (pv 0) (pa_cons (pv 1) pa_nil))) pe_str (nomark _)))
      (pss_cons (ps_set (i := 1) sc_read_tick.nd rfl (Or.inl rfl) (pe_op op_add (pv 1) (pe_callTy call_int1 (by rfl) T.n_int (by decide +kernel) (pa_cons (pv 2) pa_nil))))
      (pss_cons (ps_set (i := 3) sc_read_tick.nd rfl (Or.inl rfl) (pe_lst pa_nil))
      (pss_cons (ps_if (pt_cmpR op_eq (pe_cR (c_upcoming (K := K) T) hr (by decide) rfl (pa_cons (pv 0) (pa_cons (pv 1) pa_nil))) pe_str (nomark _)) (pss_one (ps_ret (pe_tup (pa_cons (pe_op op_add (pv 1) pe_int) (pa_cons (pe_tick0 (c_Tick (K := K) T) hr (by decide) rfl (pv 2)) pa_nil))))) pss_nil)
      (pss_cons (ps_while PassesOwn.never (PW.pt (pw_or (pt_cmpR op_eq (pe_callB call_lenQ (by rfl) T.n_len (by decide +kernel) (pa_cons (pv 3) pa_nil)) pe_int (nomark _)) (pw_or1 (pt_cmpR op_eq (pe_cR (c_upcoming (K := K) T) hr (by decide) rfl (pa_cons (pv 0) (pa_cons (pv 1) pa_nil))) pe_str (nomark _))))) (pss_cons (ps_if (pt_cmpR op_eq (pe_callB call_lenQ (by rfl) T.n_len (by decide +kernel) (pa_cons (pv 3) pa_nil)) (pe_glob (v := .int 6) rfl T.g_MOST_SUMS.choose_spec ⟨_, rfl⟩) (nomark _)) (pss_one ps_never) pss_nil)
      (pss_cons (ps_asg (pe_cR (c_read_sum (K := K) T) hr (by decide) rfl (pa_cons (pv 0) (pa_cons (pe_op op_add (pv 1) (pe_callTy call_int1 (by rfl) T.n_int (by decide +kernel) (pa_cons (pe_cmpR op_gt (pe_callB call_lenQ (by rfl) T.n_len (by decide +kernel) (pa_cons (pv 3) pa_nil)) pe_int (nomark _)) pa_nil))) (pa_cons (pv 2) pa_nil)))) (pg_tup rfl (pgs_cons (pg_name (i := 1) sc_read_tick.nd rfl (Or.inl rfl)) (pgs_cons (pg_name (i := 4) sc_read_tick.nd rfl (Or.inl rfl)) pgs_nil))))
      (pss_cons (ps_if (pt_cmpR (op_inD (hu5 hr)) (pv 4) (pv 3) rfl) (pss_one ps_never) pss_nil)
      (pss_one (ps_expr (pe_bm PySem.F.plainAttrs_list PySem.F.slot_list_append PySem.F.type_list_append mt_append (pv 3) (pa_cons (pv 4) pa_nil))))))))
      (pss_one (ps_ret (pe_tup (pa_cons (pv 1) (pa_cons (pe_tickS (c_Tick (K := K) T) hr (by decide) rfl (pv 3) (pv 2)) pa_nil)))))))))), ?_⟩), hm, F.kp⟩
  obtain ⟨w, ws, i, k, rest, rfl, hw, hok, ok, hd, hrest, q⟩ := h
  obtain ⟨ss, mu⟩ := k
  have h4 := ok.2.2.1
  have okw : ∀ j, ∀ t, ws[j]? = some t → OkK t := fun j t h => hok t (List.mem_of_getElem? h)
  have hmu : decide (ws[i]? = some .mute) = mu := by
    have e0 := List.getElem?_drop (xs := ws) (i := i) (j := 0)
    rw [Nat.add_zero] at e0
    rw [← e0, hd]
    unfold tickToks
    cases mu with
    | true => rfl
    | false =>
      refine decide_eq_false fun z => ?_
      cases ss with
      | nil => cases z
      | cons s r =>
        rw [if_neg Bool.false_ne_true, List.nil_append, sumsToks_cons] at z
        have hs := (ok.1 s List.mem_cons_self).1
        cases s with
        | nil => exact hs rfl
        | cons a s => cases z
  have hd1 : ws.drop (i + if mu = true then 1 else 0) = sumsToks ss ++ rest := by
    unfold tickToks at hd
    cases mu with
    | true =>
      rw [List.append_assoc] at hd
      exact drop_app (a := [Tok.mute]) (b := sumsToks ss ++ rest) hd
    | false => exact hd
  refine ⟨_, rfl, _, rfl, w, ws, i, rfl, hw, rfl, ?_⟩
  rw [up_mute (okw i), hmu]
  refine ⟨_, rfl, _, rfl, .inr ⟨_, rfl, _, _, rfl, rfl, ?_⟩⟩
  have hi1 : ∃ i1 : Nat, V.int ((i : Int) + if mu = true then 1 else 0) = iN i1 ∧ ws.drop i1 = sumsToks ss ++ rest ∧ i1 + (sumsToks ss).length = i + (tickToks (ss, mu)).length := by
    unfold tickToks
    cases mu with
    | true => exact ⟨i + 1, rfl, hd1, by simp; omega⟩
    | false => exact ⟨i, congrArg V.int (by simp), hd1, by simp⟩
  obtain ⟨i1, ei1, hdi, hlen⟩ := hi1
  dsimp only
  rw [ei1]
  refine ⟨(by decide : (0 : Nat) ≤ sizeLine), fun D nD => ?_⟩
  have g0 := Gr.new (tb := tb) (o := .lst []) nD
  refine ⟨_, rfl, _, rfl, w, ws, i1, rfl, g0.at hw, rfl, ?_⟩
  rw [up_dash (okw i1)]
  have e1 : ws[i1]? = (sumsToks ss ++ rest)[0]? := by
    have e0 := List.getElem?_drop (xs := ws) (i := i1) (j := 0)
    rw [Nat.add_zero] at e0
    rw [← e0, hdi]
  cases hss : ss with
  | nil =>
    subst hss
    rw [decide_eq_true (show ws[i1]? = some .dash from e1)]
    refine ⟨_, rfl, iteT ⟨_, rfl, _, _, rfl, rfl, _, rfl, ?_⟩⟩
    refine mkTk (k := ([], mu)) ok [] rfl rfl (fun t m => nomatch m) fun x H' g hT => ⟨z2, fun t nt => ?_⟩
    refine q t x _ ((g0.trans g).trans (Gr.new nt)) (hT.gr (Gr.new (tb := tb) nt)) ?_
    rw [upd_same, ← hlen] <;> rfl
  | cons s0 r0 =>
  have hnd : decide (ws[i1]? = some .dash) = false := by
    refine decide_eq_false fun z => ?_
    rw [e1, hss, sumsToks_cons] at z
    have hs := (ok.1 s0 (by rw [hss]; exact List.mem_cons_self)).1
    cases s0 with
    | nil => exact hs rfl
    | cons a s => cases z
  rw [hnd]
  have hpos : 0 < ss.length := by rw [hss]; exact Nat.succ_pos _
  clear hss e1 hnd
  refine ⟨_, rfl, iteF ⟨fun m σ H' => ∃ j p ts a, m = ss.length - j ∧ j ≤ ss.length ∧ ts.map (·.2) = ss.take j ∧ H' D = some (.lst (ts.map fun t : Addr × List Nat => V.ref t.1)) ∧ (∀ t ∈ ts, AgesAt H' t.1 t.2) ∧ Gw tb D (upd H D (.lst [])) H' ∧ ws.drop p = (if j = 0 then sumsToks ss else leftToks (ss.drop j)) ++ rest ∧ p + (if j = 0 then sumsToks ss else leftToks (ss.drop j)).length = i + (tickToks (ss, mu)).length ∧
    σ = [some (.ref w), some (iN p), some (.bl mu), some (.ref D), a], ⟨_, 0, i1, [], _, rfl, Nat.zero_le _, rfl, upd_same, fun t m => (nomatch m), Gw.refl _, by rw [if_pos rfl]; exact hdi, by rw [if_pos rfl]; exact hlen, rfl⟩, ?_⟩⟩
  rintro m σ H1 ⟨j, p, ts, a, rfl, hj, ets, hD, hts, gw, hdp, hpl, rfl⟩
  have gg := (Gr.new nD).gw nD gw
  have hw1 : Words H1 w ws := gg.at hw
  have htl : ts.length = j := by rw [← List.length_map (f := (·.2)), ets, List.length_take, Nat.min_eq_left hj]
  refine ⟨_, rfl, D, _, rfl, .inl (SqL.of hD), rfl, _, rfl, ?_⟩
  rw [mtup, htl]
  by_cases hjs : j < ss.length
  · have hdj : ss.drop j = ss[j] :: ss.drop (j + 1) := List.drop_eq_getElem_cons hjs
    have hsj : ss[j] ∈ ss := List.getElem_mem hjs
    have okj := ok.1 ss[j] hsj
    have hsp : ∃ p1 : Nat, V.int ((p : Int) + if (decide ((0 : Int) < (j : Nat))) = true then 1 else 0) = iN p1 ∧ ws.drop p1 = ss[j].map .num ++ (leftToks (ss.drop (j + 1)) ++ rest) ∧ p1 + ss[j].length + (leftToks (ss.drop (j + 1))).length = i + (tickToks (ss, mu)).length := by
      by_cases h0 : j = 0
      · subst h0
        rw [if_pos rfl] at hdp hpl
        have e : ss = ss[0] :: ss.drop 1 := by simpa using hdj
        have e2 := sumsToks_cons ss[0] (ss.drop 1)
        rw [← e] at e2
        refine ⟨p, congrArg V.int (by simp), by rw [hdp, e2, List.append_assoc], ?_⟩
        rw [e2, List.length_append, List.length_map] at hpl
        show p + ss[0].length + (leftToks (ss.drop 1)).length = _
        omega
      · rw [if_neg h0] at hdp hpl
        rw [hdj] at hdp hpl
        have e2 : leftToks (ss[j] :: ss.drop (j + 1)) = .comma :: (ss[j].map .num ++ leftToks (ss.drop (j + 1))) := by
          show Tok.comma :: sumsToks _ = _
          rw [sumsToks_cons]
        rw [e2] at hdp hpl
        refine ⟨p + 1, congrArg V.int ?_, ?_, ?_⟩
        · rw [decide_eq_true (by omega)]; simp
        · have := drop_app (a := [.comma]) (b := (ss[j].map .num ++ leftToks (ss.drop (j + 1))) ++ rest) hdp
          rw [List.append_assoc] at this
          exact this
        · rw [List.length_cons, List.length_append, List.length_map] at hpl
          omega
    obtain ⟨p1, ep1, hdp1, hpl1⟩ := hsp
    have hnn : isNum (leftToks (ss.drop (j + 1)) ++ rest).head? = false := by
      cases h : ss.drop (j + 1) with
      | nil =>
        show isNum rest.head? = false
        rcases hrest with h | h <;> rw [h] <;> rfl
      | cons s r => rfl
    have hcm : j ≠ 0 → ws[p]? = some .comma := fun h0 => by
      rw [if_neg h0, hdj] at hdp
      have e0 := List.getElem?_drop (xs := ws) (i := p) (j := 0)
      rw [Nat.add_zero] at e0
      rw [← e0, hdp] <;> rfl
    have hnm : ss[j] ∉ ss.take j := fun hm => by
      obtain ⟨q2, hq, ej⟩ := List.mem_take_iff_getElem.mp hm
      have := (List.getElem_inj ok.2.1 (h₀ := by omega) (h₁ := hjs)).mp ej
      omega
    have h4' : ss.length ≤ 4 := h4
    rcases Decidable.em (j = 0) with h0 | h0
    case' inl =>
      rw [show decide (V.int (j : Int) = V.int 0) = true from by rw [h0] <;> rfl]
      refine iteT (iteT ?_)
    case' inr =>
      rw [neq0 h0]
      refine iteF ⟨_, rfl, _, rfl, w, ws, p, rfl, hw1, rfl, _, rfl, ?_⟩
      rw [up_comma (okw p), decide_eq_true (hcm h0)]
      refine iteT ?_
    all_goals
      refine ⟨_, fun σ' H' h => h, ?_⟩
      refine ⟨_, rfl, D, _, rfl, .inl (SqL.of hD), rfl, _, rfl, ?_⟩
      rw [mtup, htl, decide_eq_false (show ¬ V.int (j : Int) = V.int 6 from fun z => by injection z with z; omega)]
      refine iteF ⟨_, rfl, _, rfl, _, rfl, D, _, rfl, .inl (SqL.of hD), _, _, rfl, rfl, .inr ⟨_, rfl, _, _, rfl, rfl, _, rfl, ?_⟩⟩
      refine ⟨w, ws, p1, mu, ss[j], _, by rw [mtup, htl]; exact congrArg (fun z => [V.ref w, z, V.bl mu]) ep1, hw1, hok, okj, fun hm => ok.2.2.2 hm _ hsj, hdp1, hnn, fun t a2 H2 g2 ha ht => ?_⟩
      refine ⟨t, _, rfl, SqT.of ht, rfl, _, _, rfl, _, _, rfl, rfl, ?_⟩
      have hD2 := g2.at hD
      have hts2 : ∀ u ∈ ts, AgesAt H2 u.1 u.2 := fun u m => (hts u m).gr g2
      refine ⟨_, rfl, _, rfl, dS ss[j], (ss.take j).map dS, ha.dp, lsums_dp ⟨ts, ets, hD2, hts2⟩, (Sh.dS _).shaped (by decide), Sh.ssl.shaped (by decide), _, rfl, ?_⟩
      rw [any_dS, decide_eq_false hnm]
      have z : (1000 : Nat) < sizeLine := by decide
      refine iteF ⟨_, rfl, .inl ⟨rfl, _, SqL.of hD2⟩, _, rfl, D, _, _, rfl, rfl, hD2, by rw [mtup, htl]; omega, ?_⟩
      have gD := Gw.wr (tb := tb) (o' := .lst ((ts.map fun t : Addr × List Nat => V.ref t.1) ++ [V.ref a2])) hD2 rfl
      refine ⟨ss.length - (j + 1), by omega, j + 1, p1 + ss[j].length, ts ++ [(a2, ss[j])], _, rfl, hjs, ?_, ?_, ?_, (gw.trans (Gw.of g2)).trans gD, ?_, ?_, rfl⟩
      · rw [List.map_append, ets, List.take_add_one, List.getElem?_eq_getElem hjs] <;> rfl
      · rw [upd_same, List.map_append] <;> rfl
      · intro u hu
        rcases List.mem_append.mp hu with hu | hu
        · exact gD.at (hts2 u hu) hD2 (fun z => by cases z)
        · rw [List.mem_singleton.mp hu]
          exact gD.at ha hD2 (fun z => by cases z)
      · rw [if_neg (Nat.succ_ne_zero j)]
        have := drop_app hdp1
        rw [List.length_map] at this
        exact this
      · rw [if_neg (Nat.succ_ne_zero j)]
        exact hpl1
  · have hjl : j = ss.length := by omega
    have h0 : j ≠ 0 := by omega
    rw [neq0 h0]
    rw [if_neg h0, hjl, List.drop_length] at hdp hpl
    refine iteF ⟨_, rfl, _, rfl, w, ws, p, rfl, hw1, rfl, _, rfl, ?_⟩
    have hnc : ws[p]? ≠ some .comma := fun z => by
      have e0 := List.getElem?_drop (xs := ws) (i := p) (j := 0)
      rw [Nat.add_zero] at e0
      rw [← e0, hdp, show leftToks [] ++ rest = rest from rfl, ← List.head?_eq_getElem?] at z
      rcases hrest with h | h <;> rw [h] at z <;> cases z
    rw [up_comma (okw p), decide_eq_false hnc]
    rw [hjl, List.take_length] at ets
    refine iteF ⟨_, rfl, _, rfl, _, rfl, D, _, rfl, .inr (SqL.of hD), ?_⟩
    refine mkTk (k := (ss, mu)) ok ts ets rfl hts fun x H' g hT => ⟨z2, fun t nt => ?_⟩
    refine q t x _ ((gg.trans g).trans (Gr.new nt)) (hT.gr (Gr.new (tb := tb) nt)) ?_
    have : p = i + (tickToks (ss, mu)).length := hpl
    rw [upd_same, this] <;> rfl
end B
end
section
set_option linter.all false
set_option maxRecDepth 100000
namespace B
open PySem PySem.Spec PyProof.Rows L2 La
theorem ins_ne2 {H : Hp} {a b C C' dx dx' : Addr} {f : Str × V} {fs : List (Str × V)} (h : H a = some (.ins C dx (f :: fs))) (k : H b = some (.ins C' dx' [])) : a ≠ b := by
  intro z
  rw [z, k] at h
  injection h with h
  injection h with _ _ h
  cases h
def leftP (ks : List Tk) : List Tok := match ks with
  | [] => []
  | k :: r => .slash :: planToks (k :: r)
theorem planToks_cons (k : Tk) (r : List Tk) : planToks (k :: r) = tickToks k ++ leftP r := by
  cases r with
  | nil => exact (List.append_nil _).symm
  | cons t r => rfl
theorem toks_ok {ks : List Tk} (h : ∀ k ∈ ks, OkT k) : ∀ t ∈ planToks ks, OkK t := by
  have hs : ∀ ss : List (List Nat), (∀ s ∈ ss, OkS s) → ∀ t ∈ sumsToks ss, OkK t := by
    intro ss
    induction ss with
    | nil => intro _ t ht; rw [List.mem_singleton.mp ht]; exact True.intro
    | cons s r ih =>
      intro hh t ht
      rw [sumsToks_cons] at ht
      rcases List.mem_append.mp ht with ht | ht
      · obtain ⟨n, hn, rfl⟩ := List.mem_map.mp ht
        exact (hh s List.mem_cons_self).2.2 n hn
      · cases r with
        | nil => cases ht
        | cons s2 r2 =>
          rcases List.mem_cons.mp ht with rfl | ht
          · exact True.intro
          · exact ih (fun s m => hh s (List.mem_cons_of_mem _ m)) t ht
  induction ks with
  | nil => intro t ht; cases ht
  | cons k r ih =>
    intro t ht
    rw [planToks_cons] at ht
    rcases List.mem_append.mp ht with ht | ht
    · unfold tickToks at ht
      rcases List.mem_append.mp ht with ht | ht
      · cases hk : k.2 with
        | true => rw [hk, if_pos rfl] at ht; rw [List.mem_singleton.mp ht]; exact True.intro
        | false => rw [hk, if_neg Bool.false_ne_true] at ht; cases ht
      · exact hs _ (h k List.mem_cons_self).1 t ht
    · cases r with
      | nil => cases ht
      | cons k2 r2 =>
        rcases List.mem_cons.mp ht with rfl | ht
        · exact True.intro
        · exact ih (fun s m => h s (List.mem_cons_of_mem _ m)) t ht
theorem leftP_head (ks : List Tk) : (leftP ks).head? = none ∨ (leftP ks).head? = some .slash := by
  cases ks with
  | nil => exact .inl rfl
  | cons k r => exact .inr rfl
def sp_Plan_read (K : PySem.W.Frag) (tb : List (Addr × Str)) : Sp := fun vs H Q _ => ∃ (c : V) (z : Str) (ks : List Tk), vs = [c, .str z] ∧ Txt.split z " " = (planToks ks).map tS ∧ z.length + 2 ≤ sizeLine ∧ OkP ks ∧ ∀ p H', Gr tb H H' → PlanI K H' p ks → Q (.ref p) H'
abbrev nm_Plan_read : List Str := ["cls", "text", "words", "spot", "tick", "ticks"]
theorem sc_Plan_read : FnScope nm_Plan_read ["cls", "text"] (defScope s_Plan_read) := ⟨rfl, rfl, rfl, by decide +kernel, rfl, by decide +kernel, by decide +kernel⟩
theorem c_Plan_read {P : Program} {w : World} {K : PySem.W.Frag} {mg : Str → Option Value} {base : Heap} {tb : List (Addr × Str)} (T : Tx K mg base tb) : ∃ mc p f, ClX.CRead K (He.ga K "Plan") mc ∧ ClX.CMet K (He.ga K "Plan") mc "read" p f ∧ FnR P w K mg base CX0 8 f (sp_Plan_read K tb) := by
  obtain ⟨mc, p, f, fd, F, h1, h2⟩ := T.f_Plan_read
  refine ⟨mc, p, f, h1, h2, @mkR P w K mg base _ _ _ _ _ _ _ (sp_Plan_read K tb) 7 F sc_Plan_read (fun _ _ _ _ _ _ us hl => match us, hl with | [_, _], _ => rfl) (fun vs H Q E h => by obtain ⟨c, z, ks, rfl, hz, hzl, ok, q⟩ := h; rfl) (fun cdv A outer s H vs Q E hr h => ⟨_, (pss_cons (ps_set (i := 2) sc_Plan_read.nd rfl (Or.inl rfl) (pe_ifExp (pt_val (pe_callB call_isi (by rfl) T.n_isinstance (by decide +kernel) (pa_cons (pv 1) (pa_cons (pe_bltn (v := .ty "str") (by rfl) T.n_str (by decide +kernel) rfl) pa_nil)))) (pe_split (pv 1) pe_str) (pe_lst (pa_cons pe_str pa_nil))))
      (pss_cons (ps_asg (pe_cR (c_read_tick (K := K) T) hr (by decide) rfl (pa_cons (pv 2) (pa_cons pe_int pa_nil))) (pg_tup rfl (pgs_cons (pg_name (i := 3) sc_Plan_read.nd rfl (Or.inl rfl)) (pgs_cons (pg_name (i := 4) sc_Plan_read.nd rfl (Or.inl rfl)) pgs_nil))))
      (pss_cons (ps_set (i := 5) sc_Plan_read.nd rfl (Or.inl rfl) (pe_lst (pa_cons (pv 4) pa_nil)))
      (pss_cons (ps_while PassesOwn.never (pt_cmpR op_lt (pv 3) (pe_callB call_lenQ (by rfl) T.n_len (by decide +kernel) (pa_cons (pv 2) pa_nil)) (nomark _)) (pss_cons (ps_if (PW.pt (pw_or (pt_cmpR op_ne (pe_ix ix_list (pv 2) (pv 3) (fun _ _ => rfl)) pe_str (nomark _)) (pw_or1 (pt_cmpR op_eq (pe_callB call_lenQ (by rfl) T.n_len (by decide +kernel) (pa_cons (pv 5) pa_nil)) (pe_glob (v := .int 6) rfl T.g_MOST_PHASES.choose_spec ⟨_, rfl⟩) (nomark _))))) (pss_one ps_never) pss_nil)
      (pss_cons (ps_asg (pe_cR (c_read_tick (K := K) T) hr (by decide) rfl (pa_cons (pv 2) (pa_cons (pe_op op_add (pv 3) pe_int) pa_nil))) (pg_tup rfl (pgs_cons (pg_name (i := 3) sc_Plan_read.nd rfl (Or.inl rfl)) (pgs_cons (pg_name (i := 4) sc_Plan_read.nd rfl (Or.inl rfl)) pgs_nil))))
      (pss_one (ps_expr (pe_bm PySem.F.plainAttrs_list PySem.F.slot_list_append PySem.F.type_list_append mt_append (pv 5) (pa_cons (pv 4) pa_nil)))))))
      (pss_one (ps_ret (pe_kS (c_Plan (K := K) T) hr (by decide) rfl (pv 5)))))))), ?_⟩)⟩
  obtain ⟨c, z, ks, rfl, hz, hzl, ok, q⟩ := h
  refine ⟨_, rfl, _, _, _, _, _, rfl, .ty _, .base (.str _), kit_ty (r := true) (by decide +kernel), _, rfl, iteT ?_⟩
  refine ⟨_, rfl, ⟨_, rfl⟩, z, " ", rfl, rfl, by decide, hzl, fun w nw => ?_⟩
  rw [hz]
  have g1 := Gr.new (tb := tb) (o := .lst (((planToks ks).map tS).map V.str)) nw
  have hw : Words (upd H w (.lst (((planToks ks).map tS).map V.str))) w (planToks ks) := by
    show _ = _
    rw [upd_same, List.map_map] <;> rfl
  generalize upd H w (.lst (((planToks ks).map tS).map V.str)) = H1 at g1 hw ⊢
  obtain ⟨k0, r0, rfl⟩ := List.exists_cons_of_ne_nil ok.1
  have hok := toks_ok ok.2.2
  have okw : ∀ j, ∀ t, (planToks (k0 :: r0))[j]? = some t → OkK t := fun j t h => hok t (List.mem_of_getElem? h)
  have h4 : r0.length + 1 ≤ 4 := ok.2.1
  refine ⟨_, rfl, w, planToks (k0 :: r0), 0, k0, leftP r0, rfl, hw, hok, ok.2.2 _ List.mem_cons_self, by rw [List.drop_zero, planToks_cons], leftP_head r0, fun t x H2 g2 hT ht => ?_⟩
  refine ⟨t, _, rfl, SqT.of ht, rfl, _, _, rfl, _, _, rfl, rfl, ?_⟩
  refine ⟨_, rfl, (by decide : (1 : Nat) ≤ sizeLine), fun D nD => ?_⟩
  refine ⟨fun m σ H' => ∃ j p ts a, m = r0.length - j ∧ j ≤ r0.length ∧ ts.map (·.2) = (k0 :: r0).take (j + 1) ∧ H' D = some (.lst (ts.map fun t : Addr × Tk => V.ref t.1)) ∧ (∀ t ∈ ts, TickI K H' t.1 t.2) ∧ Gw tb D (upd H2 D (.lst [.ref x])) H' ∧ (planToks (k0 :: r0)).drop p = leftP (r0.drop j) ∧
    σ = [some c, some (.str z), some (.ref w), some (iN p), a, some (.ref D)], ⟨_, 0, 0 + (tickToks k0).length, [(x, k0)], _, rfl, Nat.zero_le _, rfl, upd_same, fun t m => by rw [List.mem_singleton.mp m]; exact hT.gr (Gr.new (tb := tb) nD), Gw.refl _, by
      rw [List.drop_zero]
      exact drop_app (a := tickToks k0) (by rw [List.drop_zero, planToks_cons]), rfl⟩, ?_⟩
  rintro m σ H3 ⟨j, p, ts, a, rfl, hj, ets, hD, hts, gw, hdp, rfl⟩
  have gg := g2.trans ((Gr.new nD).gw nD gw)
  have hw3 : Words H3 w (planToks (k0 :: r0)) := gg.at hw
  have htl : ts.length = j + 1 := by
    rw [← List.length_map (f := (·.2)), ets, List.length_take, List.length_cons]
    omega
  have e0 := List.getElem?_drop (xs := planToks (k0 :: r0)) (i := p) (j := 0)
  rw [Nat.add_zero, hdp] at e0
  refine ⟨_, rfl, _, rfl, w, _, rfl, .inl (SqL.of hw3), _, _, rfl, rfl, _, rfl, ?_⟩
  rw [lenW (H := H3) (w := w)]
  by_cases hjs : j < r0.length
  · have hdj : r0.drop j = r0[j] :: r0.drop (j + 1) := List.drop_eq_getElem_cons hjs
    rw [hdj] at hdp e0
    have hpl : (planToks (k0 :: r0))[p]? = some .slash := e0.symm
    have hps : p < (planToks (k0 :: r0)).length := (List.getElem?_eq_some_iff.mp hpl).1
    rw [decide_eq_true (show (p : Int) < ((planToks (k0 :: r0)).length : Nat) by omega)]
    refine iteT ⟨_, fun σ' H' h => h, ?_⟩
    refine ⟨_, rfl, _, rfl, w, _, _, .str (upS (some .slash)), rfl, rfl, SqL.of hw3, atI_nat (by rw [List.getElem?_map, hpl] <;> rfl), rfl, _, rfl, ?_⟩
    rw [up_slash (fun t ht => by injection ht with ht; rw [← ht]; exact True.intro)]
    refine iteF ⟨_, rfl, D, _, rfl, .inl (SqL.of hD), rfl, _, rfl, ?_⟩
    rw [mtup, htl, decide_eq_false (show ¬ V.int ((j + 1 : Nat) : Int) = V.int 6 from fun z => by injection z with z; omega)]
    refine iteF ⟨_, rfl, _, rfl, _, _, rfl, rfl, ?_⟩
    have hdp1 : (planToks (k0 :: r0)).drop (p + 1) = tickToks r0[j] ++ leftP (r0.drop (j + 1)) := by
      have := drop_app (a := [Tok.slash]) (b := planToks (r0[j] :: r0.drop (j + 1))) hdp
      rw [planToks_cons r0[j]] at this
      exact this
    refine ⟨w, _, p + 1, r0[j], leftP (r0.drop (j + 1)), rfl, hw3, hok, ok.2.2 _ (List.mem_cons_of_mem _ (List.getElem_mem hjs)), hdp1, leftP_head _, fun t2 x2 H4 g4 hT2 ht2 => ?_⟩
    refine ⟨t2, _, rfl, SqT.of ht2, rfl, _, _, rfl, _, _, rfl, rfl, ?_⟩
    have hD4 := g4.at hD
    have z' : (1000 : Nat) < sizeLine := by decide
    refine ⟨_, rfl, .inl ⟨rfl, _, SqL.of hD4⟩, _, rfl, D, _, _, rfl, rfl, hD4, by rw [mtup, htl]; omega, ?_⟩
    have gD := Gw.wr (tb := tb) (o' := .lst ((ts.map fun t : Addr × Tk => V.ref t.1) ++ [V.ref x2])) hD4 rfl
    refine ⟨r0.length - (j + 1), by omega, j + 1, p + 1 + (tickToks r0[j]).length, ts ++ [(x2, r0[j])], _, rfl, hjs, ?_, ?_, ?_, (gw.trans (Gw.of g4)).trans gD, drop_app hdp1, rfl⟩
    · rw [List.map_append, ets, List.take_add_one (i := j + 1), List.getElem?_cons_succ, List.getElem?_eq_getElem hjs] <;> rfl
    · rw [upd_same, List.map_append] <;> rfl
    · have tw : ∀ (u : Addr) (k : Tk), TickI K H4 u k → TickI K (upd H4 D (.lst ((ts.map fun t : Addr × Tk => V.ref t.1) ++ [V.ref x2]))) u k := by
        rintro u k ⟨du, su, e1, tu, e2, e3, e4⟩
        exact ⟨du, su, gD.at e1 hD4 (fun z => by cases z), tu, e2, gD.at e3 hD4 (fun z => by cases z), fun v hv => Gw.at gD (e4 v hv) hD4 (fun z => by cases z)⟩
      intro u hu
      rcases List.mem_append.mp hu with hu | hu
      · exact tw _ _ ((hts u hu).gr g4)
      · rw [List.mem_singleton.mp hu]
        exact tw _ _ hT2
  · have hjl : j = r0.length := by omega
    rw [hjl, List.drop_length] at hdp e0
    have hps : ¬ p < (planToks (k0 :: r0)).length := fun z => by
      rw [List.getElem?_eq_getElem z] at e0
      cases e0
    rw [decide_eq_false (show ¬ (p : Int) < ((planToks (k0 :: r0)).length : Nat) by omega)]
    rw [hjl, List.take_of_length_le (by simp)] at ets
    refine iteF ⟨_, rfl, D, _, rfl, .inr (SqL.of hD), fun x3 dx3 nx3 ndx3 ne3 => ⟨_, _, rfl, z1000 (by rw [mtup]; omega), fun p3 np3 => ?_⟩⟩
    have gA := Gr.new (tb := tb) (o := .tup (ts.map fun t : Addr × Tk => V.ref t.1)) np3
    have hx3p : x3 ≠ p3 := ne_of_none upd_same np3
    have gm : Gr tb H3 (upd (upd (upd H3 dx3 (.own x3)) x3 (.ins (He.ga K "Plan") dx3 [])) p3 (.tup (ts.map fun t : Addr × Tk => V.ref t.1))) := Gr.made nx3 ndx3 (Gw.of gA)
    refine ⟨x3, p3, _, dx3, k0 :: r0, rfl, by rw [upd_ne hx3p]; exact upd_same, rfl, ⟨ts, ets, upd_same, fun t m => (hts t m).gr gm⟩, ok, fun H5 g5 h5 => ⟨rfl, ?_⟩⟩
    refine q x3 H5 (g1.trans (gg.trans (Gr.made nx3 ndx3 ((Gw.of gA).trans g5)))) ⟨dx3, p3, h5, ts, ets, ?_, fun t m => ?_⟩
    · exact g5.at' upd_same (Ne.symm hx3p)
    · obtain ⟨du, su, e1, tu, e2, e3, e4⟩ := (hts t m).gr gm
      have hx5 : (upd (upd (upd H3 dx3 (.own x3)) x3 (.ins (He.ga K "Plan") dx3 [])) p3 (.tup (ts.map fun t : Addr × Tk => V.ref t.1))) x3 = some (.ins (He.ga K "Plan") dx3 []) := by rw [upd_ne hx3p]; exact upd_same
      exact ⟨du, su, g5.at' e1 (ins_ne2 e1 hx5), tu, e2, g5.at e3 hx5 (fun z => by cases z), fun v hv => Gw.at g5 (e4 v hv) hx5 (fun z => by cases z)⟩
end B
end
section
set_option linter.all false
set_option maxRecDepth 100000
namespace B
open PySem PySem.Spec PyProof.Rows L2 La
def rJoinQ (K : PySem.W.Frag) : V → List V → Hp → VK → Prop := fun x xs H Q => ∃ a p, ∃ ys : List Str, x = .str a ∧ xs = [.ref p] ∧ (SqL K H p (ys.map V.str) ∨ SqT K H p (ys.map V.str)) ∧ (ys.map (·.length)).sum + ys.length * a.length ≤ 16777216 ∧ Q (.str (Txt.join a ys)) H
theorem pe_joinQ {X : Cx} {o e : Expr} {to te : TE} {apos pos : Pos} (ho : PE X o to) (he : PE X e te) (hs : starEach [e] X.env = [(false, eval e X.env)] := by rfl) (hbase : attributeBase o "join" X.env (eval o X.env) = eval o X.env := by rfl) (hline : (apos.endLine == pos.line) = true := by rfl) :
    PE X (.Call (.Attribute o "join" apos) [e] [] pos) (tM1 (rJoinQ X.K) to te) := pe_join ho he hs hbase hline
/-! ### the text of a plan -/
theorem joinL_app (a b : List (List Nat)) (c : List Nat) (ha : a ≠ []) (hb : b ≠ []) : TL.joinL c (a ++ b) = TL.joinL c a ++ (c ++ TL.joinL c b) := by
  induction a with
  | nil => exact absurd rfl ha
  | cons p a ih =>
    cases a with
    | nil =>
      cases b with
      | nil => exact absurd rfl hb
      | cons q b => rfl
    | cons p2 a =>
      have := ih (by simp)
      show p ++ (c ++ TL.joinL c (p2 :: a ++ b)) = _
      rw [this]
      show _ = (p ++ (c ++ TL.joinL c (p2 :: a))) ++ _
      simp
def sumTxt (s : List Nat) : List Nat := TL.joinL [32] (s.map fun a => [48 + a])
def lineTxt (ss : List (List Nat)) : List Nat := TL.joinL [32] ((sumsToks ss).map Tok.cs)
def tickTxt (k : Tk) : List Nat := TL.joinL [32] ((tickToks k).map Tok.cs)
def planTxt (ks : List Tk) : List Nat := TL.joinL [32] ((planToks ks).map Tok.cs)
theorem cs_num (s : List Nat) : (s.map Tok.num).map Tok.cs = s.map fun a => [48 + a] := by rw [List.map_map] <;> rfl
theorem line_join : ∀ ss : List (List Nat), ss ≠ [] → (∀ s ∈ ss, s ≠ []) → TL.joinL [32, 44, 32] (ss.map sumTxt) = lineTxt ss
  | [s], _, _ => by
    show sumTxt s = TL.joinL [32] ((s.map Tok.num).map Tok.cs)
    rw [cs_num] <;> rfl
  | s :: t :: r, _, h => by
    have ih := line_join (t :: r) (by simp) fun x hx => h x (List.mem_cons_of_mem _ hx)
    have hs := h s List.mem_cons_self
    have hn : sumsToks (t :: r) ≠ [] := fun z => by
      rw [sumsToks_cons] at z
      exact h t (by simp) (List.map_eq_nil_iff.mp (List.append_eq_nil_iff.mp z).1)
    show sumTxt s ++ ([32, 44, 32] ++ TL.joinL [32, 44, 32] ((t :: r).map sumTxt)) = TL.joinL [32] ((s.map Tok.num ++ .comma :: sumsToks (t :: r)).map Tok.cs)
    rw [ih, List.map_append, cs_num, List.map_cons, joinL_app _ _ _ (by simpa using hs) (by simp)]
    have : TL.joinL [32] (Tok.comma.cs :: (sumsToks (t :: r)).map Tok.cs) = [44] ++ ([32] ++ lineTxt (t :: r)) := by
      rw [show Tok.comma.cs :: (sumsToks (t :: r)).map Tok.cs = [Tok.comma.cs] ++ (sumsToks (t :: r)).map Tok.cs from rfl, joinL_app _ _ _ (by simp) (by simpa using hn)] <;> rfl
    rw [this]
    show _ = sumTxt s ++ _
    simp
theorem sumsToks_ne {ss : List (List Nat)} (h : ∀ s ∈ ss, s ≠ []) : sumsToks ss ≠ [] := fun z => by
  cases ss with
  | nil => cases z
  | cons s r =>
    rw [sumsToks_cons] at z
    exact h s List.mem_cons_self (List.map_eq_nil_iff.mp (List.append_eq_nil_iff.mp z).1)
theorem tick_line {k : Tk} (h : ∀ s ∈ k.1, s ≠ []) : tickTxt k = if k.2 = true then [109, 117, 116, 101, 32] ++ lineTxt k.1 else lineTxt k.1 := by
  unfold tickTxt tickToks
  split
  · rw [List.map_append, joinL_app _ _ _ (by simp) (by simpa using sumsToks_ne h)] <;> rfl
  · rw [List.nil_append] <;> rfl
theorem tickToks_ne {k : Tk} (h : ∀ s ∈ k.1, s ≠ []) : tickToks k ≠ [] := fun z => sumsToks_ne h (List.append_eq_nil_iff.mp z).2
theorem plan_join : ∀ ks : List Tk, ks ≠ [] → (∀ k ∈ ks, ∀ s ∈ k.1, s ≠ []) → TL.joinL [32, 47, 32] (ks.map tickTxt) = planTxt ks
  | [k], _, _ => rfl
  | k :: l :: r, _, h => by
    have ih := plan_join (l :: r) (by simp) fun x hx => h x (List.mem_cons_of_mem _ hx)
    have hn : planToks (l :: r) ≠ [] := fun z => by
      rw [planToks_cons] at z
      exact tickToks_ne (h l (by simp)) (List.append_eq_nil_iff.mp z).1
    show tickTxt k ++ ([32, 47, 32] ++ TL.joinL [32, 47, 32] ((l :: r).map tickTxt)) = TL.joinL [32] ((tickToks k ++ .slash :: planToks (l :: r)).map Tok.cs)
    rw [ih, List.map_append, List.map_cons, joinL_app _ _ _ (by simpa using tickToks_ne (h k List.mem_cons_self)) (by simp)]
    have : TL.joinL [32] (Tok.slash.cs :: (planToks (l :: r)).map Tok.cs) = [47] ++ ([32] ++ planTxt (l :: r)) := by
      rw [show Tok.slash.cs :: (planToks (l :: r)).map Tok.cs = [Tok.slash.cs] ++ (planToks (l :: r)).map Tok.cs from rfl, joinL_app _ _ _ (by simp) (by simpa using hn)] <;> rfl
    rw [this]
    show _ = tickTxt k ++ _
    simp
theorem cs_free (t : Tok) : 32 ∉ t.cs := by
  cases t <;> simp [Tok.cs]
  omega
theorem plan_split {ks : List Tk} (h : planToks ks ≠ []) : Txt.split (SX.S (planTxt ks)) " " = (planToks ks).map tS := by
  rw [show (" " : Str) = SX.S [32] from by decide +kernel, SX.split_S (by decide) (by decide)]
  unfold planTxt
  rw [SX.spl_join (by simpa using h) (by
    intro p hp
    obtain ⟨t, _, rfl⟩ := List.mem_map.mp hp
    exact cs_free t), List.map_map] <;> rfl
/-! lengths -/
theorem joinL_len (c : List Nat) : ∀ ps : List (List Nat), (TL.joinL c ps).length ≤ (ps.map (·.length)).sum + ps.length * c.length
  | [] => Nat.zero_le _
  | [p] => by simp [TL.joinL]
  | p :: q :: r => by
    have ih := joinL_len c (q :: r)
    show (p ++ (c ++ TL.joinL c (q :: r))).length ≤ _
    rw [List.length_append, List.length_append, List.map_cons, List.sum_cons, List.length_cons (a := p), Nat.add_mul]
    omega
end B
end
section
set_option linter.all false
set_option maxRecDepth 100000
namespace B
open PySem PySem.Spec PyProof.Rows L2 La
theorem sum_le {l : List Nat} {b : Nat} (h : ∀ x ∈ l, x ≤ b) : l.sum ≤ l.length * b := by
  induction l with
  | nil => simp
  | cons x l ih =>
    have := ih fun y hy => h y (List.mem_cons_of_mem _ hy)
    have := h x List.mem_cons_self
    rw [List.sum_cons, List.length_cons, Nat.add_mul]
    omega
theorem sumTxt_len {s : List Nat} (h : s.length ≤ 9) : (sumTxt s).length ≤ 18 := by
  unfold sumTxt
  have := joinL_len [32] (s.map fun a => [48 + a])
  have h2 := sum_le (l := (s.map fun a => [48 + a]).map (·.length)) (b := 1) (by
    intro x hx
    rw [List.map_map] at hx
    obtain ⟨a, _, rfl⟩ := List.mem_map.mp hx
    exact Nat.le_refl _)
  simp only [List.length_map, List.length_cons, List.length_nil] at this h2
  omega
def sp__law_tick_text (tb : List (Addr × Str)) : Sp := fun vs H Q _ => ∃ (a : Addr) (k : Tk), vs = [.ref a] ∧ LTick H a k ∧ OkT k ∧ ∀ H', Gr tb H H' → Q (.str (SX.S (tickTxt k))) H'
abbrev nm__law_tick_text : List Str := ["_law_plain", "_law_sums_here", "_law_is_mute_here", "_law_line", "_law_ages", "_law_age"]
theorem sc__law_tick_text : FnScope nm__law_tick_text ["_law_plain"] (defScope s__law_tick_text) := ⟨rfl, rfl, rfl, by decide +kernel, rfl, by decide +kernel, by decide +kernel⟩
theorem c__law_tick_text {P : Program} {w : World} {K : PySem.W.Frag} {mg : Str → Option Value} {base : Heap} {tb : List (Addr × Str)} (T : Tx K mg base tb) : Cf P w K mg base 1 "_law_tick_text" (sp__law_tick_text tb) := by
  obtain ⟨f, fd, F, hm⟩ := T.f__law_tick_text
  refine ⟨f, @mkR P w K mg base _ _ _ _ _ _ _ (sp__law_tick_text tb) 0 F sc__law_tick_text (fun _ _ _ _ _ _ us hl => match us, hl with | [_], _ => rfl) (fun vs H Q E h => by obtain ⟨a, k, rfl, ⟨sa, ha, hss⟩, ok, q⟩ := h; rfl) (fun cdv A outer s H vs Q E hr h => ⟨_, (pss_cons (ps_asg (pv 0) (pg_tup rfl (pgs_cons (pg_name (i := 1) sc__law_tick_text.nd rfl (Or.inl rfl)) (pgs_cons (pg_name (i := 2) sc__law_tick_text.nd rfl (Or.inl rfl)) pgs_nil))))
      (pss_cons (ps_set (i := 3) sc__law_tick_text.nd rfl (Or.inl rfl) (pe_ifExp (pt_cmpR (op_neD (Room.units hr)) (pv 1) (pe_tup pa_nil) (nomark _)) (pe_joinQ pe_str (pe_lc (own := [("_law_ages", 4)]) (g := gName 4) (tt := tYes) rfl sc__law_tick_text.nd (pi_tup (pv 1)) (blkOk_by (own := [("_law_ages", 4)]) (N := nm__law_tick_text) (sc := defScope s__law_tick_text) (by decide +kernel)) (fun _ _ _ _ _ => pg_name (i := 4) sc__law_tick_text.nd rfl (Or.inl rfl)) (fun _ _ _ _ _ => pts_nil) (fun _ _ _ _ _ => (show PE _ _ (tM1 (rJoinQ K) _ _) from (pe_joinQ pe_str (pe_lc (own := [("_law_age", 5)]) (g := gName 5) (tt := tYes) rfl sc__law_tick_text.nd (show PI _ _ _ (iTup K _) from (pi_tup (pv 4))) (blkOk_by (own := [("_law_age", 5)]) (N := nm__law_tick_text) (by rfl)) (fun _ _ _ _ _ => pg_name (i := 5) sc__law_tick_text.nd rfl (Or.inl rfl)) (fun _ _ _ _ _ => pts_nil) (fun _ _ _ _ _ => (pe_callTy call_str_int (by rfl) T.n_str (by decide +kernel) (pa_cons (pv 5) pa_nil))))))))) pe_str))
      (pss_one (ps_ret (pe_ifExp (pt_val (pv 2)) (pe_op op_add_str pe_str (pv 3)) (pv 3)))))), ?_⟩), hm, F.kp⟩
  obtain ⟨a, k, rfl, ⟨sa, ha, hss⟩, ok, q⟩ := h
  obtain ⟨ss, mu⟩ := k
  have hne : ∀ s ∈ ss, s ≠ [] := fun s hs => (ok.1 s hs).1
  have h4 : ss.length ≤ 4 := ok.2.2.1
  rw [tick_line hne] at q
  refine ⟨_, rfl, a, _, rfl, SqT.of ha, rfl, _, _, rfl, _, _, rfl, rfl, ?_⟩
  refine ⟨_, rfl, (by decide : (0 : Nat) ≤ sizeLine), fun t nt => ?_⟩
  have g1 := Gr.new (tb := tb) (o := .tup []) nt
  have et : (upd H t (.tup [])) t = some (.tup []) := upd_same
  generalize upd H t (.tup []) = H1 at g1 et ⊢
  refine ⟨_, _, sums_dp (sums_gr hss g1), .tup (SqT.of et) .nil, Sh.ss.shaped (by decide), (Sh.tup (k := 0) (fun d h => by cases h)).shaped (by decide), _, rfl, ?_⟩
  cases ss with
  | nil =>
    rw [show PyData.eqv (.tuple (([] : List (List Nat)).map dS)) (.tuple []) = true from by decide +kernel]
    have hl : ("-" : Str) = SX.S (lineTxt []) := by decide +kernel
    refine iteF ⟨_, rfl, _, rfl, ?_⟩
    cases mu with
    | true =>
      refine iteT ⟨_, rfl, _, _, rfl, rfl, by decide, ?_⟩
      rw [hl]
      have q2 := q _ (g1)
      rw [if_pos rfl] at q2
      exact ev (congrArg V.str (show ("mute " : Str) ++ SX.S (lineTxt []) = SX.S ([109, 117, 116, 101, 32] ++ lineTxt []) by rw [show ("mute " : Str) = SX.S [109, 117, 116, 101, 32] from by decide +kernel, SX.S_cat])) q2
    | false =>
      have q2 := q _ (g1)
      rw [if_neg Bool.false_ne_true] at q2
      refine iteF ⟨_, rfl, ?_⟩
      exact ev (congrArg V.str hl) q2
  | cons s0 r0 =>
    rw [show PyData.eqv (.tuple ((s0 :: r0).map dS)) (.tuple []) = false from by simp [PyData.eqv, PyData.eqvAll]]
    obtain ⟨ts, e', hs, hts⟩ := sums_gr hss g1
    have e : ts.map (·.2) = s0 :: r0 := e'
    have htl : ts.length ≤ 4 := by rw [← List.length_map (f := (·.2)), e]; exact h4
    refine iteT ⟨⟨_, rfl⟩, _, rfl, sa, rfl, ⟨_, SqT.of hs⟩, fun D nD => ?_⟩
    refine lcV walk_tup tb nD (by rw [mtup]; omega) (fun i acc => acc = (ts.take i).map fun t => V.str (SX.S (sumTxt t.2))) rfl (fun H2 g => SqT.of (g.at hs)) ?_ ?_
    · rintro i x H2 H3 acc K1 K2 hi rfl g ⟨rfl, hx⟩ k1 _
      obtain ⟨t, ht, rfl⟩ := map_at hx
      have hm := List.mem_of_getElem? ht
      have hat : AgesAt H3 t.1 t.2 := (hts t hm).gr g
      have okt : OkS t.2 := ok.1 _ (by show t.2 ∈ s0 :: r0; rw [← e]; exact List.mem_map_of_mem hm)
      have hl9 := okt.len
      refine ⟨rfl, ⟨_, rfl⟩, _, rfl, t.1, rfl, ⟨_, SqT.of hat⟩, fun D2 nD2 => ?_⟩
      refine lcV walk_tup tb nD2 (by rw [mtup]; omega) (fun j acc => acc = (t.2.take j).map fun n => V.str (SX.S [48 + n])) rfl (fun H4 g4 => SqT.of (g4.at hat)) ?_ ?_
      · rintro j y H4 H5 acc K3 K4 hj rfl g4 ⟨rfl, hy⟩ k3 _
        obtain ⟨n, hn, rfl⟩ := map_at hy
        have h8 := okt.2.2 n (List.mem_of_getElem? hn)
        refine ⟨rfl, _, rfl, _, rfl, ?_, ev (y := .str (SX.S [48 + n])) (congrArg V.str (str_num h8)) (k3 _ _ (Gr.refl _) ?_)⟩
        · exact nine (p := fun k => (k : Int).natAbs.log2 < 1920) (by decide +kernel) (by decide +kernel) (by decide +kernel) (by decide +kernel) (by decide +kernel) (by decide +kernel) (by decide +kernel) (by decide +kernel) (by decide +kernel) h8
        · rw [List.take_add_one, hn, List.map_append] <;> rfl
      rintro H4 acc g4 hD2 rfl
      rw [List.take_of_length_le (by rw [mtup]; exact Nat.le_refl _)] at hD2
      refine ⟨" ", D2, (t.2.map fun n => [48 + n]).map SX.S, rfl, rfl, .inl (SqL.of (by rw [hD2, List.map_map, List.map_map] <;> rfl)), ?_, ?_⟩
      · have h2 := sum_le (l := ((t.2.map fun n => [48 + n]).map SX.S).map (·.length)) (b := 1) (by
          intro x hx
          rw [List.map_map, List.map_map] at hx
          obtain ⟨a, _, rfl⟩ := List.mem_map.mp hx
          exact Nat.le_refl _)
        rw [show (" " : Str).length = 1 from by decide +kernel]
        simp only [List.length_map] at h2 ⊢
        omega
      · rw [show (" " : Str) = SX.S [32] from by decide +kernel, SX.join_S]
        refine k1 _ H4 g4 ?_
        rw [List.take_add_one, ht, List.map_append] <;> rfl
    rintro H2 acc g hD rfl
    rw [List.take_of_length_le (by rw [mtup]; exact Nat.le_refl _)] at hD
    have ejl : TL.joinL [32, 44, 32] ((s0 :: r0).map sumTxt) = lineTxt (s0 :: r0) := line_join _ (by simp) hne
    have hml : ∀ x ∈ ((s0 :: r0).map sumTxt).map (·.length), x ≤ 18 := by
      intro x hx
      rw [List.map_map] at hx
      obtain ⟨s, hs, rfl⟩ := List.mem_map.mp hx
      exact sumTxt_len (ok.1 s hs).len
    have hsl := sum_le hml
    refine ⟨" , ", D, ((s0 :: r0).map sumTxt).map SX.S, rfl, rfl, .inl (SqL.of (by rw [hD, ← e, List.map_map, List.map_map, List.map_map] <;> rfl)), ?_, ?_⟩
    · have e3 : (((s0 :: r0).map sumTxt).map SX.S).map (·.length) = ((s0 :: r0).map sumTxt).map (·.length) := SX.lens _
      rw [e3, show (" , " : Str).length = 3 from by decide +kernel]
      simp only [List.length_map] at hsl ⊢
      omega
    rw [show (" , " : Str) = SX.S [32, 44, 32] from by decide +kernel, SX.join_S, ejl]
    have hll : (lineTxt (s0 :: r0)).length ≤ 100 := by
      have := joinL_len [32, 44, 32] ((s0 :: r0).map sumTxt)
      rw [ejl] at this
      simp only [List.length_map, List.length_cons, List.length_nil] at hsl this h4
      omega
    refine ⟨_, rfl, _, rfl, ?_⟩
    cases mu with
    | true =>
      refine iteT ⟨_, rfl, _, _, rfl, rfl, by
        have h1 : ("mute " : Str).length = 5 := by decide +kernel
        have h2 := SX.S_len (lineTxt (s0 :: r0))
        exact z1000 (by omega), ?_⟩
      have q2 := q _ (g1.trans g)
      rw [if_pos rfl] at q2
      exact ev (congrArg V.str (show ("mute " : Str) ++ SX.S (lineTxt (s0 :: r0)) = SX.S ([109, 117, 116, 101, 32] ++ lineTxt (s0 :: r0)) by rw [show ("mute " : Str) = SX.S [109, 117, 116, 101, 32] from by decide +kernel, SX.S_cat])) q2
    | false =>
      have q2 := q _ (g1.trans g)
      rw [if_neg Bool.false_ne_true] at q2
      refine iteF ⟨_, rfl, ?_⟩
      exact ev (congrArg V.str rfl) q2
theorem tickTxt_len {k : Tk} (ok : OkT k) : (tickTxt k).length ≤ 105 := by
  have hne : ∀ s ∈ k.1, s ≠ [] := fun s hs => (ok.1 s hs).1
  have h4 := ok.2.2.1
  have hl : (lineTxt k.1).length ≤ 100 := by
    cases hk : k.1 with
    | nil => decide
    | cons s r =>
      rw [← hk, ← line_join k.1 (by rw [hk]; simp) hne]
      have := joinL_len [32, 44, 32] (k.1.map sumTxt)
      have h2 := sum_le (l := (k.1.map sumTxt).map (·.length)) (b := 18) (by
        intro x hx
        rw [List.map_map] at hx
        obtain ⟨s, hs, rfl⟩ := List.mem_map.mp hx
        exact sumTxt_len (ok.1 s hs).len)
      simp only [List.length_map, List.length_cons, List.length_nil] at this h2
      omega
  rw [tick_line hne]
  split
  · rw [List.length_append]
    simp only [List.length_cons, List.length_nil]
    omega
  · omega
def sp__law_plan (K : PySem.W.Frag) (tb : List (Addr × Str)) : Sp := fun vs H Q _ => ∃ (a : Addr) (ks : List Tk), vs = [.ref a] ∧ LTicks H a ks ∧ OkP ks ∧ ∀ p H', Gr tb H H' → PlanI K H' p ks → Q (.ref p) H'
abbrev nm__law_plan : List Str := ["_law_ticks_here", "_law_plain"]
theorem sc__law_plan : FnScope nm__law_plan ["_law_ticks_here"] (defScope s__law_plan) := ⟨rfl, rfl, rfl, by decide +kernel, rfl, by decide +kernel, by decide +kernel⟩
theorem c__law_plan {P : Program} {w : World} {K : PySem.W.Frag} {mg : Str → Option Value} {base : Heap} {tb : List (Addr × Str)} (T : Tx K mg base tb) : Cf P w K mg base 10 "_law_plan" (sp__law_plan K tb) := by
  obtain ⟨mc, pp, ff, hcr, hcm, hF⟩ := c_Plan_read (P := P) (w := w) (K := K) T
  obtain ⟨f, fd, F, hm⟩ := T.f__law_plan
  refine ⟨f, @mkR P w K mg base _ _ _ _ _ _ _ (sp__law_plan K tb) 9 F sc__law_plan (fun _ _ _ _ _ _ us hl => match us, hl with | [_], _ => rfl) (fun vs H Q E h => by obtain ⟨a, ks, rfl, ⟨ts, e, ha, hts⟩, ok, q⟩ := h; rfl) (fun cdv A outer s H vs Q E hr h => ⟨_, (pss_one (ps_ret (ClX.pe_cmeth (pe_glob (v := .ref (He.ga K "Plan")) rfl T.g_Plan rfl) hcr hcm hF (hr.mono (by decide)) pass0 (pa_cons (pe_joinQ pe_str (pe_lc (own := [("_law_plain", 1)]) (g := gName 1) (tt := tYes) rfl sc__law_plan.nd (pi_list (pv 0)) (blkOk_by (own := [("_law_plain", 1)]) (N := nm__law_plan) (sc := defScope s__law_plan) (by decide +kernel)) (fun _ _ _ _ _ => pg_name (i := 1) sc__law_plan.nd rfl (Or.inl rfl)) (fun _ _ _ _ _ => pts_nil) (fun _ _ _ _ _ => (pe_cR (c__law_tick_text (K := K) T) hr (by decide) rfl (pa_cons (pv 1) pa_nil))))) pa_nil)))), ?_⟩), hm, F.kp⟩
  obtain ⟨a, ks, rfl, ⟨ts, e, ha, hts⟩, ok, q⟩ := h
  have hne : ∀ k ∈ ks, ∀ s ∈ k.1, s ≠ [] := fun k hk s hs => ((ok.2.2 k hk).1 s hs).1
  have h4 : ts.length ≤ 4 := by rw [← List.length_map (f := (·.2)), e]; exact ok.2.1
  refine ⟨rfl, ⟨_, rfl⟩, _, rfl, a, rfl, ⟨_, SqL.of ha⟩, fun D nD => ?_⟩
  refine lcV walk_list tb nD (by rw [mtup]; omega) (fun i acc => acc = (ts.take i).map fun t => V.str (SX.S (tickTxt t.2))) rfl (fun H2 g => SqL.of (g.at ha)) ?_ ?_
  · rintro i x H2 H3 acc K1 K2 hi rfl g ⟨rfl, hx⟩ k1 _
    obtain ⟨t, ht, rfl⟩ := map_at hx
    have hm := List.mem_of_getElem? ht
    refine ⟨rfl, _, rfl, t.1, t.2, rfl, (hts t hm).gr g, ok.2.2 _ (by rw [← e]; exact List.mem_map_of_mem hm), fun H4 g4 => k1 _ _ g4 ?_⟩
    rw [List.take_add_one, ht, List.map_append] <;> rfl
  rintro H2 acc g hD rfl
  rw [List.take_of_length_le (by rw [mtup]; exact Nat.le_refl _)] at hD
  have hsl := sum_le (l := (ks.map tickTxt).map (·.length)) (b := 105) (by
    intro x hx
    rw [List.map_map] at hx
    obtain ⟨k, hk, rfl⟩ := List.mem_map.mp hx
    exact tickTxt_len (ok.2.2 k hk))
  have hk4 := ok.2.1
  have epj := plan_join ks ok.1 hne
  refine ⟨" / ", D, (ks.map tickTxt).map SX.S, rfl, rfl, .inl (SqL.of (by rw [hD, ← e, List.map_map, List.map_map, List.map_map] <;> rfl)), ?_, ?_⟩
  · have e3 : ((ks.map tickTxt).map SX.S).map (·.length) = (ks.map tickTxt).map (·.length) := SX.lens _
    rw [e3, show (" / " : Str).length = 3 from by decide +kernel]
    simp only [List.length_map] at hsl ⊢
    omega
  rw [show (" / " : Str) = SX.S [32, 47, 32] from by decide +kernel, SX.join_S, epj]
  have hpl : (planTxt ks).length ≤ 600 := by
    have := joinL_len [32, 47, 32] (ks.map tickTxt)
    rw [epj] at this
    simp only [List.length_map, List.length_cons, List.length_nil] at hsl this
    omega
  have hpn : planToks ks ≠ [] := fun z => by
    obtain ⟨k, r, rfl⟩ := List.exists_cons_of_ne_nil ok.1
    rw [planToks_cons] at z
    exact tickToks_ne (hne k List.mem_cons_self) (List.append_eq_nil_iff.mp z).1
  exact ⟨_, _, ks, rfl, plan_split hpn, by rw [SX.S_len]; exact z1000 (by omega), ok, fun p H' g' hp => q p H' (g.trans g') hp⟩
end B
end
section
set_option linter.all false
set_option maxRecDepth 100000
namespace B
open PySem PySem.Spec PyProof.Rows L2 La
section
variable {tb : List (Addr × Str)} {H H' : Hp} {p D : Addr} {o o' : HO}
theorem Gw.skip (g : Gw tb p H H') (nD : H D = none) (hD : H' D = some o) (hw : B.wr o = true) : Gw tb p H (upd H' D o') :=
  ⟨fun b u e d n => by rw [upd_ne (ne_of_none e nD)]; exact g.ex b u e d n, fun t => (Gw.wr (tb := tb) hD hw).tb (g.tb t)⟩
theorem Gw.new (g : Gw tb p H H') (nD : H' D = none) : Gw tb p H (upd H' D o) := g.trans (Gw.of (Gr.new nD))
theorem Gw.put (g : Gw tb p H H') (hp : H' p = some o) (hw : B.wr o = true) : Gw tb p H (upd H' p o') := g.trans (Gw.wr hp hw)
end
/-- the pen: the script, how far, what is left of a great number -/
structure PenI (sc : Addr × List Int) (B : Nat) (H : Hp) (p : Addr) : Prop where
  at_ : ∃ (k : Nat) (g : Int), H p = some (.lst [.ref sc.1, iN k, .int g]) ∧ k ≤ B
  ls : H sc.1 = some (.lst (sc.2.map V.int))
  le : sc.2.length ≤ 63
section
variable {sc : Addr × List Int} {tb : List (Addr × Str)} {B C : Nat} {H H' : Hp} {p : Addr}
theorem PenI.mono (h : PenI sc B H p) (hb : B ≤ C) : PenI sc C H p := by
  obtain ⟨⟨k, g, h1, h2⟩, h3, h4⟩ := h
  exact ⟨⟨k, g, h1, Nat.le_trans h2 hb⟩, h3, h4⟩
theorem PenI.gr (h : PenI sc B H p) (g : Gr tb H H') : PenI sc B H' p := by
  obtain ⟨⟨k, z, h1, h2⟩, h3, h4⟩ := h
  exact ⟨⟨k, z, g.at h1, h2⟩, g.at h3, h4⟩
theorem PenI.ne {a : Addr} {xs : List Nat} (h : PenI sc B H p) (ha : H a = some (.lst (xs.map fun n => iN n))) : a ≠ p := by
  obtain ⟨⟨k, z, h1, h2⟩, h3, h4⟩ := h
  intro e
  rw [e, h1] at ha
  injection ha with ha
  injection ha with ha
  cases xs with
  | nil => cases ha
  | cons x xs => cases ha
theorem PenI.skip {D : Addr} {o : HO} (h : PenI sc B H p) (h1 : D ≠ p) (h2 : D ≠ sc.1) : PenI sc B (upd H D o) p := by
  obtain ⟨⟨k, z, h3, h4⟩, h5, h6⟩ := h
  exact ⟨⟨k, z, by rw [upd_ne (Ne.symm h1)]; exact h3, h4⟩, by rw [upd_ne (Ne.symm h2)]; exact h5, h6⟩
/-- a place that is free is not the pen's -/
theorem PenI.free {D : Addr} (h : PenI sc B H p) (nD : H D = none) : D ≠ p ∧ D ≠ sc.1 := by
  obtain ⟨⟨k, z, h3, h4⟩, h5, h6⟩ := h
  exact ⟨Ne.symm (ne_of_none h3 nD), Ne.symm (ne_of_none h5 nD)⟩
end
theorem modN {i : Int} {m : Nat} (h : 0 < m) : V.int (i % (m : Int)) = iN (i % (m : Int)).toNat ∧ (i % (m : Int)).toNat < m := by
  have h1 := Int.emod_nonneg i (show (m : Int) ≠ 0 by omega)
  have h2 := Int.emod_lt_of_pos i (show (0 : Int) < (m : Int) by omega)
  exact ⟨congrArg V.int (by omega), by omega⟩
def sp__law_draw (tb : List (Addr × Str)) : Sp := fun vs H Q _ => ∃ (p : Addr) (m B : Nat) (sc : Addr × List Int), vs = [.ref p, iN m] ∧ PenI sc B H p ∧ 0 < m ∧ m < 2 ^ 50 ∧ B ≤ 1000000 ∧ ∀ r H', r < m → Gw tb p H H' → PenI sc (B + 1) H' p → Q (iN r) H'
abbrev nm__law_draw : List Str := ["_law_pen_here", "_law_many", "_law_digit", "_law_at", "_law_cell", "_law_great", "_law_mixed"]
theorem sc__law_draw : FnScope nm__law_draw ["_law_pen_here", "_law_many"] (defScope s__law_draw) := ⟨rfl, rfl, rfl, by decide +kernel, rfl, by decide +kernel, by decide +kernel⟩
theorem c__law_draw {P : Program} {w : World} {K : PySem.W.Frag} {mg : Str → Option Value} {base : Heap} {tb : List (Addr × Str)} (T : Tx K mg base tb) : Cf P w K mg base 1 "_law_draw" (sp__law_draw tb) := by
  obtain ⟨f, fd, F, hm⟩ := T.f__law_draw
  refine ⟨f, @mkR P w K mg base _ _ _ _ _ _ _ (sp__law_draw tb) 0 F sc__law_draw (fun _ _ _ _ _ _ us hl => match us, hl with | [_, _], _ => rfl) (fun vs H Q E h => by obtain ⟨p, m, B, ⟨l, ns⟩, rfl, ⟨⟨k, g, hp, hB⟩, hl, h63⟩, hm, hm2, hB6, q⟩ := h; rfl) (fun cdv A outer s H vs Q E hr h => ⟨_, (pss_cons (ps_if (pt_cmpR op_gt (pe_ix ix_list (pv 0) pe_int (fun _ _ => rfl)) pe_int (nomark _)) (pss_cons (ps_set (i := 2) sc__law_draw.nd rfl (Or.inl rfl) (pe_op op_mod (pe_callTy call_int1 (by rfl) T.n_int (by decide +kernel) (pa_cons (pe_ix ix_list (pv 0) pe_int (fun _ _ => rfl)) pa_nil)) (pv 1)))
      (pss_cons (ps_asg (pe_op op_fdivW (pe_callTy call_int1 (by rfl) T.n_int (by decide +kernel) (pa_cons (pe_ix ix_list (pv 0) pe_int (fun _ _ => rfl)) pa_nil)) (pv 1)) (pg_sub (pv 0) pe_int set_list))
      (pss_one (ps_ret (pv 2))))) pss_nil)
      (pss_cons (ps_set (i := 3) sc__law_draw.nd rfl (Or.inl rfl) (pe_ix ix_list (pv 0) pe_int (fun _ _ => rfl)))
      (pss_cons (ps_asg (pe_op op_add (pv 3) pe_int) (pg_sub (pv 0) pe_int set_list))
      (pss_cons (ps_set (i := 4) sc__law_draw.nd rfl (Or.inl rfl) (pe_op op_add (pe_op op_mul pe_int (pv 3)) pe_int))
      (C8.pss_cut (ps_if (pt_cmpR (op_neD (Room.units hr)) (pe_ix ix_list (pv 0) pe_int (fun _ _ => rfl)) (pe_lst pa_nil) (nomark _)) (pss_one (ps_set (i := 4) sc__law_draw.nd rfl (Or.inl rfl) (pe_ix ix_list (pe_ix ix_list (pv 0) pe_int (fun _ _ => rfl)) (pe_op op_mod (pe_callTy call_int1 (by rfl) T.n_int (by decide +kernel) (pa_cons (pv 3) pa_nil)) (pe_callB call_lenQ (by rfl) T.n_len (by decide +kernel) (pa_cons (pe_ix ix_list (pv 0) pe_int (fun _ _ => rfl)) pa_nil))) (fun _ _ => rfl)))) pss_nil)
      (C8.pss_cut (ps_if (PW.pt (pw_and (pt_cmpR op_lt (pv 3) (pe_callB call_lenQ (by rfl) T.n_len (by decide +kernel) (pa_cons (pe_ix ix_list (pv 0) pe_int (fun _ _ => rfl)) pa_nil)) (nomark _)) (pw_and1 (pt_cmpR op_ge (pe_callB call_abs (by rfl) T.n_abs (by decide +kernel) (pa_cons (pv 4) pa_nil)) (pe_op op_pow pe_int pe_int) (nomark _))))) (pss_cons (ps_set (i := 5) sc__law_draw.nd rfl (Or.inl rfl) (pe_op op_add (pe_op op_mul pe_int (pe_op op_sub (pe_callB call_abs (by rfl) T.n_abs (by decide +kernel) (pa_cons (pv 4) pa_nil)) (pe_op op_pow pe_int pe_int))) (pe_callTy call_int1 (by rfl) T.n_int (by decide +kernel) (pa_cons (pe_cmpR op_lt (pv 4) pe_int (nomark _)) pa_nil))))
      (pss_cons (ps_asg (pe_op op_fdivW (pe_callTy call_int1 (by rfl) T.n_int (by decide +kernel) (pa_cons (pv 5) pa_nil)) (pv 1)) (pg_sub (pv 0) pe_int set_list))
      (pss_one (ps_ret (pe_op op_mod (pe_callTy call_int1 (by rfl) T.n_int (by decide +kernel) (pa_cons (pv 5) pa_nil)) (pv 1)))))) pss_nil)
      (pss_cons (ps_set (i := 6) sc__law_draw.nd rfl (Or.inl rfl) (pe_op op_mod (pe_callTy call_int1 (by rfl) T.n_int (by decide +kernel) (pa_cons (pe_op op_pow (pe_op op_add (pe_op op_add (pe_op op_mod (pe_callTy call_int1 (by rfl) T.n_int (by decide +kernel) (pa_cons (pv 4) pa_nil)) pe_int) (pe_op op_mul pe_int (pv 3))) pe_int) pe_int) pa_nil)) pe_int))
      (pss_cons (ps_set (i := 6) sc__law_draw.nd rfl (Or.inl rfl) (pe_op op_mod (pe_callTy call_int1 (by rfl) T.n_int (by decide +kernel) (pa_cons (pe_op op_pow (pe_op op_add (pe_op op_add (pe_op op_mul (pv 6) (pe_op op_add (pe_op op_mul pe_int (pv 3)) pe_int)) (pe_op op_mul (pe_op op_mul pe_int (pv 3)) (pv 3))) pe_int) pe_int) pa_nil)) pe_int))
      (pss_one (ps_ret (pe_op op_mod (pe_callTy call_int1 (by rfl) T.n_int (by decide +kernel) (pa_cons (pe_op op_fdivW (pv 6) pe_int) pa_nil)) (pv 1)))))))))))), ?_⟩), hm, F.kp⟩
  obtain ⟨p, m, B, ⟨l, ns⟩, rfl, ⟨⟨k, g, hp, hB⟩, hl, h63⟩, hm, hm2, hB6, q⟩ := h
  simp only at hp hl h63
  have hlp : l ≠ p := by
    intro e
    rw [e, hp] at hl
    injection hl with hl
    injection hl with hl
    cases ns with
    | nil => cases hl
    | cons x xs => cases hl
  have hmw : (m : Int).natAbs < 2 ^ 50 := by rw [Int.natAbs_natCast]; exact hm2
  have dv : ∀ i : Int, CDivW i (m : Int) := fun i => wide_div (by omega) hmw (by decide) (by decide)
  refine ⟨_, rfl, p, _, _, .int g, rfl, rfl, SqL.of hp, rfl, _, _, rfl, rfl, _, rfl, ite2 (fun h => ?_) fun h => ?_⟩
  · refine ⟨_, rfl, p, _, _, .int g, rfl, rfl, SqL.of hp, rfl, .inl ⟨_, rfl, _, rfl, _, _, rfl, rfl, by show (0 : Int) < _; omega, ?_⟩⟩
    refine ⟨_, rfl, p, _, _, .int g, rfl, rfl, SqL.of hp, rfl, .inl ⟨_, rfl, _, rfl, _, _, rfl, rfl, dv _, _, rfl, p, _, _, 2, rfl, rfl, hp, rfl, ?_⟩⟩
    obtain ⟨e1, e2⟩ := modN (i := g) hm
    refine ⟨_, rfl, ev e1 (q _ _ e2 (Gw.wr hp rfl) ⟨⟨k, _, upd_same, by omega⟩, ?_, h63⟩)⟩
    show (upd _ _ _) l = _
    rw [upd_ne hlp]
    exact hl
  · refine ⟨_, rfl, p, _, _, iN k, rfl, rfl, SqL.of hp, rfl, ?_⟩
    refine ⟨_, rfl, _, _, rfl, rfl, _, rfl, p, _, _, 1, rfl, rfl, hp, rfl, ?_⟩
    refine ⟨_, rfl, _, _, rfl, rfl, .inr ⟨by omega, by omega⟩, _, _, rfl, rfl, ?_⟩
    have hp1 : (upd H p (.lst ([V.ref l, iN k, V.int g].set 1 (V.int ((k : Int) + 1))))) p = some (.lst [.ref l, .int ((k : Int) + 1), .int g]) := upd_same
    have gw : Gw tb p H (upd H p (.lst ([V.ref l, iN k, V.int g].set 1 (V.int ((k : Int) + 1))))) := Gw.wr hp rfl
    have hl1 : (upd H p (.lst ([V.ref l, iN k, V.int g].set 1 (V.int ((k : Int) + 1))))) l = some (.lst (ns.map V.int)) := by rw [upd_ne hlp]; exact hl
    generalize upd H p (.lst ([V.ref l, iN k, V.int g].set 1 (V.int ((k : Int) + 1)))) = H1 at hp1 gw hl1 ⊢
    refine ⟨fun σ' H' => Gw tb p H H' ∧ H' p = some (.lst [.ref l, .int ((k : Int) + 1), .int g]) ∧ H' l = some (.lst (ns.map V.int)) ∧ ∃ c : Int, σ' = [some (.ref p), some (iN m), none, some (iN k), some (.int c), none, none], ?_, ?_⟩
    · refine ⟨_, rfl, p, _, _, .ref l, rfl, rfl, SqL.of hp1, rfl, (by decide : (0 : Nat) ≤ sizeLine), fun e0 ne0 => ?_⟩
      have g0 := Gr.new (tb := tb) (o := .lst []) ne0
      have he0 : (upd H1 e0 (.lst [])) e0 = some (.lst []) := upd_same
      have hp2 := g0.at hp1
      have hl2 := g0.at hl1
      have gw2 := gw.trans (Gw.of g0)
      generalize upd H1 e0 (.lst []) = H2 at he0 hp2 hl2 gw2 ⊢
      have shI : ∀ is : List Int, Sh 1 (.list (is.map PyData.int)) := fun is => Sh.lst (k := 0) fun d hd => by
        obtain ⟨i, _, rfl⟩ := List.mem_map.mp hd
        exact Sh.int 0 i
      have dpI : Dp K H2 (.ref l) (.list (ns.map PyData.int)) := .lst (SqL.of hl2) (dpa_map fun i _ => .int i)
      refine ⟨_, _, dpI, .lst (SqL.of he0) .nil, (shI ns).shaped (by decide), (shI []).shaped (by decide), _, rfl, ?_⟩
      cases ns with
      | nil =>
        rw [show PyData.eqv (.list (([] : List Int).map PyData.int)) (.list []) = true from by simp [PyData.eqv, PyData.eqvAll]]
        exact iteF ⟨gw2, hp2, hl2, _, rfl⟩
      | cons n0 ns =>
        rw [show PyData.eqv (.list ((n0 :: ns).map PyData.int)) (.list []) = false from by simp [PyData.eqv, PyData.eqvAll]]
        have hlt : k % (ns.length + 1) < (n0 :: ns).length := Nat.mod_lt _ (Nat.succ_pos _)
        refine iteT ⟨_, rfl, p, _, _, .ref l, rfl, rfl, SqL.of hp2, rfl, _, rfl, .inl ⟨_, rfl, _, rfl, p, _, _, .ref l, rfl, rfl, SqL.of hp2, rfl, l, _, rfl, .inl (SqL.of hl2), _, _, rfl, rfl, ?_, ?_⟩⟩
        · show (0 : Int) < _
          rw [List.length_map, List.length_cons]
          omega
        refine ⟨l, _, _, .int ((n0 :: ns)[k % (ns.length + 1)]), rfl, rfl, SqL.of hl2, ?_, gw2, hp2, hl2, _, rfl⟩
        rw [List.length_map, List.length_cons, ← Int.natCast_emod]
        exact atI_nat (by rw [List.getElem?_map, List.getElem?_eq_getElem hlt] <;> rfl)
    rintro σ H2 ⟨gw2, hp2, hl2, c, rfl⟩
    refine ⟨fun σ' H' => H' = H2 ∧ ∃ x, σ' = [some (.ref p), some (iN m), none, some (iN k), some (.int c), x, none], ?_, ?_⟩
    · refine ⟨_, rfl, _, rfl, p, _, _, .ref l, rfl, rfl, SqL.of hp2, rfl, l, _, rfl, .inl (SqL.of hl2), _, _, rfl, rfl, _, rfl, ite2 (fun _ => ?_) fun _ => ?_⟩
      · refine ⟨_, rfl, _, rfl, _, _, rfl, rfl, ⟨by decide, by decide, by decide⟩, _, _, rfl, rfl, _, rfl, ite2 (fun _ => ?_) fun _ => ?_⟩
        · refine ⟨_, rfl, _, rfl, _, _, rfl, rfl, ⟨by decide, by decide, by decide⟩, _, _, rfl, rfl, _, _, rfl, rfl, .inl ⟨by decide, by decide⟩, _, rfl, _, _, rfl, rfl, .inr ⟨_, rfl, _, _, rfl, rfl, ?_⟩⟩
          dsimp only
          generalize (2 * ((if c < 0 then -c else c) - 10 ^ Int.toNat 18) + if decide (c < 0) = true then 1 else 0) = gr
          refine ⟨_, rfl, .inl ⟨_, rfl, _, rfl, _, _, rfl, rfl, dv _, _, rfl, p, _, _, 2, rfl, rfl, hp2, rfl, ?_⟩⟩
          obtain ⟨e1, e2⟩ := modN (i := gr) hm
          refine ⟨_, rfl, .inl ⟨_, rfl, _, rfl, _, _, rfl, rfl, by show (0 : Int) < _; omega, ev e1 (q _ _ e2 (gw2.put hp2 rfl) ⟨⟨k + 1, _, upd_same, by omega⟩, ?_, h63⟩)⟩⟩
          show (upd _ _ _) l = _
          rw [upd_ne hlp]
          exact hl2
        · exact ⟨rfl, _, rfl⟩
      · exact ⟨rfl, _, rfl⟩
    rintro σ H3 ⟨rfl, x, rfl⟩
    have hk6 : (k : Int) ≤ 1000000 := by omega
    have hk0 : (0 : Int) ≤ (k : Int) := by omega
    refine ⟨_, rfl, .inl ⟨_, rfl, _, _, rfl, rfl, (by show (0 : Int) < 2147483563; decide), _, rfl, _, _, rfl, rfl, .inl ⟨by decide, by decide⟩, _, _, rfl, rfl, _, _, rfl, rfl, _, _, rfl, rfl, ⟨by decide, by decide, ?_⟩, .inl ⟨_, rfl, _, _, rfl, rfl, (by show (0 : Int) < 2147483629; decide), ?_⟩⟩⟩
    · have h1 := Int.emod_nonneg c (show (2147483563 : Int) ≠ 0 by decide)
      have h2 := Int.emod_lt_of_pos c (show (0 : Int) < 2147483563 by decide)
      omega
    dsimp only
    generalize hx1 : (c % 2147483563 + 88717 * (k : Int) + 6631) ^ Int.toNat 5 % 2147483629 = x1
    have h1 : 0 ≤ x1 := by rw [← hx1]; exact Int.emod_nonneg _ (by decide)
    have h2 : x1 < 2147483629 := by rw [← hx1]; exact Int.emod_lt_of_pos _ (by decide)
    have hm1 : 0 ≤ x1 * (2 * (k : Int) + 467) := Int.mul_nonneg h1 (by omega)
    have hm2 : x1 * (2 * (k : Int) + 467) ≤ 2147483629 * 2000467 := Int.mul_le_mul (by omega) (by omega) (by omega) (by decide)
    have hk1 : 0 ≤ 71273 * (k : Int) * (k : Int) := Int.mul_nonneg (by omega) hk0
    have hk2 : 71273 * (k : Int) * (k : Int) ≤ 71273 * 1000000 * 1000000 := Int.mul_le_mul (by omega) hk6 hk0 (by decide)
    refine ⟨_, rfl, _, rfl, _, _, rfl, rfl, .inl ⟨by decide, by decide⟩, _, _, rfl, rfl, _, _, rfl, rfl, .inl ⟨by omega, by omega⟩, _, rfl, _, _, rfl, rfl, .inl ⟨by decide, by decide⟩, _, rfl, _, _, rfl, rfl, .inr ⟨by omega, by omega⟩, _, _, rfl, rfl, _, _, rfl, rfl, _, _, rfl, rfl, ⟨by decide, by decide, ?_⟩, .inl ⟨_, rfl, _, _, rfl, rfl, (by show (0 : Int) < 2147483587; decide), ?_⟩⟩
    · show (x1 * (2 * (k : Int) + 467) + 71273 * (k : Int) * (k : Int) + 13).natAbs < 2 ^ 64
      generalize x1 * (2 * (k : Int) + 467) = y1 at hm1 hm2 ⊢
      generalize 71273 * (k : Int) * (k : Int) = y2 at hk1 hk2 ⊢
      omega
    refine ⟨_, rfl, _, _, rfl, rfl, wide_div (b := 10) (by decide) (by decide) (by decide) (by decide), .inl ⟨_, rfl, _, rfl, _, _, rfl, rfl, (by show (0 : Int) < _; omega), ?_⟩⟩
    exact ev (modN hm).1 (q _ _ (modN hm).2 gw2 ⟨⟨k + 1, g, hp2, by omega⟩, hl2, h63⟩)
end B
end
section
set_option linter.all false
set_option maxRecDepth 100000
namespace B
open PySem PySem.Spec PyProof.Rows L2 La
def sp__law_pick (tb : List (Addr × Str)) : Sp := fun vs H Q _ => ∃ (p a : Addr) (xs : List Nat) (B : Nat) (sc : Addr × List Int), vs = [.ref p, .ref a] ∧ PenI sc B H p ∧ H a = some (.lst (xs.map fun n => iN n)) ∧ xs ≠ [] ∧ xs.length ≤ 100 ∧ B ≤ 1000000 ∧ ∀ x H', x ∈ xs → Gw tb p H H' → PenI sc (B + 1) H' p → Q (iN x) H'
abbrev nm__law_pick : List Str := ["_law_pen_here", "_law_some"]
theorem sc__law_pick : FnScope nm__law_pick ["_law_pen_here", "_law_some"] (defScope s__law_pick) := ⟨rfl, rfl, rfl, by decide +kernel, rfl, by decide +kernel, by decide +kernel⟩
theorem c__law_pick {P : Program} {w : World} {K : PySem.W.Frag} {mg : Str → Option Value} {base : Heap} {tb : List (Addr × Str)} (T : Tx K mg base tb) : Cf P w K mg base 2 "_law_pick" (sp__law_pick tb) := by
  obtain ⟨f, fd, F, hm⟩ := T.f__law_pick
  refine ⟨f, @mkR P w K mg base _ _ _ _ _ _ _ (sp__law_pick tb) 1 F sc__law_pick (fun _ _ _ _ _ _ us hl => match us, hl with | [_, _], _ => rfl) (fun vs H Q E h => by obtain ⟨p, a, xs, B, sc, rfl, hp, ha, hne, hl, hB, q⟩ := h; rfl) (fun cdv A outer s H vs Q E hr h => ⟨_, (pss_one (ps_ret (pe_ix ix_list (pv 1) (pe_cR (c__law_draw (K := K) T) hr (by decide) rfl (pa_cons (pv 0) (pa_cons (pe_callB call_lenQ (by rfl) T.n_len (by decide +kernel) (pa_cons (pv 1) pa_nil)) pa_nil))) (fun _ _ => rfl)))), ?_⟩), hm, F.kp⟩
  obtain ⟨p, a, xs, B, sc, rfl, hp, ha, hne, hl, hB, q⟩ := h
  have hap := hp.ne ha
  have hpos : 0 < xs.length := List.length_pos_iff.mpr hne
  refine ⟨_, rfl, _, rfl, _, rfl, a, _, rfl, .inl (SqL.of ha), p, xs.length, B, sc, by rw [mtup], hp, hpos, Nat.lt_of_le_of_lt hl (by decide), hB, fun r H' hr gw hp' => ?_⟩
  refine ⟨a, _, _, iN xs[r], rfl, rfl, SqL.of (gw.at' ha hap), atI_nat (by rw [List.getElem?_map, List.getElem?_eq_getElem hr] <;> rfl), q _ H' (List.getElem_mem hr) gw hp'⟩
theorem list_dp {K : PySem.W.Frag} {H : Hp} {a : Addr} {s : List Nat} (h : H a = some (.lst (s.map fun n => iN n))) : Dp K H (.ref a) (.list (s.map dN)) := .lst (SqL.of h) (dpa_ns s)
theorem list_sh {s : List Nat} : SeqAt.shaped (.list (s.map dN)) = true := (Sh.lst (k := 0) Sh.ns).shaped (by decide)
theorem eqv_nil (s : List Nat) : PyData.eqv (.list (s.map dN)) (.list []) = decide (s = []) := by
  cases s with
  | nil => simp [PyData.eqv, PyData.eqvAll]
  | cons a s => simp [PyData.eqv, PyData.eqvAll]
def sp__law_sum (tb : List (Addr × Str)) : Sp := fun vs H Q _ => ∃ (p : Addr) (lo hi B : Nat) (sc : Addr × List Int), vs = [.ref p, iN lo, iN hi] ∧ PenI sc B H p ∧ lo ≤ hi ∧ hi ≤ 8 ∧ B ≤ 900000 ∧ ∀ a s H', OkS s → (∀ x ∈ s, lo ≤ x ∧ x ≤ hi) → AgesAt H' a s → Gw tb p H H' → PenI sc (B + 11) H' p → Q (.ref a) H'
abbrev nm__law_sum : List Str := ["_law_pen_here", "_law_least", "_law_most", "_law_found", "_law_age"]
theorem sc__law_sum : FnScope nm__law_sum ["_law_pen_here", "_law_least", "_law_most"] (defScope s__law_sum) := ⟨rfl, rfl, rfl, by decide +kernel, rfl, by decide +kernel, by decide +kernel⟩
theorem c__law_sum {P : Program} {w : World} {K : PySem.W.Frag} {mg : Str → Option Value} {base : Heap} {tb : List (Addr × Str)} (T : Tx K mg base tb) : Cf P w K mg base 2 "_law_sum" (sp__law_sum tb) := by
  obtain ⟨f, fd, F, hm⟩ := T.f__law_sum
  refine ⟨f, @mkR P w K mg base _ _ _ _ _ _ _ (sp__law_sum tb) 1 F sc__law_sum (fun _ _ _ _ _ _ us hl => match us, hl with | [_, _, _], _ => rfl) (fun vs H Q E h => by obtain ⟨p, lo, hi, B, sc, rfl, hp, hlh, hh8, hB, q⟩ := h; rfl) (fun cdv A outer s H vs Q E hr h => ⟨_, (pss_cons (ps_setLc (i := 3) (own := [("_law_age", 4)]) (g := gName 4) rfl sc__law_sum.nd rfl rfl (sw_true rfl rfl rfl (by decide +kernel)) (pi_range2 (by rfl) T.n_range (pa_cons (pv 1) (pa_cons (pe_op op_add (pv 2) pe_int) pa_nil))) (blkOk_by (own := [("_law_age", 4)]) (N := nm__law_sum) (sc := defScope s__law_sum) (by decide +kernel)) (fun _ _ _ _ _ => pg_name (i := 4) sc__law_sum.nd rfl (Or.inl rfl)) (fun _ _ _ _ _ => pts_one (pt_cmpR op_eq (pe_cR (c__law_draw (K := K) T) hr (by decide) rfl (pa_cons (pv 0) (pa_cons pe_int pa_nil))) pe_int (nomark _))) (fun _ _ _ _ _ => (pv 4)))
      (pss_one (ps_ret (pe_ifExp (pt_cmpR (op_neD (Room.units hr)) (pv 3) (pe_lst pa_nil) (nomark _)) (pe_callTy call_tupQ (by rfl) T.n_tuple (by decide +kernel) (pa_cons (pv 3) pa_nil)) (pe_tup (pa_cons (pe_op op_add (pv 1) (pe_cR (c__law_draw (K := K) T) hr (by decide) rfl (pa_cons (pv 0) (pa_cons (pe_op op_sub (pe_op op_add (pv 2) pe_int) (pv 1)) pa_nil)))) pa_nil)))))), ?_⟩), hm, F.kp⟩
  obtain ⟨p, lo, hi, B, sc, rfl, hp, hlh, hh8, hB, q⟩ := h
  have hn : ((hi : Int) + 1 - (lo : Int)).toNat = hi + 1 - lo := by omega
  refine ⟨_, rfl, _, rfl, _, _, rfl, rfl, _, _, rfl, ⟨by omega, by omega, by omega, by omega⟩, fun D nD => ?_⟩
  obtain ⟨hDp, hDs⟩ := hp.free nD
  refine lc_it walk_range (fun i H' => ∃ acc : List Nat, H' D = some (.lst (acc.map fun n => iN n)) ∧ acc.Pairwise (· < ·) ∧ (∀ x ∈ acc, lo ≤ x ∧ x < lo + i) ∧ Gw tb p H H' ∧ PenI sc (B + i) H' p) ⟨[], upd_same, List.Pairwise.nil, (fun _ h => by cases h), Gw.of (Gr.new nD), hp.skip hDp hDs⟩ (fun _ _ _ _ => True.intro) ?_ ?_
  · rintro i x H1 H2 hi' ⟨acc, hD, hpw, hb, gw, hp1⟩ ⟨rfl, ex⟩
    obtain rfl : x = iN (lo + i) := ex.trans (congrArg V.int (by omega))
    refine ⟨rfl, _, rfl, p, 3, B + i, sc, rfl, hp1, by decide, by decide, by omega, fun r H3 hr gw3 hp3 => ?_⟩
    have hD3 := gw3.at' hD hDp
    refine ⟨rfl, _, rfl, ite2 (fun _ => ?_) fun _ => ?_⟩
    · have hlen : acc.length ≤ 9 := by
        have := asc_len acc lo hpw fun x hx => ⟨(hb x hx).1, by have := (hb x hx).2; omega⟩
        omega
      have z : (1000 : Nat) < sizeLine := by decide
      refine ⟨_, rfl, _, hD3, by rw [mtup]; omega, acc ++ [lo + i], by rw [upd_same, List.map_append] <;> rfl, ?_, ?_, (gw.trans gw3).skip nD hD3 rfl, (hp3.skip hDp hDs).mono (by omega)⟩
      · refine List.pairwise_append.mpr ⟨hpw, List.pairwise_singleton _ _, fun a ha b hb' => ?_⟩
        rw [List.mem_singleton.mp hb']
        exact (hb a ha).2
      · intro x hx
        rcases List.mem_append.mp hx with hx | hx
        · have := hb x hx; omega
        · rw [List.mem_singleton.mp hx]; omega
    · exact ⟨acc, hD3, hpw, fun x hx => by have := hb x hx; omega, gw.trans gw3, hp3.mono (by omega)⟩
  rintro H1 ⟨acc, hD, hpw, hb, gw, hp1⟩
  rw [hn] at hb hp1
  refine ⟨_, rfl, (by decide : (0 : Nat) ≤ sizeLine), fun e0 ne0 => ?_⟩
  have g0 := Gr.new (tb := tb) (o := .lst []) ne0
  have he0 : (upd H1 e0 (.lst [])) e0 = some (.lst []) := upd_same
  have hD2 := g0.at hD
  have hp2 := hp1.gr g0
  have gw2 := gw.trans (Gw.of g0)
  generalize upd H1 e0 (.lst []) = H2 at he0 hD2 hp2 gw2 ⊢
  refine ⟨_, _, list_dp hD2, .lst (SqL.of he0) .nil, list_sh, list_sh (s := []), _, rfl, ?_⟩
  rw [eqv_nil]
  by_cases hn0 : acc = []
  · rw [decide_eq_true hn0]
    refine iteF ⟨_, rfl, _, rfl, _, rfl, _, _, rfl, rfl, _, rfl, _, _, rfl, rfl, p, hi + 1 - lo, B + (hi + 1 - lo), sc, congrArg (fun z => [V.ref p, V.int z]) (show (hi : Int) + 1 - (lo : Int) = ((hi + 1 - lo : Nat) : Int) by omega), hp2, by omega, Nat.lt_of_le_of_lt (show hi + 1 - lo ≤ 9 by omega) (by decide), by omega, fun r H3 hr gw3 hp3 => ?_⟩
    refine ⟨_, _, rfl, rfl, (by decide : (1 : Nat) ≤ sizeLine), fun t nt => ?_⟩
    have gt := Gr.new (tb := tb) (o := .tup [.int ((lo : Int) + (r : Int))]) nt
    refine q t [lo + r] _ ⟨by simp, List.pairwise_singleton _ _, fun x hx => by rw [List.mem_singleton.mp hx]; omega⟩ (fun x hx => by rw [List.mem_singleton.mp hx]; omega) ?_ ((gw2.trans gw3).trans (Gw.of gt)) ((hp3.gr gt).mono (by omega))
    show _ = _
    rw [upd_same] <;> rfl
  · rw [decide_eq_false hn0]
    refine iteT ⟨_, rfl, D, _, rfl, .inl ⟨SqL.of hD2, fun t nt => ?_⟩⟩
    have gt := Gr.new (tb := tb) (o := .tup (acc.map fun n => iN n)) nt
    exact q t acc _ ⟨hn0, hpw, fun x hx => by have := hb x hx; omega⟩ (fun x hx => by have := hb x hx; omega) upd_same (gw2.trans (Gw.of gt)) ((hp2.gr gt).mono (by omega))
theorem LstOf.upd {H : Hp} {D a : Addr} {ss : List (List Nat)} {s : List Nat} (h : LstOf AgesAt H D ss) (ha : AgesAt H a s) : ∃ l, H D = some (.lst l) ∧ l.length = ss.length ∧ LstOf AgesAt (L2.upd H D (.lst (l ++ [.ref a]))) D (ss ++ [s]) := by
  obtain ⟨ts, e, hl, ht⟩ := h
  have gD := Gw.wr (tb := []) (o' := .lst ((ts.map fun t => V.ref t.1) ++ [.ref a])) hl rfl
  refine ⟨_, hl, by rw [mtup, ← e, List.length_map], ts ++ [(a, s)], by rw [List.map_append, e] <;> rfl, by rw [upd_same, List.map_append] <;> rfl, fun u hu => ?_⟩
  rcases List.mem_append.mp hu with hu | hu
  · exact gD.at (ht u hu) hl (fun z => by cases z)
  · rw [List.mem_singleton.mp hu]
    exact gD.at ha hl (fun z => by cases z)
theorem LstOf.gw {tb : List (Addr × Str)} {H H' : Hp} {p D : Addr} {ss : List (List Nat)} {o : HO} (h : LstOf AgesAt H D ss) (g : Gw tb p H H') (hp : H p = some o) (hn : ∀ xs, o ≠ .tup xs) (hD : D ≠ p) : LstOf AgesAt H' D ss := by
  obtain ⟨ts, e, hl, ht⟩ := h
  exact ⟨ts, e, g.at' hl hD, fun u hu => Gw.at g (ht u hu) hp (fun z => hn _ z.symm)⟩
end B
end
section
set_option linter.all false
set_option pp.maxSteps 700
set_option maxRecDepth 100000
namespace B
open PySem PySem.Spec PyProof.Rows L2 La
def sp__law_tick (tb : List (Addr × Str)) : Sp := fun vs H Q _ => ∃ (p : Addr) (mo B : Nat) (sc : Addr × List Int), vs = [.ref p, iN mo] ∧ PenI sc B H p ∧ 1 ≤ mo ∧ mo ≤ 8 ∧ B ≤ 800000 ∧ ∀ a k H', OkT k → LTick H' a k → Gw tb p H H' → PenI sc (B + 50) H' p → Q (.ref a) H'
abbrev nm__law_tick : List Str := ["_law_pen_here", "_law_most", "_law_is_mute_here", "_law_sums_here", "_law_turn", "_law_some"]
theorem sc__law_tick : FnScope nm__law_tick ["_law_pen_here", "_law_most"] (defScope s__law_tick) := ⟨rfl, rfl, rfl, by decide +kernel, rfl, by decide +kernel, by decide +kernel⟩
theorem c__law_tick {P : Program} {w : World} {K : PySem.W.Frag} {mg : Str → Option Value} {base : Heap} {tb : List (Addr × Str)} (T : Tx K mg base tb) : Cf P w K mg base 3 "_law_tick" (sp__law_tick tb) := by
  obtain ⟨f, fd, F, hm⟩ := T.f__law_tick
  refine ⟨f, @mkR P w K mg base _ _ _ _ _ _ _ (sp__law_tick tb) 2 F sc__law_tick (fun _ _ _ _ _ _ us hl => match us, hl with | [_, _], _ => rfl) (fun vs H Q E h => by obtain ⟨p, mo, B, sc, rfl, hp, h1, h8, hB, q⟩ := h; rfl) (fun cdv A outer s H vs Q E hr h => ⟨_, (pss_cons (ps_par (i := 2) (j := 3) rfl sc__law_tick.nd rfl rfl (by decide) rfl rfl (pa_cons (pe_cmpR op_eq (pe_cR (c__law_draw (K := K) T) hr (by decide) rfl (pa_cons (pv 0) (pa_cons pe_int pa_nil))) pe_int (nomark _)) (pa_cons (pe_lst pa_nil) pa_nil)) (by rfl))
      (pss_cons (ps_for PassesOwn.never rfl (pi_range1 (by rfl) T.n_range (pa_cons (pe_cR (c__law_draw (K := K) T) hr (by decide) rfl (pa_cons (pv 0) (pa_cons pe_int pa_nil))) pa_nil)) (pg_name (i := 4) sc__law_tick.nd rfl (Or.inl rfl))
      (pss_cons (ps_set (i := 5) sc__law_tick.nd rfl (Or.inl rfl) (pe_cR (c__law_sum (K := K) T) hr (by decide) rfl (pa_cons (pv 0) (pa_cons (pe_callTy call_int1 (by rfl) T.n_int (by decide +kernel) (pa_cons (pv 2) pa_nil)) (pa_cons (pv 1) pa_nil)))))
      (pss_one (ps_if (pt_cmpR (op_notInD (hu5 hr)) (pv 5) (pv 3) rfl) (pss_one (ps_expr (pe_bm PySem.F.plainAttrs_list PySem.F.slot_list_append PySem.F.type_list_append mt_append (pv 3) (pa_cons (pv 5) pa_nil)))) pss_nil))))
      (C8.pss_cut (ps_if (PW.pt (pw_and (pt_not (pt_val (pv 2))) (pw_and (pt_cmpR (op_notInD (hu5 hr)) (pe_tup (pa_cons pe_int pa_nil)) (pv 3) rfl) (pw_and1 (pt_cmpR op_gt (pe_cR (c__law_draw (K := K) T) hr (by decide) rfl (pa_cons (pv 0) (pa_cons pe_int pa_nil))) pe_int (nomark _)))))) (pss_one (ps_set (i := 3) sc__law_tick.nd rfl (Or.inl rfl) (pe_op op_cat (pe_lst (pa_cons (pe_tup (pa_cons pe_int pa_nil)) pa_nil)) (pv 3)))) pss_nil)
      (pss_one (ps_ret (pe_tup (pa_cons (pe_callTy call_tupQ (by rfl) T.n_tuple (by decide +kernel) (pa_cons (pv 3) pa_nil)) (pa_cons (pv 2) pa_nil)))))))), ?_⟩), hm, F.kp⟩
  obtain ⟨p, mo, B, sc, rfl, hp, h1, h8, hB, q⟩ := h
  refine ⟨_, rfl, p, 5, B, sc, rfl, hp, by decide, by decide, by omega, fun r H1 hr gw1 hp1 => ⟨rfl, ?_⟩⟩
  generalize hmu : decide (iN r = V.int 0) = mu
  refine ⟨(by decide : (0 : Nat) ≤ sizeLine), fun D nD => ⟨_, _, rfl, ?_⟩⟩
  obtain ⟨hDp, hDs⟩ := hp1.free nD
  have hp2 : PenI sc (B + 1) (upd H1 D (.lst [])) p := hp1.skip hDp hDs
  have gw2 : Gw tb p H (upd H1 D (.lst [])) := gw1.new nD
  have hD2 : LstOf AgesAt (upd H1 D (.lst [])) D [] := ⟨[], rfl, upd_same, fun t m => nomatch m⟩
  have nDH : ∀ b o, H b = some o → b ≠ p → nt o = true → b ≠ D := fun b o e hb hn z => by
    have := gw1.ex b o e hb hn
    rw [z, nD] at this
    cases this
  have nDH' : H D = none ∨ H D = some (.tbl #[]) ∨ True := .inr (.inr True.intro)
  generalize upd H1 D (.lst []) = H2 at hp2 gw2 hD2 ⊢
  refine ⟨_, rfl, p, 4, B + 1, sc, rfl, hp2, by decide, by decide, by omega, fun n H3 hn gw3 hp3 => ?_⟩
  have hpx : ∀ {H : Hp} {C : Nat}, PenI sc C H p → ∃ o, H p = some o ∧ ∀ xs, o ≠ .tup xs := fun h => by
    obtain ⟨⟨k, z, e, _⟩, _, _⟩ := h
    exact ⟨_, e, fun xs z => by cases z⟩
  have hD3 : LstOf AgesAt H3 D [] := by
    obtain ⟨o, ho, hno⟩ := hpx hp2
    exact hD2.gw gw3 ho hno hDp
  refine ⟨(n : Int), rfl, ?_, ?_, ?_⟩
  · omega
  · omega
  refine for_range (lo := 0) (n := (n : Int).toNat) (fun i σ H' => ∃ ss a b, LstOf AgesAt H' D ss ∧ ss.length ≤ i ∧ ss.Nodup ∧ (∀ s ∈ ss, OkS s ∧ (mu = true → 0 ∉ s)) ∧ Gw tb p H H' ∧ PenI sc (B + 2 + 11 * i) H' p ∧ σ = [some (.ref p), some (iN mo), some (.bl mu), some (.ref D), a, b]) ⟨[], _, _, hD3, Nat.le_refl _, List.nodup_nil, (fun _ h => by cases h), gw2.trans gw3, hp3, rfl⟩ ?_ ?_
  · rintro i σ H4 hi ⟨ss, a, b, hD4, hl, hnd, hss, gw4, hp4, rfl⟩
    have hlo : ∃ lo : Nat, V.int (if mu = true then 1 else 0) = iN lo ∧ lo ≤ 1 ∧ (mu = true → lo = 1) := by
      cases mu with
      | true => exact ⟨1, rfl, Nat.le_refl _, fun _ => rfl⟩
      | false => exact ⟨0, rfl, Nat.zero_le _, fun z => by cases z⟩
    obtain ⟨lo, elo, hlo1, hlom⟩ := hlo
    refine ⟨_, rfl, _, rfl, .inr ⟨_, rfl, _, rfl, p, lo, mo, B + 2 + 11 * i, sc, congrArg (fun z => [V.ref p, z, iN mo]) elo, hp4, by omega, h8, by omega, fun a2 s H5 oks hb ha gw5 hp5 => ?_⟩⟩
    have hD5 : LstOf AgesAt H5 D ss := by
      obtain ⟨o, ho, hno⟩ := hpx hp4
      exact hD4.gw gw5 ho hno hDp
    have hm0 : mu = true → 0 ∉ s := fun hm h0 => by
      have := (hb 0 h0).1
      have := hlom hm
      omega
    refine ⟨_, rfl, _, rfl, dS s, ss.map dS, ha.dp, lsums_dp hD5, (Sh.dS _).shaped (by decide), Sh.ssl.shaped (by decide), _, rfl, ?_⟩
    rw [any_dS]
    by_cases hin : s ∈ ss
    · rw [decide_eq_true hin]
      exact iteF ⟨ss, _, _, hD5, by omega, hnd, hss, gw4.trans gw5, hp5.mono (by omega), rfl⟩
    · rw [decide_eq_false hin]
      obtain ⟨l, el, ell, hD6⟩ := hD5.upd ha
      have z : (1000 : Nat) < sizeLine := by decide
      have hz : l.length < sizeLine := by omega
      refine iteT ⟨_, rfl, .inl ⟨rfl, _, SqL.of el⟩, _, rfl, D, l, .ref a2, rfl, rfl, el, hz, ?_⟩
      refine ⟨ss ++ [s], some (.int (0 + (i : Nat))), some (.ref a2), hD6, by rw [List.length_append]; exact Nat.succ_le_succ hl, ?_, ?_, ?_, (hp5.skip hDp hDs).mono (by omega), rfl⟩
      · refine List.nodup_append.mpr ⟨hnd, by simp, fun x hx y hy e => ?_⟩
        rw [List.mem_singleton.mp hy] at e
        exact hin (e ▸ hx)
      · intro x hx
        rcases List.mem_append.mp hx with hx | hx
        · exact hss x hx
        · rw [List.mem_singleton.mp hx]; exact ⟨oks, hm0⟩
      · refine ⟨fun b u e d nn => ?_, fun t => (Gw.wr (tb := tb) el rfl).tb ((gw4.trans gw5).tb t)⟩
        rw [upd_ne (nDH b u e d nn)]
        exact (gw4.trans gw5).ex b u e d nn
  rintro σ H4 ⟨ss, a, b, hD4, hl, hnd, hss, gw4, hp4, rfl⟩
  have hl3 : ss.length ≤ 3 := by omega
  have hB4 : B + 2 + 11 * (n : Int).toNat ≤ B + 40 := by omega
  have hp4 := hp4.mono hB4
  refine ⟨fun σ' H' => ∃ ss D' a b, LstOf AgesAt H' D' ss ∧ ss.length ≤ 4 ∧ ss.Nodup ∧ (∀ s ∈ ss, OkS s ∧ (mu = true → 0 ∉ s)) ∧ Gw tb p H H' ∧ PenI sc (B + 45) H' p ∧ σ' = [some (.ref p), some (iN mo), some (.bl mu), some (.ref D'), a, b], ?_, ?_⟩
  · have skip : ∀ H5, LstOf AgesAt H5 D ss → Gw tb p H H5 → PenI sc (B + 45) H5 p → ∃ ss D' a' b', LstOf AgesAt H5 D' ss ∧ ss.length ≤ 4 ∧ ss.Nodup ∧ (∀ s ∈ ss, OkS s ∧ (mu = true → 0 ∉ s)) ∧ Gw tb p H H5 ∧ PenI sc (B + 45) H5 p ∧ [some (V.ref p), some (iN mo), some (.bl mu), some (.ref D), a, b] = [some (V.ref p), some (iN mo), some (.bl mu), some (.ref D'), a', b'] :=
      fun H5 h1 h2 h3 => ⟨ss, D, a, b, h1, by omega, hnd, hss, h2, h3, rfl⟩
    refine ⟨_, rfl, _, rfl, ?_⟩
    cases mu with
    | true => exact iteF (skip H4 hD4 gw4 (hp4.mono (by omega)))
    | false =>
      refine iteT ⟨(by decide : (1 : Nat) ≤ sizeLine), fun t nt => ?_⟩
      have gt := Gr.new (tb := tb) (o := .tup [iN 0]) nt
      have ht : AgesAt (upd H4 t (.tup [iN 0])) t [0] := upd_same
      have hD5 : LstOf AgesAt (upd H4 t (.tup [iN 0])) D ss := LstOf.gr (fun _ _ x => x.gr gt) hD4 gt
      have gw5 := gw4.trans (Gw.of gt)
      have hp5 := hp4.gr gt
      refine ⟨_, rfl, dS [0], ss.map dS, ht.dp, lsums_dp hD5, (Sh.dS _).shaped (by decide), Sh.ssl.shaped (by decide), _, rfl, ?_⟩
      rw [any_dS]
      by_cases hin : [0] ∈ ss
      · rw [decide_eq_true hin]
        exact iteF (skip _ hD5 gw5 (hp5.mono (by omega)))
      · rw [decide_eq_false hin]
        refine iteT ⟨_, rfl, p, 3, B + 40, sc, rfl, hp5, by decide, by decide, by omega, fun r2 H6 hr2 gw6 hp6 => ?_⟩
        have hD6 : LstOf AgesAt H6 D ss := by
          obtain ⟨o, ho, hno⟩ := hpx hp5
          exact hD5.gw gw6 ho hno hDp
        refine ⟨_, _, rfl, rfl, _, rfl, ite2 (fun _ => ?_) fun _ => skip _ hD6 (gw5.trans gw6) (hp6.mono (by omega))⟩
        refine ⟨(by decide : (1 : Nat) ≤ sizeLine), fun t2 nt2 => ⟨(by decide : (1 : Nat) ≤ sizeLine), fun l2 nl2 => ?_⟩⟩
        have g7 := Gr.new (tb := tb) (o := .tup [iN 0]) nt2
        have g8 := Gr.new (tb := tb) (o := .lst [.ref t2]) nl2
        have g78 := g7.trans g8
        have ht2 : AgesAt (upd (upd H6 t2 (.tup [iN 0])) l2 (.lst [.ref t2])) t2 [0] := g8.at upd_same
        obtain ⟨ts, e, el, hts⟩ := LstOf.gr (fun _ _ x => x.gr g78) hD6 g78
        have hl3' : ts.length ≤ 3 := by rw [← List.length_map (f := (·.2)), e]; exact hl3
        refine ⟨_, rfl, l2, D, _, _, rfl, rfl, upd_same, el, z1000 (by rw [mtup]; simp; omega), fun p9 np9 => ?_⟩
        have g9 := Gr.new (tb := tb) (o := .lst ([.ref t2] ++ ts.map fun t : Addr × List Nat => V.ref t.1)) np9
        refine ⟨[0] :: ss, p9, _, _, ⟨(t2, [0]) :: ts, by rw [List.map_cons, e], by rw [upd_same, List.map_cons] <;> rfl, ?_⟩, by rw [List.length_cons]; omega, List.nodup_cons.mpr ⟨hin, hnd⟩, ?_, ((gw5.trans gw6).trans (Gw.of (g78.trans g9))), (hp6.gr (g78.trans g9)).mono (by omega), rfl⟩
        · intro u hu
          rcases List.mem_cons.mp hu with rfl | hu
          · exact ht2.gr g9
          · exact (hts u hu).gr g9
        · intro s hs
          rcases List.mem_cons.mp hs with rfl | hs
          · exact ⟨⟨by simp, List.pairwise_singleton _ _, fun x hx => by rw [List.mem_singleton.mp hx]; omega⟩, fun z => by cases z⟩
          · exact hss s hs
  rintro σ H5 ⟨ss, D', a, b, hD5, hl4, hnd, hss, gw5, hp5, rfl⟩
  obtain ⟨ts, e, el, hts⟩ := hD5
  refine ⟨_, rfl, D', _, rfl, .inl ⟨SqL.of el, fun t nt => ?_⟩⟩
  have gt := Gr.new (tb := tb) (o := .tup (ts.map fun t : Addr × List Nat => V.ref t.1)) nt
  refine ⟨_, rfl, z2, fun t2 nt2 => ?_⟩
  have gt2 := gt.trans (Gr.new (tb := tb) (o := .tup [.ref t, .bl mu]) nt2)
  refine q t2 (ss, mu) _ ⟨fun s hs => (hss s hs).1, hnd, hl4, fun hm s hs => (hss s hs).2 hm⟩ ⟨t, upd_same, ts, e, ?_, fun u hu => (hts u hu).gr gt2⟩ (gw5.trans (Gw.of gt2)) ((hp5.gr gt2).mono (by omega))
  exact (Gr.new (tb := tb) nt2).at upd_same
end B
end
section
set_option linter.all false
set_option pp.maxSteps 700
set_option maxRecDepth 100000
namespace B
open PySem PySem.Spec PyProof.Rows L2 La
theorem LTick.gwp {tb : List (Addr × Str)} {H H' : Hp} {p a : Addr} {k : Tk} {o : HO} (h : LTick H a k) (g : Gw tb p H H') (hp : H p = some o) (hn : ∀ xs, o ≠ .tup xs) : LTick H' a k := by
  obtain ⟨sa, e, ts, e2, hl, ht⟩ := h
  exact ⟨sa, Gw.at g e hp (fun z => hn _ z.symm), ts, e2, g.at hl hp (fun z => hn _ z.symm), fun u hu => Gw.at g (ht u hu) hp (fun z => hn _ z.symm)⟩
theorem PenI.no {sc : Addr × List Int} {B : Nat} {H : Hp} {p : Addr} (h : PenI sc B H p) : ∃ o, H p = some o ∧ ∀ xs, o ≠ .tup xs := by
  obtain ⟨⟨k, z, e, _⟩, _, _⟩ := h
  exact ⟨_, e, fun xs z => by cases z⟩
def sp__law_ticks (tb : List (Addr × Str)) : Sp := fun vs H Q _ => ∃ (p : Addr) (many mo B : Nat) (sc : Addr × List Int), vs = [.ref p, iN many, iN mo] ∧ PenI sc B H p ∧ 1 ≤ many ∧ many ≤ 4 ∧ 1 ≤ mo ∧ mo ≤ 8 ∧ B ≤ 700000 ∧ ∀ a ks H', OkP ks → LTicks H' a ks → a ≠ p → Gw tb p H H' → PenI sc (B + 201) H' p → Q (.ref a) H'
abbrev nm__law_ticks : List Str := ["_law_pen_here", "_law_many", "_law_most", "_law_turn"]
theorem sc__law_ticks : FnScope nm__law_ticks ["_law_pen_here", "_law_many", "_law_most"] (defScope s__law_ticks) := ⟨rfl, rfl, rfl, by decide +kernel, rfl, by decide +kernel, by decide +kernel⟩
theorem c__law_ticks {P : Program} {w : World} {K : PySem.W.Frag} {mg : Str → Option Value} {base : Heap} {tb : List (Addr × Str)} (T : Tx K mg base tb) : Cf P w K mg base 4 "_law_ticks" (sp__law_ticks tb) := by
  obtain ⟨f, fd, F, hm⟩ := T.f__law_ticks
  refine ⟨f, @mkR P w K mg base _ _ _ _ _ _ _ (sp__law_ticks tb) 3 F sc__law_ticks (fun _ _ _ _ _ _ us hl => match us, hl with | [_, _, _], _ => rfl) (fun vs H Q E h => by obtain ⟨p, many, mo, B, sc, rfl, hp, hm1, hm4, h1, h8, hB, q⟩ := h; rfl) (fun cdv A outer s H vs Q E hr h => ⟨_, (pss_one (ps_ret (pe_lc (own := [("_law_turn", 3)]) (g := gName 3) (tt := tYes) rfl sc__law_ticks.nd (pi_range1 (by rfl) T.n_range (pa_cons (pe_op op_add pe_int (pe_cR (c__law_draw (K := K) T) hr (by decide) rfl (pa_cons (pv 0) (pa_cons (pv 1) pa_nil)))) pa_nil)) (blkOk_by (own := [("_law_turn", 3)]) (N := nm__law_ticks) (sc := defScope s__law_ticks) (by decide +kernel)) (fun _ _ _ _ _ => pg_name (i := 3) sc__law_ticks.nd rfl (Or.inl rfl)) (fun _ _ _ _ _ => pts_nil) (fun _ _ _ _ _ => (pe_cR (c__law_tick (K := K) T) hr (by decide) rfl (pa_cons (pv 0) (pa_cons (pv 2) pa_nil))))))), ?_⟩), hm, F.kp⟩
  obtain ⟨p, many, mo, B, sc, rfl, hp, hm1, hm4, h1, h8, hB, q⟩ := h
  refine ⟨_, rfl, _, rfl, p, many, B, sc, rfl, hp, hm1, Nat.lt_of_le_of_lt hm4 (by decide), by omega, fun r H1 hr gw1 hp1 => ⟨_, _, rfl, rfl, ?_⟩⟩
  refine ⟨(1 : Int) + (r : Int), rfl, ?_, ?_, fun D nD => ?_⟩
  · omega
  · omega
  obtain ⟨hDp, hDs⟩ := hp1.free nD
  have hn : ((1 : Int) + (r : Int)).toNat = r + 1 := by omega
  refine lc_it walk_range (fun i H' => ∃ ts : List (Addr × Tk), H' D = some (.lst (ts.map fun t => V.ref t.1)) ∧ ts.length = i ∧ (∀ t ∈ ts, LTick H' t.1 t.2 ∧ OkT t.2) ∧ Gw tb p H1 H' ∧ PenI sc (B + 1 + 50 * i) H' p) ⟨[], upd_same, rfl, (fun _ h => by cases h), Gw.of (Gr.new nD), hp1.skip hDp hDs⟩ (fun _ _ _ _ => True.intro) ?_ ?_
  · rintro i x H2 H3 hi ⟨ts, hD, hl, hts, gw2, hp2⟩ ⟨rfl, rfl⟩
    rw [hn] at hi
    refine ⟨rfl, _, rfl, _, rfl, p, mo, B + 1 + 50 * i, sc, rfl, hp2, h1, h8, by omega, fun a k H4 okk hk gw4 hp4 => ?_⟩
    have hD4 := gw4.at' hD hDp
    have z : (1000 : Nat) < sizeLine := by decide
    obtain ⟨o, ho, hno⟩ := hp2.no
    have gD := Gw.wr (tb := tb) (o' := .lst ((ts.map fun t : Addr × Tk => V.ref t.1) ++ [.ref a])) hD4 rfl
    refine ⟨_, hD4, by rw [mtup]; omega, ts ++ [(a, k)], by rw [upd_same, List.map_append] <;> rfl, by rw [List.length_append, hl] <;> rfl, fun u hu => ?_, (gw2.trans gw4).skip nD hD4 rfl, (hp4.skip hDp hDs).mono (by omega)⟩
    rcases List.mem_append.mp hu with hu | hu
    · exact ⟨((hts u hu).1.gwp gw4 ho hno).gwp gD hD4 (fun xs z => by cases z), (hts u hu).2⟩
    · rw [List.mem_singleton.mp hu]
      exact ⟨hk.gwp gD hD4 (fun xs z => by cases z), okk⟩
  rintro H2 ⟨ts, hD, hl, hts, gw2, hp2⟩
  rw [hn] at hl hp2
  refine q D (ts.map (·.2)) H2 ⟨?_, by rw [List.length_map]; omega, fun k hk => ?_⟩ ⟨ts, rfl, hD, fun t m => (hts t m).1⟩ hDp (gw1.trans gw2) (hp2.mono (by omega))
  · intro z
    rw [List.map_eq_nil_iff.mp z] at hl
    cases hl
  · obtain ⟨t, ht, rfl⟩ := List.mem_map.mp hk
    exact (hts t ht).2
def sp__law_is_mute (tb : List (Addr × Str)) : Sp := fun vs H Q _ => ∃ (a : Addr) (n : Nat) (ks : List Tk), vs = [.ref a, iN n] ∧ LTicks H a ks ∧ ks ≠ [] ∧ Q (.bl (tkAt ks n).2) H
abbrev nm__law_is_mute : List Str := ["_law_ticks_here", "_law_number"]
theorem sc__law_is_mute : FnScope nm__law_is_mute ["_law_ticks_here", "_law_number"] (defScope s__law_is_mute) := ⟨rfl, rfl, rfl, by decide +kernel, rfl, by decide +kernel, by decide +kernel⟩
theorem c__law_is_mute {P : Program} {w : World} {K : PySem.W.Frag} {mg : Str → Option Value} {base : Heap} {tb : List (Addr × Str)} (T : Tx K mg base tb) : Cf P w K mg base 1 "_law_is_mute" (sp__law_is_mute tb) := by
  obtain ⟨f, fd, F, hm⟩ := T.f__law_is_mute
  refine ⟨f, @mkR P w K mg base _ _ _ _ _ _ _ (sp__law_is_mute tb) 0 F sc__law_is_mute (fun _ _ _ _ _ _ us hl => match us, hl with | [_, _], _ => rfl) (fun vs H Q E h => by obtain ⟨a, n, ks, rfl, ⟨ts, rfl, hs, hts⟩, hne, q⟩ := h; rfl) (fun cdv A outer s H vs Q E hr h => ⟨_, (pss_one (ps_ret (pe_ix ix_tup (pe_ix ix_list (pv 0) (pe_op op_mod (pe_callTy call_int1 (by rfl) T.n_int (by decide +kernel) (pa_cons (pv 1) pa_nil)) (pe_callB call_lenQ (by rfl) T.n_len (by decide +kernel) (pa_cons (pv 0) pa_nil))) (fun _ _ => rfl)) pe_int (fun _ _ => rfl)))), ?_⟩), hm, F.kp⟩
  obtain ⟨a, n, ks, rfl, ⟨ts, rfl, hs, hts⟩, hne, q⟩ := h
  have hl : 0 < ts.length := List.length_pos_iff.mpr fun z => hne (by rw [z] <;> rfl)
  have hmod : n % ts.length < ts.length := Nat.mod_lt _ hl
  have hg : ts[n % ts.length]? = some ts[n % ts.length] := List.getElem?_eq_getElem hmod
  obtain ⟨sa, e1, e2⟩ := hts _ (List.mem_of_getElem? hg)
  refine ⟨_, rfl, _, rfl, .inl ⟨_, rfl, _, rfl, a, _, rfl, .inl (SqL.of hs), _, _, rfl, rfl, ?_, ?_⟩⟩
  · show (0 : Int) < _
    rw [mtup]
    omega
  refine ⟨a, _, _, .ref ts[n % ts.length].1, rfl, rfl, SqL.of hs, ?_, _, _, _, .bl ts[n % ts.length].2.2, rfl, rfl, SqT.of e1, rfl, ?_⟩
  · rw [mtup, ← Int.natCast_emod]
    exact atI_nat (by rw [List.getElem?_map, hg] <;> rfl)
  · have e3 : tkAt (ts.map (·.2)) n = ts[n % ts.length].2 := by
      unfold tkAt
      rw [List.length_map, List.getD_eq_getElem?_getD, List.getElem?_map, hg] <;> rfl
    rw [e3] at q
    exact q
def sp__law_begun : Sp := fun vs H Q _ => vs = [] ∧ ∀ a l d H1 H2 H', H1 = upd H l (.lst []) → H2 = upd H1 d (.dK []) → H' = upd H2 a (.tup [.int (-1), .ref l, .ref d]) → H l = none → H1 d = none → H2 a = none → Q (.ref a) H'
abbrev nm__law_begun : List Str := []
theorem sc__law_begun : FnScope nm__law_begun [] (defScope s__law_begun) := ⟨rfl, rfl, rfl, by decide +kernel, rfl, by decide +kernel, by decide +kernel⟩
theorem c__law_begun {P : Program} {w : World} {K : PySem.W.Frag} {mg : Str → Option Value} {base : Heap} {tb : List (Addr × Str)} (T : Tx K mg base tb) : Cf P w K mg base 1 "_law_begun" sp__law_begun := by
  obtain ⟨f, fd, F, hm⟩ := T.f__law_begun
  refine ⟨f, @mkR P w K mg base _ _ _ _ _ _ _ (sp__law_begun) 0 F sc__law_begun (fun _ _ _ _ _ _ us hl => match us, hl with | [], _ => rfl) (fun vs H Q E h => by obtain ⟨rfl, q⟩ := h; rfl) (fun cdv A outer s H vs Q E hr h => ⟨_, (pss_one (ps_ret (pe_tup (pa_cons (pe_un un_neg pe_int) (pa_cons (pe_lst pa_nil) (pa_cons pe_dnewK pa_nil)))))), ?_⟩), hm, F.kp⟩
  obtain ⟨rfl, q⟩ := h
  exact ⟨_, rfl, (by decide : (0 : Nat) ≤ sizeLine), fun l nl d nd => ⟨(by decide : (3 : Nat) ≤ sizeLine), fun a na => q a l d _ _ _ rfl rfl rfl nl nd na⟩⟩
end B
end
section
set_option linter.all false
set_option pp.maxSteps 700
set_option maxRecDepth 100000
namespace B
open PySem PySem.Spec PyProof.Rows L2 La
theorem lt_of_bit {x y k : Nat} (hx : x.testBit k = false) (hy : y.testBit k = true) (h : ∀ j, k < j → x.testBit j = y.testBit j) : x < y := by
  have e : x / 2 ^ (k + 1) = y / 2 ^ (k + 1) := Nat.eq_of_testBit_eq fun i => by
    rw [Nat.testBit_div_two_pow, Nat.testBit_div_two_pow]
    exact h _ (by omega)
  rw [Nat.pow_succ, ← Nat.div_div_eq_div_mul, ← Nat.div_div_eq_div_mul] at e
  rw [Nat.testBit_eq_decide_div_mod_eq] at hx hy
  have h1 := of_decide_eq_false hx
  have h2 := of_decide_eq_true hy
  have h3 : x / 2 ^ k < y / 2 ^ k := by omega
  exact Nat.lt_of_not_le fun hle => absurd (Nat.div_le_div_right (c := 2 ^ k) hle) (by omega)
theorem xor_lt {m o : Nat} (h0 : o ≠ 0) : decide (((m ^^^ o : Nat) : Int) < (m : Int)) = m.testBit o.log2 := by
  have hk : ∀ j, o.log2 < j → (m ^^^ o).testBit j = m.testBit j := fun j hj => by
    rw [Nat.testBit_xor, testBit_above h0 hj, Bool.xor_false]
  have hb : (m ^^^ o).testBit o.log2 = !m.testBit o.log2 := by
    rw [Nat.testBit_xor, testBit_top h0, Bool.xor_true]
  cases e : m.testBit o.log2 with
  | true =>
    rw [e] at hb
    have := lt_of_bit hb e hk
    exact decide_eq_true (by omega)
  | false =>
    rw [e] at hb
    have := lt_of_bit e hb fun j hj => (hk j hj).symm
    exact decide_eq_false (by omega)
def Nz (L : List (Nat × Nat)) : Prop := ∀ p ∈ L, p.1 ≠ 0
def sp__law_reduced : Sp := fun vs H Q _ => ∃ (l : Addr) (m v : Nat) (L : List (Nat × Nat)), vs = [.ref l, iN m, iN v] ∧ PL H l L ∧ Nz L ∧ ∀ t, H t = none → Q (.ref t) (upd H t (.tup [iN (red L m v).1, iN (red L m v).2]))
abbrev nm__law_reduced : List Str := ["_law_rows_here", "_law_mask", "_law_value", "_law_own", "_law_worth"]
theorem sc__law_reduced : FnScope nm__law_reduced ["_law_rows_here", "_law_mask", "_law_value"] (defScope s__law_reduced) := ⟨rfl, rfl, rfl, by decide +kernel, rfl, by decide +kernel, by decide +kernel⟩
theorem c__law_reduced {P : Program} {w : World} {K : PySem.W.Frag} {mg : Str → Option Value} {base : Heap} {tb : List (Addr × Str)} (T : Tx K mg base tb) : Cf P w K mg base 1 "_law_reduced" sp__law_reduced := by
  obtain ⟨f, fd, F, hm⟩ := T.f__law_reduced
  refine ⟨f, @mkR P w K mg base _ _ _ _ _ _ _ (sp__law_reduced) 0 F sc__law_reduced (fun _ _ _ _ _ _ us hl => match us, hl with | [_, _, _], _ => rfl) (fun vs H Q E h => by obtain ⟨l, m, v, L, rfl, ⟨ts, rfl, hl, ht⟩, hs, q⟩ := h; rfl) (fun cdv A outer s H vs Q E hr h => ⟨_, (pss_cons (ps_for PassesOwn.never rfl (pi_list (pv 0)) (pg_tup rfl (pgs_cons (pg_name (i := 3) sc__law_reduced.nd rfl (Or.inl rfl)) (pgs_cons (pg_name (i := 4) sc__law_reduced.nd rfl (Or.inl rfl)) pgs_nil)))
      (pss_one (ps_if (pt_cmpR op_lt (pe_op op_xor (pv 1) (pv 3)) (pv 1) (nomark _)) (pss_one (ps_par (i := 1) (j := 2) rfl sc__law_reduced.nd rfl rfl (by decide) rfl rfl (pa_cons (pe_op op_xor (pv 1) (pv 3)) (pa_cons (pe_op op_xor (pv 2) (pv 4)) pa_nil)) (by rfl))) pss_nil)))
      (pss_one (ps_ret (pe_tup (pa_cons (pv 1) (pa_cons (pv 2) pa_nil)))))), ?_⟩), hm, F.kp⟩
  obtain ⟨l, m, v, L, rfl, ⟨ts, rfl, hl, ht⟩, hs, q⟩ := h
  refine ⟨_, rfl, l, rfl, ⟨_, SqL.of hl⟩, for_list (xs := ts.map fun t => V.ref t.1) (fun i σ H' => H' = H ∧ ∃ x y a b, σ = [some (.ref l), some (iN x), some (iN y), a, b] ∧ red ((ts.map (·.2)).drop i) x y = red (ts.map (·.2)) m v) ⟨rfl, _, _, _, _, rfl, rfl⟩ ?_ ?_ ?_⟩
  · rintro i σ H' hi ⟨rfl, _⟩
    exact SqL.of hl
  · rintro i z σ H' hz ⟨rfl, x, y, a, b, rfl, e⟩
    obtain ⟨t, hi, rfl⟩ := map_at hz
    have hm := List.mem_of_getElem? hi
    have hd : (ts.map (·.2)).drop i = t.2 :: (ts.map (·.2)).drop (i + 1) := drop_at (by rw [List.getElem?_map, hi] <;> rfl)
    have h0 := hs t.2 (List.mem_map_of_mem hm)
    rw [hd, red_cons] at e
    refine ⟨_, _, rfl, SqT.of (ht t hm), rfl, _, _, rfl, _, _, rfl, rfl, ?_⟩
    refine ⟨_, rfl, _, rfl, _, _, rfl, rfl, _, rfl, _, _, rfl, rfl, _, rfl, ?_⟩
    rw [bxN, xor_lt h0]
    cases hb : x.testBit t.2.1.log2 with
    | true =>
      rw [hb, if_pos rfl] at e
      refine iteT ⟨_, rfl, _, rfl, _, _, rfl, rfl, _, rfl, _, rfl, _, _, rfl, rfl, _, _, rfl, rfl, x ^^^ t.2.1, y ^^^ t.2.2, _, _, cg2 (fun a b => [some (V.ref l), some a, some b, some (iN t.2.1), some (iN t.2.2)]) (xN _ _) (xN _ _), e⟩
    | false =>
      rw [hb, if_neg Bool.false_ne_true] at e
      exact iteF ⟨rfl, _, _, _, _, rfl, e⟩
  · rintro σ H' ⟨rfl, x, y, a, b, rfl, e⟩
    rw [List.drop_of_length_le (by simp), red_nil] at e
    refine ⟨_, rfl, _, rfl, z2, fun t nt => ?_⟩
    have := q t nt
    rw [← e] at this
    exact this
def spotL (L : List (Nat × Nat)) (m : Nat) : Nat := (L.filter fun p => decide (m < p.1)).length
def addL (L : List (Nat × Nat)) (m v : Nat) : List (Nat × Nat) := if (red L m v).1 = 0 then L else L.take (spotL L (red L m v).1) ++ red L m v :: L.drop (spotL L (red L m v).1)
def sp__law_added (tb : List (Addr × Str)) : Sp := fun vs H Q _ => ∃ (l : Addr) (m v : Nat) (L : List (Nat × Nat)), vs = [.ref l, iN m, iN v] ∧ PL H l L ∧ Nz L ∧ L.length ≤ 100 ∧ ∀ l' H', Gr tb H H' → (l' = l ∨ ∀ xs, H l' ≠ some (.lst xs)) → PL H' l' (addL L m v) → Q (.ref l') H'
abbrev nm__law_added : List Str := ["_law_rows_here", "_law_mask", "_law_value", "_law_spot", "_law_own", "_law_worth"]
theorem sc__law_added : FnScope nm__law_added ["_law_rows_here", "_law_mask", "_law_value"] (defScope s__law_added) := ⟨rfl, rfl, rfl, by decide +kernel, rfl, by decide +kernel, by decide +kernel⟩
theorem c__law_added {P : Program} {w : World} {K : PySem.W.Frag} {mg : Str → Option Value} {base : Heap} {tb : List (Addr × Str)} (T : Tx K mg base tb) : Cf P w K mg base 2 "_law_added" (sp__law_added tb) := by
  obtain ⟨f, fd, F, hm⟩ := T.f__law_added
  refine ⟨f, @mkR P w K mg base _ _ _ _ _ _ _ (sp__law_added tb) 1 F sc__law_added (fun _ _ _ _ _ _ us hl => match us, hl with | [_, _, _], _ => rfl) (fun vs H Q E h => by obtain ⟨l, m, v, L, rfl, ⟨ts, rfl, hl, ht⟩, hs, hlen, q⟩ := h; rfl) (fun cdv A outer s H vs Q E hr h => ⟨_, (pss_cons (ps_asg (pe_cR (c__law_reduced (K := K) T) hr (by decide) rfl (pa_cons (pv 0) (pa_cons (pv 1) (pa_cons (pv 2) pa_nil)))) (pg_tup rfl (pgs_cons (pg_name (i := 1) sc__law_added.nd rfl (Or.inr rfl)) (pgs_cons (pg_name (i := 2) sc__law_added.nd rfl (Or.inl rfl)) pgs_nil))))
      (pss_cons (ps_if (pt_cmpR op_eq (pv 1) pe_int (nomark _)) (pss_one (ps_ret (pv 0))) pss_nil)
      (pss_cons (ps_set (i := 3) sc__law_added.nd rfl (Or.inl rfl) (pe_callB call_lenQ (by rfl) T.n_len (by decide +kernel) (pa_cons (pe_lc (own := [("_law_own", 4), ("_law_worth", 5)]) (g := gTup K 2 (gCons (gName 4) (gCons (gName 5) gNil))) rfl sc__law_added.nd (pi_list (pv 0)) (blkOk_by (own := [("_law_own", 4), ("_law_worth", 5)]) (N := nm__law_added) (sc := defScope s__law_added) (by decide +kernel)) (fun _ _ _ _ _ => (pg_tup rfl (pgs_cons (pg_name (i := 4) sc__law_added.nd rfl (Or.inl rfl)) (pgs_cons (pg_name (i := 5) sc__law_added.nd rfl (Or.inl rfl)) pgs_nil)))) (fun _ _ _ _ _ => pts_one (pt_cmpR op_gt (pv 4) (pv 1) (nomark _))) (fun _ _ _ _ _ => pe_int)) pa_nil)))
      (pss_one (ps_ret (pe_op op_cat (pe_op op_cat (pe_slice sl_list (pv 0) po_none (po_some (pv 3))) (pe_lst (pa_cons (pe_tup (pa_cons (pv 1) (pa_cons (pv 2) pa_nil))) pa_nil))) (pe_slice sl_list (pv 0) (po_some (pv 3)) po_none))))))), ?_⟩), hm, F.kp⟩
  obtain ⟨l, m, v, L, rfl, ⟨ts, rfl, hl, ht⟩, hs, hlen, q⟩ := h
  have hlen' : ts.length ≤ 100 := by rw [List.length_map] at hlen; exact hlen
  refine ⟨_, rfl, _, rfl, _, rfl, l, m, v, _, rfl, ⟨ts, rfl, hl, ht⟩, hs, fun t nt => ?_⟩
  refine ⟨t, _, rfl, SqT.of upd_same, rfl, _, _, rfl, _, _, rfl, rfl, ?_⟩
  have q' := q
  unfold addL at q'
  generalize hr' : red (ts.map (·.2)) m v = r at q' ⊢
  have g1 : Gr tb H (upd H t (.tup [iN r.1, iN r.2])) := Gr.new nt
  generalize upd H t (.tup [iN r.1, iN r.2]) = H1 at g1 ⊢
  have hl1 := g1.at hl
  have ht1 := fun t m => g1.at (ht t m)
  refine ⟨_, rfl, rfl, _, rfl, ite2 (fun hz => ?_) fun hz => ?_⟩
  · have hz' : r.1 = 0 := by simpa using hz
    rw [if_pos hz'] at q'
    exact ⟨_, rfl, q' l H1 g1 (.inl rfl) ⟨ts, rfl, hl1, ht1⟩⟩
  have hz' : r.1 ≠ 0 := by simpa using hz
  rw [if_neg hz'] at q'
  refine ⟨_, rfl, l, rfl, ⟨_, SqL.of hl1⟩, fun D nD => ?_⟩
  refine lcV walk_list tb nD (by rw [mtup]; omega) (fun i acc => acc = List.replicate (spotL ((ts.map (·.2)).take i) r.1) (V.int 1)) rfl (fun H1 g => SqL.of (g.at hl1)) ?_ ?_
  · rintro i x H2 H3 acc K1 K2 hi e g ⟨rfl, hx⟩ k1 k2
    obtain ⟨u, hu, rfl⟩ := map_at hx
    have e2 : spotL ((ts.map (·.2)).take (i + 1)) r.1 = spotL ((ts.map (·.2)).take i) r.1 + if r.1 < u.2.1 then 1 else 0 := by
      unfold spotL
      rw [List.take_add_one, List.getElem?_map, hu, List.filter_append, List.length_append]
      by_cases h : r.1 < u.2.1
      · rw [if_pos h]; simp [h]
      · rw [if_neg h]; simp [h]
    refine ⟨u.1, _, rfl, SqT.of (g.at (ht1 u (List.mem_of_getElem? hu))), rfl, _, _, rfl, _, _, rfl, rfl, rfl, ?_⟩
    refine ⟨_, rfl, _, rfl, _, _, rfl, rfl, _, rfl, ite2 (fun h => ?_) fun h => ?_⟩
    · have h' : r.1 < u.2.1 := by have := of_decide_eq_true h; omega
      exact k1 _ _ (Gr.refl _) (by rw [e, e2, if_pos h']; exact List.replicate_succ'.symm)
    · have h' : ¬ r.1 < u.2.1 := fun z => h (decide_eq_true (by omega))
      exact k2 _ (Gr.refl _) (by rw [e, e2, if_neg h'] <;> rfl)
  rintro H2 acc g2 hD rfl
  rw [List.take_of_length_le (by rw [mtup, List.length_map]; exact Nat.le_refl _)] at hD
  generalize hsp : spotL (ts.map (·.2)) r.1 = sp at hD q'
  have hspl : sp ≤ ts.length := by
    rw [← hsp]
    unfold spotL
    have := List.length_filter_le (fun p => decide (r.1 < p.1)) (ts.map (·.2))
    rwa [List.length_map] at this
  have hl2 := g2.at hl1
  refine ⟨D, _, rfl, .inl (SqL.of hD), ?_⟩
  rw [List.length_replicate]
  have cut1 : cutV (ts.map fun t => V.ref t.1) none (some ((sp : Nat) : Int)) = (ts.take sp).map fun t => V.ref t.1 := by
    unfold cutV
    rw [HT.sIx_none, HT.sIx_nat, mtup, List.drop_zero, Nat.sub_zero, Nat.min_eq_left hspl, List.map_take]
  have cut2 : cutV (ts.map fun t => V.ref t.1) (some ((sp : Nat) : Int)) none = (ts.drop sp).map fun t => V.ref t.1 := by
    unfold cutV
    rw [HT.sIx_none, HT.sIx_nat, mtup, Nat.min_eq_left hspl, List.map_drop, List.take_of_length_le]
    rw [List.length_drop, mtup]
    exact Nat.le_refl _
  refine ⟨_, rfl, _, rfl, _, rfl, l, _, rfl, SqL.of hl2, fun p1 np1 => ?_⟩
  have gp1 := Gr.new (tb := tb) (o := .lst (cutV (ts.map fun t => V.ref t.1) none (some ((sp : Nat) : Int)))) np1
  have hp1 : (upd H2 p1 (.lst (cutV (ts.map fun t => V.ref t.1) none (some ((sp : Nat) : Int))))) p1 = some (.lst ((ts.take sp).map fun t => V.ref t.1)) := by rw [upd_same, cut1]
  generalize upd H2 p1 (.lst (cutV (ts.map fun t => V.ref t.1) none (some ((sp : Nat) : Int)))) = H3 at gp1 hp1 ⊢
  refine ⟨_, rfl, _, rfl, z2, fun t4 nt4 => ⟨(by decide : (1 : Nat) ≤ sizeLine), fun p2 np2 => ?_⟩⟩
  have gp2 := (Gr.new (tb := tb) (o := .tup [iN r.1, iN r.2]) nt4).trans (Gr.new (tb := tb) (o := .lst [.ref t4]) np2)
  have hp2 : (upd (upd H3 t4 (.tup [iN r.1, iN r.2])) p2 (.lst [.ref t4])) p2 = some (.lst [.ref t4]) := upd_same
  have ht4 : (upd (upd H3 t4 (.tup [iN r.1, iN r.2])) p2 (.lst [.ref t4])) t4 = some (.tup [iN r.1, iN r.2]) := (Gr.new (tb := tb) np2).at upd_same
  generalize upd (upd H3 t4 (.tup [iN r.1, iN r.2])) p2 (.lst [.ref t4]) = H4 at gp2 hp2 ht4 ⊢
  refine ⟨p1, p2, _, _, rfl, rfl, gp2.at hp1, hp2, z1000 (by rw [mtup, List.length_take]; simp; omega), fun p3 np3 => ?_⟩
  have gp3 := Gr.new (tb := tb) (o := .lst (((ts.take sp).map fun t => V.ref t.1) ++ [.ref t4])) np3
  have hp3 : (upd H4 p3 (.lst (((ts.take sp).map fun t => V.ref t.1) ++ [.ref t4]))) p3 = some (.lst (((ts.take sp).map fun t => V.ref t.1) ++ [.ref t4])) := upd_same
  generalize upd H4 p3 (.lst (((ts.take sp).map fun t => V.ref t.1) ++ [.ref t4])) = H5 at gp3 hp3 ⊢
  have g25 := gp1.trans (gp2.trans gp3)
  refine ⟨_, rfl, _, rfl, _, rfl, l, _, rfl, SqL.of (g25.at hl2), fun p4 np4 => ?_⟩
  have gp4 := Gr.new (tb := tb) (o := .lst (cutV (ts.map fun t => V.ref t.1) (some ((sp : Nat) : Int)) none)) np4
  refine ⟨p3, p4, _, _, rfl, rfl, gp4.at hp3, upd_same, ?_, fun p5 np5 => ?_⟩
  · rw [cut2]
    refine z1000 ?_
    simp
    omega
  have gp5 := gp4.trans (Gr.new (tb := tb) (o := .lst (((ts.take sp).map fun t => V.ref t.1) ++ [.ref t4] ++ cutV (ts.map fun t => V.ref t.1) (some ((sp : Nat) : Int)) none)) np5)
  have g35 := g25.trans gp5
  have hnew : ∀ xs, H p5 ≠ some (.lst xs) := fun xs e => by
    have := (g1.trans (g2.trans (g25.trans gp4))).at e
    rw [np5] at this
    cases this
  refine q' p5 _ (g1.trans (g2.trans g35)) (.inr hnew) ⟨ts.take sp ++ (t4, r) :: ts.drop sp, ?_, ?_, fun u hu => ?_⟩
  · rw [List.map_append, List.map_cons, List.map_take, List.map_drop]
  · rw [upd_same, cut2, List.map_append, List.map_cons, List.append_assoc] <;> rfl
  · rcases List.mem_append.mp hu with hu | hu
    · exact g35.at (g2.at (ht1 u (List.mem_of_mem_take hu)))
    · rcases List.mem_cons.mp hu with rfl | hu
      · exact (gp3.trans gp5).at ht4
      · exact g35.at (g2.at (ht1 u (List.mem_of_mem_drop hu)))
end B
end
section
set_option linter.all false
set_option pp.maxSteps 700
set_option maxRecDepth 100000
namespace B
open PySem PySem.Spec PyProof.Rows L2 La
theorem lt_at {H : Hp} {a : Addr} {ks : List Tk} (h : LTicks H a ks) (hne : ks ≠ []) : ∃ xs : List V, H a = some (.lst xs) ∧ (0 : Int) < (xs.length : Int) ∧ ∀ n : Nat, ∃ r, atI xs ((n : Int) % (xs.length : Int)) = some (.ref r) ∧ LTick H r (tkAt ks n) := by
  obtain ⟨ts, rfl, hs, hts⟩ := h
  have hl : 0 < ts.length := List.length_pos_iff.mpr fun z => hne (by rw [z] <;> rfl)
  refine ⟨_, hs, by rw [mtup]; omega, fun n => ?_⟩
  have hmod : n % ts.length < ts.length := Nat.mod_lt _ hl
  have hg : ts[n % ts.length]? = some ts[n % ts.length] := List.getElem?_eq_getElem hmod
  refine ⟨ts[n % ts.length].1, ?_, ?_⟩
  · rw [mtup, ← Int.natCast_emod]
    exact atI_nat (by rw [List.getElem?_map, hg] <;> rfl)
  · have e3 : tkAt (ts.map (·.2)) n = ts[n % ts.length].2 := by
      unfold tkAt
      rw [List.length_map, List.getD_eq_getElem?_getD, List.getElem?_map, hg] <;> rfl
    rw [e3]
    exact hts _ (List.mem_of_getElem? hg)
def lawTerm (ks : List Tk) (n a : Nat) : Nat := if a ≤ n ∧ (tkAt ks (n - a)).2 = false then 2 ^ (n - a) else 0
def lawMask (ks : List Tk) (n : Nat) (s : List Nat) : Nat := s.foldl (fun m a => m + lawTerm ks n a) 0
theorem lawMask_next {ks : List Tk} {n i a : Nat} {s : List Nat} (h : s[i]? = some a) : lawMask ks n (s.take (i + 1)) = lawMask ks n (s.take i) + lawTerm ks n a := by
  unfold lawMask
  rw [List.take_add_one, h, List.foldl_append] <;> rfl
def sp__law_sums (tb : List (Addr × Str)) : Sp := fun vs H Q _ => ∃ (a : Addr) (n : Nat) (ks : List Tk), vs = [.ref a, iN n] ∧ LTicks H a ks ∧ OkP ks ∧ n ≤ 50 ∧ ∀ l H', Gr tb H H' → H' l = some (.lst ((tkAt ks n).1.map fun s => iN (lawMask ks n s))) → Q (.ref l) H'
abbrev nm__law_sums : List Str := ["_law_ticks_here", "_law_number", "_law_found", "_law_ages", "_law_mask", "_law_age"]
theorem sc__law_sums : FnScope nm__law_sums ["_law_ticks_here", "_law_number"] (defScope s__law_sums) := ⟨rfl, rfl, rfl, by decide +kernel, rfl, by decide +kernel, by decide +kernel⟩
theorem c__law_sums {P : Program} {w : World} {K : PySem.W.Frag} {mg : Str → Option Value} {base : Heap} {tb : List (Addr × Str)} (T : Tx K mg base tb) : Cf P w K mg base 2 "_law_sums" (sp__law_sums tb) := by
  obtain ⟨f, fd, F, hm⟩ := T.f__law_sums
  refine ⟨f, @mkR P w K mg base _ _ _ _ _ _ _ (sp__law_sums tb) 1 F sc__law_sums (fun _ _ _ _ _ _ us hl => match us, hl with | [_, _], _ => rfl) (fun vs H Q E h => by obtain ⟨a, n, ks, rfl, hk, ok, hn, q⟩ := h; rfl) (fun cdv A outer s H vs Q E hr h => ⟨_, (pss_cons (ps_set (i := 2) sc__law_sums.nd rfl (Or.inl rfl) (pe_lst pa_nil))
      (pss_cons (ps_for PassesOwn.never rfl (pi_tup (pe_ix ix_tup (pe_ix ix_list (pv 0) (pe_op op_mod (pe_callTy call_int1 (by rfl) T.n_int (by decide +kernel) (pa_cons (pv 1) pa_nil)) (pe_callB call_lenQ (by rfl) T.n_len (by decide +kernel) (pa_cons (pv 0) pa_nil))) (fun _ _ => rfl)) pe_int (fun _ _ => rfl))) (pg_name (i := 3) sc__law_sums.nd rfl (Or.inl rfl))
      (pss_cons (ps_set (i := 4) sc__law_sums.nd rfl (Or.inl rfl) pe_int)
      (pss_cons (ps_for PassesOwn.never rfl (pi_tup (pv 3)) (pg_name (i := 5) sc__law_sums.nd rfl (Or.inl rfl))
      (pss_one (ps_if (PW.pt (pw_and (pt_cmpR op_ge (pv 1) (pv 5) (nomark _)) (pw_and1 (pt_not (pt_val (pe_ix ix_tup (pe_ix ix_list (pv 0) (pe_op op_mod (pe_callTy call_int1 (by rfl) T.n_int (by decide +kernel) (pa_cons (pe_op op_sub (pv 1) (pv 5)) pa_nil)) (pe_callB call_lenQ (by rfl) T.n_len (by decide +kernel) (pa_cons (pv 0) pa_nil))) (fun _ _ => rfl)) pe_int (fun _ _ => rfl))))))) (pss_one (ps_set (i := 4) sc__law_sums.nd rfl (Or.inl rfl) (pe_op op_add (pv 4) (pe_cR (c__law_bit (K := K) T) hr (by decide) rfl (pa_cons (pe_op op_sub (pv 1) (pv 5)) pa_nil))))) pss_nil)))
      (pss_one (ps_expr (pe_bm PySem.F.plainAttrs_list PySem.F.slot_list_append PySem.F.type_list_append mt_append (pv 2) (pa_cons (pv 4) pa_nil)))))))
      (pss_one (ps_ret (pv 2))))), ?_⟩), hm, F.kp⟩
  obtain ⟨a, n, ks, rfl, hk, ok, hn, q⟩ := h
  have okt := ok.2.2 _ (tkAt_mem ok.1 n)
  have h4 := okt.2.2.1
  refine ⟨(by decide : (0 : Nat) ≤ sizeLine), fun D nD => ?_⟩
  have gD := Gr.new (tb := tb) (o := .lst []) nD
  obtain ⟨xs, hxs, hxl, hat⟩ := lt_at (lticks_gr hk gD) ok.1
  obtain ⟨r, hr1, sa, hr2, ts, ets, hts, hte⟩ := hat n
  refine ⟨_, rfl, _, rfl, .inl ⟨_, rfl, _, rfl, a, _, rfl, .inl (SqL.of hxs), _, _, rfl, rfl, hxl, a, _, _, .ref r, rfl, rfl, SqL.of hxs, hr1, _, _, _, .ref sa, rfl, rfl, SqT.of hr2, rfl, ?_⟩⟩
  have htl : ts.length ≤ 4 := by rw [← List.length_map (f := (·.2)), ets]; exact h4
  refine ⟨sa, rfl, ⟨_, SqT.of hts⟩, for_it walk_tup (fun i σ H' => ∃ x y z, H' D = some (.lst ((ts.take i).map fun t => iN (lawMask ks n t.2))) ∧ Gw tb D (upd H D (.lst [])) H' ∧ σ = [some (.ref a), some (iN n), some (.ref D), x, y, z]) ⟨_, _, _, upd_same, Gw.refl _, rfl⟩ (fun i σ H' _ ⟨_, _, _, _, gw, _⟩ => SqT.of (gw.at hts upd_same (fun z => by cases z))) ?_ ?_⟩
  · rintro i v σ H1 H2 hi ⟨x, y, z, hD, gw, rfl⟩ ⟨rfl, hv⟩
    obtain ⟨t, ht, rfl⟩ := map_at hv
    have hm := List.mem_of_getElem? ht
    have gg := (Gr.new nD).gw nD gw
    have hag : AgesAt H2 t.1 t.2 := Gw.at gw (hte t hm) upd_same (fun z => by cases z)
    have okS := okt.1 t.2 (by rw [← ets]; exact List.mem_map_of_mem hm)
    refine ⟨_, rfl, t.1, rfl, ⟨_, SqT.of hag⟩, for_it walk_tup (fun j σ H' => H' = H2 ∧ ∃ z, σ = [some (.ref a), some (iN n), some (.ref D), some (.ref t.1), some (iN (lawMask ks n (t.2.take j))), z]) ⟨rfl, _, rfl⟩ (fun j σ H' _ ⟨e, _⟩ => by rw [e]; exact SqT.of hag) ?_ ?_⟩
    · rintro j w σ H3 H4 hj ⟨rfl, z, rfl⟩ ⟨rfl, hw⟩
      obtain ⟨ag, hag2, rfl⟩ := map_at hw
      have a8 := okS.2.2 ag (List.mem_of_getElem? hag2)
      have emn := lawMask_next (ks := ks) (n := n) hag2
      refine ⟨_, rfl, _, rfl, _, _, rfl, rfl, _, rfl, ite2 (fun h => ?_) fun h => ?_⟩
      · have h' : ag ≤ n := by have := of_decide_eq_true h; omega
        have ez : (n : Int) - (ag : Int) = ((n - ag : Nat) : Int) := by omega
        obtain ⟨xs2, hxs2, hxl2, hat2⟩ := lt_at (lticks_gr hk gg) ok.1
        obtain ⟨r2, hr21, sa2, hr22, _⟩ := hat2 (n - ag)
        refine ⟨_, rfl, _, rfl, _, rfl, _, _, rfl, rfl, .inl ⟨_, rfl, _, rfl, a, _, rfl, .inl (SqL.of hxs2), _, _, rfl, rfl, hxl2, a, _, _, .ref r2, rfl, rfl, SqL.of hxs2, by rw [ez]; exact hr21, _, _, _, .bl (tkAt ks (n - ag)).2, rfl, rfl, SqT.of hr22, rfl, _, rfl, ?_⟩⟩
        cases hmu : (tkAt ks (n - ag)).2 with
        | true =>
          unfold lawTerm at emn
          rw [if_neg (fun z => by rw [hmu] at z; cases z.2)] at emn
          exact iteF ⟨rfl, _, by rw [emn] <;> rfl⟩
        | false =>
          unfold lawTerm at emn
          rw [if_pos ⟨h', hmu⟩] at emn
          refine iteT ⟨_, rfl, _, rfl, _, rfl, _, _, rfl, rfl, n - ag, congrArg (fun z => [V.int z]) ez, by omega, _, _, rfl, rfl, rfl, some (iN ag), ?_⟩
          rw [emn]
          exact congrArg (fun z => [some (V.ref a), some (iN n), some (V.ref D), some (V.ref t.1), some (V.int z), some (iN ag)]) (Int.natCast_add _ _).symm
      · have h' : ¬ ag ≤ n := fun z => h (decide_eq_true (by omega))
        unfold lawTerm at emn
        rw [if_neg (fun z => h' z.1)] at emn
        exact iteF ⟨rfl, _, by rw [emn] <;> rfl⟩
    · rintro σ H3 ⟨rfl, z, rfl⟩
      rw [List.take_of_length_le (l := t.2) (by rw [mtup]; exact Nat.le_refl _)]
      have zz : (1000 : Nat) < sizeLine := by decide
      refine ⟨_, rfl, .inl ⟨rfl, _, SqL.of hD⟩, _, rfl, D, _, _, rfl, rfl, hD, by rw [mtup, List.length_take]; omega, _, _, _, ?_, gw.trans (Gw.wr hD rfl), rfl⟩
      rw [upd_same, List.take_add_one, ht, List.map_append] <;> rfl
  · rintro σ H1 ⟨x, y, z, hD, gw, rfl⟩
    have gg := (Gr.new nD).gw nD gw
    rw [List.take_of_length_le (by rw [mtup]; exact Nat.le_refl _)] at hD
    refine ⟨_, rfl, q D H1 gg ?_⟩
    rw [hD, ← ets, List.map_map] <;> rfl
def lawPart (rs : List Nat) (n : Nat) (s : List Nat) : Nat := s.foldl (fun v a => v ^^^ (if a ≤ n then rs.getD (n - a) 0 else 0)) 0
theorem lawPart_next {rs : List Nat} {n i a : Nat} {s : List Nat} (h : s[i]? = some a) : lawPart rs n (s.take (i + 1)) = lawPart rs n (s.take i) ^^^ (if a ≤ n then rs.getD (n - a) 0 else 0) := by
  unfold lawPart
  rw [List.take_add_one, h, List.foldl_append] <;> rfl
def sp__law_parts (tb : List (Addr × Str)) : Sp := fun vs H Q _ => ∃ (a rl : Addr) (n : Nat) (ks : List Tk) (rs : List Nat), vs = [.ref a, .ref rl, iN n] ∧ LTicks H a ks ∧ OkP ks ∧ H rl = some (.lst (rs.map fun v => iN v)) ∧ n < rs.length ∧ ∀ l H', Gr tb H H' → H' l = some (.tup (((tkAt ks n).1.map (lawPart rs n)).map fun v => iN v)) → Q (.ref l) H'
abbrev nm__law_parts : List Str := ["_law_ticks_here", "_law_rows_here", "_law_number", "_law_found", "_law_ages", "_law_value", "_law_age"]
theorem sc__law_parts : FnScope nm__law_parts ["_law_ticks_here", "_law_rows_here", "_law_number"] (defScope s__law_parts) := ⟨rfl, rfl, rfl, by decide +kernel, rfl, by decide +kernel, by decide +kernel⟩
theorem c__law_parts {P : Program} {w : World} {K : PySem.W.Frag} {mg : Str → Option Value} {base : Heap} {tb : List (Addr × Str)} (T : Tx K mg base tb) : Cf P w K mg base 1 "_law_parts" (sp__law_parts tb) := by
  obtain ⟨f, fd, F, hm⟩ := T.f__law_parts
  refine ⟨f, @mkR P w K mg base _ _ _ _ _ _ _ (sp__law_parts tb) 0 F sc__law_parts (fun _ _ _ _ _ _ us hl => match us, hl with | [_, _, _], _ => rfl) (fun vs H Q E h => by obtain ⟨a, rl, n, ks, rs, rfl, hk, ok, hrs, hn, q⟩ := h; rfl) (fun cdv A outer s H vs Q E hr h => ⟨_, (pss_cons (ps_set (i := 3) sc__law_parts.nd rfl (Or.inl rfl) (pe_lst pa_nil))
      (pss_cons (ps_for PassesOwn.never rfl (pi_tup (pe_ix ix_tup (pe_ix ix_list (pv 0) (pe_op op_mod (pe_callTy call_int1 (by rfl) T.n_int (by decide +kernel) (pa_cons (pv 2) pa_nil)) (pe_callB call_lenQ (by rfl) T.n_len (by decide +kernel) (pa_cons (pv 0) pa_nil))) (fun _ _ => rfl)) pe_int (fun _ _ => rfl))) (pg_name (i := 4) sc__law_parts.nd rfl (Or.inl rfl))
      (pss_cons (ps_set (i := 5) sc__law_parts.nd rfl (Or.inl rfl) pe_int)
      (pss_cons (ps_for PassesOwn.never rfl (pi_tup (pv 4)) (pg_name (i := 6) sc__law_parts.nd rfl (Or.inl rfl))
      (pss_one (ps_set (i := 5) sc__law_parts.nd rfl (Or.inl rfl) (pe_op op_xor (pv 5) (pe_ifExp (pt_cmpR op_ge (pv 2) (pv 6) (nomark _)) (pe_ix ix_list (pv 1) (pe_op op_sub (pv 2) (pv 6)) (fun _ _ => rfl)) pe_int)))))
      (pss_one (ps_expr (pe_bm PySem.F.plainAttrs_list PySem.F.slot_list_append PySem.F.type_list_append mt_append (pv 3) (pa_cons (pv 5) pa_nil)))))))
      (pss_one (ps_ret (pe_callTy call_tupQ (by rfl) T.n_tuple (by decide +kernel) (pa_cons (pv 3) pa_nil)))))), ?_⟩), hm, F.kp⟩
  obtain ⟨a, rl, n, ks, rs, rfl, hk, ok, hrs, hn, q⟩ := h
  have okt := ok.2.2 _ (tkAt_mem ok.1 n)
  have h4 := okt.2.2.1
  refine ⟨(by decide : (0 : Nat) ≤ sizeLine), fun D nD => ?_⟩
  have gD := Gr.new (tb := tb) (o := .lst []) nD
  obtain ⟨xs, hxs, hxl, hat⟩ := lt_at (lticks_gr hk gD) ok.1
  obtain ⟨r, hr1, sa, hr2, ts, ets, hts, hte⟩ := hat n
  refine ⟨_, rfl, _, rfl, .inl ⟨_, rfl, _, rfl, a, _, rfl, .inl (SqL.of hxs), _, _, rfl, rfl, hxl, a, _, _, .ref r, rfl, rfl, SqL.of hxs, hr1, _, _, _, .ref sa, rfl, rfl, SqT.of hr2, rfl, ?_⟩⟩
  have htl : ts.length ≤ 4 := by rw [← List.length_map (f := (·.2)), ets]; exact h4
  refine ⟨sa, rfl, ⟨_, SqT.of hts⟩, for_it walk_tup (fun i σ H' => ∃ x y z, H' D = some (.lst ((ts.take i).map fun t => iN (lawPart rs n t.2))) ∧ Gw tb D (upd H D (.lst [])) H' ∧ σ = [some (.ref a), some (.ref rl), some (iN n), some (.ref D), x, y, z]) ⟨_, _, _, upd_same, Gw.refl _, rfl⟩ (fun i σ H' _ ⟨_, _, _, _, gw, _⟩ => SqT.of (gw.at hts upd_same (fun z => by cases z))) ?_ ?_⟩
  · rintro i v σ H1 H2 hi ⟨x, y, z, hD, gw, rfl⟩ ⟨rfl, hv⟩
    obtain ⟨t, ht, rfl⟩ := map_at hv
    have hm := List.mem_of_getElem? ht
    have gg := (Gr.new nD).gw nD gw
    have hag : AgesAt H2 t.1 t.2 := Gw.at gw (hte t hm) upd_same (fun z => by cases z)
    have okS := okt.1 t.2 (by rw [← ets]; exact List.mem_map_of_mem hm)
    refine ⟨_, rfl, t.1, rfl, ⟨_, SqT.of hag⟩, for_it walk_tup (fun j σ H' => H' = H2 ∧ ∃ z, σ = [some (.ref a), some (.ref rl), some (iN n), some (.ref D), some (.ref t.1), some (iN (lawPart rs n (t.2.take j))), z]) ⟨rfl, _, rfl⟩ (fun j σ H' _ ⟨e, _⟩ => by rw [e]; exact SqT.of hag) ?_ ?_⟩
    · rintro j w σ H3 H4 hj ⟨rfl, z, rfl⟩ ⟨rfl, hw⟩
      obtain ⟨ag, hag2, rfl⟩ := map_at hw
      have emn := lawPart_next (rs := rs) (n := n) hag2
      refine ⟨_, rfl, _, rfl, _, rfl, _, _, rfl, rfl, _, rfl, ite2 (fun h => ?_) fun h => ?_⟩
      · have h' : ag ≤ n := by have := of_decide_eq_true h; omega
        have ez : (n : Int) - (ag : Int) = ((n - ag : Nat) : Int) := by omega
        have hlt : n - ag < rs.length := by omega
        rw [if_pos h'] at emn
        refine ⟨_, rfl, _, rfl, _, rfl, _, _, rfl, rfl, rl, _, _, iN rs[n - ag], rfl, rfl, SqL.of (gg.at hrs), ?_, _, _, rfl, rfl, rfl, some (iN ag), ?_⟩
        · rw [ez]
          exact atI_nat (by rw [List.getElem?_map, List.getElem?_eq_getElem hlt] <;> rfl)
        · rw [emn, List.getD_eq_getElem?_getD, List.getElem?_eq_getElem hlt]
          exact congrArg (fun z => [some (V.ref a), some (V.ref rl), some (iN n), some (V.ref D), some (V.ref t.1), some z, some (iN ag)]) (xN _ _)
      · have h' : ¬ ag ≤ n := fun z => h (decide_eq_true (by omega))
        rw [if_neg h'] at emn
        refine ⟨_, _, rfl, rfl, rfl, some (iN ag), ?_⟩
        rw [emn]
        exact congrArg (fun z => [some (V.ref a), some (V.ref rl), some (iN n), some (V.ref D), some (V.ref t.1), some z, some (iN ag)]) (xN _ 0)
    · rintro σ H3 ⟨rfl, z, rfl⟩
      rw [List.take_of_length_le (l := t.2) (by rw [mtup]; exact Nat.le_refl _)]
      have zz : (1000 : Nat) < sizeLine := by decide
      refine ⟨_, rfl, .inl ⟨rfl, _, SqL.of hD⟩, _, rfl, D, _, _, rfl, rfl, hD, by rw [mtup, List.length_take]; omega, _, _, _, ?_, gw.trans (Gw.wr hD rfl), rfl⟩
      rw [upd_same, List.take_add_one, ht, List.map_append] <;> rfl
  · rintro σ H1 ⟨x, y, z, hD, gw, rfl⟩
    have gg := (Gr.new nD).gw nD gw
    rw [List.take_of_length_le (by rw [mtup]; exact Nat.le_refl _)] at hD
    refine ⟨_, rfl, D, _, rfl, .inl ⟨SqL.of hD, fun l nl => q l _ (gg.trans (Gr.new nl)) ?_⟩⟩
    rw [upd_same, ← ets, List.map_map, List.map_map] <;> rfl
end B
end
section
set_option linter.all false
set_option pp.maxSteps 700
set_option maxRecDepth 100000
namespace B
open PySem PySem.Spec PyProof.Rows L2 La
theorem lticks_gwp {tb : List (Addr × Str)} {H H' : Hp} {p a : Addr} {ks : List Tk} {o : HO} (h : LTicks H a ks) (g : Gw tb p H H') (hp : H p = some o) (hn : ∀ xs, o ≠ .tup xs) (ha : a ≠ p) : LTicks H' a ks := by
  obtain ⟨ts, e, hl, ht⟩ := h
  exact ⟨ts, e, g.at' hl ha, fun t m => (ht t m).gwp g hp hn⟩
def sp__law_rows (tb : List (Addr × Str)) : Sp := fun vs H Q _ => ∃ (p a : Addr) (many B : Nat) (sc : Addr × List Int) (ks : List Tk), vs = [.ref p, .ref a, iN many] ∧ PenI sc B H p ∧ LTicks H a ks ∧ ks ≠ [] ∧ a ≠ p ∧ many ≤ 30 ∧ B ≤ 600000 ∧
  ∀ (l : Addr) (rs : List Nat) (H' : Hp), rs.length = many → (∀ n, n < many → (tkAt ks n).2 = true → rs.getD n 0 = 0) → H' l = some (.lst (rs.map fun v => iN v)) → l ≠ p → Gw tb p H H' → PenI sc (B + 61) H' p → Q (.ref l) H'
abbrev nm__law_rows : List Str := ["_law_pen_here", "_law_ticks_here", "_law_many", "_law_some", "_law_number"]
theorem sc__law_rows : FnScope nm__law_rows ["_law_pen_here", "_law_ticks_here", "_law_many"] (defScope s__law_rows) := ⟨rfl, rfl, rfl, by decide +kernel, rfl, by decide +kernel, by decide +kernel⟩
theorem c__law_rows {P : Program} {w : World} {K : PySem.W.Frag} {mg : Str → Option Value} {base : Heap} {tb : List (Addr × Str)} (T : Tx K mg base tb) : Cf P w K mg base 3 "_law_rows" (sp__law_rows tb) := by
  obtain ⟨f, fd, F, hm⟩ := T.f__law_rows
  refine ⟨f, @mkR P w K mg base _ _ _ _ _ _ _ (sp__law_rows tb) 2 F sc__law_rows (fun _ _ _ _ _ _ us hl => match us, hl with | [_, _, _], _ => rfl) (fun vs H Q E h => by obtain ⟨p, a, many, B, sc, ks, rfl, hp, hk, hne, hap, hm30, hB, q⟩ := h; rfl) (fun cdv A outer s H vs Q E hr h => ⟨_, (pss_cons (ps_set (i := 3) sc__law_rows.nd rfl (Or.inr rfl) (pe_lst (pa_cons pe_int (pa_cons pe_int (pa_cons pe_int (pa_cons pe_int (pa_cons (pe_op op_pow pe_int pe_int) (pa_cons (pe_cR (c__law_draw (K := K) T) hr (by decide) rfl (pa_cons (pv 0) (pa_cons (pe_op op_pow pe_int pe_int) pa_nil))) pa_nil))))))))
      (pss_one (ps_ret (pe_lc (own := [("_law_number", 4)]) (g := gName 4) (tt := tYes) rfl sc__law_rows.nd (pi_range1 (by rfl) T.n_range (pa_cons (pv 2) pa_nil)) (blkOk_by (own := [("_law_number", 4)]) (N := nm__law_rows) (sc := defScope s__law_rows) (by decide +kernel)) (fun _ _ _ _ _ => pg_name (i := 4) sc__law_rows.nd rfl (Or.inl rfl)) (fun _ _ _ _ _ => pts_nil) (fun _ _ _ _ _ => (pe_ifExp (pt_val (pe_cR (c__law_is_mute (K := K) T) hr (by decide) rfl (pa_cons (pv 1) (pa_cons (pv 4) pa_nil)))) pe_int (pe_cR (c__law_pick (K := K) T) hr (by decide) rfl (pa_cons (pv 0) (pa_cons (pe_op op_cat (pv 3) (pe_lst (pa_cons (pe_cR (c__law_draw (K := K) T) hr (by decide) rfl (pa_cons (pv 0) (pa_cons pe_int pa_nil))) pa_nil))) pa_nil))))))))), ?_⟩), hm, F.kp⟩
  obtain ⟨p, a, many, B, sc, ks, rfl, hp, hk, hne, hap, hm30, hB, q⟩ := h
  refine ⟨_, _, rfl, rfl, ⟨by decide, by decide, by decide⟩, _, rfl, _, _, rfl, rfl, ⟨by decide, by decide, by decide⟩, p, 10 ^ 12, B, sc, rfl, hp, by decide, by decide, by omega, fun r H1 hr gw1 hp1 => ⟨(by decide : (6 : Nat) ≤ sizeLine), fun S nS => ?_⟩⟩
  obtain ⟨hSp, hSs⟩ := hp1.free nS
  have gS := Gr.new (tb := tb) (o := .lst [iN 0, iN 1, iN 2, iN 7, iN (10 ^ 30), iN r]) nS
  have hS : (upd H1 S (.lst [iN 0, iN 1, iN 2, iN 7, iN (10 ^ 30), iN r])) S = some (.lst ([0, 1, 2, 7, 10 ^ 30, r].map fun n => iN n)) := upd_same
  have hp2 := hp1.gr gS
  have gw2 := gw1.trans (Gw.of gS)
  obtain ⟨o0, ho0, hno0⟩ := hp.no
  have hk2 := lticks_gwp hk gw2 ho0 hno0 hap
  refine ⟨_, rfl, (many : Int), rfl, ?_, ?_, fun D nD => ?_⟩
  · omega
  · omega
  obtain ⟨hDp, hDs⟩ := hp2.free nD
  refine lc_it walk_range (fun i H' => ∃ rs : List Nat, H' D = some (.lst (rs.map fun v => iN v)) ∧ rs.length = i ∧ (∀ n, n < i → (tkAt ks n).2 = true → rs.getD n 0 = 0) ∧ Gw tb p (upd H1 S (.lst [iN 0, iN 1, iN 2, iN 7, iN (10 ^ 30), iN r])) H' ∧ PenI sc (B + 1 + 2 * i) H' p) ⟨[], upd_same, rfl, (fun n h => by omega), Gw.of (Gr.new nD), hp2.skip hDp hDs⟩ (fun _ _ _ _ => True.intro) ?_ ?_
  · rintro i x H3 H4 hi ⟨rs, hD, hl, hmu, gw3, hp3⟩ ⟨rfl, ex⟩
    obtain rfl : x = iN i := ex.trans (congrArg V.int (by omega))
    have hi' : i < many := by omega
    obtain ⟨o2, ho2, hno2⟩ := hp2.no
    have hk3 := lticks_gwp hk2 gw3 ho2 hno2 hap
    have z : (1000 : Nat) < sizeLine := by decide
    have ext : ∀ (v : Nat) (H5 : Hp), Gw tb p (upd H1 S (.lst [iN 0, iN 1, iN 2, iN 7, iN (10 ^ 30), iN r])) H5 → H5 D = some (.lst (rs.map fun v => iN v)) → PenI sc (B + 1 + 2 * (i + 1)) H5 p → ((tkAt ks i).2 = true → v = 0) → ∃ acc, H5 D = some (.lst acc) ∧ acc.length < sizeLine ∧ ∃ rs : List Nat, (upd H5 D (.lst (acc ++ [iN v]))) D = some (.lst (rs.map fun v => iN v)) ∧ rs.length = i + 1 ∧ (∀ n, n < i + 1 → (tkAt ks n).2 = true → rs.getD n 0 = 0) ∧ Gw tb p (upd H1 S (.lst [iN 0, iN 1, iN 2, iN 7, iN (10 ^ 30), iN r])) (upd H5 D (.lst (acc ++ [iN v]))) ∧ PenI sc (B + 1 + 2 * (i + 1)) (upd H5 D (.lst (acc ++ [iN v]))) p := by
      intro v H5 gw5 hD5 hp5 hv
      refine ⟨_, hD5, by rw [mtup]; omega, rs ++ [v], by rw [upd_same, List.map_append] <;> rfl, by rw [List.length_append, hl] <;> rfl, fun n hn hm => ?_, gw5.skip nD hD5 rfl, hp5.skip hDp hDs⟩
      rw [List.getD_eq_getElem?_getD]
      by_cases hni : n < i
      · rw [List.getElem?_append_left (by omega), ← List.getD_eq_getElem?_getD]
        exact hmu n hni hm
      · have e : n = i := by omega
        subst e
        rw [List.getElem?_append_right (by omega), hl, Nat.sub_self]
        exact hv hm
    refine ⟨rfl, _, rfl, _, rfl, a, i, ks, rfl, hk3, hne, _, rfl, ?_⟩
    cases hm : (tkAt ks i).2 with
    | true => exact iteT (ext 0 _ gw3 hD (hp3.mono (by omega)) fun _ => rfl)
    | false =>
      have hS3 := gw3.at' hS hSp
      refine iteF ⟨_, rfl, _, rfl, _, rfl, p, 99, B + 1 + 2 * i, sc, rfl, hp3, by decide, by decide, by omega, fun r4 H5 hr4 gw5 hp5 => ⟨(by decide : (1 : Nat) ≤ sizeLine), fun l5 nl5 => ?_⟩⟩
      have g5 := Gr.new (tb := tb) (o := .lst [iN r4]) nl5
      have hS5 := g5.at (gw5.at' hS3 hSp)
      refine ⟨S, l5, _, _, rfl, rfl, hS5, upd_same, (by decide : (7 : Nat) ≤ sizeLine), fun p6 np6 => ?_⟩
      have g6 := g5.trans (Gr.new (tb := tb) (o := .lst (([0, 1, 2, 7, 10 ^ 30, r].map fun n => iN n) ++ [iN r4])) np6)
      refine ⟨p, p6, [0, 1, 2, 7, 10 ^ 30, r] ++ [r4], B + 1 + 2 * i + 1, sc, rfl, hp5.gr g6, by rw [upd_same, List.map_append] <;> rfl, by simp, by simp, by omega, fun v H7 hv gw7 hp7 => ?_⟩
      have gw57 := (gw5.trans (Gw.of g6)).trans gw7
      exact ext v H7 (gw3.trans gw57) (gw57.at' hD hDp) (hp7.mono (by omega)) fun z => by rw [hm] at z; cases z
  · rintro H3 ⟨rs, hD, hl, hmu, gw3, hp3⟩
    exact q D rs H3 hl hmu hD hDp (gw2.trans gw3) (hp3.mono (by omega))
end B
end
section
set_option linter.all false
set_option pp.maxSteps 700
set_option maxRecDepth 100000
namespace B
open PySem PySem.Spec PyProof.Rows L2 La
/-! ### the law's own standing -/
def StI (H : Hp) (st : Addr) (N : Nat) (L told : List (Nat × Nat)) : Prop := ∃ kl dd, H st = some (.tup [.int ((N : Int) - 1), .ref kl, .ref dd]) ∧ PL H kl L ∧ H dd = some (.dK (kvT told))
theorem StI.gr {tb : List (Addr × Str)} {H H' : Hp} {st : Addr} {N : Nat} {L told : List (Nat × Nat)} (h : StI H st N L told) (g : Gr tb H H') : StI H' st N L told := by
  obtain ⟨kl, dd, e, p, t⟩ := h
  exact ⟨kl, dd, g.at e, p.gr g, g.at t⟩
def foldA (L : List (Nat × Nat)) (bs : List (Nat × Nat)) : List (Nat × Nat) := bs.foldl (fun L b => addL L b.1 b.2) L
theorem foldA_next {P bs : List (Nat × Nat)} {i : Nat} {b : Nat × Nat} (h : bs[i]? = some b) : foldA P (bs.take (i + 1)) = addL (foldA P (bs.take i)) b.1 b.2 := by
  unfold foldA
  rw [List.take_add_one, h, List.foldl_append] <;> rfl
/-- sorted rows: those greater stand ahead -/
theorem spot_split : ∀ {L : List (Nat × Nat)} (m : Nat), (L.map (·.1)).Pairwise (fun a b => b < a) → (∀ p ∈ L.take (spotL L m), m < p.1) ∧ ∀ p ∈ L.drop (spotL L m), ¬ m < p.1
  | [], m, _ => ⟨(fun p h => by cases h), (fun p h => by cases h)⟩
  | q :: L, m, h => by
    rw [List.map_cons] at h
    obtain ⟨h1, h2⟩ := List.pairwise_cons.mp h
    obtain ⟨ih1, ih2⟩ := spot_split (L := L) m h2
    by_cases hq : m < q.1
    · have e : spotL (q :: L) m = spotL L m + 1 := by
        unfold spotL
        rw [List.filter_cons, if_pos (decide_eq_true hq)] <;> rfl
      rw [e]
      refine ⟨fun p hp => ?_, fun p hp => ih2 p hp⟩
      rcases List.mem_cons.mp hp with rfl | hp
      · exact hq
      · exact ih1 p hp
    · have e : spotL (q :: L) m = 0 := by
        unfold spotL
        refine List.length_eq_zero_iff.mpr (List.filter_eq_nil_iff.mpr fun p hp => ?_)
        rcases List.mem_cons.mp hp with rfl | hp
        · simpa using hq
        · have := h1 p.1 (List.mem_map_of_mem hp)
          simp
          omega
      rw [e]
      refine ⟨fun p hp => (by cases hp), fun p hp => ?_⟩
      rcases List.mem_cons.mp hp with rfl | hp
      · exact hq
      · have := h1 p.1 (List.mem_map_of_mem hp)
        omega
theorem Desc.lt {P : List Nat} (h : Desc P) (h0 : ∀ o ∈ P, o ≠ 0) : P.Pairwise fun a b => b < a := by
  refine h.imp_of_mem fun {a b} ha hb hab => ?_
  have h1 := h0 a ha
  have h2 := h0 b hb
  have : b < 2 ^ (b.log2 + 1) := Nat.lt_log2_self
  have h3 : 2 ^ (b.log2 + 1) ≤ 2 ^ a.log2 := Nat.pow_le_pow_right (by decide) hab
  have h4 := Nat.log2_self_le h1
  omega
theorem JS.add {S : Nat} {L : List (Nat × Nat)} (j : JS S L) {b v : Nat} (hb : b < 2 ^ (S + 1)) : JS S (addL L b v) := by
  by_cases h : (red L b v).1 = 0
  · unfold addL
    rw [if_pos h]
    exact j
  · have hsp := spot_split (L := L) (red L b v).1 (Desc.lt j.desc j.nz1)
    have hlt : (red L b v).1 < 2 ^ (S + 1) := by rw [red_fst]; exact rb_lt j.lt1 hb
    unfold addL
    rw [if_neg h]
    generalize hr : red L b v = r at h hsp hlt
    generalize spotL L r.1 = sp at hsp
    have hmem : ∀ p ∈ L.take sp ++ r :: L.drop sp, p = r ∨ p ∈ L := fun p hp => by
      rcases List.mem_append.mp hp with hp | hp
      · exact .inr (List.mem_of_mem_take hp)
      · rcases List.mem_cons.mp hp with hp | hp
        · exact .inl hp
        · exact .inr (List.mem_of_mem_drop hp)
    have hnz : ∀ p ∈ L.take sp ++ r :: L.drop sp, p.1 ≠ 0 := fun p hp => by
      rcases hmem p hp with rfl | hp
      · exact h
      · exact j.nz p hp
    refine ⟨?_, hnz, fun p hp => ?_⟩
    · refine desc_of (fun o ho => ?_) ?_ ?_
      · obtain ⟨p, hp, rfl⟩ := List.mem_map.mp ho
        exact hnz p hp
      · have hper : (L.take sp ++ r :: L.drop sp).Perm (r :: L) := by
          have := List.perm_middle (a := r) (l₁ := L.take sp) (l₂ := L.drop sp)
          rw [List.take_append_drop] at this
          exact this
        have := (hper.map (·.1)).map Nat.log2
        refine this.nodup_iff.mpr ?_
        rw [List.map_cons, List.map_cons]
        refine List.nodup_cons.mpr ⟨fun hm => ?_, ?_⟩
        · obtain ⟨o, ho, eo⟩ := List.mem_map.mp hm
          have hc := rb_clear (j.desc.ech j.nz1) j.nz1 b o ho
          rw [← red_fst (v := v), hr, eo, testBit_top h] at hc
          cases hc
        · have h1 : ((L.map (·.1)).map Nat.log2).Pairwise fun a b => b < a := List.pairwise_map.mpr j.desc
          exact h1.imp fun h => by omega
      · have hd := (Desc.lt j.desc j.nz1)
        have hd2 : L.Pairwise fun a b => b.1 < a.1 := List.pairwise_map.mp hd
        rw [List.pairwise_map]
        refine List.pairwise_append.mpr ⟨(hd2.sublist (List.take_sublist _ _)).imp fun h => by omega, List.pairwise_cons.mpr ⟨fun p hp => ?_, (hd2.sublist (List.drop_sublist _ _)).imp fun h => by omega⟩, fun p hp q hq => ?_⟩
        · have := hsp.2 p hp; omega
        · rcases List.mem_cons.mp hq with rfl | hq
          · have := hsp.1 p hp; omega
          · have := hsp.1 p hp
            have := hsp.2 q hq
            omega
    · rcases hmem p hp with rfl | hp
      · exact hlt
      · exact j.lt p hp
theorem JS.foldA {S : Nat} : ∀ {bs : List (Nat × Nat)} {P : List (Nat × Nat)}, JS S P → (∀ b ∈ bs, b.1 < 2 ^ (S + 1)) → JS S (B.foldA P bs)
  | [], P, j, _ => j
  | b :: bs, P, j, h => JS.foldA (bs := bs) (j.add (v := b.2) (h b List.mem_cons_self)) fun c hc => h c (List.mem_cons_of_mem _ hc)
theorem lawMask_lt {ks : List Tk} {n : Nat} {s : List Nat} (hs : s.length ≤ 9) (hn : n ≤ 50) : lawMask ks n s < 2 ^ 60 := by
  have ht : ∀ a, lawTerm ks n a ≤ 2 ^ 50 := fun a => by
    unfold lawTerm
    split
    · exact Nat.pow_le_pow_right (by decide) (by omega)
    · exact Nat.zero_le _
  have : ∀ (s : List Nat) (m : Nat), s.foldl (fun m a => m + lawTerm ks n a) m ≤ m + s.length * 2 ^ 50 := by
    intro s
    induction s with
    | nil => intro m; simp
    | cons a s ih =>
      intro m
      have := ih (m + lawTerm ks n a)
      have := ht a
      rw [List.length_cons, Nat.add_mul]
      show s.foldl _ (m + lawTerm ks n a) ≤ _
      omega
  have h := this s 0
  unfold lawMask
  have : s.length * 2 ^ 50 ≤ 9 * 2 ^ 50 := Nat.mul_le_mul_right _ hs
  omega
def frG (ks : List Tk) (L told : List (Nat × Nat)) (t : Nat) : Option (Nat × Nat) :=
  if (red L (2 ^ t) 0).1 = 0 ∧ told.lookup t = none ∧ (tkAt ks t).2 = false then some (t, (red L (2 ^ t) 0).2) else none
/-- what a packet tells the law's own elimination -/
def foundA (ks : List Tk) (d N : Nat) (L told : List (Nat × Nat)) : List (Nat × Nat) := (List.range (N - (N - 1 - d))).filterMap fun i => frG ks L told (N - 1 - d + i)
def hearA (ks : List Tk) (n : Nat) (L : List (Nat × Nat)) (vals : List Nat) : List (Nat × Nat) := foldA L (((tkAt ks n).1.map (lawMask ks n)).zip vals)
end B
end
section
set_option linter.all false
set_option pp.maxSteps 700
set_option maxRecDepth 100000
namespace B
open PySem PySem.Spec PyProof.Rows L2 La
theorem lookup_none {n : Nat} : ∀ {told : List (Nat × Nat)}, told.lookup n = none → ∀ p ∈ told, p.1 ≠ n
  | (k, v) :: r, h, p, hp, e => by
    rw [List.lookup_cons] at h
    by_cases hk : n = k
    · rw [hk, beq_self_eq_true] at h; cases h
    · rw [beq_eq_false_iff_ne.mpr hk] at h
      rcases List.mem_cons.mp hp with rfl | hp
      · exact hk e.symm
      · exact lookup_none h p hp e
def sp__law_heard_by (tb : List (Addr × Str)) : Sp := fun vs H Q _ => ∃ (a st pa : Addr) (d N n : Nat) (ks : List Tk) (L told : List (Nat × Nat)) (vals : List Nat), vs = [.ref a, .ref st, iN d, iN n, .ref pa] ∧ LTicks H a ks ∧ OkP ks ∧ StI H st N L told ∧ JS 59 L ∧ H pa = some (.tup (vals.map fun v => iN v)) ∧ vals.length = (tkAt ks n).1.length ∧ n ≤ 50 ∧ N ≤ 51 ∧ d ≤ 20 ∧ told.length ≤ 500 ∧
  (n + d + 1 < N → ∀ t e H', Gr tb H H' → H' t = some (.tup [.ref st, .ref e]) → TPL H' e [] → Q (.ref t) H') ∧
  (¬ n + d + 1 < N → ∀ t st' fa H', Gr tb H H' → H' t = some (.tup [.ref st', .ref fa]) → StI H' st' (max N (n + 1)) (hearA ks n L vals) (told ++ foundA ks d (max N (n + 1)) (hearA ks n L vals) told) → TPL H' fa (foundA ks d (max N (n + 1)) (hearA ks n L vals) told) → Q (.ref t) H')
abbrev nm__law_heard_by : List Str := ["_law_ticks_here", "_law_stand", "_law_delay", "_law_number", "_law_parts_here", "_law_now", "_law_known", "_law_told", "_law_found", "_law_mask", "_law_part", "_law_later", "_law_tick_here", "_law_value"]
theorem sc__law_heard_by : FnScope nm__law_heard_by ["_law_ticks_here", "_law_stand", "_law_delay", "_law_number", "_law_parts_here"] (defScope s__law_heard_by) := ⟨rfl, rfl, rfl, by decide +kernel, rfl, by decide +kernel, by decide +kernel⟩
theorem c__law_heard_by {P : Program} {w : World} {K : PySem.W.Frag} {mg : Str → Option Value} {base : Heap} {tb : List (Addr × Str)} (T : Tx K mg base tb) : Cf P w K mg base 3 "_law_heard_by" (sp__law_heard_by tb) := by
  obtain ⟨f, fd, F, hm⟩ := T.f__law_heard_by
  refine ⟨f, @mkR P w K mg base _ _ _ _ _ _ _ (sp__law_heard_by tb) 2 F sc__law_heard_by (fun _ _ _ _ _ _ us hl => match us, hl with | [_, _, _, _, _], _ => rfl) (fun vs H Q E h => by obtain ⟨a, st, pa, d, N, n, ks, L, told, vals, rfl, hk, ok, hst, hj, hpa, hvl, hn, hN, hd, htl, q1, q2⟩ := h; rfl) (fun cdv A outer s H vs Q E hr h => ⟨_, (pss_cons (ps_asg (pv 1) (pg_tup rfl (pgs_cons (pg_name (i := 5) sc__law_heard_by.nd rfl (Or.inl rfl)) (pgs_cons (pg_name (i := 6) sc__law_heard_by.nd rfl (Or.inl rfl)) (pgs_cons (pg_name (i := 7) sc__law_heard_by.nd rfl (Or.inl rfl)) pgs_nil)))))
      (pss_cons (ps_if (pt_cmpR op_lt (pv 3) (pe_op op_sub (pv 5) (pv 2)) (nomark _)) (pss_one (ps_ret (pe_tup (pa_cons (pv 1) (pa_cons (pe_tup pa_nil) pa_nil))))) pss_nil)
      (pss_cons (ps_par (i := 5) (j := 8) rfl sc__law_heard_by.nd rfl rfl (by decide) rfl rfl (pa_cons (pe_callB (call_max2 rfl) (by rfl) T.n_max (by decide +kernel) (pa_cons (pe_callTy call_int1 (by rfl) T.n_int (by decide +kernel) (pa_cons (pv 5) pa_nil)) (pa_cons (pe_callTy call_int1 (by rfl) T.n_int (by decide +kernel) (pa_cons (pv 3) pa_nil)) pa_nil))) (pa_cons (pe_lst pa_nil) pa_nil)) (by rfl))
      (pss_cons (ps_for PassesOwn.never rfl (pi_zipM (by rfl) T.n_zip (pa_cons (pe_cR (c__law_sums (K := K) T) hr (by decide) rfl (pa_cons (pv 0) (pa_cons (pv 3) pa_nil))) (pa_cons (pv 4) pa_nil))) (pg_tup rfl (pgs_cons (pg_name (i := 9) sc__law_heard_by.nd rfl (Or.inl rfl)) (pgs_cons (pg_name (i := 10) sc__law_heard_by.nd rfl (Or.inl rfl)) pgs_nil)))
      (pss_one (ps_set (i := 6) sc__law_heard_by.nd rfl (Or.inl rfl) (pe_cR (c__law_added (K := K) T) hr (by decide) rfl (pa_cons (pv 6) (pa_cons (pv 9) (pa_cons (pv 10) pa_nil)))))))
      (pss_cons (ps_set (i := 11) sc__law_heard_by.nd rfl (Or.inl rfl) (pe_callTy call_dictD (by rfl) T.n_dict (by decide +kernel) (pa_cons (pv 7) pa_nil)))
      (pss_cons (ps_for PassesOwn.never rfl (pi_range2 (by rfl) T.n_range (pa_cons (pe_callB (call_max2 rfl) (by rfl) T.n_max (by decide +kernel) (pa_cons pe_int (pa_cons (pe_callTy call_int1 (by rfl) T.n_int (by decide +kernel) (pa_cons (pe_op op_sub (pv 5) (pv 2)) pa_nil)) pa_nil))) (pa_cons (pe_op op_add (pv 5) pe_int) pa_nil))) (pg_name (i := 12) sc__law_heard_by.nd rfl (Or.inl rfl))
      (pss_cons (ps_asg (pe_cR (c__law_reduced (K := K) T) hr (by decide) rfl (pa_cons (pv 6) (pa_cons (pe_cR (c__law_bit (K := K) T) hr (by decide) rfl (pa_cons (pv 12) pa_nil)) (pa_cons pe_int pa_nil)))) (pg_tup rfl (pgs_cons (pg_name (i := 9) sc__law_heard_by.nd rfl (Or.inl rfl)) (pgs_cons (pg_name (i := 13) sc__law_heard_by.nd rfl (Or.inl rfl)) pgs_nil))))
      (pss_one (ps_if (PW.pt (pw_and (pt_cmpR op_eq (pv 9) pe_int (nomark _)) (pw_and (pt_cmp (pc_dnotin (hu_of hr) (pv 12) (pv 7))) (pw_and1 (pt_not (pt_val (pe_cR (c__law_is_mute (K := K) T) hr (by decide) rfl (pa_cons (pv 0) (pa_cons (pv 12) pa_nil))))))))) (pss_cons (ps_dput (hu_of hr) (pv 11) (pv 12) (pv 13) rfl)
      (pss_one (ps_expr (pe_bm PySem.F.plainAttrs_list PySem.F.slot_list_append PySem.F.type_list_append mt_append (pv 8) (pa_cons (pe_tup (pa_cons (pv 12) (pa_cons (pv 13) pa_nil))) pa_nil))))) pss_nil))))
      (pss_one (ps_ret (pe_tup (pa_cons (pe_tup (pa_cons (pv 5) (pa_cons (pv 6) (pa_cons (pv 11) pa_nil)))) (pa_cons (pe_callTy call_tupQ (by rfl) T.n_tuple (by decide +kernel) (pa_cons (pv 8) pa_nil)) pa_nil))))))))))), ?_⟩), hm, F.kp⟩
  obtain ⟨a, st, pa, d, N, n, ks, L, told, vals, rfl, hk, ok, hst, hj, hpa, hvl, hn, hN, hd, htl, q1, q2⟩ := h
  obtain ⟨kl, dd, est, hkl, hdd⟩ := id hst
  have okt := ok.2.2 _ (tkAt_mem ok.1 n)
  refine ⟨_, rfl, st, _, rfl, SqT.of est, rfl, _, _, rfl, _, _, rfl, _, _, rfl, rfl, ?_⟩
  refine ⟨_, rfl, _, rfl, _, rfl, _, _, rfl, rfl, _, _, rfl, rfl, _, rfl, ite2 (fun h => ?_) fun h => ?_⟩
  · have h' : n + d + 1 < N := by have := of_decide_eq_true h; omega
    refine ⟨_, rfl, (by decide : (0 : Nat) ≤ sizeLine), fun e ne => ⟨z2, fun t nt => ?_⟩⟩
    have g1 := Gr.new (tb := tb) (o := .tup []) ne
    have g2 := Gr.new (tb := tb) (o := .tup [.ref st, .ref e]) nt
    exact q1 h' t e _ (g1.trans g2) upd_same ⟨[], rfl, g2.at upd_same, fun t m => nomatch m⟩
  have hnot : ¬ n + d + 1 < N := fun z => h (decide_eq_true (by omega))
  have q3 := q2 hnot
  have eN : (if (n : Int) > (N : Int) - 1 then (n : Int) else (N : Int) - 1) = ((max N (n + 1) : Nat) : Int) - 1 := by split <;> omega
  refine ⟨_, rfl, .inl ⟨_, rfl, _, rfl, .inl ⟨_, rfl, _, _, rfl, (by decide : (0 : Nat) ≤ sizeLine), fun F nF => ⟨_, _, rfl, ?_⟩⟩⟩⟩
  rw [eN]
  have hM : max N (n + 1) ≤ 51 := by omega
  have hM1 : 1 ≤ max N (n + 1) := by omega
  generalize max N (n + 1) = M at q3 hM hM1 ⊢
  unfold hearA at q3
  have hklF : kl ≠ F := by
    obtain ⟨us, _, e2, _⟩ := hkl
    exact ne_of_none e2 nF
  have gF := Gr.new (tb := tb) (o := .lst []) nF
  have eF : (upd H F (.lst [])) F = some (.lst []) := upd_same
  generalize upd H F (.lst []) = H1 at gF eF ⊢
  refine ⟨_, rfl, _, rfl, a, n, ks, rfl, lticks_gr hk gF, ok, hn, fun ls H2 g2 hls => ?_⟩
  have hpa2 := (gF.trans g2).at hpa
  have hbs : ∀ b ∈ ((tkAt ks n).1.map (lawMask ks n)).zip vals, b.1 < 2 ^ (59 + 1) := fun b hb => by
    obtain ⟨s, hs, e⟩ := List.mem_map.mp (List.of_mem_zip hb).1
    rw [← e]
    exact lawMask_lt (okt.1 s hs).len hn
  have hzl : (((tkAt ks n).1.map (lawMask ks n)).zip vals).length = (tkAt ks n).1.length := by rw [List.length_zip, List.length_map, hvl, Nat.min_self]
  have hls' : H2 ls = some (.lst (((tkAt ks n).1.map (lawMask ks n)).map fun v => iN v)) := by rw [hls, List.map_map] <;> rfl
  refine ⟨_, rfl, ls, pa, _, _, rfl, SqL.of hls', SqT.of hpa2, for_it (walk_zipM (by rw [mtup, mtup, List.length_map, hvl])) (fun i σ H' => Gr tb H2 H' ∧ ∃ kl' x y, kl' ≠ F ∧ PL H' kl' (foldA L ((((tkAt ks n).1.map (lawMask ks n)).zip vals).take i)) ∧ σ = [some (.ref a), some (.ref st), some (iN d), some (iN n), some (.ref pa), some (.int ((M : Int) - 1)), some (.ref kl'), some (.ref dd), some (.ref F), x, y, none, none, none]) ⟨Gr.refl _, kl, _, _, hklF, hkl.gr (gF.trans g2), rfl⟩ (fun i σ H' _ ⟨g, _⟩ => ⟨SqL.of (g.at hls'), SqT.of (g.at hpa2)⟩) ?_ ?_⟩
  · rintro i v σ H3 H4 hi ⟨g, kl', x, y, hne', hkl', rfl⟩ ⟨tt, y1, y2, rfl, np, rfl, hy1, hy2⟩
    obtain ⟨mm, hmm, rfl⟩ := map_at hy1
    obtain ⟨v, hv, rfl⟩ := map_at hy2
    have hb : (((tkAt ks n).1.map (lawMask ks n)).zip vals)[i]? = some (mm, v) := List.getElem?_zip_eq_some.mpr ⟨hmm, hv⟩
    have hbl := hbs _ (List.mem_of_getElem? hb)
    have jf : JS 59 (foldA L ((((tkAt ks n).1.map (lawMask ks n)).zip vals).take i)) := hj.foldA fun b hb => hbs b (List.mem_of_mem_take hb)
    have g6 := Gr.new (tb := tb) (o := .tup [iN mm, iN v]) np
    refine ⟨tt, _, rfl, SqT.of upd_same, rfl, _, _, rfl, _, _, rfl, rfl, ?_⟩
    generalize upd H3 tt (.tup [iN mm, iN v]) = H6 at g6 ⊢
    refine ⟨_, rfl, _, rfl, _, rfl, kl', mm, v, _, rfl, hkl'.gr g6, jf.nz, Nat.le_trans jf.len (by decide), fun kl2 H7 g7 hor hkl2 => ?_⟩
    have hne2 : kl2 ≠ F := by
      rcases hor with rfl | hx
      · exact hne'
      · intro z
        exact hx [] (by rw [z]; exact (g2.trans (g.trans g6)).at eF)
    exact ⟨(g.trans g6).trans g7, kl2, _, _, hne2, by rw [foldA_next hb]; exact hkl2, rfl⟩
  rintro σ H3 ⟨g3, kl', x, y, hneF, hkl', rfl⟩
  rw [List.take_of_length_le (by rw [mtup, hzl, List.length_map]; exact Nat.le_refl _)] at hkl'
  have jL := hj.foldA hbs
  generalize foldA L (((tkAt ks n).1.map (lawMask ks n)).zip vals) = L2 at q3 hkl' jL
  have gH3 := gF.trans (g2.trans g3)
  refine ⟨_, rfl, dd, kvT told, rfl, .inl (gH3.at hdd), fun LD nLD => ?_⟩
  have eLD : (upd H3 LD (.dK (kvT told))) LD = some (.dK (kvT told)) := upd_same
  have gwL : Gw tb F H3 (upd H3 LD (.dK (kvT told))) := Gw.of (Gr.new nLD)
  have eF3 := (g2.trans g3).at eF
  have hFL : F ≠ LD := ne_of_none eF3 nLD
  have eFL : (upd H3 LD (.dK (kvT told))) F = some (.lst []) := by rw [upd_ne hFL]; exact eF3
  generalize upd H3 LD (.dK (kvT told)) = H4 at eLD gwL eFL ⊢
  unfold foundA at q3
  have elo : (if (0 : Int) < (M : Int) - 1 - (d : Int) then (M : Int) - 1 - (d : Int) else 0) = ((M - 1 - d : Nat) : Int) := by split <;> omega
  refine ⟨_, rfl, _, rfl, _, _, rfl, rfl, .inl ⟨_, rfl, _, _, rfl, _, rfl, _, _, rfl, rfl, _, _, rfl, ?_, ?_⟩⟩
  · refine ⟨?_, ?_, ?_, ?_⟩
    · split <;> omega
    · split <;> omega
    · omega
    · omega
  let fr := fun i : Nat => (List.range i).filterMap fun i => frG ks L2 told (M - 1 - d + i)
  have hcount : ((M : Int) - 1 + 1 - (if (M : Int) - 1 - (d : Int) > 0 then (M : Int) - 1 - (d : Int) else 0)).toNat = M - (M - 1 - d) := by split <;> omega
  have hfl : ∀ i, (fr i).length ≤ i := fun i => fm_len
  refine for_range (fun i σ H' => ∃ ts x y z w, PT H' F ts ∧ ts.map (·.2) = fr i ∧ H' LD = some (.dK (kvT (told ++ fr i))) ∧ Gw tb F H3 H' ∧ σ = [some (.ref a), some (.ref st), some (iN d), some (iN n), some (.ref pa), some (.int ((M : Int) - 1)), some (.ref kl'), some (.ref dd), some (.ref F), x, y, some (.ref LD), z, w]) ⟨[], _, _, _, _, ⟨eFL, fun t m => nomatch m⟩, rfl, by rw [show fr 0 = [] from rfl, List.append_nil]; exact eLD, gwL, rfl⟩ ?_ ?_
  · rintro i σ H5 hi ⟨ts, x, y, z, w, pt, ets, hLD, gw5, rfl⟩
    rw [hcount] at hi
    have et : V.int ((if (M : Int) - 1 - (d : Int) > 0 then (M : Int) - 1 - (d : Int) else 0) + (i : Nat)) = iN (M - 1 - d + i) := congrArg V.int (by split <;> omega)
    rw [et]
    have ht51 : M - 1 - d + i ≤ 51 := by omega
    generalize htt : M - 1 - d + i = t at ht51
    have hkl5 : PL H5 kl' L2 := by
      obtain ⟨us, e1, e2, e3⟩ := hkl'
      exact ⟨us, e1, gw5.at' e2 hneF, fun u hu => Gw.at gw5 (e3 u hu) eF3 (fun z => by cases z)⟩
    have hdd5 : H5 dd = some (.dK (kvT told)) := gw5.at (gH3.at hdd) eF3 (fun z => by cases z)
    have hk3 := lticks_gr hk gH3
    have haF : a ≠ F := by
      obtain ⟨us, _, e2, _⟩ := hk
      exact ne_of_none e2 nF
    have hk5 := lticks_gwp hk3 gw5 eF3 (fun xs z => by cases z) haF
    refine ⟨_, rfl, _, rfl, t, rfl, by omega, kl', 2 ^ t, 0, L2, rfl, hkl5, jL.nz, fun t6 nt6 => ?_⟩
    refine ⟨t6, _, rfl, SqT.of upd_same, rfl, _, _, rfl, _, _, rfl, rfl, ?_⟩
    generalize hrr : red L2 (2 ^ t) 0 = rr
    have g6 := Gr.new (tb := tb) (o := .tup [iN rr.1, iN rr.2]) nt6
    generalize upd H5 t6 (.tup [iN rr.1, iN rr.2]) = H6 at g6 ⊢
    have pt6 : PT H6 F ts := ⟨g6.at pt.1, fun u m => g6.at (pt.2 u m)⟩
    have gw6 := gw5.trans (Gw.of g6)
    have hLD6 := g6.at hLD
    have skip : frG ks L2 told t = none → ∃ ts' : List (Addr × (Nat × Nat)), PT H6 F ts' ∧ ts'.map (·.2) = fr (i + 1) ∧ H6 LD = some (.dK (kvT (told ++ fr (i + 1)))) ∧ Gw tb F H3 H6 := fun z => by
      have e : fr (i + 1) = fr i := by
        show (List.range (i + 1)).filterMap _ = _
        rw [fm_succ, htt, z]
        exact List.append_nil _
      exact ⟨ts, pt6, by rw [e, ets], by rw [e]; exact hLD6, gw6⟩
    refine ⟨_, rfl, rfl, _, rfl, ite2 (fun hz => ?_) fun hz => ?_⟩
    · have hz' : rr.1 = 0 := by simpa using hz
      refine ⟨_, rfl, _, rfl, dd, _, rfl, DGet.k (k := Sum.inl (t : Int)) (g6.at hdd5), _, rfl, ?_⟩
      rw [valV_kvT]
      cases hlk : told.lookup t with
      | some v =>
        obtain ⟨ts', h1, h2, h3, h4⟩ := skip (by unfold frG; rw [if_neg (fun z => by rw [hlk] at z; cases z.2.1)])
        exact iteF ⟨ts', _, _, _, _, h1, h2, h3, h4, rfl⟩
      | none =>
        refine iteT ⟨_, rfl, _, rfl, a, t, ks, rfl, lticks_gr hk5 g6, ok.1, _, rfl, ?_⟩
        cases hmu : (tkAt ks t).2 with
        | true =>
          obtain ⟨ts', h1, h2, h3, h4⟩ := skip (by unfold frG; rw [if_neg (fun z => by rw [hmu] at z; cases z.2.2)])
          exact iteF ⟨ts', _, _, _, _, h1, h2, h3, h4, rfl⟩
        | false =>
          have ef : frG ks L2 told t = some (t, rr.2) := by
            unfold frG
            rw [hrr, if_pos ⟨hz', hlk, hmu⟩]
          have e : fr (i + 1) = fr i ++ [(t, rr.2)] := by
            show (List.range (i + 1)).filterMap _ = _
            rw [fm_succ, htt, ef] <;> rfl
          have hnk : ∀ p ∈ kvT (told ++ fr i), p.1 ≠ (Sum.inl (t : Int) : Key) := by
            intro p hp ep
            obtain ⟨u, hu, rfl⟩ := List.mem_map.mp hp
            have eu : u.1 = t := by injection ep with ep; omega
            rcases List.mem_append.mp hu with hu | hu
            · exact lookup_none hlk u hu eu
            · obtain ⟨j, hj, ej⟩ := List.mem_filterMap.mp hu
              have hji := List.mem_range.mp hj
              unfold frG at ej
              split at ej
              · injection ej with ej
                rw [← ej] at eu
                simp only at eu
                omega
              · cases ej
          have zz : (1000 : Nat) < sizeLine := by decide
          have hfli := hfl i
          have hput := DPut.k (k := Sum.inl (t : Int)) (v := iN rr.2) hLD6 (by rw [kvT_len, List.length_append]; omega)
          rw [put_new hnk] at hput
          have ekv : kvT (told ++ fr i) ++ [(Sum.inl (t : Int), iN rr.2)] = kvT (told ++ fr (i + 1)) := by
            rw [e, ← List.append_assoc]
            unfold kvT
            rw [List.map_append (l₁ := told ++ fr i)] <;> rfl
          rw [ekv] at hput
          refine iteT ⟨_, rfl, _, rfl, _, rfl, LD, _, rfl, hput, ?_⟩
          have gD : Gw tb LD H6 (upd H6 LD (.dK (kvT (told ++ fr (i + 1))))) := Gw.wr hLD6 rfl
          have eLD7 : (upd H6 LD (.dK (kvT (told ++ fr (i + 1))))) LD = some (.dK (kvT (told ++ fr (i + 1)))) := upd_same
          have pt7 : PT (upd H6 LD (.dK (kvT (told ++ fr (i + 1))))) F ts := ⟨gD.at' pt6.1 hFL, fun u m => gD.at (pt6.2 u m) hLD6 (fun z => by cases z)⟩
          have gw7 : Gw tb F H3 (upd H6 LD (.dK (kvT (told ++ fr (i + 1))))) := gw6.skip nLD hLD6 rfl
          generalize upd H6 LD (.dK (kvT (told ++ fr (i + 1)))) = H7 at eLD7 pt7 gw7 ⊢
          refine ⟨_, rfl, .inl ⟨rfl, _, SqL.of pt7.1⟩, _, rfl, _, rfl, z2, fun p8 np8 => ?_⟩
          obtain ⟨h1, h2⟩ := pt7.push (a := t) (b := rr.2) np8
          have htsl : ts.length ≤ i := by rw [← List.length_map (f := (·.2)), ets]; exact hfli
          refine ⟨F, _, _, rfl, rfl, h1, by rw [List.length_map]; omega, ts ++ [(p8, (t, rr.2))], _, _, _, _, h2, by rw [List.map_append, ets, e] <;> rfl, ?_, (gw7.trans (Gw.of (Gr.new np8))).trans (Gw.wr h1 rfl), rfl⟩
          rw [upd_ne (Ne.symm hFL), upd_ne (ne_of_none eLD7 np8)]
          exact eLD7
    · have hz' : rr.1 ≠ 0 := by simpa using hz
      obtain ⟨ts', h1, h2, h3, h4⟩ := skip (by unfold frG; rw [hrr, if_neg (fun z => hz' z.1)])
      exact iteF ⟨ts', _, _, _, _, h1, h2, h3, h4, rfl⟩
  · rintro σ H5 ⟨ts, x, y, z, w, pt, ets, hLD, gw5, rfl⟩
    rw [hcount] at ets hLD
    have gg : Gr tb H H5 := by
      have : Gw tb F H1 H5 := (Gw.of (g2.trans g3)).trans gw5
      exact ⟨fun b o e n => this.ex b o (gF.ex b o e n) (ne_of_none e nF) n, fun t => this.tb (gF.tb t)⟩
    have hkl5 : PL H5 kl' L2 := by
      obtain ⟨us, e1, e2, e3⟩ := hkl'
      exact ⟨us, e1, gw5.at' e2 hneF, fun u hu => Gw.at gw5 (e3 u hu) eF3 (fun z => by cases z)⟩
    refine ⟨_, rfl, _, rfl, _, rfl, (by decide : (3 : Nat) ≤ sizeLine), fun s6 ns6 => ?_⟩
    have g6 := Gr.new (tb := tb) (o := .tup [.int ((M : Int) - 1), .ref kl', .ref LD]) ns6
    refine ⟨_, rfl, F, _, rfl, .inl ⟨SqL.of (g6.at pt.1), fun f7 nf7 => ⟨z2, fun t8 nt8 => ?_⟩⟩⟩
    have g7 := Gr.new (tb := tb) (o := .tup (ts.map fun t => V.ref t.1)) nf7
    have g8 := Gr.new (tb := tb) (o := .tup [.ref s6, .ref f7]) nt8
    have g78 := g7.trans g8
    refine q3 t8 s6 f7 _ (gg.trans (g6.trans g78)) upd_same ⟨kl', LD, g78.at upd_same, hkl5.gr (g6.trans g78), (g6.trans g78).at hLD⟩ ⟨ts, ets, g8.at upd_same, fun u m => (g6.trans g78).at (pt.2 u m)⟩
end B
end
section
set_option linter.all false
set_option pp.maxSteps 700
set_option maxRecDepth 100000
namespace B
open PySem PySem.Spec PyProof.Rows L2 La
/-- the law's mask of a receiver's bits -/
def shTerm (ks : List Tk) (N b a : Nat) : Nat := if b.testBit a = true ∧ a < N ∧ (tkAt ks (N - 1 - a)).2 = false then 2 ^ (N - 1 - a) else 0
def shMask (ks : List Tk) (N b : Nat) : Nat → Nat
  | 0 => 0
  | k + 1 => shMask ks N b k + shTerm ks N b k
/-- a receiver's known sums and the law's: alike -/
structure Agree (ks : List Tk) (d N : Nat) (P L : List (Nat × Nat)) : Prop where
  zero : ∀ b, b < 2 ^ (d + 1) → ((red P b 0).1 = 0 ↔ (red L (shMask ks N b (d + 1)) 0).1 = 0)
  val : ∀ b, b < 2 ^ (d + 1) → (red P b 0).1 = 0 → (red P b 0).2 = (red L (shMask ks N b (d + 1)) 0).2
  kn : ∀ most b, most ≤ d → b < 2 ^ (most + 1) → (rb (rrefS (knownL P most)) b = 0 ↔ (red P b 0).1 = 0)
  low : ∀ most, most ≤ d → ∀ o ∈ rrefS (knownL P most), o ≠ 0 ∧ o < 2 ^ (most + 1)
theorem bit_div {b a : Nat} : decide (V.int ((b : Int) / ((2 ^ a : Nat) : Int) % 2) = V.int 1) = b.testBit a := by
  rw [← Int.natCast_ediv, Nat.testBit_eq_decide_div_mod_eq, Bool.eq_iff_iff, decide_eq_true_iff, decide_eq_true_iff]
  constructor
  · intro h
    injection h with h
    omega
  · intro h
    refine congrArg V.int ?_
    omega
theorem zdec {n : Nat} : decide (V.int (n : Int) = V.int 0) = decide (n = 0) := by
  rw [Bool.eq_iff_iff, decide_eq_true_iff, decide_eq_true_iff]
  constructor
  · intro h
    injection h with h
    omega
  · intro h
    rw [h] <;> rfl
theorem shMask_lt {ks : List Tk} {N b : Nat} (hN : N ≤ 51) : ∀ {k : Nat}, k ≤ 30 → shMask ks N b k < 2 ^ 60 := by
  have h : ∀ k, shMask ks N b k ≤ k * 2 ^ 50 := by
    intro k
    induction k with
    | zero => exact Nat.zero_le _
    | succ k ih =>
      show shMask ks N b k + shTerm ks N b k ≤ _
      have : shTerm ks N b k ≤ 2 ^ 50 := by
        unfold shTerm
        split
        · exact Nat.pow_le_pow_right (by decide) (by omega)
        · exact Nat.zero_le _
      rw [Nat.add_mul]
      omega
  intro k hk
  have := h k
  omega
def sp__law_shows (K : PySem.W.Frag) (tb : List (Addr × Str)) : Sp := fun vs H Q _ => ∃ (r a st : Addr) (c d N : Nat) (ks : List Tk) (P L told : List (Nat × Nat)), vs = [.ref r, .ref a, .ref st, iN d] ∧ RcvI K c H r ks d N P told ∧ OkR ks d N P told ∧ LTicks H a ks ∧ StI H st N L told ∧ JS 59 L ∧ Agree ks d N P L ∧ N ≤ 51 ∧
  ∀ H', Gr tb H H' → Q (.bl true) H'
abbrev nm__law_shows : List Str := ["_law_receiver", "_law_ticks_here", "_law_stand", "_law_delay", "_law_now", "_law_known", "_law_told", "_law_late", "_law_bits", "_law_mask", "_law_age", "_law_value", "_law_most", "_law_some", "_law_tick_here"]
theorem sc__law_shows : FnScope nm__law_shows ["_law_receiver", "_law_ticks_here", "_law_stand", "_law_delay"] (defScope s__law_shows) := ⟨rfl, rfl, rfl, by decide +kernel, rfl, by decide +kernel, by decide +kernel⟩
theorem c__law_shows {P : Program} {w : World} {K : PySem.W.Frag} {mg : Str → Option Value} {base : Heap} {tb : List (Addr × Str)} (T : Tx K mg base tb) : Cf P w K mg base 7 "_law_shows" (sp__law_shows K tb) := by
  obtain ⟨f, fd, F, hm⟩ := T.f__law_shows
  refine ⟨f, @mkR P w K mg base _ _ _ _ _ _ _ (sp__law_shows K tb) 6 F sc__law_shows (fun _ _ _ _ _ _ us hl => match us, hl with | [_, _, _, _], _ => rfl) (fun vs H Q E h => by obtain ⟨r, a, st, c, d, N, ks, P', L, told, rfl, hR, ok, hk, hst, hj, ag, hN, q⟩ := h; rfl) (fun cdv A outer s H vs Q E hr h => ⟨_, (pss_cons (ps_asg (pv 2) (pg_tup rfl (pgs_cons (pg_name (i := 4) sc__law_shows.nd rfl (Or.inl rfl)) (pgs_cons (pg_name (i := 5) sc__law_shows.nd rfl (Or.inl rfl)) (pgs_cons (pg_name (i := 6) sc__law_shows.nd rfl (Or.inr rfl)) pgs_nil)))))
      (pss_cons (ps_setLc (i := 7) (own := [("_law_tick_here", 14)]) (g := gName 14) rfl sc__law_shows.nd rfl rfl (sw_true rfl rfl rfl (by decide +kernel)) (pi_range1 (by rfl) T.n_range (pa_cons (pe_callB (call_max2 rfl) (by rfl) T.n_max (by decide +kernel) (pa_cons pe_int (pa_cons (pe_callTy call_int1 (by rfl) T.n_int (by decide +kernel) (pa_cons (pe_op op_sub (pv 4) (pv 3)) pa_nil)) pa_nil))) pa_nil)) (blkOk_by (own := [("_law_tick_here", 14)]) (N := nm__law_shows) (sc := defScope s__law_shows) (by decide +kernel)) (fun _ _ _ _ _ => pg_name (i := 14) sc__law_shows.nd rfl (Or.inl rfl)) (fun _ _ _ _ _ => pts_one (pt_cmp (pc_dnotin (hu_of hr) (pv 14) (pv 6)))) (fun _ _ _ _ _ => (pv 14)))
      (C8.pss_cut (ps_if (PW.pt (pw_or (pt_cmpR op_ne (pe_pR (c_Receiver_now (K := K) T) hr (by decide) (pv 0) (by rfl)) (pv 4) (nomark _)) (pw_or (pt_cmpR (op_ne_dictA (Room.units0 hr)) (pe_pR (c_Receiver_told (K := K) T) hr (by decide) (pv 0) (by rfl)) (pv 6) (nomark _)) (pw_or1 (pt_cmpR (op_neD (Room.units hr)) (pe_callTy (call_list_dK rfl) (by rfl) T.n_list (by decide +kernel) (pa_cons (pe_pR (c_Receiver_told (K := K) T) hr (by decide) (pv 0) (by rfl)) pa_nil)) (pe_callB cr_sortedI (by rfl) T.n_sorted (by decide +kernel) (pa_cons (pe_lock (pe_lc (own := [("_law_tick_here", 14)]) (g := gName 14) (tt := tYes) rfl sc__law_shows.nd (pi_keys (pv 6)) (blkOk_by (own := [("_law_tick_here", 14)]) (N := nm__law_shows) (sc := defScope s__law_shows) (by decide +kernel)) (fun _ _ _ _ _ => pg_name (i := 14) sc__law_shows.nd rfl (Or.inl rfl)) (fun _ _ _ _ _ => pts_nil) (fun _ _ _ _ _ => (pe_callTy call_int1 (by rfl) T.n_int (by decide +kernel) (pa_cons (pv 14) pa_nil))))) pa_nil)) (nomark _)))))) (pss_one (ps_ret pe_bl)) pss_nil)
      (C8.pss_cut (ps_if (pt_cmpR (op_neD (Room.units hr)) (pe_pR (c_Receiver_late (K := K) T) hr (by decide) (pv 0) (by rfl)) (pe_callTy call_tupQ (by rfl) T.n_tuple (by decide +kernel) (pa_cons (pe_lc (own := [("_law_tick_here", 14)]) (g := gName 14) rfl sc__law_shows.nd (pi_list (pv 7)) (blkOk_by (own := [("_law_tick_here", 14)]) (N := nm__law_shows) (sc := defScope s__law_shows) (by decide +kernel)) (fun _ _ _ _ _ => pg_name (i := 14) sc__law_shows.nd rfl (Or.inl rfl)) (fun _ _ _ _ _ => pts_one (pt_not (pt_val (pe_cR (c__law_is_mute (K := K) T) hr (by decide) rfl (pa_cons (pv 1) (pa_cons (pv 14) pa_nil)))))) (fun _ _ _ _ _ => (pv 14))) pa_nil)) (nomark _)) (pss_one (ps_ret pe_bl)) pss_nil)
      (C8.pss_cut (ps_for PassesOwn.never rfl (pi_range1 (by rfl) T.n_range (pa_cons (pe_cR (c__law_bit (K := K) T) hr (by decide) rfl (pa_cons (pe_op op_add (pv 3) pe_int) pa_nil)) pa_nil)) (pg_name (i := 8) sc__law_shows.nd rfl (Or.inl rfl))
      (pss_cons (ps_set (i := 9) sc__law_shows.nd rfl (Or.inl rfl) pe_int)
      (pss_cons (ps_for PassesOwn.never rfl (pi_range1 (by rfl) T.n_range (pa_cons (pe_op op_add (pv 3) pe_int) pa_nil)) (pg_name (i := 10) sc__law_shows.nd rfl (Or.inl rfl))
      (pss_one (ps_if (PW.pt (pw_and (pt_cmpR op_eq (pe_op op_mod (pe_callTy call_int1 (by rfl) T.n_int (by decide +kernel) (pa_cons (pe_op op_fdivW (pv 8) (pe_cR (c__law_bit (K := K) T) hr (by decide) rfl (pa_cons (pv 10) pa_nil))) pa_nil)) pe_int) pe_int (nomark _)) (pw_and (pt_cmpR op_ge (pv 4) (pv 10) (nomark _)) (pw_and1 (pt_not (pt_val (pe_cR (c__law_is_mute (K := K) T) hr (by decide) rfl (pa_cons (pv 1) (pa_cons (pe_op op_sub (pv 4) (pv 10)) pa_nil))))))))) (pss_one (ps_set (i := 9) sc__law_shows.nd rfl (Or.inl rfl) (pe_op op_add (pv 9) (pe_cR (c__law_bit (K := K) T) hr (by decide) rfl (pa_cons (pe_op op_sub (pv 4) (pv 10)) pa_nil))))) pss_nil)))
      (pss_cons (ps_asg (pe_cR (c__law_reduced (K := K) T) hr (by decide) rfl (pa_cons (pv 5) (pa_cons (pv 9) (pa_cons pe_int pa_nil)))) (pg_tup rfl (pgs_cons (pg_name (i := 9) sc__law_shows.nd rfl (Or.inl rfl)) (pgs_cons (pg_name (i := 11) sc__law_shows.nd rfl (Or.inl rfl)) pgs_nil))))
      (pss_one (ps_if (PW.pt (pw_or (pt_cmpR (op_neD (Room.units hr)) (pe_mR (c_Receiver_worth (K := K) T) hr (by decide) (pv 0) (pa_cons (pv 8) pa_nil)) (pe_ifExp (pt_cmpR op_eq (pv 9) pe_int (nomark _)) (pv 11) pe_non) (nomark _)) (pw_or1 (pt_cmpR op_ne (pe_cmpR (op_inO (c_Space_contains (K := K) T) hr (by decide)) (pv 8) (pe_mR (c_Receiver_known (K := K) T) hr (by decide) (pv 0) (pa_cons (pv 3) pa_nil)) rfl) (pe_cmpR op_eq (pv 9) pe_int (nomark _)) (nomark _))))) (pss_one (ps_ret pe_bl)) pss_nil))))))
      (C8.pss_cut (ps_for PassesOwn.never rfl (pi_range1 (by rfl) T.n_range (pa_cons (pv 3) pa_nil)) (pg_name (i := 12) sc__law_shows.nd rfl (Or.inr rfl))
      (pss_cons (ps_set (i := 13) sc__law_shows.nd rfl (Or.inr rfl) (pe_mR (c_Receiver_known (K := K) T) hr (by decide) (pv 0) (pa_cons (pv 12) pa_nil)))
      (pss_cons (ps_if (pt_cmpR (op_neD (Room.units hr)) (pe_lc (own := [("_law_bits", 8)]) (g := gName 8) rfl sc__law_shows.nd (pi_range1 (by rfl) T.n_range (pa_cons (pe_cR (c__law_bit (K := K) T) hr (by decide) rfl (pa_cons (pe_op op_add (pv 12) pe_int) pa_nil)) pa_nil)) (blkOk_by (own := [("_law_bits", 8)]) (N := nm__law_shows) (sc := defScope s__law_shows) (by decide +kernel)) (fun _ _ _ _ _ => pg_name (i := 8) sc__law_shows.nd rfl (Or.inl rfl)) (fun _ _ _ _ _ => pts_one (pt_cmpR op_ne (pe_cmpR (op_inO (c_Space_contains (K := K) T) hr (by decide)) (pv 8) (pv 13) rfl) (pe_cmpR op_notN (pe_mR (c_Receiver_worth (K := K) T) hr (by decide) (pv 0) (pa_cons (pv 8) pa_nil)) pe_non (nomark _)) (nomark _))) (fun _ _ _ _ _ => (pv 8))) (pe_lst pa_nil) (nomark _)) (pss_one (ps_ret pe_bl)) pss_nil)
      (pss_one (ps_if (pt_cmpR (op_neD (Room.units hr)) (pe_lc (own := [("_law_bits", 8)]) (g := gName 8) rfl sc__law_shows.nd (pi_tup (pe_fld (pv 13) rfl)) (blkOk_by (own := [("_law_bits", 8)]) (N := nm__law_shows) (sc := defScope s__law_shows) (by decide +kernel)) (fun _ _ _ _ _ => pg_name (i := 8) sc__law_shows.nd rfl (Or.inl rfl)) (fun _ _ _ _ _ => pts_one (pt_cmpR op_ge (pv 8) (pe_cR (c__law_bit (K := K) T) hr (by decide) rfl (pa_cons (pe_op op_add (pv 12) pe_int) pa_nil)) (nomark _))) (fun _ _ _ _ _ => (pv 8))) (pe_lst pa_nil) (nomark _)) (pss_one (ps_ret pe_bl)) pss_nil)))))
      (pss_one (ps_ret pe_bl)))))))), ?_⟩), hm, F.kp⟩
  obtain ⟨r, a, st, c, d, N, ks, P', L, told, rfl, hR, ok, hk, hst, hj, ag, hN, q⟩ := h
  obtain ⟨kl, dd, est, hkl, hdd⟩ := id hst
  obtain ⟨dx, pl, past, ms, mm, hr', hp, hpast, hl, hmm⟩ := id hR
  have d8 := ok.d8
  refine ⟨_, rfl, st, _, rfl, SqT.of est, rfl, _, _, rfl, _, _, rfl, _, _, rfl, rfl, ?_⟩
  refine ⟨_, rfl, _, rfl, _, _, rfl, rfl, .inl ⟨_, rfl, _, _, rfl, _, rfl, ?_, ?_, fun D nD => ?_⟩⟩
  · split <;> omega
  · split <;> omega
  have eM : (if (N : Int) - 1 - (d : Nat) > 0 then (N : Int) - 1 - (d : Nat) else 0).toNat = N - 1 - d := by split <;> omega
  refine lcV walk_range tb nD (by rw [eM]; omega) (fun i acc => acc = ((List.range i).filter fun n => decide (told.lookup n = none)).map fun n => iN n) rfl (fun _ _ => True.intro) ?_ ?_
  · rintro i x H1 H2 acc K1 K2 hi rfl g ⟨rfl, ex⟩ k1 k2
    obtain rfl : x = iN i := ex.trans (congrArg V.int (by omega))
    refine ⟨rfl, _, rfl, _, rfl, dd, _, rfl, DGet.k (k := Sum.inl (i : Int)) (g.at hdd), _, rfl, ?_⟩
    rw [valV_kvT]
    cases hlk : told.lookup i with
    | some v => exact k2 _ (Gr.refl _) (by rw [List.range_succ, List.filter_append]; simp [hlk])
    | none => exact ⟨_, rfl, k1 _ _ (Gr.refl _) (by rw [List.range_succ, List.filter_append]; simp [hlk])⟩
  rintro H1 acc g1 hD rfl
  rw [eM] at hD
  have hlen := ok.len
  have n4 := ok.n4
  have hRg := hR.gr g1
  have eT : ∀ H2, Gr tb H H2 → H2 dd = some (.dK (kvT told)) := fun H2 g => g.at hdd
  refine ⟨fun σ' H' => Gr tb H H' ∧ H' D = some (.lst (((List.range (N - 1 - d)).filter fun n => decide (told.lookup n = none)).map fun n => iN n)) ∧ σ' = [some (.ref r), some (.ref a), some (.ref st), some (iN d), some (.int ((N : Int) - 1)), some (.ref kl), some (.ref dd), some (.ref D), none, none, none, none, none, none, none], ?_, ?_⟩
  · refine ⟨_, rfl, r, dx, _, rfl, g1.at hr', r, c, d, N, ks, P', told, rfl, hRg, _, rfl, rfl, _, rfl, ?_⟩
    rw [decide_eq_true rfl]
    refine iteF ⟨_, rfl, r, dx, _, rfl, g1.at hr', r, c, d, N, ks, P', told, rfl, hRg, ok, fun a2 H2 ls g2 perm srt ha2 => ?_⟩
    have g12 := g1.trans g2
    have hll : ls.length = told.length := by rw [perm.length_eq, List.length_map]
    refine ⟨_, rfl, a2, dd, _, _, rfl, rfl, ha2, eT H2 g12, by rw [List.length_map, kvT_len, hll], fun p hp => ?_, _, rfl, iteF ?_⟩
    · obtain ⟨n, hn, rfl⟩ := List.mem_map.mp hp
      obtain ⟨v, hv⟩ := lookup_mem' (told := told) (n := n) (perm.mem_iff.mp hn)
      refine ⟨?_, rfl⟩
      show valV (kvT told) (Sum.inl (n : Int)) = _
      rw [valV_kvT, hv] <;> rfl
    refine ⟨_, rfl, r, dx, _, rfl, g12.at hr', r, c, d, N, ks, P', told, rfl, hR.gr g12, ok, fun a3 H3 ls3 g3 perm3 srt3 ha3 => ?_⟩
    have g13 := g12.trans g3
    refine ⟨a3, _, rfl, ha3, fun q4 nq4 => ?_⟩
    have g4 := Gr.new (tb := tb) (o := .lst ((ls3.map fun n : Nat => ((Sum.inl ((n : Nat) : Int) : Key), iN ((told.lookup n).getD 0))).map fun kv => kV kv.1)) nq4
    have e4 : (upd H3 q4 (.lst ((ls3.map fun n : Nat => ((Sum.inl ((n : Nat) : Int) : Key), iN ((told.lookup n).getD 0))).map fun kv => kV kv.1))) q4 = some (.lst (ls3.map fun n => iN n)) := by rw [upd_same, List.map_map] <;> rfl
    generalize upd H3 q4 (.lst ((ls3.map fun n : Nat => ((Sum.inl ((n : Nat) : Int) : Key), iN ((told.lookup n).getD 0))).map fun kv => kV kv.1)) = H4 at g4 e4 ⊢
    have g14 := g13.trans g4
    have ed := eT H4 g14
    refine ⟨dd, _, ed, True.intro, fun od => ?_⟩
    refine ⟨_, rfl, dd, od, rfl, .inl ⟨_, upd_same, fun D5 nD5 => ?_⟩⟩
    refine lcV walk_keys tb nD5 (by rw [kvT_len]; omega) (fun i acc => acc = (told.take i).map fun p => iN p.1) rfl (fun H1 g => g.at upd_same) ?_ ?_
    · rintro i x H5 H6 acc K1 K2 hi rfl g ⟨rfl, kk, v, hkv, rfl⟩ k1 _
      obtain ⟨p, hp, e⟩ := map_at hkv
      injection e with e1 e2
      subst e1
      refine ⟨rfl, _, rfl, .inl ⟨_, rfl, k1 _ _ (Gr.refl _) ?_⟩⟩
      rw [List.take_add_one, hp, List.map_append] <;> rfl
    rintro H5 acc g5 hD5 rfl
    rw [List.take_of_length_le (by rw [kvT_len]; exact Nat.le_refl _)] at hD5
    have hne : D5 ≠ dd := by
      intro z
      rw [z, upd_same] at nD5
      cases nD5
    refine ⟨g5.at upd_same, ?_⟩
    have gu := Gr.unlock ed g5
    have hD6 : (upd H5 dd (.dK (kvT told))) D5 = some (.lst ((told.map fun p => (p.1 : Int)).map V.int)) := by
      rw [upd_ne hne, hD5, List.map_map] <;> rfl
    generalize upd H5 dd (.dK (kvT told)) = H6 at gu hD6 ⊢
    refine ⟨D5, _, rfl, SqL.of hD6, fun ns p perm7 srt7 np => ?_⟩
    have ens : ns = ls3.map fun n : Nat => (n : Int) := by
      have h1 := sortN (k := told.map (·.1)) (by rw [List.map_map]; exact perm7) srt7
      rw [h1, sorted_eq perm3 srt3]
    have g7 := Gr.new (tb := tb) (o := .lst (ns.map V.int)) np
    have e7 : (upd H6 p (.lst (ns.map V.int))) p = some (.lst (ls3.map fun n => iN n)) := by rw [upd_same, ens, List.map_map] <;> rfl
    have e47 := (gu.trans g7).at e4
    refine ⟨_, _, list_dp e47, list_dp e7, list_sh, list_sh, _, rfl, ?_⟩
    rw [(Sh.lst (k := 0) (ds := ls3.map dN) Sh.ns).eqv]
    exact iteF ⟨g14.trans (gu.trans g7), (g2.trans (g3.trans (g4.trans (gu.trans g7)))).at hD, rfl⟩
  rintro σ H2 ⟨g2, hD2, rfl⟩
  refine ⟨fun σ' H' => Gr tb H H' ∧ σ' = [some (.ref r), some (.ref a), some (.ref st), some (iN d), some (.int ((N : Int) - 1)), some (.ref kl), some (.ref dd), some (.ref D), none, none, none, none, none, none, none], ?_, ?_⟩
  · refine ⟨_, rfl, r, dx, _, rfl, g2.at hr', r, c, d, N, ks, P', told, rfl, hR.gr g2, ok, fun a3 H3 g3 ha3 => ?_⟩
    have g23 := g2.trans g3
    have hD3 := g3.at hD2
    refine ⟨_, rfl, D, rfl, ⟨_, SqL.of hD3⟩, fun D4 nD4 => ?_⟩
    have hlf : ((List.range (N - 1 - d)).filter fun n => decide (told.lookup n = none)).length ≤ 51 := by
      have := List.length_filter_le (fun n => decide (told.lookup n = none)) (List.range (N - 1 - d))
      rw [List.length_range] at this
      omega
    generalize hlt : ((List.range (N - 1 - d)).filter fun n => decide (told.lookup n = none)) = lt at hD3 hlf
    refine lcV walk_list tb nD4 (by rw [mtup]; omega) (fun i acc => acc = ((lt.take i).filter fun n => !(tkAt ks n).2).map fun n => iN n) rfl (fun H1 g => SqL.of (g.at hD3)) ?_ ?_
    · rintro i x H4 H5 acc K1 K2 hi rfl g ⟨rfl, hx⟩ k1 k2
      obtain ⟨n, hn, rfl⟩ := map_at hx
      refine ⟨rfl, _, rfl, _, rfl, a, n, ks, rfl, lticks_gr hk (g23.trans g), ok.p.1, _, rfl, ?_⟩
      cases hm : (tkAt ks n).2 with
      | true => exact k2 _ (Gr.refl _) (by rw [List.take_add_one, hn, List.filter_append]; simp [hm])
      | false => exact ⟨_, rfl, k1 _ _ (Gr.refl _) (by rw [List.take_add_one, hn, List.filter_append]; simp [hm])⟩
    rintro H4 acc g4 hD4 rfl
    rw [List.take_of_length_le (by rw [mtup]; exact Nat.le_refl _), ← hlt, List.filter_filter] at hD4
    refine ⟨D4, _, rfl, .inl ⟨SqL.of hD4, fun t nt => ?_⟩⟩
    have gt := Gr.new (tb := tb) (o := .tup (((List.range (N - 1 - d)).filter fun n => !(tkAt ks n).2 && decide (told.lookup n = none)).map fun n => iN n)) nt
    have ef : ((List.range (N - 1 - d)).filter fun n => decide (told.lookup n = none) && !(tkAt ks n).2) = (List.range (N - 1 - d)).filter fun n => !(tkAt ks n).2 && decide (told.lookup n = none) := by
      congr 1
      funext n
      rw [Bool.and_comm]
    rw [ef] at ha3
    have ha5 := (g4.trans gt).at ha3
    refine ⟨_, _, AgesAt.dp ha5, AgesAt.dp upd_same, (Sh.dS _).shaped (by decide), (Sh.dS _).shaped (by decide), _, rfl, ?_⟩
    rw [(Sh.dS _).eqv]
    exact iteF ⟨g23.trans (g4.trans gt), rfl⟩
  rintro σ H3 ⟨g3, rfl⟩
  have p512 : 2 ^ (d + 1) ≤ 512 := Nat.le_trans (Nat.pow_le_pow_right (by decide) (show d + 1 ≤ 9 by omega)) (by decide)
  refine ⟨fun σ' H' => Gr tb H H' ∧ ∃ b m x v, σ' = [some (.ref r), some (.ref a), some (.ref st), some (iN d), some (.int ((N : Int) - 1)), some (.ref kl), some (.ref dd), some (.ref D), b, m, x, v, none, none, none], ?_, ?_⟩
  · refine ⟨_, rfl, _, _, rfl, rfl, d + 1, rfl, by omega, _, rfl, (r62 (n := 2 ^ (d + 1)) (by omega)).1, (r62 (by omega)).2, ?_⟩
    refine for_range (lo := 0) (n := ((2 ^ (d + 1) : Nat) : Int).toNat) (fun i σ H' => Gr tb H H' ∧ ∃ b m x v, σ = [some (.ref r), some (.ref a), some (.ref st), some (iN d), some (.int ((N : Int) - 1)), some (.ref kl), some (.ref dd), some (.ref D), b, m, x, v, none, none, none]) ⟨g3, _, _, _, _, rfl⟩ ?_ ?_
    · rintro b σ H4 hb ⟨g4, b0, m0, x0, v0, rfl⟩
      rw [show V.int (0 + (b : Nat)) = iN b from congrArg V.int (by omega)]
      have hb' : b < 2 ^ (d + 1) := by omega
      refine ⟨_, rfl, _, _, rfl, rfl, _, rfl, by omega, by omega, ?_⟩
      refine for_range (lo := 0) (n := ((d : Int) + 1).toNat) (fun j σ H' => H' = H4 ∧ ∃ x, σ = [some (.ref r), some (.ref a), some (.ref st), some (iN d), some (.int ((N : Int) - 1)), some (.ref kl), some (.ref dd), some (.ref D), some (iN b), some (iN (shMask ks N b j)), x, v0, none, none, none]) ⟨rfl, _, rfl⟩ ?_ ?_
      · rintro j σ H5 hj ⟨rfl, x, rfl⟩
        rw [show V.int (0 + (j : Nat)) = iN j from congrArg V.int (by omega)]
        have hsk : shTerm ks N b j = 0 → ∃ x, [some (V.ref r), some (V.ref a), some (V.ref st), some (iN d), some (V.int ((N : Int) - 1)), some (V.ref kl), some (V.ref dd), some (V.ref D), some (iN b), some (iN (shMask ks N b j)), some (iN j), v0, none, none, none] = [some (V.ref r), some (V.ref a), some (V.ref st), some (iN d), some (V.int ((N : Int) - 1)), some (V.ref kl), some (V.ref dd), some (V.ref D), some (iN b), some (iN (shMask ks N b (j + 1))), x, v0, none, none, none] := fun z => ⟨some (iN j), by
          rw [show shMask ks N b (j + 1) = shMask ks N b j + shTerm ks N b j from rfl, z, Nat.add_zero]⟩
        have hj8 : j ≤ 8 := by omega
        refine ⟨_, rfl, _, rfl, j, rfl, by omega, _, _, rfl, rfl, wide_div (b := 60) ?_ ?_ (by decide) (by decide), .inl ⟨_, rfl, _, _, rfl, rfl, (by show (0 : Int) < 2; decide), rfl, _, rfl, ?_⟩⟩
        · have := Nat.two_pow_pos j
          omega
        · rw [Int.natAbs_natCast]
          exact Nat.pow_lt_pow_right (by decide) (by omega)
        rw [bit_div]
        cases hbt : b.testBit j with
        | false => exact iteF ⟨rfl, hsk (by unfold shTerm; rw [if_neg (fun z => by rw [hbt] at z; cases z.1)])⟩
        | true =>
          refine iteT ⟨_, rfl, _, rfl, _, _, rfl, rfl, _, rfl, ite2 (fun h => ?_) fun h => ?_⟩
          · have hjN : j < N := by have := of_decide_eq_true h; omega
            have en : (N : Int) - 1 - (j : Int) = ((N - 1 - j : Nat) : Int) := by omega
            refine ⟨_, rfl, _, rfl, _, rfl, _, _, rfl, rfl, a, N - 1 - j, ks, congrArg (fun z => [V.ref a, V.int z]) en, lticks_gr hk g4, ok.p.1, _, rfl, ?_⟩
            cases hmu : (tkAt ks (N - 1 - j)).2 with
            | true => exact iteF ⟨rfl, hsk (by unfold shTerm; rw [if_neg (fun z => by rw [hmu] at z; cases z.2.2)])⟩
            | false =>
              refine iteT ⟨_, rfl, _, rfl, _, rfl, _, _, rfl, rfl, N - 1 - j, congrArg (fun z => [V.int z]) en, by omega, _, _, rfl, rfl, rfl, some (iN j), ?_⟩
              have es : shMask ks N b (j + 1) = shMask ks N b j + 2 ^ (N - 1 - j) := by
                show shMask ks N b j + shTerm ks N b j = _
                unfold shTerm
                rw [if_pos ⟨hbt, hjN, hmu⟩]
              rw [es]
              exact congrArg (fun z => [some (V.ref r), some (V.ref a), some (V.ref st), some (iN d), some (V.int ((N : Int) - 1)), some (V.ref kl), some (V.ref dd), some (V.ref D), some (iN b), some (V.int z), some (iN j), v0, none, none, none]) (Int.natCast_add _ _).symm
          · have hjN : ¬ j < N := fun z => h (decide_eq_true (by omega))
            exact iteF ⟨rfl, hsk (by unfold shTerm; rw [if_neg (fun z => hjN z.2.1)])⟩
      rintro σ H5 ⟨rfl, x, rfl⟩
      rw [show ((d : Int) + 1).toNat = d + 1 by omega]
      have hz := ag.zero b hb'
      have hv := ag.val b hb'
      have hkn := ag.kn d b (Nat.le_refl _) hb'
      have hlw := ag.low d (Nat.le_refl _)
      generalize shMask ks N b (d + 1) = sm at hz hv
      refine ⟨_, rfl, _, rfl, kl, sm, 0, L, rfl, hkl.gr g4, hj.nz, fun t nt => ?_⟩
      refine ⟨t, _, rfl, SqT.of upd_same, rfl, _, _, rfl, _, _, rfl, rfl, ?_⟩
      generalize red L sm 0 = rL at hz hv
      have g5 := g4.trans (Gr.new (tb := tb) (o := .tup [iN rL.1, iN rL.2]) nt)
      generalize upd H5 t (.tup [iN rL.1, iN rL.2]) = H6 at g5 ⊢
      refine ⟨_, rfl, r, dx, _, rfl, g5.at hr', rfl, _, rfl, r, c, d, N, b, ks, P', told, rfl, hR.gr g5, ok, hb', fun H7 g7 => ?_⟩
      have g57 := g5.trans g7
      generalize red P' b 0 = rP at hz hv hkn
      refine ⟨_, rfl, rfl, _, rfl, ?_⟩
      rw [zdec]
      by_cases h0 : rP.1 = 0
      case' pos =>
        rw [if_pos h0, decide_eq_true (hz.mp h0)]
        refine iteT ⟨_, rfl, _, _, .int _, .int _, (Sh.int 0 _).shaped (by decide), (Sh.int 0 _).shaped (by decide), _, rfl, ?_⟩
        rw [hv h0, (Sh.int 0 _).eqv]
        refine iteF ?_
      case' neg =>
        rw [if_neg h0, decide_eq_false (fun z => h0 (hz.mpr z))]
        refine iteF ⟨_, _, .non, .non, (Sh.non 0).shaped (by decide), (Sh.non 0).shaped (by decide), _, rfl, ?_⟩
        rw [(Sh.non 0).eqv]
        refine iteF ?_
      all_goals
        refine ⟨_, rfl, _, rfl, r, dx, _, rfl, g57.at hr', rfl, _, rfl, r, c, d, N, d, ks, P', told, rfl, hR.gr g57, ok, Nat.le_refl _, fun s8 H8 g8 hs8 => ?_⟩
        obtain ⟨dxs, ta8, es8, hta8⟩ := id hs8
        refine ⟨s8, dxs, _, rfl, es8, s8, _, b, rfl, hs8, fun o ho => (hlw o ho).1, by omega, _, rfl, ?_⟩
        refine ⟨_, rfl, rfl, rfl, _, rfl, ?_⟩
        rw [zdec, show decide (rb (rrefS (knownL P' d)) b = 0) = decide (rL.1 = 0) from decide_eq_decide.mpr (hkn.trans hz), decide_eq_true rfl]
        exact iteF ⟨g57.trans g8, _, _, _, _, rfl⟩
    · rintro σ H4 ⟨g4, b, m, x, v, rfl⟩
      exact ⟨g4, b, m, x, v, rfl⟩
  rintro σ H4 ⟨g4, b, m, x, v, rfl⟩
  refine ⟨fun σ' H' => Gr tb H H', ?_, fun σ' H' g => ?_⟩
  · refine ⟨_, rfl, (d : Int), rfl, by omega, by omega, ?_⟩
    refine for_range (lo := 0) (n := (d : Int).toNat) (fun i σ H' => Gr tb H H' ∧ ∃ b m x v y z, σ = [some (.ref r), some (.ref a), some (.ref st), some (iN d), some (.int ((N : Int) - 1)), some (.ref kl), some (.ref dd), some (.ref D), b, m, x, v, y, z, none]) ⟨g4, _, _, _, _, _, _, rfl⟩ ?_ (fun σ H' ⟨g, _⟩ => g)
    rintro mo σ H5 hmo ⟨g5, b, m, x, v, y, z, rfl⟩
    rw [show V.int (0 + (mo : Nat)) = iN mo from congrArg V.int (by omega)]
    have hmd : mo ≤ d := by omega
    have hkn := fun b => ag.kn mo b hmd
    have hlw := ag.low mo hmd
    have p2 : 2 ^ (mo + 1) ≤ 2 ^ (d + 1) := Nat.pow_le_pow_right (by decide) (by omega)
    refine ⟨_, rfl, r, dx, _, rfl, g5.at hr', rfl, _, rfl, r, c, d, N, mo, ks, P', told, rfl, hR.gr g5, ok, hmd, fun s6 H6 g6 hs6 => ?_⟩
    have g56 := g5.trans g6
    obtain ⟨dxs, ta6, es6, hta6⟩ := id hs6
    refine ⟨_, rfl, _, _, rfl, rfl, mo + 1, rfl, by omega, _, rfl, (r62 (n := 2 ^ (mo + 1)) (by omega)).1, (r62 (by omega)).2, fun D7 nD7 => ?_⟩
    refine lcV walk_range tb nD7 (by omega) (fun i acc => acc = []) rfl (fun _ _ => True.intro) ?_ ?_
    · rintro i x H7 H8 acc K1 K2 hi rfl g7 ⟨rfl, ex⟩ k1 k2
      obtain rfl : x = iN i := ex.trans (congrArg V.int (by omega))
      have hi' : i < 2 ^ (mo + 1) := by omega
      have g57 := g56.trans g7
      refine ⟨rfl, _, rfl, _, rfl, s6, dxs, _, rfl, g7.at es6, s6, _, i, rfl, hs6.gr g7, fun o ho => (hlw o ho).1, by omega, _, rfl, ?_⟩
      refine ⟨_, rfl, r, dx, _, rfl, g57.at hr', rfl, _, rfl, r, c, d, N, i, ks, P', told, rfl, hR.gr g57, ok, by omega, fun H9 g9 => ?_⟩
      have hk := hkn i hi'
      generalize red P' i 0 = rP at hk
      by_cases h0 : rP.1 = 0
      case' pos => rw [if_pos h0]
      case' neg => rw [if_neg h0]
      all_goals
        refine ⟨rfl, rfl, _, rfl, ?_⟩
        rw [show decide (rb (rrefS (knownL P' mo)) i = 0) = decide (rP.1 = 0) from decide_eq_decide.mpr hk]
        first | rw [decide_eq_true h0] | rw [decide_eq_false h0]
        exact k2 _ g9 rfl
    rintro H7 acc g7 hD7 rfl
    have g57 := g56.trans g7
    refine ⟨(by decide : (0 : Nat) ≤ sizeLine), fun e8 ne8 => ?_⟩
    have g8 := Gr.new (tb := tb) (o := .lst []) ne8
    refine ⟨_, _, .lst (SqL.of (g8.at hD7)) .nil, .lst (SqL.of upd_same) .nil, list_sh (s := []), list_sh (s := []), _, rfl, ?_⟩
    rw [show PyData.eqv (.list []) (.list []) = true from by simp [PyData.eqv, PyData.eqvAll]]
    have g58 := g57.trans g8
    have es8 := (g7.trans g8).at es6
    have hta8 := (g7.trans g8).at hta6
    generalize upd H7 e8 (.lst []) = H8 at g58 es8 hta8 ⊢
    refine iteF ⟨_, rfl, s6, _, dxs, _, _, rfl, es8, T.cl_Space, T.na_Space_rows, rfl, ta6, rfl, ⟨_, SqT.of hta8⟩, fun D9 nD9 => ?_⟩
    have hlen : (rrefS (knownL P' mo)).length ≤ 50 := by
      unfold rrefS
      rw [(List.mergeSort_perm _ _).length_eq]
      have h1 := rref_len (knownL P' mo) []
      have h2 : (knownL P' mo).length ≤ P'.length := by
        unfold knownL
        have := List.length_filter_le (fun o => decide (o < 2 ^ (mo + 1))) (P'.map (·.1))
        rwa [List.length_map] at this
      have h3 := ok.js.len
      have h4 := ageP_le ok.p
      unfold rref
      simp at h1
      omega
    refine lcV walk_tup tb nD9 (by rw [mtup]; omega) (fun i acc => acc = []) rfl (fun H1 g => SqT.of (g.at hta8)) ?_ ?_
    · rintro i x H9 H10 acc K1 K2 hi rfl g9 ⟨rfl, hx⟩ k1 k2
      obtain ⟨o, ho, rfl⟩ := map_at hx
      have hol := (hlw o (List.mem_of_getElem? ho)).2
      refine ⟨rfl, _, rfl, _, rfl, _, _, rfl, rfl, mo + 1, rfl, by omega, _, _, rfl, rfl, _, rfl, ?_⟩
      rw [decide_eq_false (show ¬ ((2 ^ (mo + 1) : Nat) : Int) ≤ (o : Int) by omega)]
      exact iteF (k2 _ (Gr.refl _) rfl)
    rintro H9 acc g9 hD9 rfl
    refine ⟨(by decide : (0 : Nat) ≤ sizeLine), fun e10 ne10 => ?_⟩
    have g10 := Gr.new (tb := tb) (o := .lst []) ne10
    refine ⟨_, _, .lst (SqL.of (g10.at hD9)) .nil, .lst (SqL.of upd_same) .nil, list_sh (s := []), list_sh (s := []), _, rfl, ?_⟩
    rw [show PyData.eqv (.list []) (.list []) = true from by simp [PyData.eqv, PyData.eqvAll]]
    exact iteF ⟨g58.trans (g9.trans g10), _, _, _, _, _, _, rfl⟩
  exact q H' g
end B
end
section
set_option linter.all false
namespace B
open La
/-! ### linear functions of bits -/
def lin (f : Nat → Nat) : Nat → Nat → Nat
  | 0, _ => 0
  | k + 1, m => lin f k m ^^^ (if m.testBit k = true then f k else 0)
theorem ite_xor (a b : Bool) (x : Nat) : (if (a ^^ b) = true then x else 0) = (if a = true then x else 0) ^^^ (if b = true then x else 0) := by
  cases a <;> cases b <;> simp
theorem lin_lin (f : Nat → Nat) (k : Nat) : Lin (lin f k) := by
  intro a b
  induction k with
  | zero => simp [lin]
  | succ k ih =>
    show lin f k (a ^^^ b) ^^^ _ = (lin f k a ^^^ _) ^^^ (lin f k b ^^^ _)
    rw [ih, Nat.testBit_xor, ite_xor]
    ac_rfl
theorem lin_fuel {f : Nat → Nat} {j m : Nat} (h : m < 2 ^ j) : ∀ {k : Nat}, j ≤ k → lin f k m = lin f j m
  | 0, hk => by rw [Nat.le_zero.mp hk]
  | k + 1, hk => by
    by_cases e : j = k + 1
    · rw [e]
    · have := lin_fuel (f := f) h (k := k) (by omega)
      show lin f k m ^^^ _ = _
      rw [this, if_neg (by rw [testBit_small h (by omega)]; exact Bool.false_ne_true), Nat.xor_zero]
theorem lin_two {f : Nat → Nat} {i : Nat} : ∀ {k : Nat}, i < k → lin f k (2 ^ i) = f i
  | 0, h => by omega
  | k + 1, h => by
    show lin f k (2 ^ i) ^^^ _ = _
    rw [Nat.testBit_two_pow]
    by_cases e : i = k
    · subst e
      have : lin f i (2 ^ i) = 0 := by
        have h0 : ∀ k, k ≤ i → lin f k (2 ^ i) = 0 := by
          intro k
          induction k with
          | zero => intro _; rfl
          | succ k ih =>
            intro hk
            show lin f k (2 ^ i) ^^^ _ = _
            rw [ih (by omega), Nat.testBit_two_pow, if_neg (by simp; omega)] <;> rfl
        exact h0 i (Nat.le_refl _)
      rw [this, if_pos (by simp), Nat.zero_xor]
    · rw [lin_two (k := k) (by omega), if_neg (by simpa using e), Nat.xor_zero]
theorem lin_half {f : Nat → Nat} : ∀ (k m : Nat), lin f (k + 1) m = (if m % 2 = 1 then f 0 else 0) ^^^ lin (fun a => f (a + 1)) k (m / 2)
  | 0, m => by
    show 0 ^^^ (if m.testBit 0 = true then f 0 else 0) = _ ^^^ 0
    rw [Nat.zero_xor, Nat.xor_zero, Nat.testBit_zero]
    simp
  | k + 1, m => by
    have ih := lin_half (f := f) k m
    show lin f (k + 1) m ^^^ (if m.testBit (k + 1) = true then f (k + 1) else 0) = _ ^^^ (lin (fun a => f (a + 1)) k (m / 2) ^^^ (if (m / 2).testBit k = true then f (k + 1) else 0))
    rw [ih, Nat.testBit_succ, Nat.xor_assoc]
theorem lin_lt {f : Nat → Nat} {j : Nat} (h : ∀ a, f a < 2 ^ j) : ∀ (k m : Nat), lin f k m < 2 ^ j
  | 0, m => Nat.two_pow_pos _
  | k + 1, m => by
    refine Nat.xor_lt_two_pow (lin_lt h k m) ?_
    split
    · exact h k
    · exact Nat.two_pow_pos _
theorem lin_bit {f : Nat → Nat} {j : Nat} : ∀ {k : Nat} (m : Nat), (∀ a, a < k → (f a).testBit j = false) → (lin f k m).testBit j = false
  | 0, m, _ => Nat.zero_testBit _
  | k + 1, m, h => by
    show (lin f k m ^^^ _).testBit j = false
    rw [Nat.testBit_xor, lin_bit (k := k) m fun a ha => h a (by omega)]
    split
    · rw [h k (by omega)] <;> rfl
    · rw [Nat.zero_testBit] <;> rfl
theorem mod_xor (x y : Nat) : (x ^^^ y) % 2 = (x + y) % 2 := by
  have h : (x ^^^ y).testBit 0 = (x.testBit 0 ^^ y.testBit 0) := Nat.testBit_xor ..
  rw [Nat.testBit_zero, Nat.testBit_zero, Nat.testBit_zero] at h
  have hz := Nat.mod_two_eq_zero_or_one (x ^^^ y)
  rcases Nat.mod_two_eq_zero_or_one x with a | a <;> rcases Nat.mod_two_eq_zero_or_one y with b | b <;> rw [a, b] at h <;> rw [Nat.add_mod, a, b] <;> rcases hz with c | c <;> rw [c] at h ⊢ <;> first | rfl | (revert h; decide)
theorem add_xor : ∀ (j x : Nat), x.testBit j = false → x + 2 ^ j = x ^^^ 2 ^ j
  | 0, x, h => by
    rw [Nat.testBit_zero] at h
    have hx : x % 2 = 0 := by simpa using h
    have h1 : (x ^^^ 2 ^ 0) / 2 = x / 2 := by rw [Nat.xor_div_two] <;> simp
    have h2 : (x ^^^ 2 ^ 0) % 2 = 1 := by rw [mod_xor]; simp; omega
    have e : (2 : Nat) ^ 0 = 1 := rfl
    rw [e] at h1 h2 ⊢
    omega
  | j + 1, x, h => by
    rw [Nat.testBit_succ] at h
    have ih := add_xor j (x / 2) h
    have e : (2 : Nat) ^ (j + 1) = 2 * 2 ^ j := by rw [Nat.pow_succ, Nat.mul_comm]
    have h1 : (x ^^^ 2 ^ (j + 1)) / 2 = x / 2 ^^^ 2 ^ j := by rw [Nat.xor_div_two, e, Nat.mul_div_cancel_left _ (by decide)]
    have h2 : (x ^^^ 2 ^ (j + 1)) % 2 = x % 2 := by rw [mod_xor, e]; omega
    rw [← ih] at h1
    omega
/-! ### from a receiver's bits to the law's -/
def fT (ks : List Tk) (N a : Nat) : Nat := if a < N ∧ (tkAt ks (N - 1 - a)).2 = false then 2 ^ (N - 1 - a) else 0
def Tf (ks : List Tk) (N m : Nat) : Nat := lin (fT ks N) 64 m
def Vf (rs : List Nat) (m : Nat) : Nat := lin (fun i => rs.getD i 0) 64 m
theorem Tf_lin (ks : List Tk) (N : Nat) : Lin (Tf ks N) := lin_lin _ _
theorem Vf_lin (rs : List Nat) : Lin (Vf rs) := lin_lin _ _
theorem Tf_lt (ks : List Tk) (N m : Nat) : Tf ks N m < 2 ^ N := lin_lt (fun a => by
  unfold fT
  split
  · rename_i h
    exact Nat.pow_lt_pow_right (by decide) (by omega)
  · exact Nat.two_pow_pos _) 64 m
theorem shMask_lin (ks : List Tk) (N b : Nat) : ∀ k, shMask ks N b k = lin (fT ks N) k b
  | 0 => rfl
  | k + 1 => by
    show shMask ks N b k + shTerm ks N b k = lin (fT ks N) k b ^^^ (if b.testBit k = true then fT ks N k else 0)
    rw [shMask_lin ks N b k]
    unfold shTerm
    by_cases h1 : b.testBit k = true
    · rw [if_pos h1]
      unfold fT
      by_cases h2 : k < N ∧ (tkAt ks (N - 1 - k)).2 = false
      · rw [if_pos ⟨h1, h2⟩, if_pos h2]
        refine add_xor _ _ (lin_bit b fun a ha => ?_)
        show (if a < N ∧ (tkAt ks (N - 1 - a)).2 = false then 2 ^ (N - 1 - a) else 0).testBit _ = false
        split
        · rw [Nat.testBit_two_pow]
          simp
          omega
        · exact Nat.zero_testBit _
      · rw [if_neg (fun z => h2 z.2), if_neg h2, Nat.add_zero, Nat.xor_zero] <;> rfl
    · rw [if_neg h1, if_neg (fun z => h1 z.1), Nat.add_zero, Nat.xor_zero]
theorem shMask_Tf {ks : List Tk} {N b k : Nat} (h : b < 2 ^ k) (hk : k ≤ 64) : shMask ks N b k = Tf ks N b := by
  rw [shMask_lin]
  exact (lin_fuel h hk).symm
theorem Tf_step {ks : List Tk} {N m : Nat} (h : m < 2 ^ 60) : Tf ks (N + 1) m = (if m % 2 = 1 ∧ (tkAt ks N).2 = false then 2 ^ N else 0) ^^^ Tf ks N (m / 2) := by
  show lin (fT ks (N + 1)) (63 + 1) m = _
  rw [lin_half]
  have e1 : (fun a => fT ks (N + 1) (a + 1)) = fT ks N := by
    funext a
    unfold fT
    rw [show N + 1 - 1 - (a + 1) = N - 1 - a by omega]
    by_cases h : a < N ∧ (tkAt ks (N - 1 - a)).2 = false
    · rw [if_pos h, if_pos ⟨by omega, h.2⟩]
    · rw [if_neg h, if_neg (fun z => h ⟨by omega, z.2⟩)]
  have e2 : lin (fT ks N) 63 (m / 2) = Tf ks N (m / 2) := by
    have hm : m / 2 < 2 ^ 63 := by omega
    exact (lin_fuel hm (by decide)).symm
  rw [e1, e2]
  congr 1
  unfold fT
  rw [show N + 1 - 1 - 0 = N by omega]
  by_cases h1 : m % 2 = 1
  · rw [if_pos h1]
    by_cases h2 : (tkAt ks N).2 = false
    · rw [if_pos ⟨Nat.succ_pos _, h2⟩, if_pos ⟨h1, h2⟩]
    · rw [if_neg (fun z => h2 z.2), if_neg (fun z => h2 z.2)]
  · rw [if_neg h1, if_neg (fun z => h1 z.1)]
end B
end
section
set_option linter.all false
namespace B
open La
abbrev fsts (P : List (Nat × Nat)) : List Nat := P.map (·.1)
section
variable {S : Nat} {P : List (Nat × Nat)} {b v m : Nat}
theorem JS.iff (j : JS S P) : rb (fsts P) m = 0 ↔ Span (fsts P) m := rb_iff (j.desc.ech j.nz1) j.nz1
theorem rb_add0 {P : List Nat} {m b : Nat} (h : rb P b = 0) : rb P (m ^^^ b) = rb P m := by rw [rb_lin P, h, Nat.xor_zero]
theorem with_rb (j : JS S P) (hb : b < 2 ^ (S + 1)) : rb (fsts (withL P b v)) m = 0 ↔ rb (fsts P) m = 0 ∨ rb (fsts P) (m ^^^ b) = 0 := by
  by_cases h : (red P b v).1 = 0
  · have e : withL P b v = P := by unfold withL; rw [if_pos h]
    rw [red_fst] at h
    rw [e, rb_add0 h, or_self]
  · rw [(j.with (v := v) hb).iff, with_span (withL_fst h).1, span_cons, j.iff, j.iff]
theorem with_val (j : JS S P) {val : Nat → Nat} (hv : Lin val) (hP : ∀ p ∈ P, p.2 = val p.1) (ev : v = val b) : ∀ p ∈ withL P b v, p.2 = val p.1 := by
  subst ev
  have hr : (red P b (val b)).2 = val (red P b (val b)).1 := red_valv hv hP
  unfold withL
  split
  · exact hP
  · intro p hp
    have hp := (List.mergeSort_perm _ _).mem_iff.mp hp
    rcases List.mem_append.mp hp with hp | hp
    · obtain ⟨q, hq, rfl⟩ := List.mem_map.mp hp
      unfold lessp
      split
      · show q.2 ^^^ _ = val (q.1 ^^^ _)
        rw [hv, hP q hq, hr]
      · exact hP q hq
    · rw [List.mem_singleton.mp hp]; exact hr
theorem addL_perm (h : (red P b v).1 ≠ 0) : (addL P b v).Perm (red P b v :: P) := by
  unfold addL
  rw [if_neg h]
  have := List.perm_middle (a := red P b v) (l₁ := P.take (spotL P (red P b v).1)) (l₂ := P.drop (spotL P (red P b v).1))
  rw [List.take_append_drop] at this
  exact this
theorem add_rb (j : JS S P) (hb : b < 2 ^ (S + 1)) : rb (fsts (addL P b v)) m = 0 ↔ rb (fsts P) m = 0 ∨ rb (fsts P) (m ^^^ b) = 0 := by
  by_cases h : (red P b v).1 = 0
  · have e : addL P b v = P := by unfold addL; rw [if_pos h]
    rw [red_fst] at h
    rw [e, rb_add0 h, or_self]
  · have hp := (addL_perm h).map (·.1)
    rw [(j.add (v := v) hb).iff, j.iff, j.iff]
    have e1 : Span (fsts (addL P b v)) m ↔ Span ((red P b v).1 :: fsts P) m := by
      constructor
      · exact Span.mono fun p hq => by rw [← List.map_cons (f := fun x : Nat × Nat => x.1)]; exact hp.mem_iff.mp hq
      · exact Span.mono fun p hq => by rw [← List.map_cons (f := fun x : Nat × Nat => x.1)] at hq; exact hp.mem_iff.mpr hq
    rw [e1, span_cons, red_fst]
    have hs := rb_span (fsts P) b
    constructor
    · rintro (h1 | h1)
      · exact .inl h1
      · refine .inr ?_
        have := h1.xor hs
        have e : m ^^^ rb (fsts P) b ^^^ (b ^^^ rb (fsts P) b) = m ^^^ b := by
          rw [Nat.xor_comm b, ← Nat.xor_assoc, Nat.xor_assoc m, Nat.xor_self, Nat.xor_zero]
        rw [e] at this
        exact this
    · rintro (h1 | h1)
      · exact .inl h1
      · refine .inr ?_
        have := h1.xor hs
        have e : m ^^^ b ^^^ (b ^^^ rb (fsts P) b) = m ^^^ rb (fsts P) b := by
          rw [← Nat.xor_assoc, Nat.xor_assoc m, Nat.xor_self, Nat.xor_zero]
        rw [e] at this
        exact this
theorem add_val (j : JS S P) {val : Nat → Nat} (hv : Lin val) (hP : ∀ p ∈ P, p.2 = val p.1) (ev : v = val b) : ∀ p ∈ addL P b v, p.2 = val p.1 := by
  subst ev
  have hr : (red P b (val b)).2 = val (red P b (val b)).1 := red_valv hv hP
  by_cases h : (red P b (val b)).1 = 0
  · unfold addL
    rw [if_pos h]
    exact hP
  · intro p hp
    rcases List.mem_cons.mp ((addL_perm h).mem_iff.mp hp) with rfl | hp
    · exact hr
    · exact hP p hp
theorem add_lt {N : Nat} (hP : ∀ p ∈ P, p.1 < 2 ^ N) (hb : b < 2 ^ N) : ∀ p ∈ addL P b v, p.1 < 2 ^ N := by
  by_cases h : (red P b v).1 = 0
  · unfold addL
    rw [if_pos h]
    exact hP
  · intro p hp
    rcases List.mem_cons.mp ((addL_perm h).mem_iff.mp hp) with rfl | hp
    · rw [red_fst]
      exact rb_lt (fun o ho => by obtain ⟨q, hq, rfl⟩ := List.mem_map.mp ho; exact hP q hq) hb
    · exact hP p hp
/-- one tick older -/
theorem older_fst : fsts (olderL S P) = ((fsts P).map (2 * ·)).filter fun o => decide (o < 2 ^ (S + 1)) := by
  unfold olderL fsts
  rw [List.map_map, List.map_map, List.filter_map]
  congr 1
  · funext p
    show p.1 * 2 = 2 * p.1
    omega
  · congr 1
    funext p
    show decide (p.1 * 2 < _) = decide (2 * p.1 < _)
    rw [Nat.mul_comm]
theorem older_rb (j : JS S P) (hm : m < 2 ^ (S + 1)) : rb (fsts (olderL S P)) m = 0 ↔ m % 2 = 0 ∧ rb (fsts P) (m / 2) = 0 := by
  rw [older_fst, rb_filter (fun o ho => by
    obtain ⟨q, hq, rfl⟩ := List.mem_map.mp ho
    have := j.nz1 q hq
    show 2 * q ≠ 0
    omega) hm]
  have e : m = 2 * (m / 2) + m % 2 := by omega
  have := rb_dbl j.nz1 (m / 2) (m % 2) (by omega)
  rw [← e] at this
  rw [this]
  show 2 * rb (fsts P) (m / 2) + m % 2 = 0 ↔ m % 2 = 0 ∧ rb (fsts P) (m / 2) = 0
  generalize rb (fsts P) (m / 2) = x
  omega
end
/-! ### a receiver and the law's own elimination -/
structure Rel (ks : List Tk) (rs : List Nat) (d N : Nat) (P L : List (Nat × Nat)) : Prop where
  jp : JS (d + ageP ks) P
  jl : JS 59 L
  ll : ∀ p ∈ L, p.1 < 2 ^ N
  lv : ∀ p ∈ L, p.2 = Vf rs p.1
  pv : ∀ p ∈ P, p.2 = Vf rs (Tf ks N p.1)
  sp : ∀ m, m < 2 ^ (d + ageP ks + 1) → (rb (fsts P) m = 0 ↔ rb (fsts L) (Tf ks N m) = 0)
section
variable {ks : List Tk} {rs : List Nat} {d N : Nat} {P L : List (Nat × Nat)}
theorem high_rb {L : List Nat} {N x : Nat} (h : ∀ o ∈ L, o < 2 ^ N) (h0 : ∀ o ∈ L, o ≠ 0) (hx : x < 2 ^ N) : rb L (2 ^ N ^^^ x) ≠ 0 := by
  have e : ∀ L : List Nat, (∀ o ∈ L, o < 2 ^ N) → (∀ o ∈ L, o ≠ 0) → rb L (2 ^ N) = 2 ^ N := by
    intro L
    induction L with
    | nil => intro _ _; rfl
    | cons o L ih =>
      intro h h0
      have ho := log2_lt_of (h0 o List.mem_cons_self) (h o List.mem_cons_self)
      rw [rb_cons, if_neg (by rw [Nat.testBit_two_pow]; simp; omega)]
      exact ih (fun p hp => h p (List.mem_cons_of_mem _ hp)) fun p hp => h0 p (List.mem_cons_of_mem _ hp)
  rw [rb_lin L, e L h h0]
  intro z
  have := xor_zero z
  have := rb_lt h hx
  omega
theorem Rel.step (R : Rel ks rs d N P L) (hS : d + ageP ks ≤ 20) : Rel ks rs d (N + 1) (stepL ks (d + ageP ks) N P) L := by
  have hS1 : 2 ^ (d + ageP ks + 1) ≤ 2 ^ 60 := Nat.pow_le_pow_right (by decide) (by omega)
  have hl1 : ∀ o ∈ fsts L, o < 2 ^ N := fun o ho => by
    obtain ⟨q, hq, rfl⟩ := List.mem_map.mp ho
    exact R.ll q hq
  have hov : ∀ p ∈ olderL (d + ageP ks) P, p.2 = Vf rs (Tf ks (N + 1) p.1) := by
    intro p hp
    obtain ⟨q, hq, rfl⟩ := List.mem_map.mp hp
    have hq1 := R.jp.lt q (List.mem_filter.mp hq).1
    have hq2 : q.1 * 2 < 2 ^ (d + ageP ks + 1) := of_decide_eq_true (List.mem_filter.mp hq).2
    show q.2 = Vf rs (Tf ks (N + 1) (q.1 * 2))
    rw [Tf_step (by omega), if_neg (by omega), Nat.zero_xor, show q.1 * 2 / 2 = q.1 by omega]
    exact R.pv q (List.mem_filter.mp hq).1
  have hosp : ∀ m, m < 2 ^ (d + ageP ks + 1) → (rb (fsts (olderL (d + ageP ks) P)) m = 0 ↔ m % 2 = 0 ∧ rb (fsts L) (Tf ks N (m / 2)) = 0) := fun m hm => by
    rw [older_rb R.jp hm, R.sp (m / 2) (by omega)]
  have hll : ∀ p ∈ L, p.1 < 2 ^ (N + 1) := fun p hp => Nat.lt_of_lt_of_le (R.ll p hp) (Nat.pow_le_pow_right (by decide) (by omega))
  unfold stepL
  by_cases hmu : (tkAt ks N).2 = true
  · rw [if_pos hmu]
    have h1lt : (1 : Nat) < 2 ^ (d + ageP ks + 1) := Nat.one_lt_two_pow (by omega)
    have hT1 : Tf ks (N + 1) 1 = 0 := by
      rw [Tf_step (by decide), if_neg (fun z => by rw [hmu] at z; cases z.2), Nat.zero_xor]
      exact (Tf_lin ks N).zero
    refine ⟨R.jp.older.with h1lt, R.jl, hll, R.lv, ?_, fun m hm => ?_⟩
    · exact with_val R.jp.older (val := fun x => Vf rs (Tf ks (N + 1) x)) (fun a b => by show Vf rs (Tf ks (N + 1) (a ^^^ b)) = _; rw [Tf_lin, Vf_lin]) hov (by show 0 = Vf rs (Tf ks (N + 1) 1); rw [hT1]; exact (Vf_lin rs).zero.symm)
    · rw [with_rb R.jp.older h1lt, hosp m hm, hosp (m ^^^ 1) (Nat.xor_lt_two_pow hm h1lt), Tf_step (by omega), if_neg (fun z => by rw [hmu] at z; cases z.2), Nat.zero_xor]
      have e1 : (m ^^^ 1) / 2 = m / 2 := by rw [Nat.xor_div_two] <;> simp
      have e2 : (m ^^^ 1) % 2 = (m + 1) % 2 := mod_xor m 1
      rw [e1, e2]
      rcases Nat.mod_two_eq_zero_or_one m with h | h
      · have : (m + 1) % 2 = 1 := by omega
        simp [h, this]
      · have : (m + 1) % 2 = 0 := by omega
        simp [h, this]
  · rw [if_neg hmu]
    refine ⟨R.jp.older, R.jl, hll, R.lv, hov, fun m hm => ?_⟩
    rw [hosp m hm, Tf_step (by omega)]
    have hmu' : (tkAt ks N).2 = false := Bool.eq_false_iff.mpr hmu
    rcases Nat.mod_two_eq_zero_or_one m with h | h
    · rw [if_neg (fun z => by omega), Nat.zero_xor]
      simp [h]
    · rw [if_pos ⟨h, hmu'⟩]
      have := high_rb hl1 R.jl.nz1 (Tf_lt ks N (m / 2))
      simp [h, this]
theorem Rel.pass (hS : d + ageP ks ≤ 20) : ∀ {k N : Nat} {P : List (Nat × Nat)}, Rel ks rs d N P L → Rel ks rs d (N + k) (passL ks (d + ageP ks) N k P) L
  | 0, _, _, R => R
  | k + 1, N, P, R => by
    have := Rel.pass hS (k := k) (R.step hS)
    rw [show N + 1 + k = N + (k + 1) by omega] at this
    exact this
/-- one sum more, on both sides -/
theorem Rel.add (R : Rel ks rs d N P L) {b v : Nat} (hb : b < 2 ^ (d + ageP ks + 1)) (hN : N ≤ 60) (hv : v = Vf rs (Tf ks N b)) : Rel ks rs d N (withL P b v) (addL L (Tf ks N b) v) := by
  have hT := Tf_lt ks N b
  have hT60 : Tf ks N b < 2 ^ (59 + 1) := Nat.lt_of_lt_of_le hT (Nat.pow_le_pow_right (by decide) (by omega))
  refine ⟨R.jp.with hb, R.jl.add hT60, add_lt R.ll hT, add_val R.jl (Vf_lin rs) R.lv hv, ?_, fun m hm => ?_⟩
  · exact with_val R.jp (val := fun x => Vf rs (Tf ks N x)) (fun a b => by show Vf rs (Tf ks N (a ^^^ b)) = _; rw [Tf_lin, Vf_lin]) R.pv hv
  · rw [with_rb R.jp hb, add_rb R.jl hT60, R.sp m hm, R.sp (m ^^^ b) (Nat.xor_lt_two_pow hm hb), Tf_lin]
end
end B
end
section
set_option linter.all false
namespace B
open La
section
variable {ks : List Tk} {rs : List Nat} {d N n : Nat} {P L : List (Nat × Nat)} {s : List Nat}
/-! ### a sum's mask, its part -/
def mX (s : List Nat) : Nat := s.foldl (fun m a => m ^^^ 2 ^ a) 0
theorem mask_mX (s : List Nat) (h : s.Pairwise (· < ·)) : maskOf s = mX s := by
  have : ∀ (s : List Nat) (m : Nat), s.Pairwise (· < ·) → (∀ a ∈ s, ∀ j, a ≤ j → m.testBit j = false) → s.foldl (fun m a => m ||| 2 ^ a) m = s.foldl (fun m a => m ^^^ 2 ^ a) m := by
    intro s
    induction s with
    | nil => intro m _ _; rfl
    | cons a s ih =>
      intro m hp hb
      obtain ⟨h1, h2⟩ := List.pairwise_cons.mp hp
      have e : m ||| 2 ^ a = m ^^^ 2 ^ a := Nat.eq_of_testBit_eq fun i => by
        rw [Nat.testBit_or, Nat.testBit_xor, Nat.testBit_two_pow]
        by_cases hi : a = i
        · subst hi
          rw [hb a List.mem_cons_self a (Nat.le_refl _), Bool.false_or, Bool.false_xor]
        · simp [hi]
      show s.foldl _ (m ||| 2 ^ a) = s.foldl _ (m ^^^ 2 ^ a)
      rw [e]
      refine ih _ h2 fun b hb2 j hj => ?_
      have := h1 b hb2
      rw [Nat.testBit_xor, hb a List.mem_cons_self j (by omega), Nat.testBit_two_pow]
      simp
      omega
  exact this s 0 h fun a _ j _ => Nat.zero_testBit j
theorem fold_lin {g : Nat → Nat} (hg : Lin g) {f t : Nat → Nat} (h : ∀ a ∈ s, g (f a) = t a) : ∀ m, g (s.foldl (fun m a => m ^^^ f a) m) = s.foldl (fun m a => m ^^^ t a) (g m) := by
  induction s with
  | nil => intro m; rfl
  | cons a s ih =>
    intro m
    show g (s.foldl _ (m ^^^ f a)) = s.foldl _ (g m ^^^ t a)
    rw [ih (fun b hb => h b (List.mem_cons_of_mem _ hb)), hg, h a List.mem_cons_self]
theorem shl_lin (k : Nat) : Lin fun m => m * 2 ^ k := fun a b => by
  show (a ^^^ b) * 2 ^ k = a * 2 ^ k ^^^ b * 2 ^ k
  rw [← Nat.shiftLeft_eq, ← Nat.shiftLeft_eq, ← Nat.shiftLeft_eq, Nat.shiftLeft_xor_distrib]
theorem lawMask_xor (s : List Nat) (h : s.Pairwise (· < ·)) : lawMask ks n s = s.foldl (fun m a => m ^^^ lawTerm ks n a) 0 := by
  have : ∀ (s : List Nat) (m : Nat), s.Pairwise (· < ·) → (∀ a ∈ s, ∀ j, j + a ≤ n → m.testBit j = false) → s.foldl (fun m a => m + lawTerm ks n a) m = s.foldl (fun m a => m ^^^ lawTerm ks n a) m := by
    intro s
    induction s with
    | nil => intro m _ _; rfl
    | cons a s ih =>
      intro m hp hb
      obtain ⟨h1, h2⟩ := List.pairwise_cons.mp hp
      have e : m + lawTerm ks n a = m ^^^ lawTerm ks n a := by
        unfold lawTerm
        split
        · rename_i hc
          exact add_xor _ _ (hb a List.mem_cons_self _ (by omega))
        · rw [Nat.add_zero, Nat.xor_zero]
      show s.foldl _ (m + lawTerm ks n a) = s.foldl _ (m ^^^ lawTerm ks n a)
      rw [e]
      refine ih _ h2 fun b hb2 j hj => ?_
      have hab := h1 b hb2
      rw [Nat.testBit_xor, hb a List.mem_cons_self j (by omega)]
      unfold lawTerm
      split
      · rw [Nat.testBit_two_pow]
        simp
        omega
      · rw [Nat.zero_testBit] <;> rfl
  exact this s 0 h fun a _ j _ => Nat.zero_testBit j
theorem Tf_sum (ok : OkS s) (hn : n < N) (hN : N - 1 - n ≤ 20) : Tf ks N (maskOf s * 2 ^ (N - 1 - n)) = lawMask ks n s := by
  rw [mask_mX s ok.2.1, lawMask_xor s ok.2.1]
  have hg : Lin fun m => Tf ks N (m * 2 ^ (N - 1 - n)) := fun a b => by
    show Tf ks N ((a ^^^ b) * 2 ^ (N - 1 - n)) = _
    rw [show (a ^^^ b) * 2 ^ (N - 1 - n) = a * 2 ^ (N - 1 - n) ^^^ b * 2 ^ (N - 1 - n) from shl_lin (N - 1 - n) a b, Tf_lin]
  have := fold_lin (s := s) hg (f := fun a => 2 ^ a) (t := lawTerm ks n) (fun a ha => by
    have a8 := ok.2.2 a ha
    show Tf ks N (2 ^ a * 2 ^ (N - 1 - n)) = _
    rw [← Nat.pow_add]
    unfold Tf
    rw [lin_two (by omega)]
    unfold fT lawTerm
    by_cases h : a ≤ n
    · rw [show N - 1 - (a + (N - 1 - n)) = n - a by omega]
      by_cases h2 : (tkAt ks (n - a)).2 = false
      · rw [if_pos ⟨by omega, h2⟩, if_pos ⟨h, h2⟩]
      · rw [if_neg (fun z => h2 z.2), if_neg (fun z => h2 z.2)]
    · rw [if_neg (fun z => by omega), if_neg (fun z => h z.1)]) 0
  have e0 : Tf ks N (0 * 2 ^ (N - 1 - n)) = 0 := by rw [Nat.zero_mul]; exact (Tf_lin ks N).zero
  simp only [e0] at this
  exact this
theorem part_val (ok : OkS s) (hn : n < 60) (hz : ∀ i, i ≤ n → (tkAt ks i).2 = true → rs.getD i 0 = 0) : lawPart rs n s = Vf rs (lawMask ks n s) := by
  rw [lawMask_xor s ok.2.1]
  have := fold_lin (s := s) (Vf_lin rs) (f := lawTerm ks n) (t := fun a => if a ≤ n then rs.getD (n - a) 0 else 0) (fun a ha => by
    unfold lawTerm
    by_cases h : a ≤ n
    · rw [if_pos h]
      by_cases h2 : (tkAt ks (n - a)).2 = false
      · rw [if_pos ⟨h, h2⟩]
        unfold Vf
        rw [lin_two (by omega)]
      · rw [if_neg (fun z => h2 z.2), (Vf_lin rs).zero]
        exact (hz (n - a) (by omega) (Bool.not_eq_false _ ▸ h2 : (tkAt ks (n - a)).2 = true)).symm
    · rw [if_neg h, if_neg (fun z => h z.1), (Vf_lin rs).zero]) 0
  rw [(Vf_lin rs).zero] at this
  exact this.symm
theorem Rel.hear (R : Rel ks rs d N P L) (ok : OkP ks) (hd : d ≤ 8) (hn : n < 50) (hN : N ≤ 51) (hold : ¬ n + d + 1 < N) (hz : ∀ i, i ≤ n → (tkAt ks i).2 = true → rs.getD i 0 = 0) :
    Rel ks rs d (max N (n + 1)) (hearP ks d N n P ((tkAt ks n).1.map (lawPart rs n))) (hearA ks n L ((tkAt ks n).1.map (lawPart rs n))) := by
  have hA := ageP_le ok
  have hk := tkAt_mem ok.1 n
  have okt := ok.2.2 _ hk
  have R1 := R.pass (by omega) (k := max N (n + 1) - N)
  rw [show N + (max N (n + 1) - N) = max N (n + 1) by omega] at R1
  unfold hearP hearA
  have hM : n < max N (n + 1) := by omega
  have hM2 : max N (n + 1) ≤ 51 := by omega
  have hlag : max N (n + 1) - 1 - n ≤ d := by omega
  generalize max N (n + 1) = M at R1 hM hM2 hlag ⊢
  generalize passL ks (d + ageP ks) N (M - N) P = P1 at R1
  have : ∀ (ss : List (List Nat)) (P L : List (Nat × Nat)), (∀ s ∈ ss, s ∈ (tkAt ks n).1) → Rel ks rs d M P L →
      Rel ks rs d M (foldW P ((ss.map fun s => maskOf s * 2 ^ (M - 1 - n)).zip (ss.map (lawPart rs n)))) (foldA L ((ss.map (lawMask ks n)).zip (ss.map (lawPart rs n)))) := by
    intro ss
    induction ss with
    | nil => intro P L _ R; exact R
    | cons s ss ih =>
      intro P L hs R
      have hsm := hs s List.mem_cons_self
      have oks := okt.1 s hsm
      have e := Tf_sum (ks := ks) (N := M) oks hM (by omega)
      have hb : maskOf s * 2 ^ (M - 1 - n) < 2 ^ (d + ageP ks + 1) := by
        have h1 : maskOf s < 2 ^ (ageP ks + 1) := maskOf_lt fun a ha => age_le ok hk hsm ha
        calc maskOf s * 2 ^ (M - 1 - n) < 2 ^ (ageP ks + 1) * 2 ^ (M - 1 - n) := Nat.mul_lt_mul_of_pos_right h1 (Nat.two_pow_pos _)
          _ ≤ 2 ^ (ageP ks + 1) * 2 ^ d := Nat.mul_le_mul_left _ (Nat.pow_le_pow_right (by decide) hlag)
          _ = 2 ^ (d + ageP ks + 1) := by rw [← Nat.pow_add]; congr 1; omega
      have R2 := R.add (v := lawPart rs n s) hb (by omega) (by rw [e]; exact part_val oks (by omega) hz)
      rw [e] at R2
      exact ih _ _ (fun t ht => hs t (List.mem_cons_of_mem _ ht)) R2
  exact this _ _ _ (fun s h => h) R1
/-! ### what is found -/
theorem Rel.red_zero (R : Rel ks rs d N P L) {m : Nat} (hm : m < 2 ^ (d + ageP ks + 1)) : (red P m 0).1 = 0 ↔ (red L (Tf ks N m) 0).1 = 0 := by
  rw [red_fst, red_fst]
  exact R.sp m hm
theorem Rel.red_value (R : Rel ks rs d N P L) {m : Nat} (hm : m < 2 ^ (d + ageP ks + 1)) (h : (red P m 0).1 = 0) : (red P m 0).2 = (red L (Tf ks N m) 0).2 := by
  have h1 := red_val0 (val := fun x => Vf rs (Tf ks N x)) (fun a b => by show Vf rs (Tf ks N (a ^^^ b)) = _; rw [Tf_lin, Vf_lin]) R.pv h
  have h2 := red_val0 (Vf_lin rs) R.lv ((R.red_zero hm).mp h)
  rw [h1, h2]
theorem fr_eq (R : Rel ks rs d N P L) (hd : d ≤ 8) (told : List (Nat × Nat)) {i : Nat} (hi : i ≤ d) (hN : d - i < N) : frF ks d N P told i = frG ks L told (N - 1 - (d - i)) := by
  have hlt : 2 ^ (d - i) < 2 ^ (d + ageP ks + 1) := Nat.pow_lt_pow_right (by decide) (by omega)
  have eT : (tkAt ks (N - 1 - (d - i))).2 = false → Tf ks N (2 ^ (d - i)) = 2 ^ (N - 1 - (d - i)) := fun h => by
    unfold Tf
    rw [lin_two (by omega)]
    unfold fT
    rw [if_pos ⟨hN, h⟩]
  unfold frF frG
  by_cases hm : (tkAt ks (N - 1 - (d - i))).2 = false
  · have h1 := R.red_zero hlt
    have h2 := R.red_value hlt
    rw [eT hm] at h1 h2
    by_cases h0 : (red P (2 ^ (d - i)) 0).1 = 0
    · by_cases ht : told.lookup (N - 1 - (d - i)) = none
      · rw [if_pos ⟨hN, h0, ht, hm⟩, if_pos ⟨h1.mp h0, ht, hm⟩, h2 h0]
      · rw [if_neg (fun z => ht z.2.2.1), if_neg (fun z => ht z.2.1)]
    · rw [if_neg (fun z => h0 z.2.1), if_neg (fun z => h0 (h1.mpr z.1))]
  · rw [if_neg (fun z => hm z.2.2.2), if_neg (fun z => hm z.2.2)]
theorem fmc {α β : Type} {f g : α → Option β} : ∀ {l : List α}, (∀ x ∈ l, f x = g x) → l.filterMap f = l.filterMap g
  | [], _ => rfl
  | x :: l, h => by
    rw [List.filterMap_cons, List.filterMap_cons, h x List.mem_cons_self, fmc (l := l) fun y hy => h y (List.mem_cons_of_mem _ hy)]
theorem fresh_found (R : Rel ks rs d N P L) (hd : d ≤ 8) (told : List (Nat × Nat)) : freshL ks d N P told = foundA ks d N L told := by
  unfold freshL foundA
  by_cases h : d + 1 ≤ N
  · rw [show N - (N - 1 - d) = d + 1 by omega]
    refine fmc fun i hi => ?_
    have := List.mem_range.mp hi
    rw [fr_eq R hd told (by omega) (by omega), show N - 1 - (d - i) = N - 1 - d + i by omega]
  · rw [show N - (N - 1 - d) = N by omega, show d + 1 = (d + 1 - N) + N by omega, List.range_add, List.filterMap_append, List.filterMap_map]
    have e1 : (List.range (d + 1 - N)).filterMap (frF ks d N P told) = [] := by
      refine List.filterMap_eq_nil_iff.mpr fun i hi => ?_
      have := List.mem_range.mp hi
      unfold frF
      rw [if_neg (fun z => by omega)]
    rw [e1, List.nil_append]
    refine fmc fun i hi => ?_
    have := List.mem_range.mp hi
    show frF ks d N P told (d + 1 - N + i) = _
    rw [fr_eq R hd told (by omega) (by omega), show N - 1 - (d - (d + 1 - N + i)) = N - 1 - d + i by omega]
end
end B
end
section
set_option linter.all false
namespace B
open La
theorem stepR_span {f : List Nat} {n m : Nat} : Span (stepR f n) m ↔ Span (n :: f) m := by
  unfold stepR
  split
  · rename_i h
    rw [span_cons]
    have hn := span_of_rb h
    constructor
    · exact .inl
    · rintro (h1 | h1)
      · exact h1
      · have := h1.xor hn
        rw [Nat.xor_assoc, Nat.xor_self, Nat.xor_zero] at this
        exact this
  · exact with_span (List.Perm.refl _)
theorem fold_span : ∀ (ns f : List Nat) {m : Nat}, Span (ns.foldl stepR f) m ↔ Span (f ++ ns) m
  | [], f, m => by rw [List.append_nil] <;> rfl
  | n :: ns, f, m => by
    show Span (ns.foldl stepR (stepR f n)) m ↔ _
    rw [fold_span ns (stepR f n)]
    have a : ∀ p ∈ stepR f n ++ ns, Span (f ++ n :: ns) p := fun p hp => by
      rcases List.mem_append.mp hp with hp | hp
      · exact (stepR_span.mp (Span.one hp)).mono fun q hq => by
          rcases List.mem_cons.mp hq with rfl | hq
          · exact List.mem_append_right _ List.mem_cons_self
          · exact List.mem_append_left _ hq
      · exact Span.one (List.mem_append_right _ (List.mem_cons_of_mem _ hp))
    have b : ∀ p ∈ f ++ n :: ns, Span (stepR f n ++ ns) p := fun p hp => by
      rcases List.mem_append.mp hp with hp | hp
      · exact (stepR_span.mpr (Span.one (List.mem_cons_of_mem _ hp))).mono fun q hq => List.mem_append_left _ hq
      · rcases List.mem_cons.mp hp with rfl | hp
        · exact (stepR_span.mpr (Span.one List.mem_cons_self)).mono fun q hq => List.mem_append_left _ hq
        · exact Span.one (List.mem_append_right _ hp)
    exact ⟨Span.sub a, Span.sub b⟩
theorem rref_span {ns : List Nat} {m : Nat} : Span (rref ns) m ↔ Span ns m := fold_span ns []
structure RR (k : Nat) (ns : List Nat) : Prop where
  red : Red (rrefS ns)
  nz : ∀ o ∈ rrefS ns, o ≠ 0
  lt : ∀ o ∈ rrefS ns, o < 2 ^ k
theorem rr_of {k : Nat} {ns : List Nat} (h : ∀ n ∈ ns, n < 2 ^ k) : RR k ns := by
  obtain ⟨h1, h2, h3⟩ := rref_ok ns [] h List.Pairwise.nil (fun _ h => by cases h) (fun _ h => by cases h)
  have hp := List.mergeSort_perm (rref ns) leN
  exact ⟨(hp.pairwise_iff fun h => ⟨h.2, h.1⟩).mpr h1, fun o ho => h2 o (hp.mem_iff.mp ho), fun o ho => h3 o (hp.mem_iff.mp ho)⟩
theorem rrefS_span {ns : List Nat} {m : Nat} : Span (rrefS ns) m ↔ Span ns m := by
  have hp := List.mergeSort_perm (rref ns) leN
  refine Iff.trans ?_ rref_span
  exact ⟨Span.mono fun p hq => hp.mem_iff.mp hq, Span.mono fun p hq => hp.mem_iff.mpr hq⟩
theorem rrefS_rb {k : Nat} {ns : List Nat} {m : Nat} (h : ∀ n ∈ ns, n < 2 ^ k) : rb (rrefS ns) m = 0 ↔ Span ns m := by
  have r := rr_of h
  rw [rb_iff r.red.ech r.nz, rrefS_span]
/-- the greatest bit of what rows span is a row's -/
theorem top_of {f : List Nat} (hr : Ech f) (h0 : ∀ o ∈ f, o ≠ 0) {x : Nat} (hs : Span f x) (hx : x ≠ 0) : ∃ p ∈ f, p.log2 = x.log2 := by
  refine Classical.byContradiction fun hc => ?_
  have hz := rb_of_span hr h0 hs
  have hlt : x < 2 ^ (x.log2 + 1) := Nat.lt_log2_self
  rw [← rb_filter (k := x.log2 + 1) h0 hlt] at hz
  have key : ∀ g : List Nat, (∀ p ∈ g, p ≠ 0 ∧ p.log2 < x.log2) → ∀ y : Nat, y.testBit x.log2 = true → (rb g y).testBit x.log2 = true := by
    intro g
    induction g with
    | nil => intro _ y hy; exact hy
    | cons p g ih =>
      intro hg y hy
      rw [rb_cons]
      refine ih (fun q hq => hg q (List.mem_cons_of_mem _ hq)) _ ?_
      split
      · obtain ⟨p0, pl⟩ := hg p List.mem_cons_self
        rw [Nat.testBit_xor, hy, testBit_above p0 pl] <;> rfl
      · exact hy
  have := key (f.filter fun o => decide (o < 2 ^ (x.log2 + 1))) (fun p hp => by
    obtain ⟨hp1, hp2⟩ := List.mem_filter.mp hp
    have p0 := h0 p hp1
    have h1 := log2_lt_of p0 (of_decide_eq_true hp2)
    have h2 : p.log2 ≠ x.log2 := fun e => hc ⟨p, hp1, e⟩
    exact ⟨p0, by omega⟩) x (testBit_top hx)
  rw [hz, Nat.zero_testBit] at this
  cases this
theorem red_uniq {f g : List Nat} (hf : Red f) (hg : Red g) (f0 : ∀ o ∈ f, o ≠ 0) (g0 : ∀ o ∈ g, o ≠ 0) (hs : ∀ m, Span f m ↔ Span g m) : ∀ o ∈ f, o ∈ g := by
  have sym : ∀ {l : List Nat}, Red l → ∀ a ∈ l, ∀ b ∈ l, a ≠ b → b.testBit a.log2 = false := by
    intro l hl
    induction l with
    | nil => intro a ha; cases ha
    | cons c l ih =>
      obtain ⟨h1, h2⟩ := List.pairwise_cons.mp hl
      intro a ha b hb hne
      rcases List.mem_cons.mp ha with e1 | ha'
      · rcases List.mem_cons.mp hb with e2 | hb'
        · exact absurd (e1.trans e2.symm) hne
        · rw [e1]; exact (h1 b hb').1
      · rcases List.mem_cons.mp hb with e2 | hb'
        · rw [e2]; exact (h1 a ha').2
        · exact ih h2 a ha' b hb' hne
  intro o ho
  obtain ⟨p, hp, ep⟩ := top_of hg.ech g0 ((hs o).mp (Span.one ho)) (f0 o ho)
  by_cases hx : o ^^^ p = 0
  · rw [xor_zero hx]; exact hp
  · exfalso
    have s1 : Span f (o ^^^ p) := (Span.one ho).xor ((hs p).mpr (Span.one hp))
    have s2 : Span g (o ^^^ p) := (hs _).mp s1
    obtain ⟨q, hq, eq⟩ := top_of hf.ech f0 s1 hx
    obtain ⟨q2, hq2, eq2⟩ := top_of hg.ech g0 s2 hx
    have hlow : (o ^^^ p).log2 < o.log2 := by
      have h1 : (o ^^^ p) < 2 ^ o.log2 := by
        refine Nat.lt_pow_two_of_testBit _ fun i hi => ?_
        rw [Nat.testBit_xor]
        by_cases e : i = o.log2
        · subst e
          rw [testBit_top (f0 o ho)]
          have := testBit_top (g0 p hp)
          rw [ep] at this
          rw [this] <;> rfl
        · rw [testBit_above (f0 o ho) (by omega), testBit_above (g0 p hp) (by omega)] <;> rfl
      exact (Nat.log2_lt hx).mpr h1
    have e1 : o.testBit q.log2 = false := sym hf q hq o ho (fun e => by rw [e] at eq; omega)
    have e2 : p.testBit q2.log2 = false := sym hg q2 hq2 p hp (fun e => by rw [e] at eq2; omega)
    have := testBit_top hx
    rw [Nat.testBit_xor] at this
    rw [eq] at e1
    rw [eq2] at e2
    rw [e1, e2] at this
    cases this
theorem red_nodup {f : List Nat} (hf : Red f) (f0 : ∀ o ∈ f, o ≠ 0) : f.Nodup := by
  refine hf.imp_of_mem fun {a b} ha hb h e => ?_
  subst e
  rw [testBit_top (f0 a ha)] at h
  cases h.1
theorem rrefS_uniq {k : Nat} {ns ms : List Nat} (hn : ∀ n ∈ ns, n < 2 ^ k) (hm : ∀ n ∈ ms, n < 2 ^ k) (hs : ∀ m, Span ns m ↔ Span ms m) : rrefS ns = rrefS ms := by
  obtain ⟨h1, h2, h3⟩ := rref_ok ns [] hn List.Pairwise.nil (fun _ h => by cases h) (fun _ h => by cases h)
  obtain ⟨k1, k2, k3⟩ := rref_ok ms [] hm List.Pairwise.nil (fun _ h => by cases h) (fun _ h => by cases h)
  have hs' : ∀ m, Span (rref ns) m ↔ Span (rref ms) m := fun m => by rw [rref_span, rref_span, hs]
  have a := red_uniq h1 k1 h2 k2 hs'
  have b := red_uniq k1 h1 k2 h2 fun m => (hs' m).symm
  have hp : (rref ns).Perm (rref ms) := (List.perm_ext_iff_of_nodup (red_nodup h1 h2) (red_nodup k1 k2)).mpr fun o => ⟨a o, b o⟩
  unfold rrefS
  have srt : ∀ l : List Nat, (l.mergeSort leN).Pairwise (· ≤ ·) := fun l => by
    have := List.pairwise_mergeSort (le := leN) (fun a b c h1 h2 => by unfold leN at *; simp at *; omega) (fun a b => by unfold leN; simp; omega) l
    exact this.imp fun h => by unfold leN at h; simpa using h
  exact sorted_eq ((List.mergeSort_perm _ _).trans hp) (srt _)
section
variable {ks : List Tk} {rs : List Nat} {d N n : Nat} {P L : List (Nat × Nat)}
theorem known_rb {S most : Nat} (j : JS S P) {m : Nat} (hm : m < 2 ^ (most + 1)) : Span (knownL P most) m ↔ rb (fsts P) m = 0 := by
  have hf := rb_filter (k := most + 1) j.nz1 hm
  rw [← hf]
  have e : Ech ((fsts P).filter fun o => decide (o < 2 ^ (most + 1))) := (j.desc.ech j.nz1).sublist List.filter_sublist
  have h0 : ∀ o ∈ (fsts P).filter fun o => decide (o < 2 ^ (most + 1)), o ≠ 0 := fun o ho => j.nz1 o (List.mem_filter.mp ho).1
  exact (rb_iff e h0).symm
theorem known_lt {most : Nat} : ∀ o ∈ knownL P most, o < 2 ^ (most + 1) := fun o ho => of_decide_eq_true (List.mem_filter.mp ho).2
theorem Rel.agree (R : Rel ks rs d N P L) (hd : d ≤ 8) : Agree ks d N P L := by
  have hle : 2 ^ (d + 1) ≤ 2 ^ (d + ageP ks + 1) := Nat.pow_le_pow_right (by decide) (by omega)
  refine ⟨fun b hb => ?_, fun b hb h => ?_, fun most b hm hb => ?_, fun most hm o ho => ?_⟩
  · rw [shMask_Tf hb (by omega)]
    exact R.red_zero (by omega)
  · rw [shMask_Tf hb (by omega)]
    exact R.red_value (by omega) h
  · rw [rrefS_rb (k := most + 1) known_lt, known_rb R.jp hb, red_fst]
  · have r := rr_of (k := most + 1) (ns := knownL P most) known_lt
    exact ⟨r.nz o ho, r.lt o ho⟩
end
end B
end
section
set_option linter.all false
namespace B
open La
section
variable {ks : List Tk} {rs : List Nat} {d N n : Nat} {P L told : List (Nat × Nat)}
theorem foldA_keep {S : Nat} : ∀ {bs : List (Nat × Nat)} {L : List (Nat × Nat)}, JS S L → (∀ b ∈ bs, b.1 < 2 ^ (S + 1)) → ∀ m, rb (fsts L) m = 0 → rb (fsts (foldA L bs)) m = 0
  | [], _, _, _, _, h => h
  | b :: bs, L, j, hb, m, h => foldA_keep (bs := bs) (j.add (v := b.2) (hb b List.mem_cons_self)) (fun c hc => hb c (List.mem_cons_of_mem _ hc)) m ((add_rb j (hb b List.mem_cons_self)).mpr (.inl h))
theorem foldA_zero {S : Nat} : ∀ {bs : List (Nat × Nat)} {L : List (Nat × Nat)}, JS S L → (∀ b ∈ bs, b.1 < 2 ^ (S + 1)) → ∀ b ∈ bs, rb (fsts (foldA L bs)) b.1 = 0
  | b :: bs, L, j, hb, c, hc => by
    rcases List.mem_cons.mp hc with rfl | hc
    · refine foldA_keep (j.add (v := c.2) (hb c List.mem_cons_self)) (fun e he => hb e (List.mem_cons_of_mem _ he)) _ ?_
      refine (add_rb j (hb c List.mem_cons_self)).mpr (.inr ?_)
      rw [Nat.xor_self]
      exact rb_zero _
    · exact foldA_zero (bs := bs) (j.add (v := b.2) (hb b List.mem_cons_self)) (fun e he => hb e (List.mem_cons_of_mem _ he)) c hc
theorem foldA_same {L : List (Nat × Nat)} : ∀ {bs : List (Nat × Nat)}, (∀ b ∈ bs, rb (fsts L) b.1 = 0) → foldA L bs = L
  | [], _ => rfl
  | b :: bs, h => by
    have e : addL L b.1 b.2 = L := by
      unfold addL
      rw [if_pos (by rw [red_fst]; exact h b List.mem_cons_self)]
    show foldA (addL L b.1 b.2) bs = L
    rw [e]
    exact foldA_same fun c hc => h c (List.mem_cons_of_mem _ hc)
theorem mask60 (ok : OkP ks) (hn : n ≤ 50) (vals : List Nat) : ∀ b ∈ ((tkAt ks n).1.map (lawMask ks n)).zip vals, b.1 < 2 ^ (59 + 1) := fun b hb => by
  obtain ⟨s, hs, e⟩ := List.mem_map.mp (List.of_mem_zip hb).1
  rw [← e]
  exact lawMask_lt ((ok.2.2 _ (tkAt_mem ok.1 n)).1 s hs).len hn
theorem hear_again (ok : OkP ks) (hn : n ≤ 50) (j : JS 59 L) (vals : List Nat) : hearA ks n (hearA ks n L vals) vals = hearA ks n L vals :=
  foldA_same (foldA_zero j (mask60 ok hn vals))
theorem found_again : foundA ks d N L (told ++ foundA ks d N L told) = [] := by
  unfold foundA
  refine List.filterMap_eq_nil_iff.mpr fun i hi => ?_
  generalize ht : N - 1 - d + i = t
  have key : ∀ told' : List (Nat × Nat), frG ks L told' t = if (red L (2 ^ t) 0).1 = 0 ∧ told'.lookup t = none ∧ (tkAt ks t).2 = false then some (t, (red L (2 ^ t) 0).2) else none := fun _ => rfl
  rw [key, if_neg]
  rintro ⟨h1, h2, h3⟩
  have hn := lookup_none h2
  have h4 : told.lookup t = none := by
    cases e : told.lookup t with
    | none => rfl
    | some v =>
      exfalso
      have : (told ++ (List.range (N - (N - 1 - d))).filterMap fun i => frG ks L told (N - 1 - d + i)).lookup t = some v := by
        rw [List.lookup_append, e] <;> rfl
      rw [this] at h2
      cases h2
  refine hn (t, (red L (2 ^ t) 0).2) (List.mem_append_right _ (List.mem_filterMap.mpr ⟨i, hi, ?_⟩)) rfl
  rw [ht, key, if_pos ⟨h1, h4, h3⟩]
theorem begun_fst (S : Nat) : fsts (begunL S) = (List.range (S + 1)).map fun i => 2 ^ (S - i) := by
  unfold begunL fsts
  rw [List.map_map] <;> rfl
theorem begun_rb : ∀ (S m : Nat), m < 2 ^ (S + 1) → rb ((List.range (S + 1)).map fun i => 2 ^ (S - i)) m = 0
  | 0, m, h => by
    have : m = 0 ∨ m = 1 := by omega
    rcases this with rfl | rfl <;> decide
  | S + 1, m, h => by
    rw [List.range_succ_eq_map, List.map_cons, List.map_map]
    have e : (fun i => 2 ^ (S + 1 - i)) ∘ Nat.succ = fun i => 2 ^ (S - i) := by
      funext i
      show 2 ^ (S + 1 - (i + 1)) = _
      congr 1
      omega
    rw [e, rb_cons, Nat.log2_two_pow]
    refine begun_rb S _ ?_
    rw [Nat.sub_zero]
    split
    · rename_i hb
      refine Nat.lt_pow_two_of_testBit _ fun i hi => ?_
      rw [Nat.testBit_xor, Nat.testBit_two_pow]
      by_cases e : i = S + 1
      · subst e
        rw [hb]
        simp
      · rw [testBit_small h (by omega)]
        simp
        omega
    · rename_i hb
      refine Nat.lt_pow_two_of_testBit _ fun i hi => ?_
      by_cases e : i = S + 1
      · subst e
        exact Bool.eq_false_iff.mpr hb
      · exact testBit_small h (by omega)
theorem begun_js (S : Nat) : JS S (begunL S) := by
  refine ⟨?_, ?_, ?_⟩
  · show Desc (fsts (begunL S))
    rw [begun_fst]
    refine List.pairwise_map.mpr (List.pairwise_lt_range.imp_of_mem fun {a b} ha hb h => ?_)
    have := List.mem_range.mp ha
    have := List.mem_range.mp hb
    rw [Nat.log2_two_pow, Nat.log2_two_pow]
    omega
  · intro p hp
    obtain ⟨i, _, rfl⟩ := List.mem_map.mp hp
    have := Nat.two_pow_pos (S - i)
    show 2 ^ (S - i) ≠ 0
    omega
  · intro p hp
    obtain ⟨i, _, rfl⟩ := List.mem_map.mp hp
    exact Nat.pow_lt_pow_right (by decide) (by omega)
theorem Rel.begun (ks : List Tk) (rs : List Nat) (d : Nat) : Rel ks rs d 0 (begunL (d + ageP ks)) [] := by
  have hT : ∀ m, Tf ks 0 m = 0 := fun m => by have := Tf_lt ks 0 m; omega
  refine ⟨begun_js _, ⟨List.Pairwise.nil, (fun p h => by cases h), (fun p h => by cases h)⟩, (fun p h => by cases h), (fun p h => by cases h), fun p hp => ?_, fun m hm => ?_⟩
  · rw [hT, (Vf_lin rs).zero]
    obtain ⟨i, _, rfl⟩ := List.mem_map.mp hp
    rfl
  · rw [begun_fst, begun_rb _ m hm, hT]
    exact ⟨fun _ => rfl, fun _ => rfl⟩
end
end B
end
section
set_option linter.all false
set_option pp.maxSteps 700
set_option maxRecDepth 100000
namespace B
open PySem PySem.Spec PyProof.Rows L2 La
section
variable {tb : List (Addr × Str)} {K : PySem.W.Frag} {sc : Addr × List Int} {B c d N : Nat} {H H' H2 : Hp} {p r a : Addr} {ks : List Tk} {P L told : List (Nat × Nat)}
/-! ### past the pen -/
theorem PenI.neR {α : Type} {f : α → Addr} {ts : List α} (h : PenI sc B H p) (ha : H a = some (.lst (ts.map fun t => V.ref (f t)))) : a ≠ p := by
  obtain ⟨⟨k, z, h1, h2⟩, h3, h4⟩ := h
  intro e
  rw [e, h1] at ha
  injection ha with ha
  injection ha with ha
  match ts, ha with
  | [], ha => cases ha
  | [x], ha => have := congrArg List.length ha; simp at this
  | x :: y :: t, ha => injection ha with _ ha; injection ha with ha _; cases ha
theorem PenI.neL {xs : List V} {m : Addr} (h : PenI sc B H p) (ha : H a = some (.lst (xs ++ [.ref m]))) : a ≠ p := by
  obtain ⟨⟨k, z, h1, h2⟩, h3, h4⟩ := h
  intro e
  rw [e, h1] at ha
  injection ha with ha
  injection ha with ha
  have := congrArg List.getLast? ha
  rw [List.getLast?_append] at this
  cases this
theorem PenI.pk (h : PenI sc B H p) : ∃ xs, H p = some (.lst xs) := by
  obtain ⟨⟨k, z, h1, h2⟩, h3, h4⟩ := h
  exact ⟨_, h1⟩
theorem sums_gwl {s : List (List Nat)} {xs : List V} (h : SumsAt H a s) (g : Gw tb p H H') (hp : H p = some (.lst xs)) : SumsAt H' a s := by
  obtain ⟨ts, e, hl, ht⟩ := h
  exact ⟨ts, e, g.at hl hp (fun z => by cases z), fun t m => Gw.at g (ht t m) hp (fun z => by cases z)⟩
theorem PL.gwp {l : Addr} (h : PL H l P) (g : Gw tb p H H') (hp : PenI sc B H p) : PL H' l P := by
  obtain ⟨ts, e, hl, ht⟩ := h
  obtain ⟨xs, hx⟩ := hp.pk
  exact ⟨ts, e, g.at' hl (hp.neR hl), fun t m => Gw.at g (ht t m) hx (fun z => by cases z)⟩
theorem RcvI.gwp (h : RcvI K c H r ks d N P told) (g : Gw tb p H H') (hp : PenI sc B H p) : RcvI K c H' r ks d N P told := by
  obtain ⟨xs, hx⟩ := hp.pk
  obtain ⟨dx, pl, past, ms, m, e, ⟨d2, ta, e2, ts, e3, hl2, hts⟩, hpa, hl, ⟨dm, k, dd, e5, ⟨dk, lk, e6, hpl⟩, e7⟩⟩ := h
  refine ⟨dx, pl, past, ms, m, g.at e hx (fun z => by cases z), ⟨d2, ta, g.at e2 hx (fun z => by cases z), ts, e3, g.at hl2 hx (fun z => by cases z), fun t mt => ?_⟩, g.at' hpa (hp.neL hpa), hl, ⟨dm, k, dd, g.at e5 hx (fun z => by cases z), ⟨dk, lk, g.at e6 hx (fun z => by cases z), hpl.gwp g hp⟩, g.at e7 hx (fun z => by cases z)⟩⟩
  obtain ⟨dt, sa, e8, e9⟩ := hts t mt
  exact ⟨dt, sa, g.at e8 hx (fun z => by cases z), sums_gwl e9 g hx⟩
theorem StI.gwp {st : Addr} (h : StI H st N L told) (g : Gw tb p H H') (hp : PenI sc B H p) : StI H' st N L told := by
  obtain ⟨xs, hx⟩ := hp.pk
  obtain ⟨kl, dd, e, pl, t⟩ := h
  exact ⟨kl, dd, g.at e hx (fun z => by cases z), pl.gwp g hp, g.at t hx (fun z => by cases z)⟩
theorem lticks_pen (h : LTicks H a ks) (g : Gw tb p H H') (hp : PenI sc B H p) : LTicks H' a ks := by
  obtain ⟨xs, hx⟩ := hp.pk
  have hap : a ≠ p := by
    obtain ⟨ts, _, hl, _⟩ := h
    exact hp.neR hl
  exact lticks_gwp h g hx (fun ys z => by cases z) hap
theorem ints_pen {xs : List Nat} (h : H a = some (.lst (xs.map fun n => iN n))) (g : Gw tb p H H') (hp : PenI sc B H p) : H' a = some (.lst (xs.map fun n => iN n)) := g.at' h (hp.ne h)
/-! ### past a receiver -/
theorem PenI.gwr {C dx : Addr} {fs : List (Str × V)} (h : PenI sc B H p) (g : Gw tb r H H') (hr : H r = some (.ins C dx fs)) : PenI sc B H' p := by
  obtain ⟨⟨k, z, h1, h2⟩, h3, h4⟩ := h
  exact ⟨⟨k, z, g.at h1 hr (fun z => by cases z), h2⟩, g.at h3 hr (fun z => by cases z), h4⟩
theorem StI.gwr {C dx st : Addr} {fs : List (Str × V)} (h : StI H st N L told) (g : Gw tb r H H') (hr : H r = some (.ins C dx fs)) : StI H' st N L told := by
  obtain ⟨kl, dd, e, ⟨ts, e1, hl, ht⟩, t⟩ := h
  exact ⟨kl, dd, g.at e hr (fun z => by cases z), ⟨ts, e1, g.at hl hr (fun z => by cases z), fun t m => Gw.at g (ht t m) hr (fun z => by cases z)⟩, g.at t hr (fun z => by cases z)⟩
theorem lticks_gwr {C dx : Addr} {fs : List (Str × V)} (h : LTicks H a ks) (g : Gw tb r H H') (hr : H r = some (.ins C dx fs)) : LTicks H' a ks := by
  have har : a ≠ r := by
    obtain ⟨ts, _, hl, _⟩ := h
    exact ne_of hl hr (fun z => by cases z)
  exact lticks_gwp h g hr (fun ys z => by cases z) har
theorem TPL.gwr {C dx : Addr} {fs : List (Str × V)} (h : TPL H a P) (g : Gw tb r H H') (hr : H r = some (.ins C dx fs)) : TPL H' a P := by
  obtain ⟨ts, e, hl, ht⟩ := h
  exact ⟨ts, e, g.at hl hr (fun z => by cases z), fun t m => Gw.at g (ht t m) hr (fun z => by cases z)⟩
theorem RcvI.ins (h : RcvI K c H r ks d N P told) : ∃ C dx fs, H r = some (.ins C dx fs) := by
  obtain ⟨dx, pl, past, ms, m, e, _⟩ := h
  exact ⟨_, _, _, e⟩
theorem Gw.via (g : Gw tb p H H') (n : ∀ o, H r = some o → nt o = false) (g2 : Gw tb r H' H2) : Gw tb p H H2 :=
  ⟨fun b o e d k => g2.ex b o (g.ex b o e d k) (fun z => by rw [z] at e; rw [n o e] at k; cases k) k, fun t => g2.tb (g.tb t)⟩
theorem RcvI.mono {c' : Nat} (h : RcvI K c H r ks d N P told) (hc : c ≤ c') : RcvI K c' H r ks d N P told := by
  obtain ⟨dx, pl, past, ms, m, e, h2, h3, h4, h5⟩ := h
  exact ⟨dx, pl, past, ms, m, e, h2, h3, Nat.le_trans h4 hc, h5⟩
end
/-- the same standing of a receiver and the law's own elimination -/
structure Same (K : PySem.W.Frag) (c : Nat) (H : Hp) (r st : Addr) (ks : List Tk) (rs : List Nat) (d N : Nat) (P L told : List (Nat × Nat)) : Prop where
  rcv : RcvI K c H r ks d N P told
  ok : OkR ks d N P told
  sti : StI H st N L told
  rel : Rel ks rs d N P L
end B
end
section
set_option linter.all false
set_option pp.maxSteps 700
set_option maxRecDepth 100000
namespace B
open PySem PySem.Spec PyProof.Rows L2 La
/-- what stands through a turn: the pen, the ticks, the rows, a receiver and the law's own standing -/
structure TSt (K : PySem.W.Frag) (tb : List (Addr × Str)) (sc : Addr × List Int) (H0 : Hp) (p a rl r st : Addr) (ks : List Tk) (rs : List Nat) (d : Nat) (B c N : Nat) (P L told : List (Nat × Nat)) (H : Hp) : Prop where
  sm : Same K c H r st ks rs d N P L told
  pen : PenI sc B H p
  tks : LTicks H a ks
  row : H rl = some (.lst (rs.map fun v => iN v))
  gw : Gw tb p H0 H
  nr : ∀ o, H0 r = some o → nt o = false
section
variable {K : PySem.W.Frag} {tb : List (Addr × Str)} {sc : Addr × List Int} {H0 H H' : Hp} {p a rl r st : Addr} {ks : List Tk} {rs : List Nat} {d B B' c N : Nat} {P L told : List (Nat × Nat)}
theorem TSt.draw (t : TSt K tb sc H0 p a rl r st ks rs d B c N P L told H) (g : Gw tb p H H') (hp : PenI sc B' H' p) : TSt K tb sc H0 p a rl r st ks rs d B' c N P L told H' :=
  ⟨⟨t.sm.rcv.gwp g t.pen, t.sm.ok, t.sm.sti.gwp g t.pen, t.sm.rel⟩, hp, lticks_pen t.tks g t.pen, ints_pen t.row g t.pen, t.gw.trans g, t.nr⟩
theorem TSt.gr (t : TSt K tb sc H0 p a rl r st ks rs d B c N P L told H) (g : Gr tb H H') : TSt K tb sc H0 p a rl r st ks rs d B c N P L told H' :=
  ⟨⟨t.sm.rcv.gr g, t.sm.ok, t.sm.sti.gr g, t.sm.rel⟩, t.pen.gr g, lticks_gr t.tks g, g.at t.row, t.gw.trans (Gw.of g), t.nr⟩
theorem TSt.more (t : TSt K tb sc H0 p a rl r st ks rs d B c N P L told H) (hb : B ≤ B') : TSt K tb sc H0 p a rl r st ks rs d B' c N P L told H := ⟨t.sm, t.pen.mono hb, t.tks, t.row, t.gw, t.nr⟩
theorem TSt.set {c' N' st' : Nat} {P' L' told' : List (Nat × Nat)} (t : TSt K tb sc H0 p a rl r st ks rs d B c N P L told H) (g : Gw tb r H H') (s : Same K c' H' r st' ks rs d N' P' L' told') : TSt K tb sc H0 p a rl r st' ks rs d B c' N' P' L' told' H' := by
  obtain ⟨C, dx, fs, e⟩ := t.sm.rcv.ins
  exact ⟨s, t.pen.gwr g e, lticks_gwr t.tks g e, g.at t.row e (fun z => by cases z), t.gw.via t.nr g, t.nr⟩
end
theorem OkR.hear {ks : List Tk} {rs : List Nat} {d N n : Nat} {P P' L' told : List (Nat × Nat)} (ok : OkR ks d N P told) (R : Rel ks rs d (max N (n + 1)) P' L') (hn : n ≤ 300) : OkR ks d (max N (n + 1)) P' (told ++ freshL ks d (max N (n + 1)) P' told) := by
  have n4 := ok.n4
  refine ⟨ok.p, ok.d8, R.jp, fresh_nd ok.nd, by omega, fun p hp => ?_⟩
  rcases List.mem_append.mp hp with hp | hp
  · have := ok.lt p hp
    omega
  · exact fresh_lt p hp
def sp__law_turn_right (tb : List (Addr × Str)) : Sp := fun vs H Q _ => ∃ (p : Addr) (B : Nat) (sc : Addr × List Int), vs = [.ref p] ∧ PenI sc B H p ∧ B ≤ 400000 ∧ LamX.Tabs tb H ∧ ∀ H', Gw tb p H H' → PenI sc (B + 1000) H' p → Q (.bl true) H'
abbrev nm__law_turn_right : List Str := ["_law_pen_here", "_law_ticks_here", "_law_delay", "_law_receiver", "_law_rows_here", "_law_stand", "_law_turn", "_law_number", "_law_many", "_law_parts_here", "_law_then", "_law_due"]
theorem sc__law_turn_right : FnScope nm__law_turn_right ["_law_pen_here"] (defScope s__law_turn_right) := ⟨rfl, rfl, rfl, by decide +kernel, rfl, by decide +kernel, by decide +kernel⟩
theorem c__law_turn_right {P : Program} {w : World} {K : PySem.W.Frag} {mg : Str → Option Value} {base : Heap} {tb : List (Addr × Str)} (T : Tx K mg base tb) : Cf P w K mg base 11 "_law_turn_right" (sp__law_turn_right tb) := by
  obtain ⟨f, fd, F, hm⟩ := T.f__law_turn_right
  refine ⟨f, @mkR P w K mg base _ _ _ _ _ _ _ (sp__law_turn_right tb) 10 F sc__law_turn_right (fun _ _ _ _ _ _ us hl => match us, hl with | [_], _ => rfl) (fun vs H Q E h => by obtain ⟨p, B, sc, rfl, hp, hB, hT, q⟩ := h; rfl) (fun cdv A outer s H vs Q E hr h => ⟨_, (pss_cons (ps_par (i := 1) (j := 2) rfl sc__law_turn_right.nd rfl rfl (by decide) rfl rfl (pa_cons (pe_cR (c__law_ticks (K := K) T) hr (by decide) rfl (pa_cons (pv 0) (pa_cons pe_int (pa_cons pe_int pa_nil)))) (pa_cons (pe_cR (c__law_draw (K := K) T) hr (by decide) rfl (pa_cons (pv 0) (pa_cons pe_int pa_nil))) pa_nil)) (by rfl))
      (pss_cons (ps_par3 (i := 3) (j := 4) (l := 5) rfl sc__law_turn_right.nd rfl rfl rfl (by decide) (by decide) (by decide) rfl rfl rfl (pa_cons (pe_kR (c_Receiver (K := K) T) hr (by decide) rfl (pa_cons (pe_cR (c__law_plan (K := K) T) hr (by decide) rfl (pa_cons (pv 1) pa_nil)) (pa_cons (pv 2) pa_nil))) (pa_cons (pe_cR (c__law_rows (K := K) T) hr (by decide) rfl (pa_cons (pv 0) (pa_cons (pv 1) (pa_cons pe_int pa_nil)))) (pa_cons (pe_cR0 (c__law_begun (K := K) T) hr (by decide) rfl) pa_nil))) (by rfl))
      (pss_cons (ps_for PassesOwn.never rfl (pi_range1 (by rfl) T.n_range (pa_cons pe_int pa_nil)) (pg_name (i := 6) sc__law_turn_right.nd rfl (Or.inl rfl))
      (C8.pss_cut (ps_set (i := 7) sc__law_turn_right.nd rfl (Or.inl rfl) (pe_ifExp (pt_cmpR op_gt (pe_cR (c__law_draw (K := K) T) hr (by decide) rfl (pa_cons (pv 0) (pa_cons pe_int pa_nil))) pe_int (nomark _)) (pe_callB (call_max2 rfl) (by rfl) T.n_max (by decide +kernel) (pa_cons pe_int (pa_cons (pe_callTy call_int1 (by rfl) T.n_int (by decide +kernel) (pa_cons (pe_op op_sub (pe_op op_add (pe_ix ix_tup (pv 5) pe_int (fun _ _ => rfl)) pe_int) (pe_cR (c__law_draw (K := K) T) hr (by decide) rfl (pa_cons (pv 0) (pa_cons pe_int pa_nil)))) pa_nil)) pa_nil))) (pe_op op_add (pe_op op_add (pe_ix ix_tup (pv 5) pe_int (fun _ _ => rfl)) pe_int) (pe_cR (c__law_draw (K := K) T) hr (by decide) rfl (pa_cons (pv 0) (pa_cons pe_int pa_nil))))))
      (C8.pss_cut (ps_set (i := 7) sc__law_turn_right.nd rfl (Or.inl rfl) (pe_callB (call_min2 rfl) (by rfl) T.n_min (by decide +kernel) (pa_cons pe_int (pa_cons (pe_callTy call_int1 (by rfl) T.n_int (by decide +kernel) (pa_cons (pv 7) pa_nil)) pa_nil))))
      (C8.pss_cut (ps_if (PW.pt (pw_and (pt_cmpR op_eq (pe_cR (c__law_draw (K := K) T) hr (by decide) rfl (pa_cons (pv 0) (pa_cons pe_int pa_nil))) pe_int (nomark _)) (pw_and1 (pt_cmpR op_lt (pe_ix ix_tup (pv 5) pe_int (fun _ _ => rfl)) pe_int (nomark _))))) (pss_cons (ps_set (i := 8) sc__law_turn_right.nd rfl (Or.inl rfl) (pe_op op_add pe_int (pe_cR (c__law_draw (K := K) T) hr (by decide) rfl (pa_cons (pv 0) (pa_cons pe_int pa_nil)))))
      (pss_cons (ps_expr (pe_mK (c_Receiver_wait (K := K) T) hr (by decide) (pv 3) (pv 8)))
      (pss_one (ps_set (i := 5) sc__law_turn_right.nd rfl (Or.inl rfl) (pe_tup (pa_cons (pe_op op_add (pe_ix ix_tup (pv 5) pe_int (fun _ _ => rfl)) (pv 8)) (pa_cons (pe_ix ix_tup (pv 5) pe_int (fun _ _ => rfl)) (pa_cons (pe_ix ix_tup (pv 5) pe_int (fun _ _ => rfl)) pa_nil)))))))) pss_nil)
      (C8.pss_cut (ps_set (i := 9) sc__law_turn_right.nd rfl (Or.inl rfl) (pe_cR (c__law_parts (K := K) T) hr (by decide) rfl (pa_cons (pv 1) (pa_cons (pv 4) (pa_cons (pv 7) pa_nil)))))
      (pss_cons (ps_set (i := 10) sc__law_turn_right.nd rfl (Or.inl rfl) (pe_pR (c_Receiver_now (K := K) T) hr (by decide) (pv 3) (by rfl)))
      (pss_cons (ps_asg (pe_cR (c__law_heard_by (K := K) T) hr (by decide) rfl (pa_cons (pv 1) (pa_cons (pv 5) (pa_cons (pv 2) (pa_cons (pv 7) (pa_cons (pv 9) pa_nil)))))) (pg_tup rfl (pgs_cons (pg_name (i := 5) sc__law_turn_right.nd rfl (Or.inl rfl)) (pgs_cons (pg_name (i := 11) sc__law_turn_right.nd rfl (Or.inl rfl)) pgs_nil))))
      (C8.pss_cut (ps_if (PW.pt (pw_or (pt_cmpR (op_neD (Room.units hr)) (pe_mR (c_Receiver_hear (K := K) T) hr (by decide) (pv 3) (pa_cons (pe_kR (c_Packet (K := K) T) hr (by decide) rfl (pa_cons (pv 7) (pa_cons (pv 9) pa_nil))) pa_nil)) (pv 11) (nomark _)) (pw_or1 (pt_not (pt_val (pe_cR (c__law_shows (K := K) T) hr (by decide) rfl (pa_cons (pv 3) (pa_cons (pv 1) (pa_cons (pv 5) (pa_cons (pv 2) pa_nil)))))))))) (pss_one (ps_ret pe_bl)) pss_nil)
      (C8.pss_cut (ps_if (PW.pt (pw_or (pt_cmpR (op_neD (Room.units hr)) (pe_mR (c_Receiver_hear (K := K) T) hr (by decide) (pv 3) (pa_cons (pe_kR (c_Packet (K := K) T) hr (by decide) rfl (pa_cons (pv 7) (pa_cons (pv 9) pa_nil))) pa_nil)) (pe_tup pa_nil) (nomark _)) (pw_or1 (pt_not (pt_val (pe_cR (c__law_shows (K := K) T) hr (by decide) rfl (pa_cons (pv 3) (pa_cons (pv 1) (pa_cons (pv 5) (pa_cons (pv 2) pa_nil)))))))))) (pss_one (ps_ret pe_bl)) pss_nil)
      (pss_one (ps_if (PW.pt (pw_and (pt_cmpR op_lt (pv 7) (pe_op op_sub (pv 10) (pv 2)) (nomark _)) (pw_and1 (PW.pt (pw_or (pt_cmpR (op_neD (Room.units hr)) (pv 11) (pe_tup pa_nil) (nomark _)) (pw_or1 (pt_cmpR op_ne (pe_pR (c_Receiver_now (K := K) T) hr (by decide) (pv 3) (by rfl)) (pv 10) (nomark _)))))))) (pss_one (ps_ret pe_bl)) pss_nil)))))))))))
      (pss_one (ps_ret pe_bl))))), ?_⟩), hm, F.kp⟩
  obtain ⟨p, B, sc, rfl, hp, hB, hT, q⟩ := h
  refine ⟨_, rfl, p, 3, 4, B, sc, rfl, hp, by decide, by decide, by decide, by decide, by omega, fun a ks H1 okP hk hap gw1 hp1 => ?_⟩
  refine ⟨_, rfl, p, 4, B + 201, sc, rfl, hp1, by decide, by decide, by omega, fun d H2 hd gw2 hp2 => ⟨_, _, rfl, ?_⟩⟩
  have hk2 := lticks_pen hk gw2 hp1
  have gw12 := gw1.trans gw2
  refine ⟨_, rfl, a, ks, rfl, hk2, okP, fun pl H3 g3 hpl => ?_⟩
  refine ⟨_, rfl, ?_⟩
  intro r dx nr ndx ne
  have gi := (Gr.new (tb := tb) (o := .own r) ndx).trans (Gr.new (tb := tb) (o := .ins (He.ga K "Receiver") dx []) (by rw [upd_ne (Ne.symm ne)]; exact nr))
  refine ⟨r, dx, pl, _, d, ks, rfl, upd_same, rfl, hpl.gr gi, okP, by omega, fun H4 gw4 hR4 => ⟨rfl, ?_⟩⟩
  have g34 := g3.trans (Gr.made nr ndx gw4)
  have hk4 := lticks_gr hk2 g34
  have hp4 := hp2.gr g34
  refine ⟨_, rfl, _, rfl, p, a, 22, B + 202, sc, ks, rfl, hp4, hk4, okP.1, hap, by decide, by omega, fun rl rs H5 hrl hmu hrs hrp gw5 hp5 => ?_⟩
  refine ⟨rfl, fun st l dd H6 H7 H8 e6 e7 e8 nl nd na => ⟨_, _, _, rfl, ?_⟩⟩
  have nrH : ∀ o, H r = some o → nt o = false := fun o e => by
    cases hn : nt o with
    | false => rfl
    | true =>
      exfalso
      by_cases hrp2 : r = p
      · obtain ⟨xs, hx⟩ := (hp2.gr g3).pk
        rw [← hrp2, nr] at hx
        cases hx
      · have := g3.ex r o (gw12.ex r o e hrp2 hn) hn
        rw [nr] at this
        cases this
  have g68 : Gr tb H5 H8 := by
    subst e6 e7 e8
    exact ((Gr.new nl).trans (Gr.new nd)).trans (Gr.new na)
  have hst8 : StI H8 st 0 [] [] := by
    subst e6 e7 e8
    have gA := (Gr.new (tb := tb) (o := .dK []) nd).trans (Gr.new (tb := tb) (o := .tup [.int (-1), .ref l, .ref dd]) na)
    exact ⟨l, dd, upd_same, ⟨[], rfl, gA.at upd_same, (fun t m => by cases m)⟩, (Gr.new (tb := tb) na).at upd_same⟩
  have hR8 : RcvI K 0 H8 r ks d 0 (begunL (d + ageP ks)) [] := (hR4.gwp gw5 hp4).gr g68
  have t0 : TSt K tb sc H p a rl r st ks rs d (B + 300) 0 0 (begunL (d + ageP ks)) [] [] H8 :=
    ⟨⟨hR8, ⟨okP, by omega, begun_js _, List.nodup_nil, Nat.zero_le _, (fun p h => by cases h)⟩, hst8, Rel.begun ks rs d⟩, (hp5.gr g68).mono (by omega), lticks_gr (lticks_pen hk4 gw5 hp4) g68, g68.at hrs, (((gw12.trans (Gw.of g34)).trans gw5).trans (Gw.of g68)), nrH⟩
  have hd8 : d ≤ 8 := by omega
  refine ⟨_, rfl, by decide, by decide, ?_⟩
  refine for_range (lo := 0) (n := 12) (fun i σ H' => ∃ st c N P L told x y z w v u, TSt K tb sc H p a rl r st ks rs d (B + 300 + 10 * i) c N P L told H' ∧ N ≤ 22 ∧ c ≤ 3 * i ∧ σ = [some (.ref p), some (.ref a), some (iN d), some (.ref r), some (.ref rl), some (.ref st), x, y, z, w, v, u]) ⟨st, 0, 0, _, _, _, _, _, _, _, _, _, t0, Nat.zero_le _, Nat.zero_le _, rfl⟩ ?_ ?_
  · rintro i σ Ha hi ⟨st, c, N, P', L, told, x, y, z, w, v, u, ta, hN, hc, rfl⟩
    obtain ⟨kl, dd, est, _, _⟩ := id ta.sm.sti
    have hpa := ta.pen
    refine ⟨fun σ' H' => ∃ n : Nat, TSt K tb sc H p a rl r st ks rs d (B + 300 + 10 * i + 2) c N P' L told H' ∧ σ' = [some (.ref p), some (.ref a), some (iN d), some (.ref r), some (.ref rl), some (.ref st), some (.int (0 + (i : Nat))), some (iN n), z, w, v, u], ?_, ?_⟩
    · refine ⟨_, rfl, p, 3, _, sc, rfl, hpa, by decide, by decide, by omega, fun r0 Hb hr0 gb hpb => ⟨_, _, rfl, rfl, _, rfl, ite2 (fun _ => ?_) fun _ => ?_⟩⟩
      · have tb' := ta.draw gb hpb
        obtain ⟨kl, dd, est, _, _⟩ := id tb'.sm.sti
        refine ⟨_, rfl, st, _, _, .int ((N : Int) - 1), rfl, rfl, SqT.of est, rfl, _, _, rfl, rfl, _, rfl, p, 6, _, sc, rfl, hpb, by decide, by decide, by omega, fun r1 Hc hr1 gc hpc => ⟨_, _, rfl, rfl, .inl ⟨_, rfl, _, _, rfl, ?_⟩⟩⟩
        refine ⟨N - r1, (tb'.draw gc hpc).more (by omega), ?_⟩
        exact congrArg (fun z' => [some (V.ref p), some (.ref a), some (iN d), some (.ref r), some (.ref rl), some (.ref st), some (.int (0 + (i : Nat))), some (V.int z'), z, w, v, u]) (show (if (N : Int) - 1 + 1 - (r1 : Int) > 0 then (N : Int) - 1 + 1 - (r1 : Int) else 0) = ((N - r1 : Nat) : Int) by split <;> omega)
      · have tb' := ta.draw gb hpb
        obtain ⟨kl, dd, est, _, _⟩ := id tb'.sm.sti
        refine ⟨_, rfl, st, _, _, .int ((N : Int) - 1), rfl, rfl, SqT.of est, rfl, _, _, rfl, rfl, _, rfl, p, 2, _, sc, rfl, hpb, by decide, by decide, by omega, fun r1 Hc hr1 gc hpc => ⟨_, _, rfl, rfl, N + r1, (tb'.draw gc hpc).more (by omega), ?_⟩⟩
        exact congrArg (fun z' => [some (V.ref p), some (.ref a), some (iN d), some (.ref r), some (.ref rl), some (.ref st), some (.int (0 + (i : Nat))), some (V.int z'), z, w, v, u]) (show (N : Int) - 1 + 1 + (r1 : Int) = ((N + r1 : Nat) : Int) by omega)
    rintro σ Hb ⟨n0, tb1, rfl⟩
    refine ⟨fun σ' H' => ∃ n : Nat, n ≤ 21 ∧ H' = Hb ∧ σ' = [some (.ref p), some (.ref a), some (iN d), some (.ref r), some (.ref rl), some (.ref st), some (.int (0 + (i : Nat))), some (iN n), z, w, v, u], ?_, ?_⟩
    · refine ⟨_, rfl, .inl ⟨_, rfl, _, _, rfl, min 21 n0, by omega, rfl, ?_⟩⟩
      exact congrArg (fun z' => [some (V.ref p), some (.ref a), some (iN d), some (.ref r), some (.ref rl), some (.ref st), some (.int (0 + (i : Nat))), some (V.int z'), z, w, v, u]) (show (if (n0 : Int) < 21 then (n0 : Int) else 21) = ((min 21 n0 : Nat) : Int) by split <;> omega)
    rintro σ Hc ⟨n, hn21, rfl, rfl⟩
    refine ⟨fun σ' H' => ∃ st c N P' x8, TSt K tb sc H p a rl r st ks rs d (B + 300 + 10 * i + 5) c N P' L told H' ∧ N ≤ 22 ∧ c ≤ 3 * i + 1 ∧ σ' = [some (.ref p), some (.ref a), some (iN d), some (.ref r), some (.ref rl), some (.ref st), some (.int (0 + (i : Nat))), some (iN n), x8, w, v, u], ?_, ?_⟩
    · refine ⟨_, rfl, p, 6, _, sc, rfl, tb1.pen, by decide, by decide, by omega, fun r0 Hd hr0 gd hpd => ⟨rfl, _, rfl, ite2 (fun _ => ?_) fun _ => ⟨st, c, N, P', _, (tb1.draw gd hpd).more (by omega), hN, by omega, rfl⟩⟩⟩
      have td := tb1.draw gd hpd
      obtain ⟨kl, dd, est, _, _⟩ := id td.sm.sti
      refine ⟨_, rfl, st, _, _, .int ((N : Int) - 1), rfl, rfl, SqT.of est, rfl, _, _, rfl, rfl, _, rfl, ite2 (fun h18 => ?_) fun _ => ⟨st, c, N, P', _, td.more (by omega), hN, by omega, rfl⟩⟩
      have h18' : N ≤ 18 := by have := of_decide_eq_true h18; omega
      refine ⟨_, rfl, p, 2, _, sc, rfl, hpd, by decide, by decide, by omega, fun r1 Hv hr1 ge hpe => ⟨_, _, rfl, rfl, ?_⟩⟩
      have te := td.draw ge hpe
      obtain ⟨dxr, pl2, past2, ms2, m2, er, hrest⟩ := id te.sm.rcv
      have ew : V.int (1 + (r1 : Int)) = iN (r1 + 1) := congrArg V.int (by omega)
      refine ⟨_, rfl, r, dxr, _, rfl, er, rfl, _, rfl, r, c, d, N, r1 + 1, ks, P', told, congrArg (fun z => [V.ref r, z]) ew, te.sm.rcv, te.sm.ok, by omega, by omega, by omega, by omega, te.gw.tb hT, fun Hf gf hRf => ?_⟩
      have hl := te.sm.ok.lt
      have hA := ageP_le okP
      have hstf : StI Hf st N L told := te.sm.sti.gwr gf er
      obtain ⟨kl, dd, est, hkl, hdd⟩ := id hstf
      refine ⟨_, rfl, st, _, _, .int ((N : Int) - 1), rfl, rfl, SqT.of est, rfl, _, rfl, _, _, rfl, rfl, _, rfl, st, _, _, .ref kl, rfl, rfl, SqT.of est, rfl, _, rfl, st, _, _, .ref dd, rfl, rfl, SqT.of est, rfl, (by decide : (3 : Nat) ≤ sizeLine), fun s2 ns2 => ?_⟩
      have g2 := Gr.new (tb := tb) (o := .tup [.int ((N : Int) - 1 + (1 + (r1 : Int))), .ref kl, .ref dd]) ns2
      have hst2 : StI (upd Hf s2 (.tup [.int ((N : Int) - 1 + (1 + (r1 : Int))), .ref kl, .ref dd])) s2 (N + (r1 + 1)) L told := ⟨kl, dd, by rw [upd_same, show (N : Int) - 1 + (1 + (r1 : Int)) = ((N + (r1 + 1) : Nat) : Int) - 1 by omega], hkl.gr g2, g2.at hdd⟩
      have R2 := te.sm.rel.pass (by omega) (k := r1 + 1)
      have ok2 : OkR ks d (N + (r1 + 1)) (passL ks (d + ageP ks) N (r1 + 1) P') told := ⟨okP, hd8, R2.jp, te.sm.ok.nd, by omega, fun p hp => by have := hl p hp; omega⟩
      exact ⟨s2, c + 1, N + (r1 + 1), _, _, (te.set (gf.trans (Gw.of g2)) ⟨hRf.gr g2, ok2, hst2, R2⟩).more (by omega), by omega, by omega, rfl⟩
    rintro σ Hd ⟨st, c, N, P', x8, td, hN, hc, rfl⟩
    have hz : ∀ j, j ≤ n → (tkAt ks j).2 = true → rs.getD j 0 = 0 := fun j hj hm => hmu j (by omega) hm
    refine ⟨fun σ' H' => ∃ pa, TSt K tb sc H p a rl r st ks rs d (B + 300 + 10 * i + 5) c N P' L told H' ∧ H' pa = some (.tup (((tkAt ks n).1.map (lawPart rs n)).map fun v => iN v)) ∧ σ' = [some (.ref p), some (.ref a), some (iN d), some (.ref r), some (.ref rl), some (.ref st), some (.int (0 + (i : Nat))), some (iN n), x8, some (.ref pa), v, u], ?_, ?_⟩
    · exact ⟨_, rfl, _, rfl, _, rfl, a, rl, n, ks, rs, rfl, td.tks, okP, td.row, by rw [hrl]; omega, fun pa Hv ge hpa => ⟨pa, td.gr ge, hpa, rfl⟩⟩
    rintro σ Hv ⟨pa, te, hpa, rfl⟩
    obtain ⟨dxr, pl2, past2, ms2, m2, er, hrest⟩ := id te.sm.rcv
    have hvl : ((tkAt ks n).1.map (lawPart rs n)).length = (tkAt ks n).1.length := List.length_map ..
    refine ⟨_, rfl, r, dxr, _, rfl, er, r, c, d, N, ks, P', told, rfl, te.sm.rcv, ?_⟩
    refine ⟨_, rfl, _, rfl, _, rfl, _, rfl, _, rfl, a, st, pa, d, N, n, ks, L, told, _, rfl, te.tks, okP, te.sm.sti, te.sm.rel.jl, hpa, hvl, by omega, by omega, by omega, by have := te.sm.ok.len; omega, fun hold => ?_, fun hnew => ?_⟩
    · intro t e Hf gf ht hTe
      refine ⟨t, _, rfl, SqT.of ht, rfl, _, _, rfl, _, _, rfl, rfl, ?_⟩
      have tf := te.gr gf
      have hpaX := gf.at hpa
      have ag := te.sm.rel.agree hd8
      refine ⟨fun σ' H' => ∃ e, TPL H' e [] ∧ H' pa = some (.tup (((tkAt ks n).1.map (lawPart rs n)).map fun v => iN v)) ∧ TSt K tb sc H p a rl r st ks rs d (B + 300 + 10 * i + 5) c N P' L told H' ∧ σ' = [some (.ref p), some (.ref a), some (iN d), some (.ref r), some (.ref rl), some (.ref st), some (.int (0 + (i : Nat))), some (iN n), x8, some (.ref pa), some (.int ((N : Int) - 1)), some (.ref e)], ?_, ?_⟩
      · obtain ⟨dq, pq, sq, mq, nq, eq, _⟩ := id tf.sm.rcv
        refine ⟨_, rfl, r, dq, _, rfl, eq, rfl, _, rfl, _, rfl, ?_⟩
        intro xk dk nxk ndk nek
        refine ⟨xk, _, dk, _, _, rfl, upd_same, rfl, fun Hk ek => ⟨rfl, ?_⟩⟩
        subst ek
        have gk : Gr tb Hf (upd (upd (upd (upd Hf dk (.own xk)) xk (.ins (He.ga K "Packet") dk [])) xk (.ins (He.ga K "Packet") dk [("tick", iN n)])) xk (.ins (He.ga K "Packet") dk [("tick", iN n), ("parts", .ref pa)])) := Gr.made nxk ndk ((Gw.wr upd_same rfl).trans (Gw.wr upd_same rfl))
        generalize hHk : upd (upd (upd (upd Hf dk (.own xk)) xk (.ins (He.ga K "Packet") dk [])) xk (.ins (He.ga K "Packet") dk [("tick", iN n)])) xk (.ins (He.ga K "Packet") dk [("tick", iN n), ("parts", .ref pa)]) = Hk at gk ⊢
        have ekk : Hk xk = some (.ins (He.ga K "Packet") dk [("tick", iN n), ("parts", .ref pa)]) := by rw [← hHk]; exact upd_same
        have tk := tf.gr gk
        obtain ⟨dq2, pq2, sq2, mq2, nq2, eq2, _⟩ := id tk.sm.rcv
        refine ⟨r, xk, c, d, N, n, ks, P', told, ((tkAt ks n).1.map (lawPart rs n)), rfl, tk.sm.rcv, tk.sm.ok, ⟨dk, pa, ekk, gk.at hpaX⟩, hvl, by omega, by omega, by omega, tk.gw.tb hT, fun _ a5 Hh gh hT5 => ?_, fun z => absurd hold z⟩
        have th := tk.gr gh
        have hTe2 := (hTe.gr gk).gr gh
        refine ⟨_, rfl, _, _, hT5.dp, hTe2.dp, Sh.ps.shaped (by decide), Sh.ps.shaped (by decide), _, rfl, ?_⟩
        rw [Sh.ps.eqv]
        refine iteF ?_
        refine ⟨_, rfl, _, rfl, _, rfl, _, rfl, r, a, st, c, d, N, ks, P', L, told, rfl, th.sm.rcv, th.sm.ok, th.tks, th.sm.sti, th.sm.rel.jl, ag, by omega, fun Hi gi => ⟨_, rfl, iteF ?_⟩⟩
        exact ⟨e, hTe2.gr gi, (gh.trans gi).at (gk.at hpaX), th.gr gi, rfl⟩
      rintro σ Hg ⟨e, hTe, hpaX, tf, rfl⟩
      refine ⟨fun σ' H' => ∃ e, TPL H' e [] ∧ H' pa = some (.tup (((tkAt ks n).1.map (lawPart rs n)).map fun v => iN v)) ∧ TSt K tb sc H p a rl r st ks rs d (B + 300 + 10 * i + 5) c N P' L told H' ∧ σ' = [some (.ref p), some (.ref a), some (iN d), some (.ref r), some (.ref rl), some (.ref st), some (.int (0 + (i : Nat))), some (iN n), x8, some (.ref pa), some (.int ((N : Int) - 1)), some (.ref e)], ?_, ?_⟩
      · obtain ⟨dq, pq, sq, mq, nq, eq, _⟩ := id tf.sm.rcv
        refine ⟨_, rfl, r, dq, _, rfl, eq, rfl, _, rfl, _, rfl, ?_⟩
        intro xk dk nxk ndk nek
        refine ⟨xk, _, dk, _, _, rfl, upd_same, rfl, fun Hk ek => ⟨rfl, ?_⟩⟩
        subst ek
        have gk : Gr tb Hg (upd (upd (upd (upd Hg dk (.own xk)) xk (.ins (He.ga K "Packet") dk [])) xk (.ins (He.ga K "Packet") dk [("tick", iN n)])) xk (.ins (He.ga K "Packet") dk [("tick", iN n), ("parts", .ref pa)])) := Gr.made nxk ndk ((Gw.wr upd_same rfl).trans (Gw.wr upd_same rfl))
        generalize hHk : upd (upd (upd (upd Hg dk (.own xk)) xk (.ins (He.ga K "Packet") dk [])) xk (.ins (He.ga K "Packet") dk [("tick", iN n)])) xk (.ins (He.ga K "Packet") dk [("tick", iN n), ("parts", .ref pa)]) = Hk at gk ⊢
        have ekk : Hk xk = some (.ins (He.ga K "Packet") dk [("tick", iN n), ("parts", .ref pa)]) := by rw [← hHk]; exact upd_same
        have tk := tf.gr gk
        obtain ⟨dq2, pq2, sq2, mq2, nq2, eq2, _⟩ := id tk.sm.rcv
        refine ⟨r, xk, c, d, N, n, ks, P', told, ((tkAt ks n).1.map (lawPart rs n)), rfl, tk.sm.rcv, tk.sm.ok, ⟨dk, pa, ekk, gk.at hpaX⟩, hvl, by omega, by omega, by omega, tk.gw.tb hT, fun _ a5 Hh gh hT5 => ?_, fun z => absurd hold z⟩
        have th0 := tk.gr gh
        refine ⟨(by decide : (0 : Nat) ≤ sizeLine), fun e0 ne0 => ?_⟩
        have ge0 := Gr.new (tb := tb) (o := .tup []) ne0
        have th := th0.gr ge0
        refine ⟨_, _, (hT5.gr ge0).dp, .tup (SqT.of upd_same) .nil, Sh.ps.shaped (by decide), (Sh.ps (P := [])).shaped (by decide), _, rfl, ?_⟩
        rw [show PyData.eqv (.tuple (([] : List (Nat × Nat)).map dP)) (.tuple []) = true from (Sh.ps (P := [])).eqv]
        refine iteF ?_
        refine ⟨_, rfl, _, rfl, _, rfl, _, rfl, r, a, st, c, d, N, ks, P', L, told, rfl, th.sm.rcv, th.sm.ok, th.tks, th.sm.sti, th.sm.rel.jl, ag, by omega, fun Hi gi => ⟨_, rfl, iteF ?_⟩⟩
        exact ⟨e, (((hTe.gr gk).gr gh).gr ge0).gr gi, (gh.trans (ge0.trans gi)).at (gk.at hpaX), th.gr gi, rfl⟩
      rintro σ Hh ⟨e, hTe, hpaX, tf, rfl⟩
      refine ⟨_, rfl, _, rfl, _, rfl, _, _, rfl, rfl, _, _, rfl, rfl, _, rfl, ?_⟩
      rw [decide_eq_true (show (n : Int) < (N : Int) - 1 - (d : Int) by omega)]
      refine iteT ⟨_, rfl, (by decide : (0 : Nat) ≤ sizeLine), fun e0 ne0 => ?_⟩
      have ge0 := Gr.new (tb := tb) (o := .tup []) ne0
      refine ⟨_, _, (hTe.gr ge0).dp, .tup (SqT.of upd_same) .nil, Sh.ps.shaped (by decide), (Sh.ps (P := [])).shaped (by decide), _, rfl, ?_⟩
      rw [show PyData.eqv (.tuple (([] : List (Nat × Nat)).map dP)) (.tuple []) = true from (Sh.ps (P := [])).eqv]
      have th := tf.gr ge0
      obtain ⟨dq, pq, sq, mq, nq, eq, _⟩ := id th.sm.rcv
      refine iteF ⟨_, rfl, r, dq, _, rfl, eq, r, c, d, N, ks, P', told, rfl, th.sm.rcv, _, rfl, rfl, _, rfl, ?_⟩
      rw [decide_eq_true rfl]
      exact iteF ⟨st, c, N, P', L, told, _, _, _, _, _, _, th.more (by omega), hN, by omega, rfl⟩
    · intro t st' fa Hf gf ht hst' hTf
      refine ⟨t, _, rfl, SqT.of ht, rfl, _, _, rfl, _, _, rfl, rfl, ?_⟩
      have tf := te.gr gf
      have hpaX := gf.at hpa
      have R2 := te.sm.rel.hear okP hd8 (n := n) (by omega) (by omega) hnew hz
      have efr := fresh_found R2 hd8 told
      have ok2 := te.sm.ok.hear R2 (by omega)
      have ag := R2.agree hd8
      have hj := te.sm.rel.jl
      have hag := hear_again (ks := ks) (n := n) (L := L) okP (by omega) hj ((tkAt ks n).1.map (lawPart rs n))
      rw [efr] at ok2
      have hM : max N (n + 1) ≤ 22 := by omega
      refine ⟨fun σ' H' => H' pa = some (.tup (((tkAt ks n).1.map (lawPart rs n)).map fun v => iN v)) ∧ TPL H' fa (foundA ks d (max N (n + 1)) (hearA ks n L ((tkAt ks n).1.map (lawPart rs n))) told) ∧ TSt K tb sc H p a rl r st' ks rs d (B + 300 + 10 * i + 5) (c + 1) (max N (n + 1)) (hearP ks d N n P' ((tkAt ks n).1.map (lawPart rs n))) (hearA ks n L ((tkAt ks n).1.map (lawPart rs n))) (told ++ foundA ks d (max N (n + 1)) (hearA ks n L ((tkAt ks n).1.map (lawPart rs n))) told) H' ∧ σ' = [some (.ref p), some (.ref a), some (iN d), some (.ref r), some (.ref rl), some (.ref st'), some (.int (0 + (i : Nat))), some (iN n), x8, some (.ref pa), some (.int ((N : Int) - 1)), some (.ref fa)], ?_, ?_⟩
      · obtain ⟨dq, pq, sq, mq, nq, eq, _⟩ := id tf.sm.rcv
        refine ⟨_, rfl, r, dq, _, rfl, eq, rfl, _, rfl, _, rfl, ?_⟩
        intro xk dk nxk ndk nek
        refine ⟨xk, _, dk, _, _, rfl, upd_same, rfl, fun Hk ek => ⟨rfl, ?_⟩⟩
        subst ek
        have gk : Gr tb Hf (upd (upd (upd (upd Hf dk (.own xk)) xk (.ins (He.ga K "Packet") dk [])) xk (.ins (He.ga K "Packet") dk [("tick", iN n)])) xk (.ins (He.ga K "Packet") dk [("tick", iN n), ("parts", .ref pa)])) := Gr.made nxk ndk ((Gw.wr upd_same rfl).trans (Gw.wr upd_same rfl))
        generalize hHk : upd (upd (upd (upd Hf dk (.own xk)) xk (.ins (He.ga K "Packet") dk [])) xk (.ins (He.ga K "Packet") dk [("tick", iN n)])) xk (.ins (He.ga K "Packet") dk [("tick", iN n), ("parts", .ref pa)]) = Hk at gk ⊢
        have ekk : Hk xk = some (.ins (He.ga K "Packet") dk [("tick", iN n), ("parts", .ref pa)]) := by rw [← hHk]; exact upd_same
        have tk := tf.gr gk
        obtain ⟨dq2, pq2, sq2, mq2, nq2, eq2, _⟩ := id tk.sm.rcv
        refine ⟨r, xk, c, d, N, n, ks, P', told, ((tkAt ks n).1.map (lawPart rs n)), rfl, tk.sm.rcv, tk.sm.ok, ⟨dk, pa, ekk, gk.at hpaX⟩, hvl, by omega, by omega, by omega, tk.gw.tb hT, fun z => absurd z hnew, fun _ a5 Hh gh hT5 hR5 => ?_⟩
        rw [efr] at hT5 hR5
        have hfa := (hTf.gr gk).gwr gh eq2
        have hst5 := (hst'.gr gk).gwr gh eq2
        have th := tk.set gh ⟨hR5, ok2, hst5, R2⟩
        refine ⟨_, rfl, _, _, hT5.dp, hfa.dp, Sh.ps.shaped (by decide), Sh.ps.shaped (by decide), _, rfl, ?_⟩
        rw [Sh.ps.eqv]
        refine iteF ?_
        refine ⟨_, rfl, _, rfl, _, rfl, _, rfl, r, a, st', c + 1, d, _, ks, _, _, _, rfl, th.sm.rcv, th.sm.ok, th.tks, th.sm.sti, th.sm.rel.jl, ag, by omega, fun Hi gi => ⟨_, rfl, iteF ?_⟩⟩
        exact ⟨gi.at (gh.at (gk.at hpaX) eq2 (fun z => by cases z)), hfa.gr gi, th.gr gi, rfl⟩
      rintro σ Hg ⟨hpaX, hTfg, tg, rfl⟩
      generalize hM2 : max N (n + 1) = M at tg R2 ok2 ag hM hTfg
      generalize hP2 : hearP ks d N n P' ((tkAt ks n).1.map (lawPart rs n)) = P2 at tg R2 ok2 ag
      generalize hL2 : hearA ks n L ((tkAt ks n).1.map (lawPart rs n)) = L2 at tg R2 ok2 ag hag hTfg
      generalize hF2 : foundA ks d M L2 told = F2 at tg ok2 hTfg
      have hnew2 : ¬ n + d + 1 < M := by omega
      have hMM : max M (n + 1) = M := by omega
      have R3 := R2.hear okP hd8 (n := n) (by omega) (by omega) hnew2 hz
      rw [hag, hMM] at R3
      have efr2 : freshL ks d M (hearP ks d M n P2 ((tkAt ks n).1.map (lawPart rs n))) (told ++ F2) = [] := by
        rw [fresh_found R3 hd8, ← hF2]
        exact found_again
      have ag3 := R3.agree hd8
      have ok3 : OkR ks d M (hearP ks d M n P2 ((tkAt ks n).1.map (lawPart rs n))) (told ++ F2) := ⟨okP, hd8, R3.jp, ok2.nd, ok2.n4, ok2.lt⟩
      refine ⟨fun σ' H' => TSt K tb sc H p a rl r st' ks rs d (B + 300 + 10 * i + 5) (c + 2) M (hearP ks d M n P2 ((tkAt ks n).1.map (lawPart rs n))) L2 (told ++ F2) H' ∧ σ' = [some (.ref p), some (.ref a), some (iN d), some (.ref r), some (.ref rl), some (.ref st'), some (.int (0 + (i : Nat))), some (iN n), x8, some (.ref pa), some (.int ((N : Int) - 1)), some (.ref fa)], ?_, ?_⟩
      · obtain ⟨dq, pq, sq, mq, nq, eq, _⟩ := id tg.sm.rcv
        refine ⟨_, rfl, r, dq, _, rfl, eq, rfl, _, rfl, _, rfl, ?_⟩
        intro xk dk nxk ndk nek
        refine ⟨xk, _, dk, _, _, rfl, upd_same, rfl, fun Hk ek => ⟨rfl, ?_⟩⟩
        subst ek
        have gk : Gr tb Hg (upd (upd (upd (upd Hg dk (.own xk)) xk (.ins (He.ga K "Packet") dk [])) xk (.ins (He.ga K "Packet") dk [("tick", iN n)])) xk (.ins (He.ga K "Packet") dk [("tick", iN n), ("parts", .ref pa)])) := Gr.made nxk ndk ((Gw.wr upd_same rfl).trans (Gw.wr upd_same rfl))
        generalize hHk : upd (upd (upd (upd Hg dk (.own xk)) xk (.ins (He.ga K "Packet") dk [])) xk (.ins (He.ga K "Packet") dk [("tick", iN n)])) xk (.ins (He.ga K "Packet") dk [("tick", iN n), ("parts", .ref pa)]) = Hk at gk ⊢
        have ekk : Hk xk = some (.ins (He.ga K "Packet") dk [("tick", iN n), ("parts", .ref pa)]) := by rw [← hHk]; exact upd_same
        have tk := tg.gr gk
        obtain ⟨dq2, pq2, sq2, mq2, nq2, eq2, _⟩ := id tk.sm.rcv
        refine ⟨r, xk, c + 1, d, M, n, ks, P2, told ++ F2, ((tkAt ks n).1.map (lawPart rs n)), rfl, tk.sm.rcv, tk.sm.ok, ⟨dk, pa, ekk, gk.at hpaX⟩, hvl, by omega, by omega, by omega, tk.gw.tb hT, fun z => absurd z hnew2, fun _ a5 Hh gh hT5 hR5 => ?_⟩
        rw [hMM, efr2] at hT5 hR5
        rw [List.append_nil] at hR5
        have hst5 := tk.sm.sti.gwr gh eq2
        have th0 := tk.set gh ⟨hR5, ok3, hst5, R3⟩
        refine ⟨(by decide : (0 : Nat) ≤ sizeLine), fun e0 ne0 => ?_⟩
        have ge0 := Gr.new (tb := tb) (o := .tup []) ne0
        have th := th0.gr ge0
        refine ⟨_, _, (hT5.gr ge0).dp, .tup (SqT.of upd_same) .nil, Sh.ps.shaped (by decide), (Sh.ps (P := [])).shaped (by decide), _, rfl, ?_⟩
        rw [show PyData.eqv (.tuple (([] : List (Nat × Nat)).map dP)) (.tuple []) = true from (Sh.ps (P := [])).eqv]
        refine iteF ?_
        refine ⟨_, rfl, _, rfl, _, rfl, _, rfl, r, a, st', c + 2, d, _, ks, _, _, _, rfl, th.sm.rcv, th.sm.ok, th.tks, th.sm.sti, th.sm.rel.jl, ag3, by omega, fun Hi gi => ⟨_, rfl, iteF ?_⟩⟩
        exact ⟨th.gr gi, rfl⟩
      rintro σ Hh ⟨th, rfl⟩
      refine ⟨_, rfl, _, rfl, _, rfl, _, _, rfl, rfl, _, _, rfl, rfl, _, rfl, ?_⟩
      rw [decide_eq_false (show ¬ (n : Int) < (N : Int) - 1 - (d : Int) by omega)]
      exact iteF ⟨st', c + 2, M, _, L2, told ++ F2, _, _, _, _, _, _, th.more (by omega), hM, by omega, rfl⟩
  · rintro σ Ha ⟨st, c, N, P', L, told, x, y, z, w, v, u, ta, hN, hc, rfl⟩
    exact q Ha ta.gw (ta.pen.mono (by omega))
end B
end
section
set_option linter.all false
set_option pp.maxSteps 700
set_option maxRecDepth 100000
namespace B
open PySem PySem.Spec PyProof.Rows L2 La
def fv (L : List (Nat × Nat)) (x : Nat) : V := if (red L x 0).1 = 0 then iN (red L x 0).2 else .non
def fdat (L : List (Nat × Nat)) (x : Nat) : PyData := if (red L x 0).1 = 0 then .int ((red L x 0).2 : Nat) else .none
theorem told_same {told : List (Nat × Nat)} {ls : List Nat} (perm : ls.Perm (told.map (·.1))) : ∀ p ∈ ls.map (fun n : Nat => ((Sum.inl ((n : Nat) : Int) : Key), iN ((told.lookup n).getD 0))), valV (kvT told) p.1 = some p.2 ∧ flatB p.2 = true := by
  intro p hp
  obtain ⟨n, hn, rfl⟩ := List.mem_map.mp hp
  obtain ⟨v, hv⟩ := lookup_mem' (told := told) (n := n) (perm.mem_iff.mp hn)
  refine ⟨?_, rfl⟩
  show valV (kvT told) (Sum.inl (n : Int)) = _
  rw [valV_kvT, hv] <;> rfl
def sp__law_far_right (tb : List (Addr × Str)) : Sp := fun vs H Q _ => ∃ (p : Addr) (B : Nat) (sc : Addr × List Int), vs = [.ref p] ∧ PenI sc B H p ∧ B ≤ 400000 ∧ LamX.Tabs tb H ∧ ∀ H', Gw tb p H H' → PenI sc (B + 1000) H' p → Q (.bl true) H'
abbrev nm__law_far_right : List Str := ["_law_pen_here", "_law_ticks_here", "_law_delay", "_law_receiver", "_law_rows_here", "_law_stand", "_law_turn", "_law_number", "_law_parts_here", "_law_due", "_law_found", "_law_age", "_law_is_there", "_law_mask", "_law_value"]
theorem sc__law_far_right : FnScope nm__law_far_right ["_law_pen_here"] (defScope s__law_far_right) := ⟨rfl, rfl, rfl, by decide +kernel, rfl, by decide +kernel, by decide +kernel⟩
theorem c__law_far_right {P : Program} {w : World} {K : PySem.W.Frag} {mg : Str → Option Value} {base : Heap} {tb : List (Addr × Str)} (T : Tx K mg base tb) : Cf P w K mg base 11 "_law_far_right" (sp__law_far_right tb) := by
  obtain ⟨f, fd, F, hm⟩ := T.f__law_far_right
  refine ⟨f, @mkR P w K mg base _ _ _ _ _ _ _ (sp__law_far_right tb) 10 F sc__law_far_right (fun _ _ _ _ _ _ us hl => match us, hl with | [_], _ => rfl) (fun vs H Q E h => by obtain ⟨p, B, sc, rfl, hp, hB, hT, q⟩ := h; rfl) (fun cdv A outer s H vs Q E hr h => ⟨_, (pss_cons (ps_par (i := 1) (j := 2) rfl sc__law_far_right.nd rfl rfl (by decide) rfl rfl (pa_cons (pe_cR (c__law_ticks (K := K) T) hr (by decide) rfl (pa_cons (pv 0) (pa_cons pe_int (pa_cons pe_int pa_nil)))) (pa_cons (pe_op op_add pe_int (pe_cR (c__law_draw (K := K) T) hr (by decide) rfl (pa_cons (pv 0) (pa_cons pe_int pa_nil)))) pa_nil)) (by rfl))
      (pss_cons (ps_asg (pe_tup (pa_cons (pe_kR (c_Receiver (K := K) T) hr (by decide) rfl (pa_cons (pe_cR (c__law_plan (K := K) T) hr (by decide) rfl (pa_cons (pv 1) pa_nil)) (pa_cons (pv 2) pa_nil))) (pa_cons (pe_cR (c__law_rows (K := K) T) hr (by decide) rfl (pa_cons (pv 0) (pa_cons (pv 1) (pa_cons pe_int pa_nil)))) (pa_cons (pe_cR0 (c__law_begun (K := K) T) hr (by decide) rfl) pa_nil)))) (pg_tup rfl (pgs_cons (pg_name (i := 3) sc__law_far_right.nd rfl (Or.inr rfl)) (pgs_cons (pg_name (i := 4) sc__law_far_right.nd rfl (Or.inl rfl)) (pgs_cons (pg_name (i := 5) sc__law_far_right.nd rfl (Or.inl rfl)) pgs_nil)))))
      (C8.pss_cut (ps_for PassesOwn.never rfl (pi_range1 (by rfl) T.n_range (pa_cons pe_int pa_nil)) (pg_name (i := 6) sc__law_far_right.nd rfl (Or.inl rfl))
      (C8.pss_cut (ps_set (i := 7) sc__law_far_right.nd rfl (Or.inl rfl) (pe_callB (call_min2 rfl) (by rfl) T.n_min (by decide +kernel) (pa_cons pe_int (pa_cons (pe_callB (call_max2 rfl) (by rfl) T.n_max (by decide +kernel) (pa_cons pe_int (pa_cons (pe_callTy call_int1 (by rfl) T.n_int (by decide +kernel) (pa_cons (pe_op op_sub (pe_op op_add (pe_ix ix_tup (pv 5) pe_int (fun _ _ => rfl)) pe_int) (pe_cR (c__law_draw (K := K) T) hr (by decide) rfl (pa_cons (pv 0) (pa_cons pe_int pa_nil)))) pa_nil)) pa_nil))) pa_nil))))
      (C8.pss_cut (ps_set (i := 8) sc__law_far_right.nd rfl (Or.inl rfl) (pe_cR (c__law_parts (K := K) T) hr (by decide) rfl (pa_cons (pv 1) (pa_cons (pv 4) (pa_cons (pv 7) pa_nil)))))
      (pss_cons (ps_asg (pe_cR (c__law_heard_by (K := K) T) hr (by decide) rfl (pa_cons (pv 1) (pa_cons (pv 5) (pa_cons (pv 2) (pa_cons (pv 7) (pa_cons (pv 8) pa_nil)))))) (pg_tup rfl (pgs_cons (pg_name (i := 5) sc__law_far_right.nd rfl (Or.inl rfl)) (pgs_cons (pg_name (i := 9) sc__law_far_right.nd rfl (Or.inl rfl)) pgs_nil))))
      (pss_one (ps_if (PW.pt (pw_or (pt_cmpR (op_neD (Room.units hr)) (pe_mR (c_Receiver_hear (K := K) T) hr (by decide) (pv 3) (pa_cons (pe_kR (c_Packet (K := K) T) hr (by decide) rfl (pa_cons (pv 7) (pa_cons (pv 8) pa_nil))) pa_nil)) (pv 9) (nomark _)) (pw_or (pt_cmpR (op_ne_dictA (Room.units0 hr)) (pe_pR (c_Receiver_told (K := K) T) hr (by decide) (pv 3) (by rfl)) (pe_ix ix_tup (pv 5) pe_int (fun _ _ => rfl)) (nomark _)) (pw_or1 (pt_cmpR op_ne (pe_pR (c_Receiver_now (K := K) T) hr (by decide) (pv 3) (by rfl)) (pe_ix ix_tup (pv 5) pe_int (fun _ _ => rfl)) (nomark _)))))) (pss_one (ps_ret pe_bl)) pss_nil))))))
      (pss_cons (ps_set (i := 10) sc__law_far_right.nd rfl (Or.inl rfl) (pe_lst pa_nil))
      (C8.pss_cut (ps_for PassesOwn.never rfl (pi_range1 (by rfl) T.n_range (pa_cons (pe_op op_add (pv 2) pe_int) pa_nil)) (pg_name (i := 11) sc__law_far_right.nd rfl (Or.inl rfl))
      (C8.pss_cut (ps_set (i := 12) sc__law_far_right.nd rfl (Or.inl rfl) (pe_and (pe_cmpR op_ge (pe_ix ix_tup (pv 5) pe_int (fun _ _ => rfl)) (pv 11) (nomark _)) (pe_one (pe_not (pe_cR (c__law_is_mute (K := K) T) hr (by decide) rfl (pa_cons (pv 1) (pa_cons (pe_op op_sub (pe_ix ix_tup (pv 5) pe_int (fun _ _ => rfl)) (pv 11)) pa_nil)))))))
      (C8.pss_cut (ps_asg (pe_cR (c__law_reduced (K := K) T) hr (by decide) rfl (pa_cons (pe_ix ix_tup (pv 5) pe_int (fun _ _ => rfl)) (pa_cons (pe_ifExp (pt_val (pv 12)) (pe_cR (c__law_bit (K := K) T) hr (by decide) rfl (pa_cons (pe_op op_sub (pe_ix ix_tup (pv 5) pe_int (fun _ _ => rfl)) (pv 11)) pa_nil)) pe_int) (pa_cons pe_int pa_nil)))) (pg_tup rfl (pgs_cons (pg_name (i := 13) sc__law_far_right.nd rfl (Or.inl rfl)) (pgs_cons (pg_name (i := 14) sc__law_far_right.nd rfl (Or.inl rfl)) pgs_nil))))
      (pss_one (ps_expr (pe_bm PySem.F.plainAttrs_list PySem.F.slot_list_append PySem.F.type_list_append mt_append (pv 10) (pa_cons (pe_ifExp (pt_cmpR op_eq (pv 13) pe_int (nomark _)) (pv 14) pe_non) pa_nil)))))))
      (pss_one (ps_ret (pe_cmpR (op_eqD (Room.units hr)) (pe_lc (own := [("_law_age", 11)]) (g := gName 11) (tt := tYes) rfl sc__law_far_right.nd (pi_range1 (by rfl) T.n_range (pa_cons (pe_op op_add (pv 2) pe_int) pa_nil)) (blkOk_by (own := [("_law_age", 11)]) (N := nm__law_far_right) (sc := defScope s__law_far_right) (by decide +kernel)) (fun _ _ _ _ _ => pg_name (i := 11) sc__law_far_right.nd rfl (Or.inl rfl)) (fun _ _ _ _ _ => pts_nil) (fun _ _ _ _ _ => (pe_mR (c_Receiver_worth (K := K) T) hr (by decide) (pv 3) (pa_cons (pe_cR (c__law_bit (K := K) T) hr (by decide) rfl (pa_cons (pv 11) pa_nil)) pa_nil)))) (pv 10) (nomark _))))))))), ?_⟩), hm, F.kp⟩
  obtain ⟨p, B, sc, rfl, hp, hB, hT, q⟩ := h
  refine ⟨_, rfl, p, 2, 8, B, sc, rfl, hp, by decide, by decide, by decide, by decide, by omega, fun a ks H1 okP hk hap gw1 hp1 => ?_⟩
  refine ⟨_, rfl, p, 3, B + 201, sc, rfl, hp1, by decide, by decide, by omega, fun d0 H2 hd0 gw2 hp2 => ⟨_, _, rfl, rfl, _, _, rfl, ?_⟩⟩
  dsimp only
  rw [show V.int (6 + (d0 : Int)) = iN (d0 + 6) from congrArg V.int (by omega)]
  have hd8 : d0 + 6 ≤ 8 := by omega
  generalize d0 + 6 = d at hd8
  have hk2 := lticks_pen hk gw2 hp1
  have gw12 := gw1.trans gw2
  refine ⟨_, rfl, a, ks, rfl, hk2, okP, fun pl H3 g3 hpl => ?_⟩
  refine ⟨_, rfl, ?_⟩
  intro r dx nr ndx ne
  have gi := (Gr.new (tb := tb) (o := .own r) ndx).trans (Gr.new (tb := tb) (o := .ins (He.ga K "Receiver") dx []) (by rw [upd_ne (Ne.symm ne)]; exact nr))
  refine ⟨r, dx, pl, _, d, ks, rfl, upd_same, rfl, hpl.gr gi, okP, by omega, fun H4 gw4 hR4 => ⟨rfl, ?_⟩⟩
  have g34 := g3.trans (Gr.made nr ndx gw4)
  have hk4 := lticks_gr hk2 g34
  have hp4 := hp2.gr g34
  refine ⟨_, rfl, _, rfl, p, a, 22, B + 202, sc, ks, rfl, hp4, hk4, okP.1, hap, by decide, by omega, fun rl rs H5 hrl hmu hrs hrp gw5 hp5 => ?_⟩
  refine ⟨rfl, fun st l dd H6 H7 H8 e6 e7 e8 nl nd na => ⟨(by decide : (3 : Nat) ≤ sizeLine), fun tp ntp => ?_⟩⟩
  have nrH : ∀ o, H r = some o → nt o = false := fun o e => by
    cases hn : nt o with
    | false => rfl
    | true =>
      exfalso
      by_cases hrp2 : r = p
      · obtain ⟨xs, hx⟩ := (hp2.gr g3).pk
        rw [← hrp2, nr] at hx
        cases hx
      · have := g3.ex r o (gw12.ex r o e hrp2 hn) hn
        rw [nr] at this
        cases this
  have g68 : Gr tb H5 H8 := by
    subst e6 e7 e8
    exact ((Gr.new nl).trans (Gr.new nd)).trans (Gr.new na)
  have hst8 : StI H8 st 0 [] [] := by
    subst e6 e7 e8
    have gA := (Gr.new (tb := tb) (o := .dK []) nd).trans (Gr.new (tb := tb) (o := .tup [.int (-1), .ref l, .ref dd]) na)
    exact ⟨l, dd, upd_same, ⟨[], rfl, gA.at upd_same, (fun t m => by cases m)⟩, (Gr.new (tb := tb) na).at upd_same⟩
  have hR8 : RcvI K 0 H8 r ks d 0 (begunL (d + ageP ks)) [] := (hR4.gwp gw5 hp4).gr g68
  have t0 : TSt K tb sc H p a rl r st ks rs d (B + 300) 0 0 (begunL (d + ageP ks)) [] [] H8 :=
    ⟨⟨hR8, ⟨okP, hd8, begun_js _, List.nodup_nil, Nat.zero_le _, (fun p h => by cases h)⟩, hst8, Rel.begun ks rs d⟩, (hp5.gr g68).mono (by omega), lticks_gr (lticks_pen hk4 gw5 hp4) g68, g68.at hrs, (((gw12.trans (Gw.of g34)).trans gw5).trans (Gw.of g68)), nrH⟩
  have t0 := t0.gr (Gr.new (tb := tb) (o := .tup [.ref r, .ref rl, .ref st]) ntp)
  refine ⟨tp, _, rfl, SqT.of upd_same, rfl, _, _, rfl, _, _, rfl, _, _, rfl, rfl, ?_⟩
  generalize upd H8 tp (.tup [.ref r, .ref rl, .ref st]) = H9 at t0 ⊢
  refine ⟨fun σ' H' => ∃ st c N P L told x y v u, TSt K tb sc H p a rl r st ks rs d (B + 600) c N P L told H' ∧ N ≤ 22 ∧ c ≤ 16 ∧ σ' = [some (.ref p), some (.ref a), some (iN d), some (.ref r), some (.ref rl), some (.ref st), x, y, v, u, none, none, none, none, none], ?_, ?_⟩
  · refine ⟨_, rfl, by decide, by decide, ?_⟩
    refine for_range (lo := 0) (n := 16) (fun i σ H' => ∃ st c N P L told x y v u, TSt K tb sc H p a rl r st ks rs d (B + 300 + 10 * i) c N P L told H' ∧ N ≤ 22 ∧ c ≤ i ∧ σ = [some (.ref p), some (.ref a), some (iN d), some (.ref r), some (.ref rl), some (.ref st), x, y, v, u, none, none, none, none, none]) ⟨st, 0, 0, _, _, _, _, _, _, _, t0, Nat.zero_le _, Nat.zero_le _, rfl⟩ ?_ ?_
    · rintro i σ Ha hi ⟨st, c, N, P', L, told, x, y, v, u, ta, hN, hc, rfl⟩
      obtain ⟨kl, dd, est, _, _⟩ := id ta.sm.sti
      have hpa := ta.pen
      refine ⟨fun σ' H' => ∃ n : Nat, n ≤ 21 ∧ TSt K tb sc H p a rl r st ks rs d (B + 300 + 10 * i + 2) c N P' L told H' ∧ σ' = [some (.ref p), some (.ref a), some (iN d), some (.ref r), some (.ref rl), some (.ref st), some (.int (0 + (i : Nat))), some (iN n), v, u, none, none, none, none, none], ?_, ?_⟩
      · refine ⟨_, rfl, st, _, _, .int ((N : Int) - 1), rfl, rfl, SqT.of est, rfl, _, _, rfl, rfl, _, rfl, p, 10, _, sc, rfl, hpa, by decide, by decide, by omega, fun r1 Hc hr1 gc hpc => ⟨_, _, rfl, rfl, .inl ⟨_, rfl, _, _, rfl, _, _, rfl, min 21 (N + 1 - r1), by omega, (ta.draw gc hpc).more (by omega), ?_⟩⟩⟩
        exact congrArg (fun z' => [some (V.ref p), some (.ref a), some (iN d), some (.ref r), some (.ref rl), some (.ref st), some (.int (0 + (i : Nat))), some (V.int z'), v, u, none, none, none, none, none]) (show (if (if (N : Int) - 1 + 2 - (r1 : Int) > 0 then (N : Int) - 1 + 2 - (r1 : Int) else 0) < 21 then (if (N : Int) - 1 + 2 - (r1 : Int) > 0 then (N : Int) - 1 + 2 - (r1 : Int) else 0) else 21) = ((min 21 (N + 1 - r1) : Nat) : Int) by split <;> split <;> omega)
      rintro σ Hd ⟨n, hn21, td, rfl⟩
      have hz : ∀ j, j ≤ n → (tkAt ks j).2 = true → rs.getD j 0 = 0 := fun j hj hm => hmu j (by omega) hm
      refine ⟨fun σ' H' => ∃ pa, TSt K tb sc H p a rl r st ks rs d (B + 300 + 10 * i + 2) c N P' L told H' ∧ H' pa = some (.tup (((tkAt ks n).1.map (lawPart rs n)).map fun v => iN v)) ∧ σ' = [some (.ref p), some (.ref a), some (iN d), some (.ref r), some (.ref rl), some (.ref st), some (.int (0 + (i : Nat))), some (iN n), some (.ref pa), u, none, none, none, none, none], ?_, ?_⟩
      · exact ⟨_, rfl, _, rfl, _, rfl, a, rl, n, ks, rs, rfl, td.tks, okP, td.row, by rw [hrl]; omega, fun pa Hv ge hpa => ⟨pa, td.gr ge, hpa, rfl⟩⟩
      rintro σ Hv ⟨pa, te, hpa, rfl⟩
      have hvl : ((tkAt ks n).1.map (lawPart rs n)).length = (tkAt ks n).1.length := List.length_map ..
      refine ⟨_, rfl, _, rfl, _, rfl, _, rfl, _, rfl, a, st, pa, d, N, n, ks, L, told, _, rfl, te.tks, okP, te.sm.sti, te.sm.rel.jl, hpa, hvl, by omega, by omega, by omega, by have := te.sm.ok.len; omega, fun hold => ?_, fun hnew => ?_⟩
      · intro t e Hf gf ht hTe
        refine ⟨t, _, rfl, SqT.of ht, rfl, _, _, rfl, _, _, rfl, rfl, ?_⟩
        have tf := te.gr gf
        have hpaX := gf.at hpa
        obtain ⟨dq, pq, sq, mq, nq, eq, _⟩ := id tf.sm.rcv
        refine ⟨_, rfl, r, dq, _, rfl, eq, rfl, _, rfl, _, rfl, ?_⟩
        intro xk dk nxk ndk nek
        refine ⟨xk, _, dk, _, _, rfl, upd_same, rfl, fun Hk ek => ⟨rfl, ?_⟩⟩
        subst ek
        have gk : Gr tb Hf (upd (upd (upd (upd Hf dk (.own xk)) xk (.ins (He.ga K "Packet") dk [])) xk (.ins (He.ga K "Packet") dk [("tick", iN n)])) xk (.ins (He.ga K "Packet") dk [("tick", iN n), ("parts", .ref pa)])) := Gr.made nxk ndk ((Gw.wr upd_same rfl).trans (Gw.wr upd_same rfl))
        generalize hHk : upd (upd (upd (upd Hf dk (.own xk)) xk (.ins (He.ga K "Packet") dk [])) xk (.ins (He.ga K "Packet") dk [("tick", iN n)])) xk (.ins (He.ga K "Packet") dk [("tick", iN n), ("parts", .ref pa)]) = Hk at gk ⊢
        have ekk : Hk xk = some (.ins (He.ga K "Packet") dk [("tick", iN n), ("parts", .ref pa)]) := by rw [← hHk]; exact upd_same
        have tk := tf.gr gk
        obtain ⟨dq2, pq2, sq2, mq2, nq2, eq2, _⟩ := id tk.sm.rcv
        refine ⟨r, xk, c, d, N, n, ks, P', told, ((tkAt ks n).1.map (lawPart rs n)), rfl, tk.sm.rcv, tk.sm.ok, ⟨dk, pa, ekk, gk.at hpaX⟩, hvl, by omega, by omega, by omega, tk.gw.tb hT, fun _ a5 Hh gh hT5 => ?_, fun z => absurd hold z⟩
        have th := tk.gr gh
        have hTe2 := (hTe.gr gk).gr gh
        refine ⟨_, rfl, _, _, hT5.dp, hTe2.dp, Sh.ps.shaped (by decide), Sh.ps.shaped (by decide), _, rfl, ?_⟩
        rw [Sh.ps.eqv]
        refine iteF ?_
        have ttl := th.sm.ok.len
        obtain ⟨dq3, pq3, sq3, mq3, nq3, eq3, _⟩ := id th.sm.rcv
        refine ⟨_, rfl, r, dq3, _, rfl, eq3, r, c, d, N, ks, P', told, rfl, th.sm.rcv, th.sm.ok, fun a2 Hx ls gx perm srt ha2 => ?_⟩
        have tx := th.gr gx
        obtain ⟨kx, ddx, estx, _, hddx⟩ := id tx.sm.sti
        refine ⟨_, rfl, st, _, _, .ref ddx, rfl, rfl, SqT.of estx, rfl, a2, ddx, _, _, rfl, rfl, ha2, hddx, by rw [List.length_map, kvT_len, perm.length_eq, List.length_map], told_same perm, _, rfl, iteF ?_⟩
        obtain ⟨dq4, pq4, sq4, mq4, nq4, eq4, _⟩ := id tx.sm.rcv
        refine ⟨_, rfl, r, dq4, _, rfl, eq4, r, c, d, N, ks, P', told, rfl, tx.sm.rcv, _, rfl, st, _, _, .int (((N : Nat) : Int) - 1), rfl, rfl, SqT.of estx, rfl, rfl, _, rfl, ?_⟩
        rw [decide_eq_true rfl]
        exact iteF ⟨st, c, N, P', _, told, _, _, _, _, tx.more (by omega), by omega, by omega, rfl⟩
      · intro t st' fa Hf gf ht hst' hTf
        refine ⟨t, _, rfl, SqT.of ht, rfl, _, _, rfl, _, _, rfl, rfl, ?_⟩
        have tf := te.gr gf
        have hpaX := gf.at hpa
        have R2 := te.sm.rel.hear okP hd8 (n := n) (by omega) (by omega) hnew hz
        have efr := fresh_found R2 hd8 told
        have ok2 := te.sm.ok.hear R2 (by omega)
        rw [efr] at ok2
        have hM : max N (n + 1) ≤ 22 := by omega
        obtain ⟨dq, pq, sq, mq, nq, eq, _⟩ := id tf.sm.rcv
        refine ⟨_, rfl, r, dq, _, rfl, eq, rfl, _, rfl, _, rfl, ?_⟩
        intro xk dk nxk ndk nek
        refine ⟨xk, _, dk, _, _, rfl, upd_same, rfl, fun Hk ek => ⟨rfl, ?_⟩⟩
        subst ek
        have gk : Gr tb Hf (upd (upd (upd (upd Hf dk (.own xk)) xk (.ins (He.ga K "Packet") dk [])) xk (.ins (He.ga K "Packet") dk [("tick", iN n)])) xk (.ins (He.ga K "Packet") dk [("tick", iN n), ("parts", .ref pa)])) := Gr.made nxk ndk ((Gw.wr upd_same rfl).trans (Gw.wr upd_same rfl))
        generalize hHk : upd (upd (upd (upd Hf dk (.own xk)) xk (.ins (He.ga K "Packet") dk [])) xk (.ins (He.ga K "Packet") dk [("tick", iN n)])) xk (.ins (He.ga K "Packet") dk [("tick", iN n), ("parts", .ref pa)]) = Hk at gk ⊢
        have ekk : Hk xk = some (.ins (He.ga K "Packet") dk [("tick", iN n), ("parts", .ref pa)]) := by rw [← hHk]; exact upd_same
        have tk := tf.gr gk
        obtain ⟨dq2, pq2, sq2, mq2, nq2, eq2, _⟩ := id tk.sm.rcv
        refine ⟨r, xk, c, d, N, n, ks, P', told, ((tkAt ks n).1.map (lawPart rs n)), rfl, tk.sm.rcv, tk.sm.ok, ⟨dk, pa, ekk, gk.at hpaX⟩, hvl, by omega, by omega, by omega, tk.gw.tb hT, fun z => absurd z hnew, fun _ a5 Hh gh hT5 hR5 => ?_⟩
        rw [efr] at hT5 hR5
        have hfa := (hTf.gr gk).gwr gh eq2
        have hst5 := (hst'.gr gk).gwr gh eq2
        have th := tk.set gh ⟨hR5, ok2, hst5, R2⟩
        generalize hM2 : max N (n + 1) = M at th R2 ok2 hM hT5 hfa
        generalize hP2 : hearP ks d N n P' ((tkAt ks n).1.map (lawPart rs n)) = P2 at th
        generalize hL2 : hearA ks n L ((tkAt ks n).1.map (lawPart rs n)) = L2 at th hT5 hfa
        generalize hF2 : foundA ks d M L2 told = F2 at th hT5 hfa
        refine ⟨_, rfl, _, _, hT5.dp, hfa.dp, Sh.ps.shaped (by decide), Sh.ps.shaped (by decide), _, rfl, ?_⟩
        rw [Sh.ps.eqv]
        refine iteF ?_
        have ttl := th.sm.ok.len
        obtain ⟨dq3, pq3, sq3, mq3, nq3, eq3, _⟩ := id th.sm.rcv
        refine ⟨_, rfl, r, dq3, _, rfl, eq3, r, c + 1, d, M, ks, P2, (told ++ F2), rfl, th.sm.rcv, th.sm.ok, fun a2 Hx ls gx perm srt ha2 => ?_⟩
        have tx := th.gr gx
        obtain ⟨kx, ddx, estx, _, hddx⟩ := id tx.sm.sti
        refine ⟨_, rfl, st', _, _, .ref ddx, rfl, rfl, SqT.of estx, rfl, a2, ddx, _, _, rfl, rfl, ha2, hddx, by rw [List.length_map, kvT_len, perm.length_eq, List.length_map], told_same perm, _, rfl, iteF ?_⟩
        obtain ⟨dq4, pq4, sq4, mq4, nq4, eq4, _⟩ := id tx.sm.rcv
        refine ⟨_, rfl, r, dq4, _, rfl, eq4, r, c + 1, d, M, ks, P2, (told ++ F2), rfl, tx.sm.rcv, _, rfl, st', _, _, .int (((M : Nat) : Int) - 1), rfl, rfl, SqT.of estx, rfl, rfl, _, rfl, ?_⟩
        rw [decide_eq_true rfl]
        exact iteF ⟨st', c + 1, M, P2, _, (told ++ F2), _, _, _, _, tx.more (by omega), by omega, by omega, rfl⟩
    · rintro σ Ha ⟨st, c, N, P', L, told, x, y, v, u, ta, hN, hc, rfl⟩
      exact ⟨st, c, N, P', L, told, x, y, v, u, ta.more (by omega), hN, hc, rfl⟩
  rintro σ Ha ⟨st, c, N, P', L, told, x, y, v, u, ta, hN, hc, rfl⟩
  refine ⟨(by decide : (0 : Nat) ≤ sizeLine), fun F nF => ?_⟩
  have gF := Gr.new (tb := tb) (o := .lst []) nF
  refine ⟨fun σ' H' => Gr tb Ha H' ∧ H' F = some (.lst ((List.range (d + 1)).map fun g => fv L (fT ks N g))) ∧ ∃ x1 x2 x3 x4, σ' = [some (.ref p), some (.ref a), some (iN d), some (.ref r), some (.ref rl), some (.ref st), x, y, v, u, some (.ref F), x1, x2, x3, x4], ?_, ?_⟩
  · refine ⟨_, rfl, _, _, rfl, rfl, _, rfl, by omega, by omega, ?_⟩
    refine for_range (lo := 0) (n := ((d : Int) + 1).toNat) (fun i σ H' => H' F = some (.lst ((List.range i).map fun g => fv L (fT ks N g))) ∧ Gw tb F (upd Ha F (.lst [])) H' ∧ ∃ x1 x2 x3 x4, σ = [some (.ref p), some (.ref a), some (iN d), some (.ref r), some (.ref rl), some (.ref st), x, y, v, u, some (.ref F), x1, x2, x3, x4]) ⟨upd_same, Gw.refl _, _, _, _, _, rfl⟩ ?_ ?_
    · rintro i σ Hb hi ⟨hF, gw, x1, x2, x3, x4, rfl⟩
      rw [show V.int (0 + (i : Nat)) = iN i from congrArg V.int (by omega)]
      have gb := gF.gw nF gw
      have tb1 := ta.gr gb
      obtain ⟨kl, dd, est, hkl, hdd⟩ := id tb1.sm.sti
      refine ⟨fun σ' H' => H' = Hb ∧ σ' = [some (.ref p), some (.ref a), some (iN d), some (.ref r), some (.ref rl), some (.ref st), x, y, v, u, some (.ref F), some (iN i), some (.bl (decide (i < N ∧ (tkAt ks (N - 1 - i)).2 = false))), x3, x4], ?_, ?_⟩
      · refine ⟨_, rfl, st, _, _, .int ((N : Int) - 1), rfl, rfl, SqT.of est, rfl, _, rfl, _, _, rfl, rfl, _, rfl, ite2 (fun h => ?_) fun h => ?_⟩
        · have hiN : i < N := by have := of_decide_eq_true h; omega
          have en : (N : Int) - 1 - (i : Int) = ((N - 1 - i : Nat) : Int) := by omega
          refine ⟨_, rfl, _, rfl, st, _, _, .int ((N : Int) - 1), rfl, rfl, SqT.of est, rfl, _, rfl, _, _, rfl, rfl, a, N - 1 - i, ks, congrArg (fun z => [V.ref a, V.int z]) en, tb1.tks, okP.1, _, rfl, rfl, ?_⟩
          have e : decide (i < N ∧ (tkAt ks (N - 1 - i)).2 = false) = !(tkAt ks (N - 1 - i)).2 := by
            cases (tkAt ks (N - 1 - i)).2 <;> simp [hiN]
          rw [e] <;> rfl
        · have hiN : ¬ i < N := fun z => h (decide_eq_true (by omega))
          refine ⟨rfl, ?_⟩
          rw [decide_eq_false (fun z => hiN z.1)] <;> rfl
      rintro σ Hb ⟨rfl, rfl⟩
      refine ⟨fun σ' H' => Gr tb Hb H' ∧ σ' = [some (.ref p), some (.ref a), some (iN d), some (.ref r), some (.ref rl), some (.ref st), x, y, v, u, some (.ref F), some (iN i), some (.bl (decide (i < N ∧ (tkAt ks (N - 1 - i)).2 = false))), some (iN (red L (fT ks N i) 0).1), some (iN (red L (fT ks N i) 0).2)], ?_, ?_⟩
      · refine ⟨_, rfl, st, _, _, .ref kl, rfl, rfl, SqT.of est, rfl, _, rfl, _, rfl, ?_⟩
        have fin : ∀ t, Hb t = none → ∃ a1 xs, V.ref t = V.ref a1 ∧ SqT K (upd Hb t (.tup [iN (red L (fT ks N i) 0).1, iN (red L (fT ks N i) 0).2])) a1 xs ∧ True := fun t _ => ⟨t, _, rfl, SqT.of upd_same, True.intro⟩
        by_cases hc2 : i < N ∧ (tkAt ks (N - 1 - i)).2 = false
        · rw [decide_eq_true hc2]
          have en : (N : Int) - 1 - (i : Int) = ((N - 1 - i : Nat) : Int) := by omega
          refine iteT ⟨_, rfl, st, _, _, .int ((N : Int) - 1), rfl, rfl, SqT.of est, rfl, _, rfl, _, _, rfl, rfl, N - 1 - i, congrArg (fun z => [V.int z]) en, by omega, kl, 2 ^ (N - 1 - i), 0, L, rfl, hkl, tb1.sm.rel.jl.nz, fun t nt => ?_⟩
          have ef : fT ks N i = 2 ^ (N - 1 - i) := by unfold fT; rw [if_pos hc2]
          rw [ef]
          exact ⟨t, _, rfl, SqT.of upd_same, rfl, _, _, rfl, _, _, rfl, rfl, Gr.new nt, rfl⟩
        · rw [decide_eq_false hc2]
          refine iteF ⟨kl, 0, 0, L, rfl, hkl, tb1.sm.rel.jl.nz, fun t nt => ?_⟩
          have ef : fT ks N i = 0 := by unfold fT; rw [if_neg hc2]
          rw [ef]
          exact ⟨t, _, rfl, SqT.of upd_same, rfl, _, _, rfl, _, _, rfl, rfl, Gr.new nt, rfl⟩
      rintro σ Hc ⟨gc, rfl⟩
      have hFc := gc.at hF
      have z' : (1000 : Nat) < sizeLine := by decide
      have fin : ∀ val : V, val = fv L (fT ks N i) → ∃ l ys y1, (V.ref F) = .ref l ∧ [val] = [y1] ∧ Hc l = some (.lst ys) ∧ ys.length < sizeLine ∧ True := fun val e => ⟨F, _, _, rfl, rfl, hFc, by rw [mtup, List.length_range]; omega, True.intro⟩
      have gwc := gw.trans (Gw.of gc)
      refine ⟨_, rfl, .inl ⟨rfl, _, SqL.of hFc⟩, _, rfl, rfl, _, rfl, ?_⟩
      rw [zdec]
      by_cases h0 : (red L (fT ks N i) 0).1 = 0
      · rw [decide_eq_true h0]
        refine iteT ⟨_, rfl, F, _, _, rfl, rfl, hFc, by rw [mtup, List.length_range]; omega, ?_, gwc.put hFc rfl, _, _, _, _, rfl⟩
        rw [upd_same, List.range_succ, List.map_append, show (List.map (fun g => fv L (fT ks N g)) [i]) = [iN (red L (fT ks N i) 0).2] from by unfold fv; rw [List.map_cons, if_pos h0] <;> rfl]
      · rw [decide_eq_false h0]
        refine iteF ⟨F, _, _, rfl, rfl, hFc, by rw [mtup, List.length_range]; omega, ?_, gwc.put hFc rfl, _, _, _, _, rfl⟩
        rw [upd_same, List.range_succ, List.map_append, show (List.map (fun g => fv L (fT ks N g)) [i]) = [V.non] from by unfold fv; rw [List.map_cons, if_neg h0] <;> rfl]
    · rintro σ Hb ⟨hF, gw, x1, x2, x3, x4, rfl⟩
      rw [show ((d : Int) + 1).toNat = d + 1 by omega] at hF
      exact ⟨gF.gw nF gw, hF, x1, x2, x3, x4, rfl⟩
  rintro σ Hb ⟨gb, hF, x1, x2, x3, x4, rfl⟩
  have tb1 := ta.gr gb
  refine ⟨_, rfl, _, _, rfl, rfl, _, rfl, by omega, by omega, fun D nD => ?_⟩
  have R := ta.sm.rel
  have efv : ∀ g, g < d + 1 → fv P' (2 ^ g) = fv L (fT ks N g) := fun g hg => by
    have hlt : 2 ^ g < 2 ^ (d + ageP ks + 1) := Nat.pow_lt_pow_right (by decide) (by omega)
    have eT : Tf ks N (2 ^ g) = fT ks N g := by unfold Tf; exact lin_two (by omega)
    have h1 := R.red_zero hlt
    have h2 := R.red_value hlt
    rw [eT] at h1 h2
    unfold fv
    by_cases h0 : (red P' (2 ^ g) 0).1 = 0
    · rw [if_pos h0, if_pos (h1.mp h0), h2 h0]
    · rw [if_neg h0, if_neg (fun z => h0 (h1.mpr z))]
  refine lcV walk_range tb nD (by omega) (fun i acc => acc = (List.range i).map fun g => fv L (fT ks N g)) rfl (fun _ _ => True.intro) ?_ ?_
  · rintro i x5 H6 H7 acc K1 K2 hi rfl g7 ⟨rfl, ex⟩ k1 _
    obtain rfl : x5 = iN i := ex.trans (congrArg V.int (by omega))
    have th := tb1.gr g7
    obtain ⟨dq, pq, sq, mq, nq, eq, _⟩ := id th.sm.rcv
    refine ⟨rfl, _, rfl, r, dq, _, rfl, eq, rfl, _, rfl, i, rfl, by omega, r, c, d, N, 2 ^ i, ks, P', told, rfl, th.sm.rcv, th.sm.ok, Nat.pow_lt_pow_right (by decide) (by omega), fun H8 g8 => ?_⟩
    refine k1 _ H8 g8 ?_
    rw [List.range_succ, List.map_append]
    show _ = _ ++ [fv L (fT ks N i)]
    rw [← efv i (by omega)] <;> rfl
  rintro H6 acc g6 hD rfl
  have hn : ((d : Int) + 1).toNat = d + 1 := by omega
  rw [hn] at hD
  have dpv : ∀ (b : Addr), H6 b = some (.lst ((List.range (d + 1)).map fun g => fv L (fT ks N g))) → Dp K H6 (.ref b) (.list ((List.range (d + 1)).map fun g => fdat L (fT ks N g))) := fun b hb => .lst (SqL.of hb) (dpa_map fun g _ => by
    unfold fv fdat
    split
    · exact .int _
    · exact .non)
  have shv : Sh 1 (.list ((List.range (d + 1)).map fun g => fdat L (fT ks N g))) := Sh.lst (k := 0) fun e he => by
    obtain ⟨g, _, rfl⟩ := List.mem_map.mp he
    unfold fdat
    split
    · exact Sh.int 0 _
    · exact Sh.non 0
  refine ⟨_, rfl, _, _, dpv D hD, dpv F (g6.at hF), shv.shaped (by decide), shv.shaped (by decide), ?_⟩
  have tz := tb1.gr g6
  refine ev (congrArg V.bl shv.eqv) (q H6 tz.gw (tz.pen.mono (by omega)))
end B
end
section
set_option linter.all false
namespace B
open La
section
variable {ks : List Tk} {rs : List Nat} {d N n : Nat} {P L told : List (Nat × Nat)}
theorem add_span {S b v m : Nat} (j : JS S L) (hb : b < 2 ^ (S + 1)) : Span (fsts (addL L b v)) m ↔ Span (b :: fsts L) m := by
  rw [← (j.add (v := v) hb).iff, add_rb j hb, span_cons, j.iff, j.iff]
theorem foldA_span {S : Nat} : ∀ {bs : List (Nat × Nat)} {L : List (Nat × Nat)}, JS S L → (∀ b ∈ bs, b.1 < 2 ^ (S + 1)) → ∀ m, Span (fsts (foldA L bs)) m ↔ Span (bs.map (·.1) ++ fsts L) m
  | [], L, _, _, m => Iff.rfl
  | b :: bs, L, j, hb, m => by
    have h1 := foldA_span (bs := bs) (j.add (v := b.2) (hb b List.mem_cons_self)) (fun c hc => hb c (List.mem_cons_of_mem _ hc)) m
    show Span (fsts (foldA (addL L b.1 b.2) bs)) m ↔ _
    rw [h1]
    have e : ∀ x, Span (fsts (addL L b.1 b.2)) x ↔ Span (b.1 :: fsts L) x := fun x => add_span j (hb b List.mem_cons_self)
    constructor
    · refine Span.sub fun p hp => ?_
      rcases List.mem_append.mp hp with hp | hp
      · exact Span.one (by rw [List.map_cons]; exact List.mem_append_left _ (List.mem_cons_of_mem _ hp))
      · refine ((e p).mp (Span.one hp)).mono fun q hq => ?_
        rw [List.map_cons]
        rcases List.mem_cons.mp hq with rfl | hq
        · exact List.mem_append_left _ List.mem_cons_self
        · exact List.mem_append_right _ hq
    · refine Span.sub fun p hp => ?_
      rw [List.map_cons] at hp
      rcases List.mem_append.mp hp with hp | hp
      · rcases List.mem_cons.mp hp with rfl | hp
        · exact ((e b.1).mpr (Span.one List.mem_cons_self)).mono fun q hq => List.mem_append_right _ hq
        · exact Span.one (List.mem_append_left _ hp)
      · exact ((e p).mpr (Span.one (List.mem_cons_of_mem _ hp))).mono fun q hq => List.mem_append_right _ hq
/-- the masks of all that was heard -/
def gens (ks : List Tk) (hs : List Nat) : List Nat := hs.flatMap fun n => (tkAt ks n).1.map (lawMask ks n)
theorem hear_span {hs : List Nat} (ok : OkP ks) (j : JS 59 L) (hn : n ≤ 50) {vals : List Nat} (hv : vals.length = (tkAt ks n).1.length) (h : ∀ m, Span (fsts L) m ↔ Span (gens ks hs) m) : ∀ m, Span (fsts (hearA ks n L vals)) m ↔ Span (gens ks (n :: hs)) m := by
  intro m
  unfold hearA
  rw [foldA_span j (mask60 ok hn vals) m]
  have e : (((tkAt ks n).1.map (lawMask ks n)).zip vals).map (·.1) = (tkAt ks n).1.map (lawMask ks n) := by
    rw [List.map_fst_zip]
    rw [List.length_map, hv]
    exact Nat.le_refl _
  have e2 : (((tkAt ks n).1.map (lawMask ks n)).zip vals).map (fun x => x.1) = (tkAt ks n).1.map (lawMask ks n) := e
  rw [e2]
  have eg : gens ks (n :: hs) = (tkAt ks n).1.map (lawMask ks n) ++ gens ks hs := by
    unfold gens
    rw [List.flatMap_cons]
  rw [eg]
  constructor
  · refine Span.sub fun p hp => ?_
    rcases List.mem_append.mp hp with hp | hp
    · exact Span.one (List.mem_append_left _ hp)
    · exact ((h p).mp (Span.one hp)).mono fun q hq => List.mem_append_right _ hq
  · refine Span.sub fun p hp => ?_
    rcases List.mem_append.mp hp with hp | hp
    · exact Span.one (List.mem_append_left _ hp)
    · exact ((h p).mpr (Span.one hp)).mono fun q hq => List.mem_append_right _ hq
/-- all that is known is told -/
def Full (ks : List Tk) (rs : List Nat) (N : Nat) (L told : List (Nat × Nat)) : Prop := ∀ t, told.lookup t = if t < N ∧ (tkAt ks t).2 = false ∧ rb (fsts L) (2 ^ t) = 0 then some (Vf rs (2 ^ t)) else none
theorem lookup_range {f : Nat → Option (Nat × Nat)} (hf : ∀ i p, f i = some p → p.1 = i) (t : Nat) : ∀ k : Nat, ((List.range k).filterMap f).lookup t = if t < k then (f t).map (·.2) else none
  | 0 => rfl
  | k + 1 => by
    rw [fm_succ, List.lookup_append, lookup_range hf t k]
    by_cases h : t < k
    · rw [if_pos h, if_pos (by omega)]
      cases e : f t with
      | none =>
        cases e2 : f k with
        | none => rfl
        | some p =>
          have := hf k p e2
          show (none : Option Nat).or ([p].lookup t) = _
          obtain ⟨a, b⟩ := p
          rw [List.lookup_cons, show (t == a) = false from beq_eq_false_iff_ne.mpr (by simp only at this; omega)] <;> rfl
      | some p => rfl
    · rw [if_neg h]
      by_cases h2 : t = k
      · subst h2
        rw [if_pos (by omega)]
        cases e : f t with
        | none => rfl
        | some p =>
          have := hf t p e
          obtain ⟨a, b⟩ := p
          simp only at this
          subst this
          show (none : Option Nat).or ([(a, b)].lookup a) = _
          rw [List.lookup_cons, beq_self_eq_true] <;> rfl
      · rw [if_neg (by omega)]
        cases e : f k with
        | none => rfl
        | some p =>
          have := hf k p e
          obtain ⟨a, b⟩ := p
          simp only at this
          show (none : Option Nat).or ([(a, b)].lookup t) = _
          rw [List.lookup_cons, show (t == a) = false from beq_eq_false_iff_ne.mpr (by omega)] <;> rfl
theorem Full.hear (F : Full ks rs N L told) (R : Rel ks rs d N P L) (R2 : Rel ks rs d (max N (n + 1)) P' (hearA ks n L vals)) (ok : OkP ks) (hd : max N (n + 1) ≤ d + 1) (hn : n ≤ 50) :
    Full ks rs (max N (n + 1)) (hearA ks n L vals) (told ++ foundA ks d (max N (n + 1)) (hearA ks n L vals) told) := by
  intro t
  have hM : N ≤ max N (n + 1) := by omega
  have hkeep := fun m => foldA_keep R.jl (mask60 ok hn vals) m
  have hL : hearA ks n L vals = foldA L (((tkAt ks n).1.map (lawMask ks n)).zip vals) := rfl
  rw [← hL] at hkeep
  generalize max N (n + 1) = M at R2 hd hM ⊢
  generalize hearA ks n L vals = L2 at R2 hkeep ⊢
  have efr : foundA ks d M L2 told = (List.range M).filterMap (frG ks L2 told) := by
    unfold foundA
    rw [show M - 1 - d = 0 by omega, Nat.sub_zero]
    refine fmc fun i _ => ?_
    rw [Nat.zero_add]
  rw [efr, List.lookup_append, F t, lookup_range (fun i p e => by
    unfold frG at e
    split at e
    · injection e with e; rw [← e]
    · cases e) t M]
  by_cases h0 : t < N ∧ (tkAt ks t).2 = false ∧ rb (fsts L) (2 ^ t) = 0
  · have h9 : t < M ∧ (tkAt ks t).2 = false ∧ rb (fsts L2) (2 ^ t) = 0 := ⟨by omega, h0.2.1, hkeep _ h0.2.2⟩
    rw [if_pos h0]
    exact (if_pos h9).symm
  · have hl : told.lookup t = none := by rw [F t, if_neg h0]
    rw [if_neg h0]
    by_cases h1 : t < M ∧ (tkAt ks t).2 = false ∧ rb (fsts L2) (2 ^ t) = 0
    · rw [if_pos h1, if_pos h1.1]
      have hr : (red L2 (2 ^ t) 0).1 = 0 := by rw [red_fst]; exact h1.2.2
      have ef : frG ks L2 told t = some (t, (red L2 (2 ^ t) 0).2) := by
        unfold frG
        rw [if_pos ⟨hr, hl, h1.2.1⟩]
      rw [ef, red_val0 (Vf_lin rs) R2.lv hr] <;> rfl
    · rw [if_neg h1]
      by_cases h2 : t < M
      · rw [if_pos h2]
        have ef : frG ks L2 told t = none := by
          unfold frG
          rw [if_neg (fun z => h1 ⟨h2, z.2.2, by rw [← red_fst (v := 0)]; exact z.1⟩)]
        rw [ef] <;> rfl
      · rw [if_neg h2] <;> rfl
end
end B
end
section
set_option linter.all false
namespace B
open La
/-- what stands of a receiver that has heard hs, with nothing left out -/
structure Ord (ks : List Tk) (rs : List Nat) (d : Nat) (hs : List Nat) (N : Nat) (P L told : List (Nat × Nat)) : Prop where
  rel : Rel ks rs d N P L
  full : Full ks rs N L told
  spn : ∀ m, Span (fsts L) m ↔ Span (gens ks hs) m
  lt : ∀ n ∈ hs, n < N
section
variable {ks : List Tk} {rs : List Nat} {d N n : Nat} {P L told P2 L2 told2 : List (Nat × Nat)} {hs hs2 : List Nat}
theorem span_lt {F : List Nat} {k m : Nat} (hF : ∀ o ∈ F, o < 2 ^ k) (h : Span F m) : m < 2 ^ k := by
  induction h with
  | zero => exact Nat.two_pow_pos k
  | add hp _ ih => exact Nat.xor_lt_two_pow (hF _ hp) ih
theorem gens_sub (h : ∀ n, n ∈ hs → n ∈ hs2) : ∀ x ∈ gens ks hs, x ∈ gens ks hs2 := by
  intro x hx
  obtain ⟨n, hn, hx⟩ := List.mem_flatMap.mp hx
  exact List.mem_flatMap.mpr ⟨n, h n hn, hx⟩
theorem Ord.begun (ks : List Tk) (rs : List Nat) (d : Nat) : Ord ks rs d [] 0 (begunL (d + ageP ks)) [] [] :=
  ⟨Rel.begun ks rs d, (fun t => by rw [if_neg (by omega)] <;> rfl), (fun m => Iff.rfl), (fun n h => by cases h)⟩
theorem Ord.hear (A : Ord ks rs d hs N P L told) (ok : OkP ks) (hd8 : d ≤ 8) (hd : max N (n + 1) ≤ d + 1) (hz : ∀ i, i ≤ n → (tkAt ks i).2 = true → rs.getD i 0 = 0) :
    Ord ks rs d (n :: hs) (max N (n + 1)) (hearP ks d N n P ((tkAt ks n).1.map (lawPart rs n))) (hearA ks n L ((tkAt ks n).1.map (lawPart rs n)))
      (told ++ freshL ks d (max N (n + 1)) (hearP ks d N n P ((tkAt ks n).1.map (lawPart rs n))) told) := by
  have hR := A.rel.hear ok hd8 (n := n) (by omega) (by omega) (by omega) hz
  refine ⟨hR, ?_, hear_span ok A.rel.jl (by omega) (List.length_map ..) A.spn, ?_⟩
  · rw [fresh_found hR hd8 told]
    exact A.full.hear A.rel hR ok hd (by omega)
  · intro m hm
    rcases List.mem_cons.mp hm with rfl | hm
    · omega
    · have := A.lt m hm
      omega
theorem Ord.rb (A : Ord ks rs d hs N P L told) (B : Ord ks rs d hs2 N P2 L2 told2) (h : ∀ n, n ∈ hs ↔ n ∈ hs2) (m : Nat) : La.rb (fsts L) m = 0 ↔ La.rb (fsts L2) m = 0 := by
  rw [A.rel.jl.iff, B.rel.jl.iff, A.spn, B.spn]
  exact ⟨fun s => s.mono (gens_sub fun n hn => (h n).mp hn), fun s => s.mono (gens_sub fun n hn => (h n).mpr hn)⟩
theorem Ord.known (A : Ord ks rs d hs N P L told) (B : Ord ks rs d hs2 N P2 L2 told2) (h : ∀ n, n ∈ hs ↔ n ∈ hs2) {most : Nat} (hm : most ≤ d) : rrefS (knownL P most) = rrefS (knownL P2 most) := by
  have hlt : ∀ {P : List (Nat × Nat)} {m : Nat}, Span (knownL P most) m → m < 2 ^ (most + 1) := fun s => span_lt known_lt s
  have hp : 2 ^ (most + 1) ≤ 2 ^ (d + ageP ks + 1) := Nat.pow_le_pow_right (by decide) (by omega)
  refine rrefS_uniq (k := most + 1) known_lt known_lt fun m => ?_
  constructor
  · intro s
    have hb := hlt s
    rw [known_rb A.rel.jp hb] at s
    rw [known_rb B.rel.jp hb, B.rel.sp m (by omega), ← A.rb B h, ← A.rel.sp m (by omega)]
    exact s
  · intro s
    have hb := hlt s
    rw [known_rb B.rel.jp hb] at s
    rw [known_rb A.rel.jp hb, A.rel.sp m (by omega), A.rb B h, ← B.rel.sp m (by omega)]
    exact s
theorem Ord.tell (A : Ord ks rs d hs N P L told) (B : Ord ks rs d hs2 N P2 L2 told2) (h : ∀ n, n ∈ hs ↔ n ∈ hs2) (t : Nat) : told.lookup t = told2.lookup t := by
  rw [A.full t, B.full t]
  have := A.rb B h (2 ^ t)
  by_cases h0 : t < N ∧ (tkAt ks t).2 = false ∧ La.rb (fsts L) (2 ^ t) = 0
  · rw [if_pos h0, if_pos ⟨h0.1, h0.2.1, this.mp h0.2.2⟩]
  · rw [if_neg h0, if_neg fun z => h0 ⟨z.1, z.2.1, this.mpr z.2.2⟩]
theorem mem_keys {l : List (Nat × Nat)} {t : Nat} : t ∈ l.map (·.1) ↔ l.lookup t ≠ none := by
  induction l with
  | nil => exact ⟨fun h => (by cases h), fun h => absurd rfl h⟩
  | cons p l ih =>
    obtain ⟨a, b⟩ := p
    rw [List.lookup_cons, List.map_cons, List.mem_cons]
    by_cases e : t = a
    · subst e
      rw [beq_self_eq_true]
      exact ⟨fun _ h => (by cases h), fun _ => .inl rfl⟩
    · rw [show (t == a) = false from beq_eq_false_iff_ne.mpr e]
      exact ⟨fun h => ih.mp (h.resolve_left e), fun h => .inr (ih.mpr h)⟩
/-- two tellings that answer alike are laid alike, when sorted -/
theorem keys_same {l l2 : List (Nat × Nat)} (h : ∀ t, l.lookup t = l2.lookup t) {a b : List Nat} (ha : a.Perm (l.map (·.1))) (hb : b.Perm (l2.map (·.1))) (na : (l.map (·.1)).Nodup) (nb : (l2.map (·.1)).Nodup) (sa : a.Pairwise (· ≤ ·)) (sb : b.Pairwise (· ≤ ·)) : a = b := by
  refine List.Perm.eq_of_pairwise (le := (· ≤ ·)) (fun x y _ _ h1 h2 => Nat.le_antisymm h1 h2) sa sb ?_
  refine (List.perm_ext_iff_of_nodup (ha.nodup_iff.mpr na) (hb.nodup_iff.mpr nb)).mpr fun t => ?_
  rw [ha.mem_iff, hb.mem_iff, mem_keys, mem_keys, h t]
end
end B
end
section
set_option linter.all false
set_option pp.maxSteps 700
set_option maxRecDepth 100000
namespace B
open PySem PySem.Spec PyProof.Rows L2 La
theorem RcvI.gwo {tb : List (Addr × Str)} {K : PySem.W.Frag} {c c2 d d2 N N2 : Nat} {H H' : Hp} {r r2 : Addr} {ks ks2 : List Tk} {P told P2 told2 : List (Nat × Nat)} (h : RcvI K c H r ks d N P told) (g : Gw tb r2 H H') (h2 : RcvI K c2 H r2 ks2 d2 N2 P2 told2) (ne : r ≠ r2) : RcvI K c H' r ks d N P told := by
  obtain ⟨xdx, xpl, xpast, xms, xm, hx, _⟩ := h2
  have no : ∀ {C dx : Addr} {k : Str} {v : V} {fs : List (Str × V)}, k ≠ "plan" → HO.ins C dx ((k, v) :: fs) ≠ HO.ins (He.ga K "Receiver") xdx [("plan", .ref xpl), ("delay", iN d2), ("own_past", .ref xpast)] := fun hk z => by
    injection z with _ _ z
    injection z with z _
    injection z with z _
    exact hk z
  obtain ⟨dx, pl, past, ms, m, e, ⟨d2, ta, e2, ts, e3, hl2, hts⟩, hpa, hl, ⟨dm, k, dd, e5, ⟨dk, lk, e6, hpl⟩, e7⟩⟩ := h
  refine ⟨dx, pl, past, ms, m, g.at' e ne, ⟨d2, ta, g.at e2 hx (no (by decide)), ts, e3, g.at hl2 hx (fun z => by cases z), fun t mt => ?_⟩, g.at hpa hx (fun z => by cases z), hl, ⟨dm, k, dd, g.at e5 hx (no (by decide)), ⟨dk, lk, g.at e6 hx (no (by decide)), ?_⟩, g.at e7 hx (fun z => by cases z)⟩⟩
  · obtain ⟨dt, sa, e8, ⟨ts9, e9, hl9, ht9⟩⟩ := hts t mt
    exact ⟨dt, sa, g.at e8 hx (no (by decide)), ts9, e9, g.at hl9 hx (fun z => by cases z), fun t m => Gw.at g (ht9 t m) hx (fun z => by cases z)⟩
  · obtain ⟨ts, e, hl, ht⟩ := hpl
    exact ⟨ts, e, g.at hl hx (fun z => by cases z), fun t m => Gw.at g (ht t m) hx (fun z => by cases z)⟩
/-- one receiver that has heard hs -/
structure One (K : PySem.W.Frag) (c : Nat) (H : Hp) (r : Addr) (ks : List Tk) (rs hs : List Nat) (N : Nat) (P L told : List (Nat × Nat)) : Prop where
  rcv : RcvI K c H r ks 4 N P told
  ok : OkR ks 4 N P told
  ord : Ord ks rs 4 hs N P L told
  n5 : N ≤ 5
/-- what stands: the pen, the ticks, the rows, both receivers -/
structure OSt (K : PySem.W.Frag) (tb : List (Addr × Str)) (sc : Addr × List Int) (H0 : Hp) (p a rl r1 r2 nl : Addr) (ks : List Tk) (rs ns : List Nat) (B : Nat) (c1 N1 : Nat) (P1 L1 t1 : List (Nat × Nat)) (h1 : List Nat) (c2 N2 : Nat) (P2 L2 t2 : List (Nat × Nat)) (h2 : List Nat) (H : Hp) : Prop where
  one : One K c1 H r1 ks rs h1 N1 P1 L1 t1
  two : One K c2 H r2 ks rs h2 N2 P2 L2 t2
  pen : PenI sc B H p
  tks : LTicks H a ks
  row : H rl = some (.lst (rs.map fun v => iN v))
  num : H nl = some (.lst (ns.map fun v => iN v))
  gw : Gw tb p H0 H
  n1 : ∀ o, H0 r1 = some o → nt o = false
  n2 : ∀ o, H0 r2 = some o → nt o = false
  ne : r1 ≠ r2
section
variable {K : PySem.W.Frag} {tb : List (Addr × Str)} {sc : Addr × List Int} {H0 H H' : Hp} {p a rl r r1 r2 nl : Addr} {ks : List Tk} {rs ns h h1 h2 : List Nat} {B B' c c' c1 c2 N N' N1 N2 : Nat} {P L told P' L' told' P1 L1 t1 P2 L2 t2 : List (Nat × Nat)}
theorem One.gr (o : One K c H r ks rs h N P L told) (g : Gr tb H H') : One K c H' r ks rs h N P L told := ⟨o.rcv.gr g, o.ok, o.ord, o.n5⟩
theorem OSt.gr (t : OSt K tb sc H0 p a rl r1 r2 nl ks rs ns B c1 N1 P1 L1 t1 h1 c2 N2 P2 L2 t2 h2 H) (g : Gr tb H H') : OSt K tb sc H0 p a rl r1 r2 nl ks rs ns B c1 N1 P1 L1 t1 h1 c2 N2 P2 L2 t2 h2 H' :=
  ⟨t.one.gr g, t.two.gr g, t.pen.gr g, lticks_gr t.tks g, g.at t.row, g.at t.num, t.gw.trans (Gw.of g), t.n1, t.n2, t.ne⟩
theorem OSt.more (t : OSt K tb sc H0 p a rl r1 r2 nl ks rs ns B c1 N1 P1 L1 t1 h1 c2 N2 P2 L2 t2 h2 H) (hb : B ≤ B') : OSt K tb sc H0 p a rl r1 r2 nl ks rs ns B' c1 N1 P1 L1 t1 h1 c2 N2 P2 L2 t2 h2 H :=
  ⟨t.one, t.two, t.pen.mono hb, t.tks, t.row, t.num, t.gw, t.n1, t.n2, t.ne⟩
theorem OSt.draw (t : OSt K tb sc H0 p a rl r1 r2 nl ks rs ns B c1 N1 P1 L1 t1 h1 c2 N2 P2 L2 t2 h2 H) (g : Gw tb p H H') (hp : PenI sc B' H' p) : OSt K tb sc H0 p a rl r1 r2 nl ks rs ns B' c1 N1 P1 L1 t1 h1 c2 N2 P2 L2 t2 h2 H' :=
  ⟨⟨t.one.rcv.gwp g t.pen, t.one.ok, t.one.ord, t.one.n5⟩, ⟨t.two.rcv.gwp g t.pen, t.two.ok, t.two.ord, t.two.n5⟩, hp, lticks_pen t.tks g t.pen, ints_pen t.row g t.pen, ints_pen t.num g t.pen, t.gw.trans g, t.n1, t.n2, t.ne⟩
theorem OSt.set1 (t : OSt K tb sc H0 p a rl r1 r2 nl ks rs ns B c1 N1 P1 L1 t1 h1 c2 N2 P2 L2 t2 h2 H) (g : Gw tb r1 H H') (o : One K c' H' r1 ks rs h N' P' L' told') : OSt K tb sc H0 p a rl r1 r2 nl ks rs ns B c' N' P' L' told' h c2 N2 P2 L2 t2 h2 H' := by
  obtain ⟨C, dx, fs, e⟩ := t.one.rcv.ins
  exact ⟨o, ⟨t.two.rcv.gwo g t.one.rcv t.ne.symm, t.two.ok, t.two.ord, t.two.n5⟩, t.pen.gwr g e, lticks_gwr t.tks g e, g.at t.row e (fun z => by cases z), g.at t.num e (fun z => by cases z), t.gw.via t.n1 g, t.n1, t.n2, t.ne⟩
theorem OSt.set2 (t : OSt K tb sc H0 p a rl r1 r2 nl ks rs ns B c1 N1 P1 L1 t1 h1 c2 N2 P2 L2 t2 h2 H) (g : Gw tb r2 H H') (o : One K c' H' r2 ks rs h N' P' L' told') : OSt K tb sc H0 p a rl r1 r2 nl ks rs ns B c1 N1 P1 L1 t1 h1 c' N' P' L' told' h H' := by
  obtain ⟨C, dx, fs, e⟩ := t.two.rcv.ins
  exact ⟨⟨t.one.rcv.gwo g t.two.rcv t.ne, t.one.ok, t.one.ord, t.one.n5⟩, o, t.pen.gwr g e, lticks_gwr t.tks g e, g.at t.row e (fun z => by cases z), g.at t.num e (fun z => by cases z), t.gw.via t.n2 g, t.n1, t.n2, t.ne⟩
/-- the hearing of a packet that is new enough -/
theorem One.hear {n : Nat} (o : One K c H r ks rs h N P L told) (hn : n ≤ 4) (hz : ∀ i, i ≤ n → (tkAt ks i).2 = true → rs.getD i 0 = 0)
    (hR : RcvI K c' H' r ks 4 (max N (n + 1)) (hearP ks 4 N n P ((tkAt ks n).1.map (lawPart rs n))) (told ++ freshL ks 4 (max N (n + 1)) (hearP ks 4 N n P ((tkAt ks n).1.map (lawPart rs n))) told)) :
    One K c' H' r ks rs (n :: h) (max N (n + 1)) (hearP ks 4 N n P ((tkAt ks n).1.map (lawPart rs n))) (hearA ks n L ((tkAt ks n).1.map (lawPart rs n))) (told ++ freshL ks 4 (max N (n + 1)) (hearP ks 4 N n P ((tkAt ks n).1.map (lawPart rs n))) told) := by
  have n5 := o.n5
  have A := o.ord.hear o.ok.p (by decide) (by omega) hz
  refine ⟨hR, ?_, A, by omega⟩
  exact o.ok.hear A.rel (by omega)
end
end B
end
section
set_option linter.all false
set_option pp.maxSteps 1500
set_option maxRecDepth 100000
namespace B
open PySem PySem.Spec PyProof.Rows L2 La
theorem mem_erase {l : List Nat} {k n m : Nat} (h : l[k]? = some n) : m ∈ l ↔ m = n ∨ m ∈ l.eraseIdx k := by
  obtain ⟨hk, e⟩ := List.getElem?_eq_some_iff.mp h
  have e2 : l = l.take k ++ n :: l.drop (k + 1) := by rw [← e, List.getElem_cons_drop, List.take_append_drop]
  rw [List.eraseIdx_eq_take_drop_succ, List.mem_append]
  conv => lhs; rw [e2]
  rw [List.mem_append, List.mem_cons]
  exact or_left_comm
theorem seqIx {k n : Nat} (h : k < n) : seqIndex? (k : Int) n = some k := by
  unfold seqIndex?
  have e : ¬ ((k : Int) < 0) := by omega
  simp only [e, if_false]
  simp [h]
section
variable {tb : List (Addr × Str)} {K : PySem.W.Frag} {c d N : Nat} {H H' : Hp} {r l a : Addr} {ks : List Tk} {P told : List (Nat × Nat)} {left : List Nat}
theorem ne_refs {α : Type} {f : α → Addr} {ts : List α} (hl : H l = some (.lst (left.map fun v => iN v))) (h0 : left ≠ []) (ha : H a = some (.lst (ts.map fun t => V.ref (f t)))) : a ≠ l := by
  intro e
  rw [e, hl] at ha
  injection ha with ha
  injection ha with ha
  match left, ts, h0, ha with
  | [], _, h0, _ => exact h0 rfl
  | x :: y, [], _, ha => cases ha
  | x :: y, z :: t, _, ha => injection ha with ha _; cases ha
theorem ne_last {xs : List V} {m : Addr} (hl : H l = some (.lst (left.map fun v => iN v))) (ha : H a = some (.lst (xs ++ [.ref m]))) : a ≠ l := by
  intro e
  rw [e, hl] at ha
  injection ha with ha
  injection ha with ha
  have := congrArg List.getLast? ha
  rw [List.getLast?_append, List.getLast?_map] at this
  cases h : left.getLast? with
  | none => rw [h] at this; cases this
  | some v => rw [h] at this; cases this
theorem RcvI.gwi (h : RcvI K c H r ks d N P told) (g : Gw tb l H H') (hl : H l = some (.lst (left.map fun v => iN v))) (h0 : left ≠ []) : RcvI K c H' r ks d N P told := by
  have hx := hl
  obtain ⟨dx, pl, past, ms, m, e, ⟨d2, ta, e2, ts, e3, hl2, hts⟩, hpa, hl3, ⟨dm, k, dd, e5, ⟨dk, lk, e6, ts7, e71, hpl, ht7⟩, e7⟩⟩ := h
  refine ⟨dx, pl, past, ms, m, g.at e hx (fun z => by cases z), ⟨d2, ta, g.at e2 hx (fun z => by cases z), ts, e3, g.at hl2 hx (fun z => by cases z), fun t mt => ?_⟩, g.at' hpa (ne_last hl hpa), hl3, ⟨dm, k, dd, g.at e5 hx (fun z => by cases z), ⟨dk, lk, g.at e6 hx (fun z => by cases z), ts7, e71, g.at' hpl (ne_refs hl h0 hpl), fun t m => Gw.at g (ht7 t m) hx (fun z => by cases z)⟩, g.at e7 hx (fun z => by cases z)⟩⟩
  obtain ⟨dt, sa, e8, e9⟩ := hts t mt
  exact ⟨dt, sa, g.at e8 hx (fun z => by cases z), sums_gwl e9 g hx⟩
theorem lticks_gwi (h : LTicks H a ks) (g : Gw tb l H H') (hl : H l = some (.lst (left.map fun v => iN v))) (h0 : left ≠ []) : LTicks H' a ks := by
  have hap : a ≠ l := by
    obtain ⟨ts, _, hl2, _⟩ := h
    exact ne_refs hl h0 hl2
  exact lticks_gwp h g hl (fun ys z => by cases z) hap
theorem OSt.lst {sc : Addr × List Int} {H0 : Hp} {p rl r1 r2 nl : Addr} {rs ns h1 h2 : List Nat} {B c1 c2 N1 N2 : Nat} {P1 L1 t1 P2 L2 t2 : List (Nat × Nat)} {o : HO} (t : OSt K tb sc H0 p a rl r1 r2 nl ks rs ns B c1 N1 P1 L1 t1 h1 c2 N2 P2 L2 t2 h2 H) (hl : H l = some (.lst (left.map fun v => iN v))) (h0 : left ≠ []) (hn : l ≠ nl) (hr : l ≠ rl) (hs : l ≠ sc.1) (hp : l ≠ p) (hH : ∀ o, H0 l = some o → nt o = false) :
    OSt K tb sc H0 p a rl r1 r2 nl ks rs ns B c1 N1 P1 L1 t1 h1 c2 N2 P2 L2 t2 h2 (upd H l o) := by
  have g : Gw tb l H (upd H l o) := Gw.wr hl rfl
  exact ⟨⟨t.one.rcv.gwi g hl h0, t.one.ok, t.one.ord, t.one.n5⟩, ⟨t.two.rcv.gwi g hl h0, t.two.ok, t.two.ord, t.two.n5⟩, t.pen.skip hp hs, lticks_gwi t.tks g hl h0, g.at' t.row hr.symm, g.at' t.num hn.symm, t.gw.via hH g, t.n1, t.n2, t.ne⟩
end
theorem lookup_self {g : Nat → Nat} {n : Nat} : ∀ {ls : List Nat}, n ∈ ls → (ls.map fun n => (n, g n)).lookup n = some (g n)
  | a :: ls, h => by
    rw [List.map_cons, List.lookup_cons]
    by_cases e : n = a
    · subst e
      rw [beq_self_eq_true] <;> rfl
    · rw [show (n == a) = false from beq_eq_false_iff_ne.mpr e]
      exact lookup_self ((List.mem_cons.mp h).resolve_left e)
def sp__law_orders_right (tb : List (Addr × Str)) : Sp := fun vs H Q _ => ∃ (p : Addr) (B : Nat) (sc : Addr × List Int), vs = [.ref p] ∧ PenI sc B H p ∧ B ≤ 400000 ∧ LamX.Tabs tb H ∧ ∀ H', Gw tb p H H' → PenI sc (B + 1000) H' p → Q (.bl true) H'
abbrev nm__law_orders_right : List Str := ["_law_pen_here", "_law_ticks_here", "_law_rows_here", "_law_numbers", "_law_one", "_law_two", "_law_left", "_law_number", "_law_turn"]
theorem sc__law_orders_right : FnScope nm__law_orders_right ["_law_pen_here"] (defScope s__law_orders_right) := ⟨rfl, rfl, rfl, by decide +kernel, rfl, by decide +kernel, by decide +kernel⟩
theorem c__law_orders_right {P : Program} {w : World} {K : PySem.W.Frag} {mg : Str → Option Value} {base : Heap} {tb : List (Addr × Str)} (T : Tx K mg base tb) : Cf P w K mg base 11 "_law_orders_right" (sp__law_orders_right tb) := by
  obtain ⟨f, fd, F, hm⟩ := T.f__law_orders_right
  refine ⟨f, @mkR P w K mg base _ _ _ _ _ _ _ (sp__law_orders_right tb) 10 F sc__law_orders_right (fun _ _ _ _ _ _ us hl => match us, hl with | [_], _ => rfl) (fun vs H Q E h => by obtain ⟨p, B, sc, rfl, hp, hB, hT, q⟩ := h; rfl) (fun cdv A outer s H vs Q E hr h => ⟨_, (C8.pss_cut (ps_set (i := 1) sc__law_orders_right.nd rfl (Or.inl rfl) (pe_cR (c__law_ticks (K := K) T) hr (by decide) rfl (pa_cons (pv 0) (pa_cons pe_int (pa_cons pe_int pa_nil)))))
      (C8.pss_cut (ps_par (i := 2) (j := 3) rfl sc__law_orders_right.nd rfl rfl (by decide) rfl rfl (pa_cons (pe_cR (c__law_rows (K := K) T) hr (by decide) rfl (pa_cons (pv 0) (pa_cons (pv 1) (pa_cons pe_int pa_nil)))) (pa_cons (pe_op op_cat (pe_lc (own := [("_law_number", 7)]) (g := gName 7) rfl sc__law_orders_right.nd (pi_range1 (by rfl) T.n_range (pa_cons pe_int pa_nil)) (blkOk_by (own := [("_law_number", 7)]) (N := nm__law_orders_right) (sc := defScope s__law_orders_right) (by decide +kernel)) (fun _ _ _ _ _ => pg_name (i := 7) sc__law_orders_right.nd rfl (Or.inl rfl)) (fun _ _ _ _ _ => pts_one (pt_cmpR op_gt (pe_cR (c__law_draw (K := K) T) hr (by decide) rfl (pa_cons (pv 0) (pa_cons pe_int pa_nil))) pe_int (nomark _))) (fun _ _ _ _ _ => (pv 7))) (pe_lst (pa_cons pe_int pa_nil))) pa_nil)) (by rfl))
      (C8.pss_cut (ps_par3 (i := 4) (j := 5) (l := 6) rfl sc__law_orders_right.nd rfl rfl rfl (by decide) (by decide) (by decide) rfl rfl rfl (pa_cons (pe_kR (c_Receiver (K := K) T) hr (by decide) rfl (pa_cons (pe_cR (c__law_plan (K := K) T) hr (by decide) rfl (pa_cons (pv 1) pa_nil)) (pa_cons pe_int pa_nil))) (pa_cons (pe_kR (c_Receiver (K := K) T) hr (by decide) rfl (pa_cons (pe_cR (c__law_plan (K := K) T) hr (by decide) rfl (pa_cons (pv 1) pa_nil)) (pa_cons pe_int pa_nil))) (pa_cons (pe_callTy call_list_of (by rfl) T.n_list (by decide +kernel) (pa_cons (pv 3) pa_nil)) pa_nil))) (by rfl))
      (C8.pss_cut (ps_for PassesOwn.never rfl (pi_list (pv 3)) (pg_name (i := 7) sc__law_orders_right.nd rfl (Or.inl rfl))
      (pss_one (ps_expr (pe_mR (c_Receiver_hear (K := K) T) hr (by decide) (pv 4) (pa_cons (pe_kR (c_Packet (K := K) T) hr (by decide) rfl (pa_cons (pv 7) (pa_cons (pe_cR (c__law_parts (K := K) T) hr (by decide) rfl (pa_cons (pv 1) (pa_cons (pv 2) (pa_cons (pv 7) pa_nil)))) pa_nil))) pa_nil)))))
      (C8.pss_cut (ps_for PassesOwn.never rfl (pi_range1 (by rfl) T.n_range (pa_cons (pe_callB call_lenQ (by rfl) T.n_len (by decide +kernel) (pa_cons (pv 3) pa_nil)) pa_nil)) (pg_name (i := 8) sc__law_orders_right.nd rfl (Or.inl rfl))
      (C8.pss_cut (ps_set (i := 7) sc__law_orders_right.nd rfl (Or.inl rfl) (pe_bm PySem.F.plainAttrs_list PySem.F.slot_list_pop PySem.F.type_list_pop mt_popAt (pv 6) (pa_cons (pe_cR (c__law_draw (K := K) T) hr (by decide) rfl (pa_cons (pv 0) (pa_cons (pe_callB call_lenQ (by rfl) T.n_len (by decide +kernel) (pa_cons (pv 6) pa_nil)) pa_nil))) pa_nil)))
      (pss_one (ps_expr (pe_mR (c_Receiver_hear (K := K) T) hr (by decide) (pv 5) (pa_cons (pe_kR (c_Packet (K := K) T) hr (by decide) rfl (pa_cons (pv 7) (pa_cons (pe_cR (c__law_parts (K := K) T) hr (by decide) rfl (pa_cons (pv 1) (pa_cons (pv 2) (pa_cons (pv 7) pa_nil)))) pa_nil))) pa_nil))))))
      (pss_one (ps_ret (pe_and (pe_cmpR (op_eqO (c_Space_eq (K := K) T) hr (by decide)) (pe_mR (c_Receiver_known (K := K) T) hr (by decide) (pv 4) (pa_cons pe_int pa_nil)) (pe_mR (c_Receiver_known (K := K) T) hr (by decide) (pv 5) (pa_cons pe_int pa_nil)) (nomark _)) (pe_and (pe_cmpR (op_eq_dictA (Room.units0 hr)) (pe_pR (c_Receiver_told (K := K) T) hr (by decide) (pv 4) (by rfl)) (pe_pR (c_Receiver_told (K := K) T) hr (by decide) (pv 5) (by rfl)) (nomark _)) (pe_and (pe_cmpR (op_eqD (Room.units hr)) (pe_pR (c_Receiver_late (K := K) T) hr (by decide) (pv 4) (by rfl)) (pe_pR (c_Receiver_late (K := K) T) hr (by decide) (pv 5) (by rfl)) (nomark _)) (pe_one (pe_cmpR op_eq (pe_pR (c_Receiver_now (K := K) T) hr (by decide) (pv 4) (by rfl)) (pe_pR (c_Receiver_now (K := K) T) hr (by decide) (pv 5) (by rfl)) (nomark _))))))))))))), ?_⟩), hm, F.kp⟩
  obtain ⟨p, B, sc, rfl, hp, hB, hT, q⟩ := h
  refine ⟨fun σ' H' => ∃ (a : Addr) (ks : List Tk), OkP ks ∧ LTicks H' a ks ∧ a ≠ p ∧ Gw tb p H H' ∧ PenI sc (B + 201) H' p ∧ σ' = [some (.ref p), some (.ref a), none, none, none, none, none, none, none], ?_, ?_⟩
  · exact ⟨_, rfl, p, 3, 3, B, sc, rfl, hp, by decide, by decide, by decide, by decide, by omega, fun a ks H1 okP hk hap gw1 hp1 => ⟨a, ks, okP, hk, hap, gw1, hp1, rfl⟩⟩
  rintro σ H1 ⟨a, ks, okP, hk1, hap, gw1, hp1, rfl⟩
  refine ⟨fun σ' H' => ∃ (rl nl : Addr) (rs ns : List Nat), rs.length = 5 ∧ (∀ n, n < 5 → (tkAt ks n).2 = true → rs.getD n 0 = 0) ∧ (∀ n ∈ ns, n ≤ 4) ∧ ns.length ≤ 5 ∧ 4 ∈ ns ∧ LTicks H' a ks ∧ H' rl = some (.lst (rs.map fun v => iN v)) ∧ H' nl = some (.lst (ns.map fun v => iN v)) ∧ Gw tb p H H' ∧ PenI sc (B + 300) H' p ∧ σ' = [some (.ref p), some (.ref a), some (.ref rl), some (.ref nl), none, none, none, none, none], ?_, ?_⟩
  · refine ⟨_, rfl, _, rfl, p, a, 5, B + 201, sc, ks, rfl, hp1, hk1, okP.1, hap, by decide, by omega, fun rl rs H2 hrl hmu hrs hrp gw2 hp2 => ?_⟩
    have hk2 := lticks_pen hk1 gw2 hp1
    refine ⟨_, rfl, by decide, by decide, fun D nD => ?_⟩
    obtain ⟨hDp, hDs⟩ := hp2.free nD
    refine lc_it walk_range (fun i H' => ∃ acc : List Nat, H' D = some (.lst (acc.map fun n => iN n)) ∧ acc.length ≤ i ∧ (∀ x ∈ acc, x < i) ∧ Gw tb p H2 H' ∧ PenI sc (B + 262 + i) H' p) ⟨[], upd_same, Nat.le_refl _, (fun _ h => by cases h), Gw.of (Gr.new nD), hp2.skip hDp hDs⟩ (fun _ _ _ _ => True.intro) ?_ ?_
    · rintro i x H3 H4 hi ⟨acc, hD, hl, hb, gw, hp3⟩ ⟨rfl, ex⟩
      obtain rfl : x = iN i := ex.trans (congrArg V.int (by omega))
      have hi4 : i < 4 := hi
      refine ⟨rfl, _, rfl, p, 3, B + 262 + i, sc, rfl, hp3, by decide, by decide, by omega, fun r H5 hr gw5 hp5 => ?_⟩
      have hD5 := gw5.at' hD hDp
      refine ⟨_, _, rfl, rfl, _, rfl, ite2 (fun _ => ?_) fun _ => ?_⟩
      · have z : (1000 : Nat) < sizeLine := by decide
        refine ⟨_, rfl, _, hD5, by rw [mtup]; omega, acc ++ [i], by rw [upd_same, List.map_append] <;> rfl, by rw [List.length_append]; exact Nat.succ_le_succ hl, ?_, (gw.trans gw5).skip nD hD5 rfl, (hp5.skip hDp hDs).mono (by omega)⟩
        intro x hx
        rcases List.mem_append.mp hx with hx | hx
        · have := hb x hx; omega
        · rw [List.mem_singleton.mp hx]; omega
      · exact ⟨acc, hD5, by omega, fun x hx => by have := hb x hx; omega, gw.trans gw5, hp5.mono (by omega)⟩
    rintro H3 ⟨acc, hD, hl, hb, gw3, hp3⟩
    have hb4 : ∀ x ∈ acc, x < 4 := hb
    have hl4 : acc.length ≤ 4 := hl
    have hp3' : PenI sc (B + 266) H3 p := hp3
    refine ⟨(by decide : (1 : Nat) ≤ sizeLine), fun l4 nl4 => ?_⟩
    have g4 := Gr.new (tb := tb) (o := .lst [iN 4]) nl4
    refine ⟨D, l4, _, _, rfl, rfl, g4.at hD, upd_same, ?_, fun nl nnl => ?_⟩
    · have z : (1000 : Nat) < sizeLine := by decide
      rw [mtup]
      simp
      omega
    have gn := g4.trans (Gr.new (tb := tb) (o := .lst ((acc.map fun n => iN n) ++ [iN 4])) nnl)
    have gws := gw3.trans (Gw.of gn)
    refine ⟨_, _, rfl, rl, nl, rs, acc ++ [4], hrl, hmu, ?_, ?_, ?_, lticks_pen hk2 gws hp2, gws.at' hrs hrp, ?_, (gw1.trans gw2).trans gws, (hp3'.gr gn).mono (by omega), rfl⟩
    · intro n hn
      rcases List.mem_append.mp hn with hn | hn
      · have := hb4 n hn; omega
      · rw [List.mem_singleton.mp hn] <;> exact Nat.le_refl _
    · rw [List.length_append]
      exact Nat.succ_le_succ hl4
    · exact List.mem_append_right _ List.mem_cons_self
    · rw [upd_same, List.map_append] <;> rfl
  rintro σ H2 ⟨rl, nl, rs, ns, hrl, hmu, hn4, hnl, h4, hk2, hrs, hns, gw2, hp2, rfl⟩
  refine ⟨fun σ' H' => ∃ (r1 r2 lf : Addr), OSt K tb sc H p a rl r1 r2 nl ks rs ns (B + 300) 0 0 (begunL (4 + ageP ks)) [] [] [] 0 0 (begunL (4 + ageP ks)) [] [] [] H' ∧ H' lf = some (.lst (ns.map fun v => iN v)) ∧ lf ≠ nl ∧ lf ≠ rl ∧ lf ≠ sc.1 ∧ lf ≠ p ∧ (∀ o, H lf = some o → nt o = false) ∧ σ' = [some (.ref p), some (.ref a), some (.ref rl), some (.ref nl), some (.ref r1), some (.ref r2), some (.ref lf), none, none], ?_, ?_⟩
  · refine ⟨_, rfl, a, ks, rfl, hk2, okP, fun pl1 H3 g3 hpl1 => ?_⟩
    intro r1 dx1 nr1 ndx1 ne1
    have gi1 := (Gr.new (tb := tb) (o := .own r1) ndx1).trans (Gr.new (tb := tb) (o := .ins (He.ga K "Receiver") dx1 []) (by rw [upd_ne (Ne.symm ne1)]; exact nr1))
    refine ⟨r1, dx1, pl1, _, 4, ks, rfl, upd_same, rfl, hpl1.gr gi1, okP, by omega, fun H4 gw4 hR1 => ⟨rfl, ?_⟩⟩
    have g34 := g3.trans (Gr.made nr1 ndx1 gw4)
    refine ⟨_, rfl, a, ks, rfl, lticks_gr hk2 g34, okP, fun pl2 H5 g5 hpl2 => ?_⟩
    intro r2 dx2 nr2 ndx2 ne2
    have gi2 := (Gr.new (tb := tb) (o := .own r2) ndx2).trans (Gr.new (tb := tb) (o := .ins (He.ga K "Receiver") dx2 []) (by rw [upd_ne (Ne.symm ne2)]; exact nr2))
    refine ⟨r2, dx2, pl2, _, 4, ks, rfl, upd_same, rfl, hpl2.gr gi2, okP, by omega, fun H6 gw6 hR2 => ⟨rfl, ?_⟩⟩
    have g56 := g5.trans (Gr.made nr2 ndx2 gw6)
    have g36 := g34.trans g56
    refine ⟨_, rfl, nl, _, rfl, .inl (SqL.of (g36.at hns)), fun lf nlf => ?_⟩
    have gl := Gr.new (tb := tb) (o := .lst (ns.map fun v => iN v)) nlf
    have g3l := g36.trans gl
    have nrH : ∀ {r : Addr} {H3 : Hp}, Gr tb H2 H3 → H3 r = none → ∀ o, H r = some o → nt o = false := fun {r H3} g3 nr o e => by
      cases hn : nt o with
      | false => rfl
      | true =>
        exfalso
        by_cases hrp2 : r = p
        · obtain ⟨xs, hx⟩ := (hp2.gr g3).pk
          rw [← hrp2, nr] at hx
          cases hx
        · have := g3.ex r o (gw2.ex r o e hrp2 hn) hn
          rw [nr] at this
          cases this
    have ne12 : r1 ≠ r2 := by
      obtain ⟨C, dx, fs, e⟩ := hR1.ins
      exact ne_of_none (g5.at e) nr2
    have one : One K 0 (upd H6 lf (.lst (ns.map fun v => iN v))) r1 ks rs [] 0 (begunL (4 + ageP ks)) [] [] :=
      ⟨(hR1.gr g56).gr gl, ⟨okP, by omega, begun_js _, List.nodup_nil, Nat.zero_le _, (fun p h => by cases h)⟩, Ord.begun ks rs 4, by omega⟩
    have two : One K 0 (upd H6 lf (.lst (ns.map fun v => iN v))) r2 ks rs [] 0 (begunL (4 + ageP ks)) [] [] :=
      ⟨hR2.gr gl, ⟨okP, by omega, begun_js _, List.nodup_nil, Nat.zero_le _, (fun p h => by cases h)⟩, Ord.begun ks rs 4, by omega⟩
    refine ⟨_, _, _, rfl, r1, r2, lf, ⟨one, two, hp2.gr g3l, lticks_gr hk2 g3l, g3l.at hrs, g3l.at hns, gw2.trans (Gw.of g3l), nrH g3 nr1, nrH (g34.trans g5) nr2, ne12⟩, upd_same, (ne_of_none (g36.at hns) nlf).symm, (ne_of_none (g36.at hrs) nlf).symm, ((hp2.gr g36).free nlf).2, ?_, nrH g36 nlf, rfl⟩
    intro e
    obtain ⟨xs, hx⟩ := (hp2.gr g36).pk
    rw [← e, nlf] at hx
    cases hx
  rintro σ H3 ⟨r1, r2, lf, t0, hlf, hln, hlr, hls, hlp, hl0, rfl⟩
  refine ⟨fun σ' H' => ∃ (N1 : Nat) (P1 L1 t1 : List (Nat × Nat)) (h1 : List Nat) (y : Option V), OSt K tb sc H p a rl r1 r2 nl ks rs ns (B + 300) ns.length N1 P1 L1 t1 h1 0 0 (begunL (4 + ageP ks)) [] [] [] H' ∧ H' lf = some (.lst (ns.map fun v => iN v)) ∧ (∀ m, m ∈ h1 ↔ m ∈ ns) ∧ σ' = [some (.ref p), some (.ref a), some (.ref rl), some (.ref nl), some (.ref r1), some (.ref r2), some (.ref lf), y, none], ?_, ?_⟩
  · refine ⟨_, rfl, nl, rfl, ⟨_, SqL.of t0.num⟩, for_list (xs := ns.map fun v => iN v) (fun i σ H' => ∃ (N1 : Nat) (P1 L1 t1 : List (Nat × Nat)) (h1 : List Nat) (y : Option V), OSt K tb sc H p a rl r1 r2 nl ks rs ns (B + 300) i N1 P1 L1 t1 h1 0 0 (begunL (4 + ageP ks)) [] [] [] H' ∧ H' lf = some (.lst (ns.map fun v => iN v)) ∧ (∀ m, m ∈ h1 ↔ m ∈ ns.take i) ∧ σ = [some (.ref p), some (.ref a), some (.ref rl), some (.ref nl), some (.ref r1), some (.ref r2), some (.ref lf), y, none]) ⟨0, _, _, _, [], none, t0, hlf, fun m => Iff.rfl, rfl⟩ ?_ ?_ ?_⟩
    · rintro i σ Ha hi ⟨N1, P1, L1, t1, h1, y, ta, _, _, rfl⟩
      exact SqL.of ta.num
    · rintro i x σ Ha hx ⟨N1, P1, L1, t1, h1, y, ta, hlfa, hh, rfl⟩
      obtain ⟨n, hn, rfl⟩ := map_at hx
      have hm := List.mem_of_getElem? hn
      have hn4' := hn4 n hm
      have hi5 : i < ns.length := (List.getElem?_eq_some_iff.mp hn).1
      obtain ⟨dq, pq, sq, mq, nq, eq, _⟩ := id ta.one.rcv
      refine ⟨_, rfl, r1, dq, _, rfl, eq, rfl, _, rfl, _, rfl, _, rfl, _, rfl, a, rl, n, ks, rs, rfl, ta.tks, okP, ta.row, by omega, fun pa Hf gf hpa => ?_⟩
      have tf := ta.gr gf
      intro xk dk nxk ndk nek
      refine ⟨xk, _, dk, _, _, rfl, upd_same, rfl, fun Hk ek => ⟨rfl, ?_⟩⟩
      subst ek
      have gk : Gr tb Hf (upd (upd (upd (upd Hf dk (.own xk)) xk (.ins (He.ga K "Packet") dk [])) xk (.ins (He.ga K "Packet") dk [("tick", iN n)])) xk (.ins (He.ga K "Packet") dk [("tick", iN n), ("parts", .ref pa)])) := Gr.made nxk ndk ((Gw.wr upd_same rfl).trans (Gw.wr upd_same rfl))
      generalize hHk : upd (upd (upd (upd Hf dk (.own xk)) xk (.ins (He.ga K "Packet") dk [])) xk (.ins (He.ga K "Packet") dk [("tick", iN n)])) xk (.ins (He.ga K "Packet") dk [("tick", iN n), ("parts", .ref pa)]) = Hk at gk ⊢
      have ekk : Hk xk = some (.ins (He.ga K "Packet") dk [("tick", iN n), ("parts", .ref pa)]) := by rw [← hHk]; exact upd_same
      have tk := tf.gr gk
      have n5 := tk.one.n5
      have hvl : ((tkAt ks n).1.map (lawPart rs n)).length = (tkAt ks n).1.length := List.length_map ..
      obtain ⟨C9, dx9, fs9, e9⟩ := tk.one.rcv.ins
      refine ⟨r1, xk, i, 4, N1, n, ks, P1, t1, ((tkAt ks n).1.map (lawPart rs n)), rfl, tk.one.rcv, tk.one.ok, ⟨dk, pa, ekk, gk.at hpa⟩, hvl, by omega, by omega, by omega, tk.gw.tb hT, fun z => absurd z (by omega), fun _ a5 Hh gh hT5 hR5 => ?_⟩
      have o5 := tk.one.hear hn4' (fun j hj hm => hmu j (by omega) hm) hR5
      refine ⟨_, _, _, _, _, _, tk.set1 gh o5, gh.at (gk.at (gf.at hlfa)) e9 (fun z => by cases z), fun m => ?_, rfl⟩
      rw [List.take_add_one, hn, List.mem_cons, List.mem_append, hh m]
      show m = n ∨ _ ↔ _ ∨ m ∈ [n]
      rw [List.mem_singleton]
      exact or_comm
    · rintro σ Ha ⟨N1, P1, L1, t1, h1, y, ta, hlfa, hh, rfl⟩
      rw [mtup] at ta hh
      rw [List.take_length] at hh
      exact ⟨N1, P1, L1, t1, h1, y, ta, hlfa, hh, rfl⟩
  rintro σ H4 ⟨N1, P1, L1, t1, h1, y, t4, hlf4, hh1, rfl⟩
  refine ⟨fun σ' H' => ∃ (N2 : Nat) (P2 L2 t2 : List (Nat × Nat)) (h2 : List Nat) (c2 : Nat) (y z : Option V), OSt K tb sc H p a rl r1 r2 nl ks rs ns (B + 400) ns.length N1 P1 L1 t1 h1 c2 N2 P2 L2 t2 h2 H' ∧ (∀ m, m ∈ h2 ↔ m ∈ ns) ∧ σ' = [some (.ref p), some (.ref a), some (.ref rl), some (.ref nl), some (.ref r1), some (.ref r2), some (.ref lf), y, z], ?_, ?_⟩
  · refine ⟨_, rfl, nl, _, rfl, .inl (SqL.of t4.num), ?_⟩
    have hN : (((ns.map fun v : Nat => iN v).length : Nat) : Int).toNat = ns.length := by rw [mtup] <;> rfl
    have hz : (1000 : Nat) < sizeLine := by decide
    refine ⟨_, rfl, ?_, ?_, ?_⟩
    · rw [mtup]; omega
    · rw [mtup]; omega
    refine for_range (lo := 0) (fun i σ H' => ∃ (N2 : Nat) (P2 L2 t2 : List (Nat × Nat)) (h2 : List Nat) (left : List Nat) (y z : Option V), OSt K tb sc H p a rl r1 r2 nl ks rs ns (B + 300 + i) ns.length N1 P1 L1 t1 h1 i N2 P2 L2 t2 h2 H' ∧ H' lf = some (.lst (left.map fun v => iN v)) ∧ left.length + i = ns.length ∧ (∀ m, m ∈ ns ↔ m ∈ h2 ∨ m ∈ left) ∧ σ = [some (.ref p), some (.ref a), some (.ref rl), some (.ref nl), some (.ref r1), some (.ref r2), some (.ref lf), y, z]) ⟨0, _, _, _, [], ns, y, none, t4, hlf4, rfl, fun m => ⟨fun h => .inr h, fun h => h.resolve_left (fun z => by cases z)⟩, rfl⟩ ?_ ?_
    · rintro i σ Ha hi ⟨N2, P2, L2, t2, h2, left, y, z, ta, hlfa, hlen, hh, rfl⟩
      rw [hN] at hi
      refine ⟨fun σ' H' => ∃ (n k : Nat), left[k]? = some n ∧ OSt K tb sc H p a rl r1 r2 nl ks rs ns (B + 300 + (i + 1)) ns.length N1 P1 L1 t1 h1 i N2 P2 L2 t2 h2 H' ∧ H' lf = some (.lst ((left.eraseIdx k).map fun v => iN v)) ∧ σ' = [some (.ref p), some (.ref a), some (.ref rl), some (.ref nl), some (.ref r1), some (.ref r2), some (.ref lf), some (iN n), some (.int (0 + (i : Nat)))], ?_, ?_⟩
      · refine ⟨_, rfl, .inl ⟨rfl, _, SqL.of hlfa⟩, _, rfl, _, rfl, lf, _, rfl, .inl (SqL.of hlfa), ?_⟩
        refine ⟨p, left.length, _, sc, congrArg (fun z => [V.ref p, V.int z]) (by rw [mtup]), ta.pen, by omega, Nat.lt_of_le_of_lt (show left.length ≤ 5 by omega) (by decide), by omega, fun k Hb hk gb hpb => ?_⟩
        have tb' := ta.draw gb hpb
        have hlfb := gb.at' hlfa (ta.pen.ne hlfa)
        obtain ⟨n, hn⟩ : ∃ n, left[k]? = some n := ⟨_, List.getElem?_eq_getElem hk⟩
        refine ⟨lf, _, (k : Int), k, iN n, rfl, rfl, hlfb, by omega, by omega, ?_, by rw [List.getElem?_map, hn] <;> rfl, n, k, hn, ?_, ?_, rfl⟩
        · rw [mtup]
          exact seqIx hk
        · exact (tb'.more (by omega)).lst hlfb (fun z => by rw [z] at hk; cases hk) hln hlr hls hlp hl0
        · rw [upd_same, List.eraseIdx_eq_take_drop_succ, List.eraseIdx_eq_take_drop_succ, List.map_append, List.map_take, List.map_drop]
      rintro σ Hb ⟨n, k, hk, ta, hlfa, rfl⟩
      have hm : n ∈ ns := (hh n).mpr (.inr (List.mem_of_getElem? hk))
      have hn4' := hn4 n hm
      have hkl : k < left.length := (List.getElem?_eq_some_iff.mp hk).1
      have gf0 : True := trivial
      obtain ⟨dq, pq, sq, mq, nq, eq, _⟩ := id ta.two.rcv
      refine ⟨_, rfl, r2, dq, _, rfl, eq, rfl, _, rfl, _, rfl, _, rfl, _, rfl, a, rl, n, ks, rs, rfl, ta.tks, okP, ta.row, by omega, fun pa Hf gf hpa => ?_⟩
      have tf := ta.gr gf
      intro xk dk nxk ndk nek
      refine ⟨xk, _, dk, _, _, rfl, upd_same, rfl, fun Hk ek => ⟨rfl, ?_⟩⟩
      subst ek
      have gk : Gr tb Hf (upd (upd (upd (upd Hf dk (.own xk)) xk (.ins (He.ga K "Packet") dk [])) xk (.ins (He.ga K "Packet") dk [("tick", iN n)])) xk (.ins (He.ga K "Packet") dk [("tick", iN n), ("parts", .ref pa)])) := Gr.made nxk ndk ((Gw.wr upd_same rfl).trans (Gw.wr upd_same rfl))
      generalize hHk : upd (upd (upd (upd Hf dk (.own xk)) xk (.ins (He.ga K "Packet") dk [])) xk (.ins (He.ga K "Packet") dk [("tick", iN n)])) xk (.ins (He.ga K "Packet") dk [("tick", iN n), ("parts", .ref pa)]) = Hk at gk ⊢
      have ekk : Hk xk = some (.ins (He.ga K "Packet") dk [("tick", iN n), ("parts", .ref pa)]) := by rw [← hHk]; exact upd_same
      have tk := tf.gr gk
      have n5 := tk.two.n5
      have hvl : ((tkAt ks n).1.map (lawPart rs n)).length = (tkAt ks n).1.length := List.length_map ..
      obtain ⟨C9, dx9, fs9, e9⟩ := tk.two.rcv.ins
      refine ⟨r2, xk, i, 4, N2, n, ks, P2, t2, ((tkAt ks n).1.map (lawPart rs n)), rfl, tk.two.rcv, tk.two.ok, ⟨dk, pa, ekk, gk.at hpa⟩, hvl, by omega, by omega, by omega, tk.gw.tb hT, fun z => absurd z (by omega), fun _ a5 Hh gh hT5 hR5 => ?_⟩
      have o5 := tk.two.hear hn4' (fun j hj hm => hmu j (by omega) hm) hR5
      refine ⟨_, _, _, _, _, left.eraseIdx k, _, _, tk.set2 gh o5, gh.at (gk.at (gf.at hlfa)) e9 (fun z => by cases z), ?_, fun m => ?_, rfl⟩
      · rw [List.length_eraseIdx_of_lt hkl]
        omega
      · rw [hh m, mem_erase hk, List.mem_cons]
        exact ⟨fun h => h.elim (fun h => .inl (.inr h)) fun h => h.elim (fun h => .inl (.inl h)) .inr, fun h => h.elim (fun h => h.elim (fun h => .inr (.inl h)) .inl) fun h => .inr (.inr h)⟩
    · rintro σ Ha ⟨N2, P2, L2, t2, h2, left, y, z, ta, hlfa, hlen, hh, rfl⟩
      rw [hN] at ta hlen
      have e0 : left = [] := List.eq_nil_of_length_eq_zero (by omega)
      subst e0
      exact ⟨N2, P2, L2, t2, h2, _, y, z, ta.more (by omega), fun m => ⟨fun h => (hh m).mpr (.inl h), fun h => ((hh m).mp h).resolve_right (fun z => by cases z)⟩, rfl⟩
  rintro σ H5 ⟨N2, P2, L2, t2, h2, c2, y, z, t5, hh2, rfl⟩
  have okA := t5.one.ok
  have n1 := t5.one.n5
  have n2 := t5.two.n5
  have m1 := t5.one.ord.lt 4 ((hh1 4).mpr h4)
  have m2 := t5.two.ord.lt 4 ((hh2 4).mpr h4)
  obtain rfl : N1 = 5 := by omega
  obtain rfl : N2 = 5 := by omega
  have hsame : ∀ n, n ∈ h1 ↔ n ∈ h2 := fun n => (hh1 n).trans (hh2 n).symm
  obtain ⟨da, pa, sa, ma, na, ea, _⟩ := id t5.one.rcv
  obtain ⟨db, pb, sb, mb, nb, eb, _⟩ := id t5.two.rcv
  refine ⟨_, rfl, r1, da, _, rfl, ea, rfl, r1, _, 4, 5, 4, ks, P1, t1, rfl, t5.one.rcv, t5.one.ok, by decide, fun x1 H6 g6 hx1 => ?_⟩
  have t6 := t5.gr g6
  refine ⟨_, rfl, r2, db, _, rfl, g6.at eb, rfl, r2, _, 4, 5, 4, ks, P2, t2, rfl, t6.two.rcv, t6.two.ok, by decide, fun x2 H7 g7 hx2 => ?_⟩
  have t7 := t6.gr g7
  have hx1' := hx1.gr g7
  rw [t5.one.ord.known t5.two.ord hsame (by decide)] at hx1'
  obtain ⟨dx, tx, hs1, ht1⟩ := id hx1'
  obtain ⟨dy, ty, hs2, ht2⟩ := id hx2
  refine ⟨x1, dx, _, x2, dy, _, rfl, rfl, hs1, hs2, x1, x2, _, rfl, hx1', hx2, _, rfl, _, rfl, iteT ?_⟩
  refine ⟨_, rfl, r1, da, _, rfl, (g6.trans g7).at ea, r1, _, 4, 5, ks, P1, t1, rfl, t7.one.rcv, t7.one.ok, fun a1 H8 ls1 g8 hp8 hs8 ha8 => ?_⟩
  have t8 := t7.gr g8
  refine ⟨_, rfl, r2, db, _, rfl, ((g6.trans g7).trans g8).at eb, r2, _, 4, 5, ks, P2, t2, rfl, t8.two.rcv, t8.two.ok, fun a2 H9 ls2 g9 hp9 hs9 ha9 => ?_⟩
  have t9 := t8.gr g9
  have htell := t5.one.ord.tell t5.two.ord hsame
  have hls := keys_same htell hp8 hp9 t5.one.ok.nd t5.two.ok.nd hs8 hs9
  subst hls
  have hlk : (ls1.map fun n : Nat => ((Sum.inl ((n : Nat) : Int) : Int ⊕ Str), iN ((t1.lookup n).getD 0))) = ls1.map fun n : Nat => ((Sum.inl ((n : Nat) : Int) : Int ⊕ Str), iN ((t2.lookup n).getD 0)) := List.map_congr_left fun n _ => by rw [htell n]
  rw [hlk] at ha8
  refine ⟨a1, a2, _, _, rfl, rfl, g9.at ha8, ha9, rfl, ?_, ?_⟩
  · rintro z hz
    obtain ⟨n, hn, rfl⟩ := List.mem_map.mp hz
    refine ⟨?_, rfl⟩
    have e := valV_kvT (told := ls1.map fun n => (n, (t2.lookup n).getD 0)) (n := n)
    rw [lookup_self hn] at e
    unfold kvT at e
    rw [List.map_map] at e
    exact e
  refine ⟨_, rfl, iteT ?_⟩
  have e9 := ((g6.trans g7).trans g8).trans g9
  refine ⟨_, rfl, r1, da, _, rfl, e9.at ea, r1, _, 4, 5, ks, P1, t1, rfl, t9.one.rcv, t9.one.ok, fun b1 H10 g10 hb1 => ?_⟩
  have t10 := t9.gr g10
  refine ⟨_, rfl, r2, db, _, rfl, (e9.trans g10).at eb, r2, _, 4, 5, ks, P2, t2, rfl, t10.two.rcv, t10.two.ok, fun b2 H11 g11 hb2 => ?_⟩
  have hb1' : H11 b1 = some (.tup []) := g11.at hb1
  have hb2' : H11 b2 = some (.tup []) := hb2
  have t11 := t10.gr g11
  have e11 := (e9.trans g10).trans g11
  refine ⟨_, _, .tup (SqT.of hb1') .nil, .tup (SqT.of hb2') .nil, (Sh.ps (P := [])).shaped (by decide), (Sh.ps (P := [])).shaped (by decide), _, rfl, ?_⟩
  rw [show PyData.eqv (.tuple []) (.tuple []) = true from (Sh.ps (P := [])).eqv]
  refine iteT ?_
  refine ⟨_, rfl, r1, da, _, rfl, e11.at ea, r1, _, 4, 5, ks, P1, t1, rfl, t11.one.rcv, ?_⟩
  refine ⟨_, rfl, r2, db, _, rfl, e11.at eb, r2, _, 4, 5, ks, P2, t2, rfl, t11.two.rcv, ?_⟩
  refine ⟨rfl, ?_⟩
  rw [decide_eq_true rfl]
  exact q _ t11.gw (t11.pen.mono (by omega))
end B
end
section
set_option linter.all false
set_option pp.maxSteps 1500
set_option maxRecDepth 100000
namespace B
open PySem PySem.Spec PyProof.Rows L2 La
def sp__law_pen (K : PySem.W.Frag) (tb : List (Addr × Str)) : Sp := fun vs H Q _ => ∃ (a : Addr) (ns : List Int), vs = [.ref a] ∧ SqL K H a (ns.map V.int) ∧ LamX.Tabs tb H ∧ ∀ p sc H', Gr tb H H' → PenI sc 0 H' p → Q (.ref p) H'
abbrev nm__law_pen : List Str := ["_law_script"]
theorem sc__law_pen : FnScope nm__law_pen ["_law_script"] (defScope s__law_pen) := ⟨rfl, rfl, rfl, by decide +kernel, rfl, by decide +kernel, by decide +kernel⟩
theorem c__law_pen {P : Program} {w : World} {K : PySem.W.Frag} {mg : Str → Option Value} {base : Heap} {tb : List (Addr × Str)} (T : Tx K mg base tb) : Cf P w K mg base 1 "_law_pen" (sp__law_pen K tb) := by
  obtain ⟨f, fd, F, hm⟩ := T.f__law_pen
  refine ⟨f, @mkR P w K mg base _ _ _ _ _ _ _ (sp__law_pen K tb) 0 F sc__law_pen (fun _ _ _ _ _ _ us hl => match us, hl with | [_], _ => rfl) (fun vs H Q E h => by obtain ⟨a, ns, rfl, hs, hT, q⟩ := h; rfl) (fun cdv A outer s H vs Q E hr h => ⟨_, (pss_one (ps_ret (pe_lst (pa_cons (pe_callTy call_list_of (by rfl) T.n_list (by decide +kernel) (pa_cons (pe_slice sl_list (pv 0) po_none (po_some pe_int)) pa_nil)) (pa_cons pe_int (pa_cons pe_int pa_nil)))))), ?_⟩), hm, F.kp⟩
  obtain ⟨a, ns, rfl, hs, hT, q⟩ := h
  have cut : cutV (ns.map V.int) none (some ((63 : Nat) : Int)) = (ns.take (min 63 ns.length)).map V.int := by
    unfold cutV
    rw [HT.sIx_none, HT.sIx_nat, List.length_map, List.drop_zero, Nat.sub_zero, List.map_take]
  refine ⟨_, rfl, 63, rfl, a, _, rfl, hs, fun l0 n0 => ?_⟩
  have g0 := Gr.new (tb := tb) (o := .lst (cutV (ns.map V.int) none (some 63))) n0
  have h0 : (upd H l0 (.lst (cutV (ns.map V.int) none (some 63)))) l0 = some (.lst ((ns.take (min 63 ns.length)).map V.int)) := by
    rw [upd_same]
    exact congrArg (fun z => some (HO.lst z)) cut
  refine ⟨l0, _, rfl, .inl (SqL.of h0), fun l1 n1 => ⟨(by decide : (3 : Nat) ≤ sizeLine), fun p np => ?_⟩⟩
  have g1 := Gr.new (tb := tb) (o := .lst ((ns.take (min 63 ns.length)).map V.int)) n1
  have g2 := Gr.new (tb := tb) (o := .lst [.ref l1, iN 0, .int 0]) np
  exact q p (l1, ns.take (min 63 ns.length)) _ (g0.trans (g1.trans g2)) ⟨⟨0, 0, upd_same, Nat.le_refl _⟩, g2.at upd_same, by show List.length _ ≤ 63; rw [List.length_take]; omega⟩
end B
end
section
set_option linter.all false
set_option pp.maxSteps 1500
set_option maxRecDepth 100000
namespace B
open PySem PySem.Spec PyProof.Rows L2 La
/-! ### the law's last receiver: one phase, each row by itself -/
abbrev ks0 : List Tk := [([[0]], false)]
theorem okS0 : OkS [0] := ⟨by decide, by decide, by decide⟩
theorem okT0 : OkT ([[0]], false) := ⟨fun s hs => by rw [List.mem_singleton.mp hs]; exact okS0, by decide, by decide, fun h => by cases h⟩
theorem okP0 : OkP ks0 := ⟨by decide, by decide, fun k hk => by rw [List.mem_singleton.mp hk]; exact okT0⟩
theorem age0 : ageP ks0 = 0 := by decide +kernel
theorem hear5 : hearP ks0 1 0 5 (begunL (1 + ageP ks0)) [1] = [(1, 1)] := by decide +kernel
theorem hear4 : hearP ks0 1 6 4 [(1, 1)] [3] = [(2, 3), (1, 1)] := by
  have e : hearP ks0 1 6 4 [(1, 1)] [3] = withL [(1, 1)] 2 3 := by
    unfold hearP
    rw [show ((((tkAt ks0 4).1.map fun s => maskOf s * 2 ^ (max 6 (4 + 1) - 1 - 4)).zip [3]) : List (Nat × Nat)) = [(2, 3)] from by decide +kernel, show passL ks0 (1 + ageP ks0) 6 (max 6 (4 + 1) - 6) [(1, 1)] = [(1, 1)] from rfl] <;> rfl
  rw [e]
  unfold withL
  rw [show red [(1, 1)] 2 3 = (2, 3) from by decide +kernel]
  rw [if_neg (by decide), show (([(1, 1)] : List (Nat × Nat)).map (lessp (2, 3)) ++ [(2, 3)]) = [(1, 1), (2, 3)] from by decide +kernel]
  simp [List.mergeSort, List.merge, leP]
theorem fresh5 : freshL ks0 1 6 [(1, 1)] [] = [(5, 1)] := by decide +kernel
theorem fresh4 : freshL ks0 1 6 [(2, 3), (1, 1)] [(5, 1)] = [(4, 3)] := by decide +kernel
theorem late0 : ((List.range (6 - 1 - 1)).filter fun n => decide (([(5, 1), (4, 3)] : List (Nat × Nat)).lookup n = none) && !(tkAt ks0 n).2) = [0, 1, 2, 3] := by decide +kernel
theorem js6 : JS (1 + ageP ks0) [(1, 1)] := by rw [age0]; exact ⟨by unfold Desc; decide, by decide, by decide⟩
theorem js7 : JS (1 + ageP ks0) [(2, 3), (1, 1)] := by rw [age0]; exact ⟨by unfold Desc; decide, by decide, by decide⟩
def sp_law (K : PySem.W.Frag) (tb : List (Addr × Str)) : Sp := fun vs H Q _ => ∃ (a : Addr) (ns : List Int), vs = [.ref a] ∧ SqL K H a (ns.map V.int) ∧ LamX.Tabs tb H ∧ ∀ H', Q (.bl true) H'
abbrev nm_law : List Str := ["_law_script", "_law_pen_here", "_law_turn", "_law_receiver", "_law_told"]
theorem sc_law : FnScope nm_law ["_law_script"] (defScope s_law) := ⟨rfl, rfl, rfl, by decide +kernel, rfl, by decide +kernel, by decide +kernel⟩
theorem ok_law {P : Program} {w : World} {K : PySem.W.Frag} {mg : Str → Option Value} {base : Heap} {tb : List (Addr × Str)} (T : Tx K mg base tb) {f : Addr} {fd : FuncData} (F : FunD K "law" "law" (defArgs s_law) (defBody s_law) (defScope s_law) [] [] f fd) :
    FnOk P w K mg base CX0 12 f fd ["_law_script"] (sp_law K tb) := by
  refine F.ok (k := 12 - 1) (sp := sp_law K tb) sc_law (fun vs H Q E h => by obtain ⟨a, ns, rfl, hs, hT, q⟩ := h; rfl) fun cdv A outer s H vs Q E hr h => ⟨_, PSs.nox ((pss_cons (ps_set (i := 1) sc_law.nd rfl (Or.inl rfl) (pe_cR (c__law_pen (K := K) T) hr (by decide) rfl (pa_cons (pv 0) pa_nil)))
      (C8.pss_cut (ps_for PassesOwn.never rfl (pi_range1 (by rfl) T.n_range (pa_cons pe_int pa_nil)) (pg_name (i := 2) sc_law.nd rfl (Or.inl rfl))
      (pss_one (ps_if (PW.pt (pw_or (pt_not (pt_val (pe_cR (c__law_turn_right (K := K) T) hr (by decide) rfl (pa_cons (pv 1) pa_nil)))) (pw_or (pt_not (pt_val (pe_cR (c__law_orders_right (K := K) T) hr (by decide) rfl (pa_cons (pv 1) pa_nil)))) (pw_or1 (pt_not (pt_val (pe_cR (c__law_far_right (K := K) T) hr (by decide) rfl (pa_cons (pv 1) pa_nil)))))))) (pss_one (ps_ret pe_bl)) pss_nil)))
      (C8.pss_cut (ps_set (i := 3) sc_law.nd rfl (Or.inl rfl) (pe_kR (c_Receiver (K := K) T) hr (by decide) rfl (pa_cons (pe_kR (c_Plan (K := K) T) hr (by decide) rfl (pa_cons (pe_tick1 (c_Tick (K := K) T) hr (by decide) rfl (pe_tup (pa_cons pe_int pa_nil))) pa_nil)) (pa_cons pe_int pa_nil))))
      (C8.pss_cut (ps_set (i := 4) sc_law.nd rfl (Or.inl rfl) (pe_lst (pa_cons (pe_mR (c_Receiver_hear (K := K) T) hr (by decide) (pv 3) (pa_cons (pe_kR (c_Packet (K := K) T) hr (by decide) rfl (pa_cons pe_int (pa_cons (pe_tup (pa_cons pe_int pa_nil)) pa_nil))) pa_nil)) (pa_cons (pe_mR (c_Receiver_hear (K := K) T) hr (by decide) (pv 3) (pa_cons (pe_kR (c_Packet (K := K) T) hr (by decide) rfl (pa_cons pe_int (pa_cons (pe_tup (pa_cons pe_int pa_nil)) pa_nil))) pa_nil)) (pa_cons (pe_mR (c_Receiver_hear (K := K) T) hr (by decide) (pv 3) (pa_cons (pe_kR (c_Packet (K := K) T) hr (by decide) rfl (pa_cons pe_int (pa_cons (pe_tup (pa_cons pe_int pa_nil)) pa_nil))) pa_nil)) (pa_cons (pe_pR (c_Receiver_late (K := K) T) hr (by decide) (pv 3) (by rfl)) (pa_cons (pe_pR (c_Receiver_told (K := K) T) hr (by decide) (pv 3) (by rfl)) pa_nil)))))))
      (pss_one (ps_ret (pe_cmpR (op_eqW (hu14 hr)) (pv 4) (pe_lst (pa_cons (pe_tup (pa_cons (pe_tup (pa_cons pe_int (pa_cons pe_int pa_nil))) pa_nil)) (pa_cons (pe_tup pa_nil) (pa_cons (pe_tup (pa_cons (pe_tup (pa_cons pe_int (pa_cons pe_int pa_nil))) pa_nil)) (pa_cons (pe_tup (pa_cons pe_int (pa_cons pe_int (pa_cons pe_int (pa_cons pe_int pa_nil))))) (pa_cons (pe_disp (pps_cons pe_int pe_int (pps_cons pe_int pe_int pps_nil)) (by rfl) (by rfl) (fun z => by cases z) (by decide)) pa_nil)))))) (nomark _))))))))), ?_⟩
  obtain ⟨a, ns, rfl, hs, hT, q⟩ := h
  refine ⟨_, rfl, a, ns, rfl, hs, hT, fun p sc H1 g1 hp1 => ?_⟩
  refine ⟨fun σ' H' => ∃ y, LamX.Tabs tb H' ∧ σ' = [some (.ref a), some (.ref p), y, none, none], ?_, ?_⟩
  · refine ⟨_, rfl, by decide, by decide, ?_⟩
    refine for_range (lo := 0) (n := 3) (fun i σ H' => ∃ y, LamX.Tabs tb H' ∧ PenI sc (3000 * i) H' p ∧ σ = [some (.ref a), some (.ref p), y, none, none]) ⟨none, g1.tb hT, hp1, rfl⟩ ?_ ?_
    · rintro i σ Ha hi ⟨y, hTa, hpa, rfl⟩
      have hi3 : i < 3 := hi
      refine ⟨_, rfl, p, 3000 * i, sc, rfl, hpa, by omega, hTa, fun Hb gb hpb => ⟨_, rfl, iteF ?_⟩⟩
      have hTb := gb.tb hTa
      refine ⟨_, rfl, p, _, sc, rfl, hpb, by omega, hTb, fun Hc gc hpc => ⟨_, rfl, iteF ?_⟩⟩
      have hTc := gc.tb hTb
      refine ⟨_, rfl, p, _, sc, rfl, hpc, by omega, hTc, fun Hd gd hpd => ⟨_, rfl, iteF ?_⟩⟩
      exact ⟨_, gd.tb hTc, hpd.mono (by omega), rfl⟩
    · rintro σ Ha ⟨y, hTa, _, rfl⟩
      exact ⟨y, hTa, rfl⟩
  rintro σ H2 ⟨y, hT2, rfl⟩
  refine ⟨fun σ' H' => ∃ r, LamX.Tabs tb H' ∧ RcvI K 0 H' r ks0 1 0 (begunL (1 + ageP ks0)) [] ∧ σ' = [some (.ref a), some (.ref p), y, some (.ref r), none], ?_, ?_⟩
  · refine ⟨(by decide : (1 : Nat) ≤ sizeLine), fun t0 nt0 => ?_⟩
    have g0 := Gr.new (tb := tb) (o := .tup [V.int 0]) nt0
    refine mkTk (k := ([[0]], false)) okT0 [(t0, [0])] rfl rfl (fun t m => by rw [List.mem_singleton.mp m]; exact upd_same) fun tk H3 g3 hT3 => ?_
    intro x dx nx ndx ne
    refine ⟨.ref x, [.ref tk], rfl, (by decide : (1 : Nat) ≤ sizeLine), fun pt npt => ?_⟩
    have gA := Gr.new (tb := tb) (o := .tup [V.ref tk]) npt
    have hxp : x ≠ pt := ne_of_none upd_same npt
    have gm : Gr tb H3 (upd (upd (upd H3 dx (.own x)) x (.ins (He.ga K "Plan") dx [])) pt (.tup [V.ref tk])) := Gr.made nx ndx (Gw.of gA)
    have hx5 : (upd (upd (upd H3 dx (.own x)) x (.ins (He.ga K "Plan") dx [])) pt (.tup [V.ref tk])) x = some (.ins (He.ga K "Plan") dx []) := by rw [upd_ne hxp]; exact upd_same
    have hT4 := hT3.gr gm
    refine ⟨x, pt, _, dx, ks0, rfl, hx5, rfl, ⟨[(tk, ([[0]], false))], rfl, upd_same, fun t m => by rw [List.mem_singleton.mp m]; exact hT4⟩, okP0, fun H5 g5 h5 => ⟨rfl, ?_⟩⟩
    have hpl : PlanI K H5 x ks0 := by
      refine ⟨dx, pt, h5, [(tk, ([[0]], false))], rfl, g5.at' upd_same (Ne.symm hxp), fun t m => ?_⟩
      rw [List.mem_singleton.mp m]
      obtain ⟨du, su, e1, tu, e2, e3, e4⟩ := hT4
      exact ⟨du, su, g5.at' e1 (ins_ne2 e1 hx5), tu, e2, g5.at e3 hx5 (fun z => by cases z), fun v hv => Gw.at g5 (e4 v hv) hx5 (fun z => by cases z)⟩
    have g35 : Gr tb H3 H5 := Gr.made nx ndx ((Gw.of gA).trans g5)
    intro r dr nr ndr ner
    have gi1 := (Gr.new (tb := tb) (o := .own r) ndr).trans (Gr.new (tb := tb) (o := .ins (He.ga K "Receiver") dr []) (by rw [upd_ne (Ne.symm ner)]; exact nr))
    refine ⟨r, dr, x, _, 1, ks0, rfl, upd_same, rfl, hpl.gr gi1, okP0, by decide, fun H6 gw6 hR6 => ⟨rfl, ?_⟩⟩
    exact ⟨r, gw6.tb (gi1.tb (g35.tb (g3.tb (g0.tb hT2)))), hR6, rfl⟩
  rintro σ H3 ⟨r, hT3, hR3, rfl⟩
  refine ⟨fun σ' H' => ∃ l u1 u2 u3 u4 u5, H' l = some (.lst [.ref u1, .ref u2, .ref u3, .ref u4, .ref u5]) ∧ TPL H' u1 [(5, 1)] ∧ TPL H' u2 [] ∧ TPL H' u3 [(4, 3)] ∧ H' u4 = some (.tup ([0, 1, 2, 3].map fun n => iN n)) ∧ H' u5 = some (.dK [(Sum.inl ((4 : Nat) : Int), iN 3), (Sum.inl ((5 : Nat) : Int), iN 1)]) ∧ σ' = [some (.ref a), some (.ref p), y, some (.ref r), some (.ref l)], ?_, ?_⟩
  · have ok3 : OkR ks0 1 0 (begunL (1 + ageP ks0)) [] := ⟨okP0, by decide, begun_js _, List.nodup_nil, by decide, (fun p h => by cases h)⟩
    have ok6 : OkR ks0 1 6 [(1, 1)] [(5, 1)] := ⟨okP0, by decide, js6, by decide, by decide, by decide⟩
    have ok7 : OkR ks0 1 6 [(2, 3), (1, 1)] [(5, 1), (4, 3)] := ⟨okP0, by decide, js7, by decide, by decide, by decide⟩
    obtain ⟨dr, pr, sr, mr, er0, er, _⟩ := id hR3
    refine ⟨_, rfl, r, dr, _, rfl, er, rfl, (by decide : (1 : Nat) ≤ sizeLine), fun pa npa => ?_⟩
    have gpHa := Gr.new (tb := tb) (o := .tup [V.int 1]) npa
    intro xk dk nxk ndk nek
    refine ⟨xk, _, dk, _, _, rfl, upd_same, rfl, fun Ha ek => ⟨rfl, ?_⟩⟩
    have gk : Gr tb (upd H3 pa (.tup [V.int 1])) Ha := by rw [ek]; exact Gr.made nxk ndk ((Gw.wr upd_same rfl).trans (Gw.wr upd_same rfl))
    have ekk : Ha xk = some (.ins (He.ga K "Packet") dk [("tick", iN 5), ("parts", .ref pa)]) := by rw [ek]; exact upd_same
    clear ek
    have gHa := gpHa.trans gk
    have hpa : Ha pa = some (.tup ([1].map fun n => iN n)) := gk.at upd_same
    refine ⟨r, xk, 0, 1, 0, 5, ks0, begunL (1 + ageP ks0), [], [1], rfl, hR3.gr gHa, ok3, ⟨dk, pa, ekk, hpa⟩, rfl, by decide, by decide, by decide, gHa.tb hT3, fun z => absurd z (by decide), fun _ u1 H6 g6 hu1 hR6 => ?_⟩
    have hT6 := g6.tb (gHa.tb hT3)
    have hu1 : TPL H6 u1 (freshL ks0 1 6 (hearP ks0 1 0 5 (begunL (1 + ageP ks0)) [1]) []) := hu1
    have hR6 : RcvI K 1 H6 r ks0 1 6 (hearP ks0 1 0 5 (begunL (1 + ageP ks0)) [1]) ([] ++ freshL ks0 1 6 (hearP ks0 1 0 5 (begunL (1 + ageP ks0)) [1]) []) := hR6
    rw [hear5, fresh5] at hu1 hR6
    clear er
    obtain ⟨dr, pr, sr, mr, er0, er, _⟩ := id hR6
    refine ⟨_, rfl, r, dr, _, rfl, er, rfl, (by decide : (1 : Nat) ≤ sizeLine), fun pa npa => ?_⟩
    have gpHb := Gr.new (tb := tb) (o := .tup [V.int 2]) npa
    intro xk dk nxk ndk nek
    refine ⟨xk, _, dk, _, _, rfl, upd_same, rfl, fun Hb ek => ⟨rfl, ?_⟩⟩
    have gk : Gr tb (upd H6 pa (.tup [V.int 2])) Hb := by rw [ek]; exact Gr.made nxk ndk ((Gw.wr upd_same rfl).trans (Gw.wr upd_same rfl))
    have ekk : Hb xk = some (.ins (He.ga K "Packet") dk [("tick", iN 3), ("parts", .ref pa)]) := by rw [ek]; exact upd_same
    clear ek
    have gHb := gpHb.trans gk
    have hpa : Hb pa = some (.tup ([2].map fun n => iN n)) := gk.at upd_same
    refine ⟨r, xk, 1, 1, 6, 3, ks0, [(1, 1)], [(5, 1)], [2], rfl, hR6.gr gHb, ok6, ⟨dk, pa, ekk, hpa⟩, rfl, by decide, by decide, by decide, gHb.tb hT6, fun _ u2 H7 g7 hu2 => ?_, fun z => absurd (by decide) z⟩
    have g67 := gHb.trans g7
    have hT7 := g67.tb hT6
    have hR7 := hR6.gr g67
    have hu1 := hu1.gr g67
    have er := g67.at er
    refine ⟨_, rfl, r, dr, _, rfl, er, rfl, (by decide : (1 : Nat) ≤ sizeLine), fun pa npa => ?_⟩
    have gpHc := Gr.new (tb := tb) (o := .tup [V.int 3]) npa
    intro xk dk nxk ndk nek
    refine ⟨xk, _, dk, _, _, rfl, upd_same, rfl, fun Hc ek => ⟨rfl, ?_⟩⟩
    have gk : Gr tb (upd H7 pa (.tup [V.int 3])) Hc := by rw [ek]; exact Gr.made nxk ndk ((Gw.wr upd_same rfl).trans (Gw.wr upd_same rfl))
    have ekk : Hc xk = some (.ins (He.ga K "Packet") dk [("tick", iN 4), ("parts", .ref pa)]) := by rw [ek]; exact upd_same
    clear ek
    have gHc := gpHc.trans gk
    have hpa : Hc pa = some (.tup ([3].map fun n => iN n)) := gk.at upd_same
    refine ⟨r, xk, 1, 1, 6, 4, ks0, [(1, 1)], [(5, 1)], [3], rfl, hR7.gr gHc, ok6, ⟨dk, pa, ekk, hpa⟩, rfl, by decide, by decide, by decide, gHc.tb hT7, fun z => absurd z (by decide), fun _ u3 H8 g8 hu3 hR8 => ?_⟩
    have hu1 := (hu1.gr gHc).gwr g8 (gHc.at er)
    have hu2 := (hu2.gr gHc).gwr g8 (gHc.at er)
    have hu3 : TPL H8 u3 (freshL ks0 1 6 (hearP ks0 1 6 4 [(1, 1)] [3]) [(5, 1)]) := hu3
    have hR8 : RcvI K 2 H8 r ks0 1 6 (hearP ks0 1 6 4 [(1, 1)] [3]) ([(5, 1)] ++ freshL ks0 1 6 (hearP ks0 1 6 4 [(1, 1)] [3]) [(5, 1)]) := hR8
    rw [hear4, fresh4] at hu3 hR8
    clear er
    obtain ⟨dr, pr, sr, mr, er0, er, _⟩ := id hR8
    refine ⟨_, rfl, r, dr, _, rfl, er, r, 2, 1, 6, ks0, [(2, 3), (1, 1)], [(5, 1), (4, 3)], rfl, hR8, ok7, fun u4 H9 g9 hu4 => ?_⟩
    have hu4 : H9 u4 = some (.tup ([0, 1, 2, 3].map fun n => iN n)) := by rw [← late0]; exact hu4
    refine ⟨_, rfl, r, dr, _, rfl, g9.at er, r, 2, 1, 6, ks0, [(2, 3), (1, 1)], [(5, 1), (4, 3)], rfl, hR8.gr g9, ok7, fun u5 H10 ls g10 hperm hsort hu5 => ?_⟩
    have hls : ls = [4, 5] := List.Perm.eq_of_pairwise (le := (· ≤ ·)) (fun x y _ _ h1 h2 => Nat.le_antisymm h1 h2) hsort (by decide) (hperm.trans (List.Perm.swap 4 5 []))
    subst hls
    have g810 := g9.trans g10
    refine ⟨(by decide : (5 : Nat) ≤ sizeLine), fun l nl => ?_⟩
    have gl := Gr.new (tb := tb) (o := .lst [V.ref u1, .ref u2, .ref u3, .ref u4, .ref u5]) nl
    have g8l := g810.trans gl
    exact ⟨l, u1, u2, u3, u4, u5, upd_same, hu1.gr g8l, hu2.gr g8l, hu3.gr g8l, (g10.trans gl).at hu4, gl.at hu5, rfl⟩
  rintro σ H4 ⟨l, u1, u2, u3, u4, u5, hl, hu1, hu2, hu3, hu4, hu5, rfl⟩
  refine ⟨_, rfl, ?_⟩
  refine ⟨(by decide : (2 : Nat) ≤ sizeLine), fun w1 n1 => ⟨(by decide : (1 : Nat) ≤ sizeLine), fun v1 m1 => ?_⟩⟩
  have gw1 := Gr.new (tb := tb) (o := .tup [V.int 5, .int 1]) n1
  have gv1 := Gr.new (tb := tb) (o := .tup [V.ref w1]) m1
  refine ⟨(by decide : (0 : Nat) ≤ sizeLine), fun v2 m2 => ?_⟩
  have gv2 := Gr.new (tb := tb) (o := .tup []) m2
  refine ⟨(by decide : (2 : Nat) ≤ sizeLine), fun w3 n3 => ⟨(by decide : (1 : Nat) ≤ sizeLine), fun v3 m3 => ?_⟩⟩
  have gw3 := Gr.new (tb := tb) (o := .tup [V.int 4, .int 3]) n3
  have gv3 := Gr.new (tb := tb) (o := .tup [V.ref w3]) m3
  refine ⟨(by decide : (4 : Nat) ≤ sizeLine), fun v4 m4 => ?_⟩
  have gv4 := Gr.new (tb := tb) (o := .tup [V.int 0, .int 1, .int 2, .int 3]) m4
  intro v5 m5
  have gv5 := (Gr.new (tb := tb) (o := .dK []) m5).gw m5 (Gw.wr (o' := .dK (mergeK [] [(Sum.inl (4 : Int), V.int 3), (Sum.inl (5 : Int), V.int 1)])) upd_same rfl)
  refine ⟨upd_same, [(Sum.inl (4 : Int), V.int 3), (Sum.inl (5 : Int), V.int 1)], rfl, by decide, ?_⟩
  refine ⟨(by decide : (5 : Nat) ≤ sizeLine), fun l2 nl2 => ?_⟩
  have gl2 := Gr.new (tb := tb) (o := .lst [V.ref v1, .ref v2, .ref v3, .ref v4, .ref v5]) nl2
  have d1 := ((((gv2.trans (gw3.trans gv3)).trans gv4).trans gv5).trans gl2)
  have dw1 := gv1.trans d1
  have dd := gw1.trans dw1
  have e5 : mergeK [] [(Sum.inl (4 : Int), V.int 3), (Sum.inl (5 : Int), V.int 1)] = [(Sum.inl (4 : Int), V.int 3), (Sum.inl (5 : Int), V.int 1)] := merge_new (kvs := []) (by decide)
  refine ⟨2, by decide, .inl ⟨l, l2, _, _, rfl, rfl, SqL.of (dd.at hl), SqL.of upd_same, .cons ?_ (.cons ?_ (.cons ?_ (.cons ?_ (.cons ?_ .nil))))⟩, q _⟩
  · refine .inl ⟨_, _, (hu1.gr dd).dp, .tup (SqT.of (d1.at upd_same)) (.cons (pair_dp (p := (5, 1)) (dw1.at upd_same)) .nil), Sh.ps.shaped (by decide), (Sh.ps (P := [(5, 1)])).shaped (by decide), (Sh.ps (P := [(5, 1)])).eqv⟩
  · refine .inl ⟨_, _, (hu2.gr dd).dp, .tup (SqT.of ((((gw3.trans gv3).trans gv4).trans gv5).trans gl2 |>.at upd_same)) .nil, Sh.ps.shaped (by decide), (Sh.ps (P := [])).shaped (by decide), (Sh.ps (P := [])).eqv⟩
  · refine .inl ⟨_, _, (hu3.gr dd).dp, .tup (SqT.of (((gv4.trans gv5).trans gl2).at upd_same)) (.cons (pair_dp (p := (4, 3)) ((gv3.trans ((gv4.trans gv5).trans gl2)).at upd_same)) .nil), Sh.ps.shaped (by decide), (Sh.ps (P := [(4, 3)])).shaped (by decide), (Sh.ps (P := [(4, 3)])).eqv⟩
  · refine .inl ⟨_, _, AgesAt.dp (s := [0, 1, 2, 3]) (dd.at hu4), AgesAt.dp (s := [0, 1, 2, 3]) ((gv5.trans gl2).at upd_same), (Sh.dS _).shaped (by decide), (Sh.dS _).shaped (by decide), (Sh.dS _).eqv⟩
  · refine .inr (.inr ⟨u5, v5, _, _, rfl, rfl, dd.at hu5, gl2.at (upd_same.trans (congrArg (fun z => some (HO.dK z)) e5)), rfl, fun p hp => ?_⟩)
    rcases List.mem_cons.mp hp with rfl | hp
    · exact ⟨_, valV_pos rfl, .inl ⟨_, _, .int _, .int _, (Sh.int 0 _).shaped (by decide), (Sh.int 0 _).shaped (by decide), (Sh.int 0 _).eqv⟩⟩
    · rw [List.mem_singleton.mp hp]
      exact ⟨_, (valV_neg (by decide)).trans (valV_pos rfl), .inl ⟨_, _, .int _, .int _, (Sh.int 0 _).shaped (by decide), (Sh.int 0 _).shaped (by decide), (Sh.int 0 _).eqv⟩⟩
end B
end
section
set_option linter.all false
set_option maxRecDepth 100000
set_option maxHeartbeats 2000000
namespace B
open PySem PySem.Spec PyProof.Rows L2
theorem tx_of {K : PySem.W.Frag} {h base : Heap} {mg : Str → Option Value} (X : K.In base) (G : base.Ns mainGlobals mg) (c : SaysZ h K) (TB : LamX.TabB base mg (He.cT K wsD).1 (He.cT K wsD).2) : Tx K mg base (tbZ K) where
  n_len := He.free_ok X G (c.a.fact 0 (f := .free "len") rfl)
  n_int := He.free_ok X G (c.a.fact 1 (f := .free "int") rfl)
  n_max := He.free_ok X G (c.a.fact 2 (f := .free "max") rfl)
  n_min := He.free_ok X G (c.a.fact 3 (f := .free "min") rfl)
  n_abs := He.free_ok X G (c.a.fact 4 (f := .free "abs") rfl)
  n_str := He.free_ok X G (c.a.fact 5 (f := .free "str") rfl)
  n_tuple := He.free_ok X G (c.a.fact 6 (f := .free "tuple") rfl)
  n_list := He.free_ok X G (c.a.fact 7 (f := .free "list") rfl)
  n_all := He.free_ok X G (c.a.fact 8 (f := .free "all") rfl)
  n_any := He.free_ok X G (c.a.fact 9 (f := .free "any") rfl)
  n_sorted := He.free_ok X G (c.a.fact 10 (f := .free "sorted") rfl)
  n_isinstance := He.free_ok X G (c.a.fact 11 (f := .free "isinstance") rfl)
  n_dict := He.free_ok X G (c.a.fact 12 (f := .free "dict") rfl)
  n_range := He.free_ok X G (c.a.fact 13 (f := .free "range") rfl)
  n_zip := He.free_ok X G (c.a.fact 14 (f := .free "zip") rfl)
  n_enumerate := He.free_ok X G (c.a.fact 15 (f := .free "enumerate") rfl)
  n_bool := He.free_ok X G (c.a.fact 16 (f := .free "bool") rfl)
  g_MOST_AGE_checks := He.int_ok X G (c.a.fact 17 (f := .int "MOST_AGE_checks" 8) rfl)
  g_MOST_DELAY := He.int_ok X G (c.a.fact 18 (f := .int "MOST_DELAY" 8) rfl)
  g_MOST_SUMS := He.int_ok X G (c.a.fact 19 (f := .int "MOST_SUMS" 6) rfl)
  g_MOST_PHASES := He.int_ok X G (c.a.fact 20 (f := .int "MOST_PHASES" 6) rfl)
  g_MOST_AGE_spaces := He.int_ok X G (c.a.fact 21 (f := .int "MOST_AGE_spaces" 15) rfl)
  g_MOST_BITS := He.int_ok X G (c.a.fact 22 (f := .int "MOST_BITS" 65535) rfl)
  g_MOST_JUMP := He.int_ok X G (c.a.fact 23 (f := .int "MOST_JUMP" 100) rfl)
  g_Tick := He.glo_ok X G (c.a.fact 24 (f := .glo "Tick") rfl)
  cl_Tick := He.cls_ok (c.a.fact 25 (f := .cls "Tick") rfl)
  na_Tick_sums := He.noat_ok (c.a.fact 26 (f := .noat "Tick" "sums") rfl)
  na_Tick_mute := He.noat_ok (c.a.fact 27 (f := .noat "Tick" "mute") rfl)
  g_Plan := He.glo_ok X G (c.a.fact 28 (f := .glo "Plan") rfl)
  cl_Plan := He.cls_ok (c.a.fact 29 (f := .cls "Plan") rfl)
  na_Plan_own_ticks := He.noat_ok (c.a.fact 30 (f := .noat "Plan" "own_ticks") rfl)
  g_Space := He.glo_ok X G (c.a.fact 31 (f := .glo "Space") rfl)
  cl_Space := He.cls_ok (c.a.fact 32 (f := .cls "Space") rfl)
  na_Space_rows := He.noat_ok (c.a.fact 33 (f := .noat "Space" "rows") rfl)
  g_Packet := He.glo_ok X G (c.a.fact 34 (f := .glo "Packet") rfl)
  cl_Packet := He.cls_ok (c.a.fact 35 (f := .cls "Packet") rfl)
  na_Packet_tick := He.noat_ok (c.a.fact 36 (f := .noat "Packet" "tick") rfl)
  na_Packet_parts := He.noat_ok (c.a.fact 37 (f := .noat "Packet" "parts") rfl)
  g_Known := He.glo_ok X G (c.a.fact 38 (f := .glo "Known") rfl)
  cl_Known := He.cls_ok (c.a.fact 39 (f := .cls "Known") rfl)
  na_Known_pairs := He.noat_ok (c.a.fact 40 (f := .noat "Known" "pairs") rfl)
  g_Moment := He.glo_ok X G (c.a.fact 41 (f := .glo "Moment") rfl)
  cl_Moment := He.cls_ok (c.a.fact 42 (f := .cls "Moment") rfl)
  na_Moment_at_tick := He.noat_ok (c.a.fact 43 (f := .noat "Moment" "at_tick") rfl)
  na_Moment_sums := He.noat_ok (c.a.fact 44 (f := .noat "Moment" "sums") rfl)
  na_Moment_rows := He.noat_ok (c.a.fact 45 (f := .noat "Moment" "rows") rfl)
  g_Receiver := He.glo_ok X G (c.a.fact 46 (f := .glo "Receiver") rfl)
  cl_Receiver := He.cls_ok (c.a.fact 47 (f := .cls "Receiver") rfl)
  na_Receiver_plan := He.noat_ok (c.a.fact 48 (f := .noat "Receiver" "plan") rfl)
  na_Receiver_delay := He.noat_ok (c.a.fact 49 (f := .noat "Receiver" "delay") rfl)
  na_Receiver_own_past := He.noat_ok (c.a.fact 50 (f := .noat "Receiver" "own_past") rfl)
  i_Tick := c.ins "Tick" (by decide +kernel) (c.a.fact 25 (f := .cls "Tick") rfl)
  i_Plan := c.ins "Plan" (by decide +kernel) (c.a.fact 29 (f := .cls "Plan") rfl)
  i_Space := c.ins "Space" (by decide +kernel) (c.a.fact 32 (f := .cls "Space") rfl)
  i_Packet := c.ins "Packet" (by decide +kernel) (c.a.fact 35 (f := .cls "Packet") rfl)
  f_is_integer := (c.a.def_ 0 (d := d_is_integer) rfl).elim fun fd F => ⟨_, fd, F, He.glo_ok X G (c.a.fact 51 (f := .glo "is_integer") rfl)⟩
  f_is_within := (c.a.def_ 1 (d := d_is_within) rfl).elim fun fd F => ⟨_, fd, F, He.glo_ok X G (c.a.fact 52 (f := .glo "is_within") rfl)⟩
  f_is_age := (c.a.def_ 2 (d := d_is_age) rfl).elim fun fd F => ⟨_, fd, F, He.glo_ok X G (c.a.fact 53 (f := .glo "is_age") rfl)⟩
  f_is_delay := (c.a.def_ 3 (d := d_is_delay) rfl).elim fun fd F => ⟨_, fd, F, He.glo_ok X G (c.a.fact 54 (f := .glo "is_delay") rfl)⟩
  f_is_sum := (c.a.def_ 4 (d := d_is_sum) rfl).elim fun fd F => ⟨_, fd, F, He.glo_ok X G (c.a.fact 55 (f := .glo "is_sum") rfl)⟩
  f_mask_of := (c.a.def_ 5 (d := d_mask_of) rfl).elim fun fd F => ⟨_, fd, F, He.glo_ok X G (c.a.fact 56 (f := .glo "mask_of") rfl)⟩
  f_Tick_init := (c.a.def_ 6 (d := d_Tick_init) rfl).elim fun fd F => ⟨_, fd, F, He.mkr_ok (c.a.fact 57 (f := .mkr "Tick") rfl)⟩
  f_Tick_masks := (c.a.def_ 7 (d := d_Tick_masks) rfl).elim fun fd F => ⟨_, _, fd, F, c.prop "Tick" "masks" (by decide +kernel)⟩
  f_Tick_ages := (c.a.def_ 8 (d := d_Tick_ages) rfl).elim fun fd F => ⟨_, _, fd, F, c.prop "Tick" "ages" (by decide +kernel)⟩
  f_upcoming := (c.a.def_ 9 (d := d_upcoming) rfl).elim fun fd F => ⟨_, fd, F, He.glo_ok X G (c.a.fact 58 (f := .glo "upcoming") rfl)⟩
  f_read_tick := (c.a.def_ 10 (d := d_read_tick) rfl).elim fun fd F => ⟨_, fd, F, He.glo_ok X G (c.a.fact 59 (f := .glo "read_tick") rfl)⟩
  f_read_sum := (c.a.def_ 11 (d := d_read_sum) rfl).elim fun fd F => ⟨_, fd, F, He.glo_ok X G (c.a.fact 60 (f := .glo "read_sum") rfl)⟩
  f_Plan_init := (c.a.def_ 12 (d := d_Plan_init) rfl).elim fun fd F => ⟨_, fd, F, He.mkr_ok (c.a.fact 61 (f := .mkr "Plan") rfl)⟩
  f_Plan_read := (c.a.def_ 13 (d := d_Plan_read) rfl).elim fun fd F => ⟨_, _, _, fd, F, c.cread, c.cmet⟩
  f_Plan_tick_at := (c.a.def_ 14 (d := d_Plan_tick_at) rfl).elim fun fd F => ⟨_, fd, F, He.meth_ok (c.a.fact 62 (f := .meth "Plan" "tick_at") rfl)⟩
  f_Plan_ages := (c.a.def_ 15 (d := d_Plan_ages) rfl).elim fun fd F => ⟨_, _, fd, F, c.prop "Plan" "ages" (by decide +kernel)⟩
  f_need_bits := (c.a.def_ 16 (d := d_need_bits) rfl).elim fun fd F => ⟨_, fd, F, He.glo_ok X G (c.a.fact 63 (f := .glo "need_bits") rfl)⟩
  f_rest_of := (c.a.def_ 17 (d := d_rest_of) rfl).elim fun fd F => ⟨_, fd, F, He.glo_ok X G (c.a.fact 64 (f := .glo "rest_of") rfl)⟩
  f_reduced := (c.a.def_ 18 (d := d_reduced) rfl).elim fun fd F => ⟨_, fd, F, He.glo_ok X G (c.a.fact 65 (f := .glo "reduced") rfl)⟩
  f_Space_init := (c.a.def_ 19 (d := d_Space_init) rfl).elim fun fd F => ⟨_, fd, F, He.mkr_ok (c.a.fact 66 (f := .mkr "Space") rfl)⟩
  f_Space_contains := (c.a.def_ 20 (d := d_Space_contains) rfl).elim fun fd F => ⟨_, fd, F, (He.meth_ok (c.a.fact 67 (f := .meth "Space" "__contains__") rfl)).at_, (He.meth_ok (c.a.fact 67 (f := .meth "Space" "__contains__") rfl)).fn⟩
  f_Space_eq := (c.a.def_ 21 (d := d_Space_eq) rfl).elim fun fd F => ⟨_, fd, F, (He.meth_ok (c.a.fact 68 (f := .meth "Space" "__eq__") rfl)).at_, (He.meth_ok (c.a.fact 68 (f := .meth "Space" "__eq__") rfl)).fn⟩
  f_Packet_init := (c.a.def_ 22 (d := d_Packet_init) rfl).elim fun fd F => ⟨_, fd, F, He.mkr_ok (c.a.fact 69 (f := .mkr "Packet") rfl)⟩
  f_Known_init := (c.a.def_ 23 (d := d_Known_init) rfl).elim fun fd F => ⟨_, fd, F, He.mkr_ok (c.a.fact 70 (f := .mkr "Known") rfl)⟩
  f_Known_reduced := (c.a.def_ 24 (d := d_Known_reduced) rfl).elim fun fd F => ⟨_, fd, F, He.meth_ok (c.a.fact 71 (f := .meth "Known" "reduced") rfl)⟩
  f_Known_with_sum := (c.a.def_ 25 (d := d_Known_with_sum) rfl).elim fun fd F => c.wsum TB F (He.meth_ok (c.a.fact 72 (f := .meth "Known" "with_sum") rfl)) rfl
  f_Known_older := (c.a.def_ 26 (d := d_Known_older) rfl).elim fun fd F => ⟨_, fd, F, He.meth_ok (c.a.fact 73 (f := .meth "Known" "older") rfl)⟩
  f_power := (c.a.def_ 27 (d := d_power) rfl).elim fun fd F => ⟨_, fd, F, He.glo_ok X G (c.a.fact 74 (f := .glo "power") rfl)⟩
  f_has_top := (c.a.def_ 28 (d := d_has_top) rfl).elim fun fd F => ⟨_, fd, F, He.glo_ok X G (c.a.fact 75 (f := .glo "has_top") rfl)⟩
  f_Moment_init := (c.a.def_ 29 (d := d_Moment_init) rfl).elim fun fd F => ⟨_, fd, F, He.mkr_ok (c.a.fact 76 (f := .mkr "Moment") rfl)⟩
  f_Receiver_init := (c.a.def_ 30 (d := d_Receiver_init) rfl).elim fun fd F => ⟨_, fd, F, He.mkr_ok (c.a.fact 77 (f := .mkr "Receiver") rfl)⟩
  f_Receiver_span := (c.a.def_ 31 (d := d_Receiver_span) rfl).elim fun fd F => ⟨_, fd, F, He.meth_ok (c.a.fact 78 (f := .meth "Receiver" "span") rfl)⟩
  f_Receiver_moment := (c.a.def_ 32 (d := d_Receiver_moment) rfl).elim fun fd F => ⟨_, fd, F, He.meth_ok (c.a.fact 79 (f := .meth "Receiver" "moment") rfl)⟩
  f_Receiver_passed := (c.a.def_ 33 (d := d_Receiver_passed) rfl).elim fun fd F => ⟨_, fd, F, He.meth_ok (c.a.fact 80 (f := .meth "Receiver" "passed") rfl)⟩
  f_Receiver_need_packet := (c.a.def_ 34 (d := d_Receiver_need_packet) rfl).elim fun fd F => ⟨_, fd, F, He.meth_ok (c.a.fact 81 (f := .meth "Receiver" "need_packet") rfl)⟩
  f_Receiver_hear := (c.a.def_ 35 (d := d_Receiver_hear) rfl).elim fun fd F => ⟨_, fd, F, He.meth_ok (c.a.fact 82 (f := .meth "Receiver" "hear") rfl)⟩
  f_Receiver_fresh := (c.a.def_ 36 (d := d_Receiver_fresh) rfl).elim fun fd F => ⟨_, fd, F, He.meth_ok (c.a.fact 83 (f := .meth "Receiver" "fresh") rfl)⟩
  f_Receiver_wait := (c.a.def_ 37 (d := d_Receiver_wait) rfl).elim fun fd F => ⟨_, fd, F, He.meth_ok (c.a.fact 84 (f := .meth "Receiver" "wait") rfl)⟩
  f_Receiver_now := (c.a.def_ 38 (d := d_Receiver_now) rfl).elim fun fd F => ⟨_, _, fd, F, c.prop "Receiver" "now" (by decide +kernel)⟩
  f_Receiver_told := (c.a.def_ 39 (d := d_Receiver_told) rfl).elim fun fd F => ⟨_, _, fd, F, c.prop "Receiver" "told" (by decide +kernel)⟩
  f_Receiver_late := (c.a.def_ 40 (d := d_Receiver_late) rfl).elim fun fd F => ⟨_, _, fd, F, c.prop "Receiver" "late" (by decide +kernel)⟩
  f_Receiver_known := (c.a.def_ 41 (d := d_Receiver_known) rfl).elim fun fd F => ⟨_, fd, F, He.meth_ok (c.a.fact 85 (f := .meth "Receiver" "known") rfl)⟩
  f_Receiver_worth := (c.a.def_ 42 (d := d_Receiver_worth) rfl).elim fun fd F => ⟨_, fd, F, He.meth_ok (c.a.fact 86 (f := .meth "Receiver" "worth") rfl)⟩
  f__law_pen := (c.a.def_ 43 (d := d__law_pen) rfl).elim fun fd F => ⟨_, fd, F, He.glo_ok X G (c.a.fact 87 (f := .glo "_law_pen") rfl)⟩
  f__law_draw := (c.a.def_ 44 (d := d__law_draw) rfl).elim fun fd F => ⟨_, fd, F, He.glo_ok X G (c.a.fact 88 (f := .glo "_law_draw") rfl)⟩
  f__law_pick := (c.a.def_ 45 (d := d__law_pick) rfl).elim fun fd F => ⟨_, fd, F, He.glo_ok X G (c.a.fact 89 (f := .glo "_law_pick") rfl)⟩
  f__law_sum := (c.a.def_ 46 (d := d__law_sum) rfl).elim fun fd F => ⟨_, fd, F, He.glo_ok X G (c.a.fact 90 (f := .glo "_law_sum") rfl)⟩
  f__law_tick := (c.a.def_ 47 (d := d__law_tick) rfl).elim fun fd F => ⟨_, fd, F, He.glo_ok X G (c.a.fact 91 (f := .glo "_law_tick") rfl)⟩
  f__law_ticks := (c.a.def_ 48 (d := d__law_ticks) rfl).elim fun fd F => ⟨_, fd, F, He.glo_ok X G (c.a.fact 92 (f := .glo "_law_ticks") rfl)⟩
  f__law_tick_text := (c.a.def_ 49 (d := d__law_tick_text) rfl).elim fun fd F => ⟨_, fd, F, He.glo_ok X G (c.a.fact 93 (f := .glo "_law_tick_text") rfl)⟩
  f__law_plan := (c.a.def_ 50 (d := d__law_plan) rfl).elim fun fd F => ⟨_, fd, F, He.glo_ok X G (c.a.fact 94 (f := .glo "_law_plan") rfl)⟩
  f__law_bit := (c.a.def_ 51 (d := d__law_bit) rfl).elim fun fd F => ⟨_, fd, F, He.glo_ok X G (c.a.fact 95 (f := .glo "_law_bit") rfl)⟩
  f__law_reduced := (c.a.def_ 52 (d := d__law_reduced) rfl).elim fun fd F => ⟨_, fd, F, He.glo_ok X G (c.a.fact 96 (f := .glo "_law_reduced") rfl)⟩
  f__law_added := (c.a.def_ 53 (d := d__law_added) rfl).elim fun fd F => ⟨_, fd, F, He.glo_ok X G (c.a.fact 97 (f := .glo "_law_added") rfl)⟩
  f__law_sums := (c.a.def_ 54 (d := d__law_sums) rfl).elim fun fd F => ⟨_, fd, F, He.glo_ok X G (c.a.fact 98 (f := .glo "_law_sums") rfl)⟩
  f__law_is_mute := (c.a.def_ 55 (d := d__law_is_mute) rfl).elim fun fd F => ⟨_, fd, F, He.glo_ok X G (c.a.fact 99 (f := .glo "_law_is_mute") rfl)⟩
  f__law_rows := (c.a.def_ 56 (d := d__law_rows) rfl).elim fun fd F => ⟨_, fd, F, He.glo_ok X G (c.a.fact 100 (f := .glo "_law_rows") rfl)⟩
  f__law_parts := (c.a.def_ 57 (d := d__law_parts) rfl).elim fun fd F => ⟨_, fd, F, He.glo_ok X G (c.a.fact 101 (f := .glo "_law_parts") rfl)⟩
  f__law_begun := (c.a.def_ 58 (d := d__law_begun) rfl).elim fun fd F => ⟨_, fd, F, He.glo_ok X G (c.a.fact 102 (f := .glo "_law_begun") rfl)⟩
  f__law_heard_by := (c.a.def_ 59 (d := d__law_heard_by) rfl).elim fun fd F => ⟨_, fd, F, He.glo_ok X G (c.a.fact 103 (f := .glo "_law_heard_by") rfl)⟩
  f__law_shows := (c.a.def_ 60 (d := d__law_shows) rfl).elim fun fd F => ⟨_, fd, F, He.glo_ok X G (c.a.fact 104 (f := .glo "_law_shows") rfl)⟩
  f__law_turn_right := (c.a.def_ 61 (d := d__law_turn_right) rfl).elim fun fd F => ⟨_, fd, F, He.glo_ok X G (c.a.fact 105 (f := .glo "_law_turn_right") rfl)⟩
  f__law_orders_right := (c.a.def_ 62 (d := d__law_orders_right) rfl).elim fun fd F => ⟨_, fd, F, He.glo_ok X G (c.a.fact 106 (f := .glo "_law_orders_right") rfl)⟩
  f__law_far_right := (c.a.def_ 63 (d := d__law_far_right) rfl).elim fun fd F => ⟨_, fd, F, He.glo_ok X G (c.a.fact 107 (f := .glo "_law_far_right") rfl)⟩
  f_law := (c.a.def_ 64 (d := d_law) rfl).elim fun fd F => ⟨_, fd, F, He.glo_ok X G (c.a.fact 108 (f := .glo "law") rfl)⟩
theorem law_at {l : PySem.W.OpenLaw} {w : World} {K : PySem.W.Frag} {mg : Str → Option Value} {f : Addr} {h : Heap} (KX : K.In h) (G : h.Ns mainGlobals mg) (hmg : mg ("law" : Str) = some (.ref f)) (c : SaysZ h K) : LamX.LawAtS l w K CX0 12 63 "_law_script" mg f h := by
  obtain ⟨fd, F⟩ := c.a.def_ 64 (d := d_law) rfl
  have e := hmg.symm.trans (He.glo_ok KX G (c.a.fact 108 (f := .glo "law") rfl))
  cases e
  refine ⟨fd, [He.cT K wsD], sp_law K (tbZ K), fun p hp => ?_, fun p hp => ?_, fun p hp => ?_, fun s u => ?_, fun H a ns _ _ hH hS => ?_, fun base KB GB TB => ?_⟩
  · rw [List.mem_singleton.mp hp]; exact c.empty
  · rw [List.mem_singleton.mp hp]; exact c.out
  · rw [List.mem_singleton.mp hp]; exact PySem.W.codeHd_of_K KX c.hd
  · exact FunD.bindsA (ps := ["_law_script"]) F (fun _ _ _ _ _ _ us hl => match us, hl with | [_], _ => rfl) s [u] rfl
  · refine ⟨a, ns, rfl, hS, fun p hp => ?_, fun _ => rfl⟩
    rw [List.mem_singleton.mp hp]
    exact LamX.TabS.nil (hH _ List.mem_cons_self)
  · exact ok_law (tx_of KB GB c (TB _ List.mem_cons_self)) F
end B
end
set_option linter.all false
set_option maxRecDepth 100000
set_option maxHeartbeats 0
open PySem PySem.W PySem.Calls PyProof.Rows
theorem PySem.Challenge.cw_laterepair_k73_whole_packets_in_any_orde_holds : PySem.Challenge.rw_laterepair_k73_whole_packets_in_any_orde.Holds := by
  w_on; o_law
  refine HandSHeadRun.head_any (r := B.R) (q := B.qv) (H := B.hookZ) (ob := B.obT) (M := 20000) (loose := B.names) (d := HandSHeadRun.topDef B.R.prog 80) (kwd := []) B.obT_eq
    (by kernel_rfl) (fun s => by kernel_rfl) B.run (by kernel_rfl) (by kernel_rfl) (by kernel_rfl) (by rfl) (by first | assumption | decide +kernel) (by decide +kernel) ⟨rfl, rfl, rfl, rfl, rfl, by decide +kernel⟩ ?hw ?hc
  case hw => w_witness2
  case hc =>
    refine LamX.walk_ofTsE (l := PySem.Challenge.rw_laterepair_k73_whole_packets_in_any_orde) (n := 63) (k := 12) (x := "_law_script") (CX := fun _ => L2.CX0) rfl (by decide) (by kernel_rfl) ⟨rfl, by decide, by decide⟩ ?F (fun _ _ _ _ _ z => z)
    intro w mg fa h Y G hmg0
    obtain ⟨K, KX, c⟩ := Y
    have hmg : mg ("law" : PySem.Str) = some (.ref fa) := by
      have e : (HandSHeadRun.topDef B.R.prog 80).name = ("law" : PySem.Str) := by kernel_rfl
      rw [← e]
      exact hmg0
    exact ⟨K, KX, B.law_at KX G hmg c⟩
