import PyProof.Rows.All
import Wide.All
import OpenK.AllK
import Wide.FinOn
import KE.KStateDown
import HandS.ForMost
import HandS.More
import HandS.Evl
import HandS.Exc
import HandS.Defaults
import HandS.DictComp
import HandS.SetKeys
import HandS.Conv
import HandS.IsInst
import HandS.TupAny
import HandS.TupLen
import HandS.Style
import HandS.Flow
import HandS.Small
import HandS.Walk
import HandS.WideBits
import HandS.Deep
import HandS.Records
import KE.SortData
import HandS.Head0
import HandS.Head1
import HandS.Head2
import HandS.HeadEnd
import HandS.HeadHook1
import HandS.HeadHook2
import HandS.SetBool
import HandS.TupSets
import HandS.DictTup
import KE.GoesMore
import KE.GoesEnum
import KE.KDictDisplayH
import KE.KDictCopyH
import KE.KDictList
import KE.OsArith
import KE.BitLaws
import PySem.Challenge.RW_giftrings_k67_whole_parts_of_people
section
set_option Elab.async false
set_option linter.all false
set_option maxRecDepth 100000
set_option maxHeartbeats 4000000
/-! What every def's proof leans on: promises by name, calls, readings step by step. -/
namespace GR
open PySem PySem.Spec PyProof.Rows L2
open Evl (Ex)

theorem b_len : bootBuiltins "len" = some (.builtin "len") := by decide +kernel
theorem b_isinstance : bootBuiltins "isinstance" = some (.builtin "isinstance") := by decide +kernel
theorem b_sorted : bootBuiltins "sorted" = some (.builtin "sorted") := by decide +kernel
theorem b_any : bootBuiltins "any" = some (.builtin "any") := by decide +kernel
theorem b_all : bootBuiltins "all" = some (.builtin "all") := by decide +kernel
theorem b_list : bootBuiltins "list" = some (.type "list") := by decide +kernel
theorem b_tuple : bootBuiltins "tuple" = some (.type "tuple") := by decide +kernel
theorem b_int : bootBuiltins "int" = some (.type "int") := by decide +kernel
theorem b_str : bootBuiltins "str" = some (.type "str") := by decide +kernel
theorem b_dict : bootBuiltins "dict" = some (.type "dict") := by decide +kernel
theorem b_bool : bootBuiltins "bool" = some (.type "bool") := by decide +kernel
theorem b_enumerate : bootBuiltins "enumerate" = some (.type "enumerate") := by decide +kernel
/-! ### a def known by its name -/
/-- the module's name x is a def that keeps sp, by at most level k -/
structure Cal (P : Program) (w : World) (K : PySem.W.Frag) (mg : Str → Option Value) (base : Heap) (k : Nat) (x : Str) (sp : Sp) : Prop where
  ex : ∃ f, FnR P w K mg base CX0 k f sp ∧ mg x = some (.ref f) ∧ PySem.W.keepIn K (.ref f) = true
section
variable {P : Program} {w : World} {K : PySem.W.Frag} {mg : Str → Option Value} {base : Heap} {k j : Nat} {x : Str} {sp sp' : Sp}
theorem Cal.imp (C : Cal P w K mg base k x sp) (h : ∀ vs H Q E, sp' vs H Q E → sp vs H Q E) : Cal P w K mg base k x sp' := by
  obtain ⟨f, F, a, b⟩ := C.ex
  exact ⟨f, F.imp h, a, b⟩
end
/-- the def of the text at st stands behind the module's name x -/
structure At (K : PySem.W.Frag) (mg : Str → Option Value) (x : Str) (st : Stmt) : Prop where
  ex : ∃ f fd, FunD K x x (defArgs st) (defBody st) (defScope st) [] [] f fd ∧ mg x = some (.ref f)
/-- one def's proof -/
theorem At.ok {P : Program} {w : World} {K : PySem.W.Frag} {mg : Str → Option Value} {base : Heap} {x : Str} {st : Stmt} {N ps : List Str} {k : Nat} {sp : Sp} (T : At K mg x st) (S : FnScope N ps (defScope st))
    (bind : ∀ (kV doc pm : Value) (an : Option Addr) (cdv ct : Value) (us : List Value), us.length = ps.length → bindArgs (PySem.W.fnOf x x (defArgs st) (defBody st) (defScope st) .none kV doc pm an cdv ct) ⟨us, []⟩ = pure (ps.zip us))
    (len : ∀ vs H Q E, sp vs H Q E → vs.length = ps.length)
    (hbody : ∀ (f : Addr) (cdv : Value) (A : Around) (outer : List Env) (s : Shared) (H : Hp) (vs : List V) (Q : VK) (E : XK), Room k (A.deeper (envOfC x (defScope st) s.heap.objs.size f cdv)) → sp vs H Q E →
      ∃ t, PSs (cxOf CX0 P w K mg base N x (defScope st) f cdv A outer s H E).nox (defBody st) t ∧ t { nx := fun _ H' => Q .non H', rt := Q } (start N vs) H) : Cal P w K mg base (k + 1) x sp := by
  obtain ⟨f, fd, F, hm⟩ := T.ex
  have G : FnOk P w K mg base CX0 (k + 1) f fd ps sp := F.ok S len fun cdv A outer s H vs Q E hr h => by
    obtain ⟨t, d, q⟩ := hbody f cdv A outer s H vs Q E hr h
    exact ⟨t, d.nox, q⟩
  exact ⟨f, (G.raw (F.bindsN bind) .nil).imp fun vs H Q E h => by rw [List.append_nil]; exact h, hm, F.kp⟩
/-- a method's promise, a class's __init__'s -/
structure Mth (P : Program) (w : World) (K : PySem.W.Frag) (mg : Str → Option Value) (base : Heap) (k : Nat) (C : Addr) (m : Str) (sp : Sp) : Prop where
  ex : ∃ f, FnR P w K mg base CX0 k f sp ∧ Meth K C m f
structure Ini (P : Program) (w : World) (K : PySem.W.Frag) (mg : Str → Option Value) (base : Heap) (k : Nat) (C : Addr) (sp : Sp) : Prop where
  ex : ∃ f fd ps, FnOk P w K mg base CX0 k f fd ps sp ∧ Binds K fd ps [] ∧ Mk K C f
structure AtM (K : PySem.W.Frag) (C : Addr) (m qual : Str) (st : Stmt) : Prop where
  ex : ∃ f fd, FunD K m qual (defArgs st) (defBody st) (defScope st) [] [] f fd ∧ Meth K C m f
structure AtI (K : PySem.W.Frag) (C : Addr) (qual : Str) (st : Stmt) : Prop where
  ex : ∃ f fd, FunD K "__init__" qual (defArgs st) (defBody st) (defScope st) [] [] f fd ∧ Mk K C f
section
variable {P : Program} {w : World} {K : PySem.W.Frag} {mg : Str → Option Value} {base : Heap} {C : Addr} {m qual : Str} {st : Stmt} {N ps : List Str} {k : Nat} {sp : Sp}
theorem AtM.ok (T : AtM K C m qual st) (S : FnScope N ps (defScope st))
    (bind : ∀ (kV doc pm : Value) (an : Option Addr) (cdv ct : Value) (us : List Value), us.length = ps.length → bindArgs (PySem.W.fnOf m qual (defArgs st) (defBody st) (defScope st) .none kV doc pm an cdv ct) ⟨us, []⟩ = pure (ps.zip us))
    (len : ∀ vs H Q E, sp vs H Q E → vs.length = ps.length)
    (hbody : ∀ (f : Addr) (cdv : Value) (A : Around) (outer : List Env) (s : Shared) (H : Hp) (vs : List V) (Q : VK) (E : XK), Room k (A.deeper (envOfC qual (defScope st) s.heap.objs.size f cdv)) → sp vs H Q E →
      ∃ t, PSs (cxOf CX0 P w K mg base N qual (defScope st) f cdv A outer s H E).nox (defBody st) t ∧ t { nx := fun _ H' => Q .non H', rt := Q } (start N vs) H) : Mth P w K mg base (k + 1) C m sp := by
  obtain ⟨f, fd, F, hm⟩ := T.ex
  have G : FnOk P w K mg base CX0 (k + 1) f fd ps sp := F.ok S len fun cdv A outer s H vs Q E hr h => by
    obtain ⟨t, d, q⟩ := hbody f cdv A outer s H vs Q E hr h
    exact ⟨t, d.nox, q⟩
  exact ⟨f, (G.raw (F.bindsN bind) .nil).imp fun vs H Q E h => by rw [List.append_nil]; exact h, hm⟩
theorem AtI.ok (T : AtI K C qual st) (S : FnScope N ps (defScope st))
    (bind : ∀ (kV doc pm : Value) (an : Option Addr) (cdv ct : Value) (us : List Value), us.length = ps.length → bindArgs (PySem.W.fnOf "__init__" qual (defArgs st) (defBody st) (defScope st) .none kV doc pm an cdv ct) ⟨us, []⟩ = pure (ps.zip us))
    (len : ∀ vs H Q E, sp vs H Q E → vs.length = ps.length)
    (hbody : ∀ (f : Addr) (cdv : Value) (A : Around) (outer : List Env) (s : Shared) (H : Hp) (vs : List V) (Q : VK) (E : XK), Room k (A.deeper (envOfC qual (defScope st) s.heap.objs.size f cdv)) → sp vs H Q E →
      ∃ t, PSs (cxOf CX0 P w K mg base N qual (defScope st) f cdv A outer s H E).nox (defBody st) t ∧ t { nx := fun _ H' => Q .non H', rt := Q } (start N vs) H) : Ini P w K mg base (k + 1) C sp := by
  obtain ⟨f, fd, F, hm⟩ := T.ex
  have G : FnOk P w K mg base CX0 (k + 1) f fd ps sp := F.ok S len fun cdv A outer s H vs Q E hr h => by
    obtain ⟨t, d, q⟩ := hbody f cdv A outer s H vs Q E hr h
    exact ⟨t, d.nox, q⟩
  exact ⟨f, fd, ps, G, F.bindsN bind, hm⟩
end
/-- f(e, ..), the def by its name -/
def tFn (sp : Sp) (t : TA) : TE := fun σ H Q => t σ H fun vs H1 => sp vs H1 Q E0
section
variable {X : Cx} {k : Nat} {x : Str} {sp : Sp} {p pos : Pos} {e : Expr} {es : List Expr} {t : TA}
theorem pe_fn (C : Cal X.prog X.w X.K X.mg X.base k x sp) (hr : Room k X.A) (ha : PA X (e :: es) t) (hg : Gl X x := by rfl)
    (hdb : (x == ("__debug__" : Str)) = false := by decide) (he : starEach (e :: es) X.env = (false, eval e X.env) :: starEach es X.env := by rfl) (hpl : (backTo pos (starEach es X.env)).any (·.1) = false := by rfl) :
    PE X (.Call (.Name x p) (e :: es) [] pos) (tFn sp t) := by
  obtain ⟨f, F, hm, hk⟩ := C.ex
  refine ⟨fun pins s σ H Q I h => wpAny_Call_Name_kw (ld_glob I hg hm ?_ hdb)⟩
  exact PySem.W.callWith_K (h₀ := X.base) I.ok.mod.kin hk (thn (ha.run pos pins s σ H _ I h) fun us s1 ⟨vs, H1, I1, r, q⟩ => ⟨I1.kIn, wpAny_call (run_fnR F hr pass0 I1 r q)⟩) he hpl
end

/-! ### in by an own __contains__, len by an own __len__ -/
section
variable {X : Cx} {C f : Addr} {k : Nat} {sp : Sp}
def rOwnIn (C : Addr) (sp : Sp) : R2 := fun x y H Q => ∃ a dx fs, y = .ref a ∧ H a = some (.ins C dx fs) ∧ sp [y, x] H (fun v H' => ∃ b, v = .bl b ∧ Q (.bl b) H') E0
def rOwnNotIn (C : Addr) (sp : Sp) : R2 := fun x y H Q => ∃ a dx fs, y = .ref a ∧ H a = some (.ins C dx fs) ∧ sp [y, x] H (fun v H' => ∃ b, v = .bl b ∧ Q (.bl (!b)) H') E0
theorem ins_at {pins : List (Addr × Obj)} {σ : L2.St} {H : Hp} {s : Shared} {a dx : Addr} {fs : List (Str × V)} (I : Inv X pins σ H s) (h : H a = some (.ins C dx fs)) : ∃ od, PySem.W.InstAt s.heap a (PySem.W.instObj C dx) C (some od) := by
  obtain ⟨_, _, ne, ho, mA, hn, _, _⟩ := I.hok a _ h
  obtain ⟨od, J, _⟩ := (ObjM.mk ho hn ne).look
  exact ⟨od, J⟩
theorem op_ownIn (hm : Meth X.K C "__contains__" f) (F : FnR X.prog X.w X.K X.mg X.base CX0 k f sp) (hr : Room k X.A) : OpR X (compareOp .In) (rOwnIn C sp) := by
  intro pins s σ H x y v u Q I rx ry h
  obtain ⟨a, dx, fs, rfl, ha, q⟩ := h
  cases (show u = Value.ref a from ry)
  obtain ⟨od, J⟩ := ins_at I ha
  obtain ⟨m, hF⟩ := I.fr
  refine PySem.W.in_K hF I.ok.mod.kin J hm.at_ hm.fn (wpAny_mono (wpAny_call (run_fnR (us := [.ref a, v]) (vs := [.ref a, x]) F hr pass0 I (.cons rfl (.cons rx .nil)) q)) (fun r s' z => ?_) fun _ _ x => x)
  obtain ⟨vr, H', I', rr, b, rfl, qb⟩ := z
  cases (show r = Value.bool b from rr)
  refine wpAny_truthy_bool ⟨.bl b, H', I', rfl, ?_⟩
  exact qb
theorem op_ownNotIn (hm : Meth X.K C "__contains__" f) (F : FnR X.prog X.w X.K X.mg X.base CX0 k f sp) (hr : Room k X.A) : OpR X (compareOp .NotIn) (rOwnNotIn C sp) := by
  intro pins s σ H x y v u Q I rx ry h
  obtain ⟨a, dx, fs, rfl, ha, q⟩ := h
  cases (show u = Value.ref a from ry)
  obtain ⟨od, J⟩ := ins_at I ha
  obtain ⟨m, hF⟩ := I.fr
  refine PySem.W.notIn_K hF I.ok.mod.kin J hm.at_ hm.fn (wpAny_mono (wpAny_call (run_fnR (us := [.ref a, v]) (vs := [.ref a, x]) F hr pass0 I (.cons rfl (.cons rx .nil)) q)) (fun r s' z => ?_) fun _ _ x => x)
  obtain ⟨vr, H', I', rr, b, rfl, qb⟩ := z
  cases (show r = Value.bool b from rr)
  refine wpAny_truthy_bool ⟨.bl (!b), H', I', rfl, ?_⟩
  exact qb
/-- len(o), o's own __len__ -/
def rOwnLen (C : Addr) (sp : Sp) : List V → Hp → VK → Prop := fun xs H Q => ∃ a dx fs, xs = [.ref a] ∧ H a = some (.ins C dx fs) ∧ sp [.ref a] H (fun v H' => ∃ n : Nat, v = .int n ∧ (n : Int) < 2 ^ 63 ∧ Q (.int n) H') E0
theorem cr_ownLen (hm : Meth X.K C "__len__" f) (F : FnR X.prog X.w X.K X.mg X.base CX0 k f sp) (hr : Room (k + 1) X.A) : CallR X (.builtin "len") (rOwnLen C sp) := by
  intro pins s σ H xs us Q I r h
  obtain ⟨a, dx, fs, rfl, ha, q⟩ := h
  rw [Vals.ref1 r]
  obtain ⟨od, J⟩ := ins_at I ha
  obtain ⟨m, hF⟩ := I.fr
  refine PySem.W.len_K hF I.ok.mod.kin J hm.at_ hm.fn ?_
  have z0 : wpAny (model X.prog X.w) X.A.in1 (call (.ref f) [.ref a]) (EP X pins σ fun v H' => ∃ n : Nat, v = .int n ∧ (n : Int) < 2 ^ 63 ∧ Q (.int n) H') X.xe s := by
    refine wpAny_call (codeAny_mono (F X.A.in1 X.stack s H [.ref a] [.ref a] _ E0 hr.in1 I.env0.in1 (.cons rfl .nil) q) fun r s' hq => ?_)
    cases r with
    | error e => exact hq.elim
    | ok fl =>
      cases fl with
      | ret u => exact I.after hq
      | next => exact False.elim hq
      | brk => exact False.elim hq
      | cont => exact False.elim hq
  refine wpAny_mono z0 (fun r s' z => ?_) fun _ _ x => x
  obtain ⟨vr, H', I', rr, n, rfl, hn, qn⟩ := z
  obtain ⟨t, rfl⟩ := rr
  refine ⟨⟨by omega, hn⟩, ?_⟩
  have I2 := I'.tok (s'.toks + 1)
  exact ⟨.int n, H', I2, ⟨_, rfl⟩, qn⟩
end
section
variable {X : Cx} {C : Addr} {k : Nat} {sp : Sp} {m x : Str} {p pos apos : Pos} {e o : Expr} {es : List Expr} {ta : TE} {t : TA}
theorem op_mIn (c : Mth X.prog X.w X.K X.mg X.base k C "__contains__" sp) (hr : Room k X.A) : OpR X (compareOp .In) (rOwnIn C sp) := by
  obtain ⟨f, F, hm⟩ := c.ex
  exact op_ownIn hm F hr
theorem op_mNotIn (c : Mth X.prog X.w X.K X.mg X.base k C "__contains__" sp) (hr : Room k X.A) : OpR X (compareOp .NotIn) (rOwnNotIn C sp) := by
  obtain ⟨f, F, hm⟩ := c.ex
  exact op_ownNotIn hm F hr
theorem cr_mLen (c : Mth X.prog X.w X.K X.mg X.base k C "__len__" sp) (hr : Room (k + 1) X.A) : CallR X (.builtin "len") (rOwnLen C sp) := by
  obtain ⟨f, F, hm⟩ := c.ex
  exact cr_ownLen hm F hr
theorem pe_mth {pl : Sem Bool} (he : PE X o ta) (c : Cls X.K C) (F : Mth X.prog X.w X.K X.mg X.base k C m sp) (hr : Room k X.A) (ha : PA X (e :: es) t)
    (hst : starEach (e :: es) X.env = (false, eval e X.env) :: starEach es X.env := by rfl) (hpl : (backTo pos (starEach es X.env)).any (·.1) = false := by rfl)
    (ht : eval (.Call (.Attribute o m apos) (e :: es) [] pos) X.env = (do
      let ov ← eval o X.env
      standAt apos.atName
      let (f, first) ← holding [ov] (getMethod ov m pl)
      callWith pos f first (backTo pos (starEach (e :: es) X.env)) (backToKw pos (keywordEach [] X.env))) := by rfl) :
    PE X (.Call (.Attribute o m apos) (e :: es) [] pos) (tMethR C m sp E0 ta t) := by
  obtain ⟨f, F, hm⟩ := F.ex
  exact pe_methR he c hm F hr pass0 ha hst hpl ht
theorem pe_mth0 {pl : Sem Bool} (he : PE X o ta) (c : Cls X.K C) (F : Mth X.prog X.w X.K X.mg X.base k C m sp) (hr : Room k X.A)
    (ht : eval (.Call (.Attribute o m apos) [] [] pos) X.env = (do
      let ov ← eval o X.env
      standAt apos.atName
      let (f, first) ← holding [ov] (getMethod ov m pl)
      callWith pos f first (backTo pos (starEach [] X.env)) (backToKw pos (keywordEach [] X.env))) := by rfl) :
    PE X (.Call (.Attribute o m apos) [] [] pos) (tMethR C m sp E0 ta tNil) := by
  obtain ⟨f, F, hm⟩ := F.ex
  refine ⟨fun pins s σ H Q I h => ?_⟩
  refine PySem.W.methodCall_KW (pl := pl) (thn (he.run pins s σ H _ I h) fun u s1 ⟨x, H1, I1, rx, a, dx, fs, ex, ea, l, q⟩ => ?_) ht
  subst ex
  obtain rfl : u = Value.ref a := rx
  refine getmeth_ok I1 ea c hm l ?_
  exact PySem.W.callWith_K0 (first := [.ref a]) I1.kIn hm.kp (wpAny_call (run_fnR (us := [.ref a]) (vs := [.ref a]) F hr pass0 I1 (.cons rfl .nil) q))
theorem pe_makeI (F : Ini X.prog X.w X.K X.mg X.base k C sp) (hr : Room (k + 1) X.A) (hm : X.mg x = some (.ref C)) (ha : PA X (e :: es) t) (hg : Gl X x := by rfl)
    (hdb : (x == ("__debug__" : Str)) = false := by decide) (he : starEach (e :: es) X.env = (false, eval e X.env) :: starEach es X.env := by rfl) (hpl : (backTo pos (starEach es X.env)).any (·.1) = false := by rfl) :
    PE X (.Call (.Name x p) (e :: es) [] pos) (tMake C sp [] E0 t) := by
  obtain ⟨f, fd, ps, F, b, M⟩ := F.ex
  exact pe_make M F hr hg hm b .nil pass0 ha hdb he hpl
theorem pe_globI {i : Int} (h : ∃ t, X.mg x = some (.int i t)) (hg : Gl X x := by rfl) (hd : (x == ("__debug__" : Str)) = false := by decide) : PE X (.Name x pos) (tC (.int i)) := by
  obtain ⟨t, h⟩ := h
  exact pe_glob hg h ⟨t, rfl⟩ (hd := hd)
theorem pe_globS {z : Str} (h : ∃ t, X.mg x = some (.str z t)) (hg : Gl X x := by rfl) (hd : (x == ("__debug__" : Str)) = false := by decide) : PE X (.Name x pos) (tC (.str z)) := by
  obtain ⟨t, h⟩ := h
  exact pe_glob hg h ⟨t, rfl⟩ (hd := hd)
end
end GR
end
section
set_option Elab.async false
set_option linter.all false
set_option maxRecDepth 100000
set_option maxHeartbeats 4000000
namespace GR
open PySem PySem.Spec PyProof.Rows L2
def top (i : Nat) : Stmt := PySem.Challenge.pw_giftrings_k67_whole_parts_of_people.main.body.getD i (.Pass ⟨0, 0, 0, 0⟩)
abbrev s_seek : Stmt := top 13
abbrev s_paired : Stmt := top 14
abbrev s_owners_of : Stmt := top 15
abbrev s_reached : Stmt := top 16
abbrev s_table_rows : Stmt := top 17
abbrev s_part_from : Stmt := top 18
abbrev s_parts_of : Stmt := top 19
abbrev s_is_name : Stmt := top 24
abbrev s_is_person : Stmt := top 25
abbrev s_are_different : Stmt := top 26
abbrev s_is_pair : Stmt := top 27
abbrev s_check_people : Stmt := top 28
abbrev s_check_pairs : Stmt := top 29
abbrev s_check_name : Stmt := top 30
abbrev s_Party_init : Stmt := inClass (top 31) 0
abbrev s_Party_people : Stmt := inClass (top 31) 1
abbrev s_Party_may : Stmt := inClass (top 31) 3
abbrev s_Party_contains : Stmt := inClass (top 31) 7
abbrev s_Party_len : Stmt := inClass (top 31) 8
abbrev s_is_drawing : Stmt := top 32
abbrev s_is_lot : Stmt := top 35
abbrev s_is_leak : Stmt := top 36
abbrev s_lets : Stmt := top 37
abbrev s_all_let : Stmt := top 38
abbrev s_Book_init : Stmt := inClass (top 39) 0
abbrev s_Book_party : Stmt := inClass (top 39) 1
abbrev s_Book_rows : Stmt := inClass (top 39) 3
abbrev s_blocks : Stmt := top 41
abbrev s_cycles_of : Stmt := top 43
abbrev s_ring_masks : Stmt := top 44
abbrev s_lowest_bit : Stmt := top 45
abbrev s_by_lowest : Stmt := top 46
abbrev s_bin_count : Stmt := top 47
abbrev s_giving_rings : Stmt := top 50
abbrev s_drawn_by : Stmt := top 51
abbrev s_in_party_order : Stmt := top 52
abbrev s_check_size : Stmt := top 53
abbrev s_better : Stmt := top 54
abbrev s_best_rings : Stmt := top 55
abbrev s_numbered : Stmt := top 56
abbrev s_fewest_rings : Stmt := top 57
abbrev s_parts : Stmt := top 58
abbrev s_law_cell : Stmt := top 60
abbrev s_law_draws : Stmt := top 61
abbrev s_law_people : Stmt := top 62
abbrev s_law_barred : Stmt := top 63
abbrev s_law_hidden : Stmt := top 64
abbrev s_law_lot : Stmt := top 65
abbrev s_law_leak : Stmt := top 66
abbrev s_law_lets : Stmt := top 67
abbrev s_law_kept : Stmt := top 68
abbrev s_law_mended : Stmt := top 69
abbrev s_law_world : Stmt := top 70
abbrev s_law_rows : Stmt := top 71
abbrev s_law_drawings : Stmt := top 72
abbrev s_law_as_dict : Stmt := top 73
abbrev s_law_table : Stmt := top 74
abbrev s_law_equal : Stmt := top 75
abbrev s_law_book : Stmt := top 76
abbrev s_law_due : Stmt := top 77
abbrev s_law_within : Stmt := top 78
abbrev s_law : Stmt := top 79
def d_seek : He.DefD := ⟨("seek", none), "seek", "seek", defArgs s_seek, defBody s_seek, defScope s_seek, [], []⟩
def d_paired : He.DefD := ⟨("paired", none), "paired", "paired", defArgs s_paired, defBody s_paired, defScope s_paired, [], []⟩
def d_owners_of : He.DefD := ⟨("owners_of", none), "owners_of", "owners_of", defArgs s_owners_of, defBody s_owners_of, defScope s_owners_of, [], []⟩
def d_reached : He.DefD := ⟨("reached", none), "reached", "reached", defArgs s_reached, defBody s_reached, defScope s_reached, [], []⟩
def d_table_rows : He.DefD := ⟨("table_rows", none), "table_rows", "table_rows", defArgs s_table_rows, defBody s_table_rows, defScope s_table_rows, [], []⟩
def d_part_from : He.DefD := ⟨("part_from", none), "part_from", "part_from", defArgs s_part_from, defBody s_part_from, defScope s_part_from, [], []⟩
def d_parts_of : He.DefD := ⟨("parts_of", none), "parts_of", "parts_of", defArgs s_parts_of, defBody s_parts_of, defScope s_parts_of, [], []⟩
def d_is_name : He.DefD := ⟨("is_name", none), "is_name", "is_name", defArgs s_is_name, defBody s_is_name, defScope s_is_name, [], []⟩
def d_is_person : He.DefD := ⟨("is_person", none), "is_person", "is_person", defArgs s_is_person, defBody s_is_person, defScope s_is_person, [], []⟩
def d_are_different : He.DefD := ⟨("are_different", none), "are_different", "are_different", defArgs s_are_different, defBody s_are_different, defScope s_are_different, [], []⟩
def d_is_pair : He.DefD := ⟨("is_pair", none), "is_pair", "is_pair", defArgs s_is_pair, defBody s_is_pair, defScope s_is_pair, [], []⟩
def d_check_people : He.DefD := ⟨("check_people", none), "check_people", "check_people", defArgs s_check_people, defBody s_check_people, defScope s_check_people, [], []⟩
def d_check_pairs : He.DefD := ⟨("check_pairs", none), "check_pairs", "check_pairs", defArgs s_check_pairs, defBody s_check_pairs, defScope s_check_pairs, [], []⟩
def d_check_name : He.DefD := ⟨("check_name", none), "check_name", "check_name", defArgs s_check_name, defBody s_check_name, defScope s_check_name, [], []⟩
def d_Party_init : He.DefD := ⟨("Party", some "__init__"), "__init__", "Party.__init__", defArgs s_Party_init, defBody s_Party_init, defScope s_Party_init, [], []⟩
def d_Party_people : He.DefD := ⟨("Party", some "people"), "people", "Party.people", defArgs s_Party_people, defBody s_Party_people, defScope s_Party_people, [], []⟩
def d_Party_may : He.DefD := ⟨("Party", some "may"), "may", "Party.may", defArgs s_Party_may, defBody s_Party_may, defScope s_Party_may, [], []⟩
def d_Party_contains : He.DefD := ⟨("Party", some "__contains__"), "__contains__", "Party.__contains__", defArgs s_Party_contains, defBody s_Party_contains, defScope s_Party_contains, [], []⟩
def d_Party_len : He.DefD := ⟨("Party", some "__len__"), "__len__", "Party.__len__", defArgs s_Party_len, defBody s_Party_len, defScope s_Party_len, [], []⟩
def d_is_drawing : He.DefD := ⟨("is_drawing", none), "is_drawing", "is_drawing", defArgs s_is_drawing, defBody s_is_drawing, defScope s_is_drawing, [], []⟩
def d_is_lot : He.DefD := ⟨("is_lot", none), "is_lot", "is_lot", defArgs s_is_lot, defBody s_is_lot, defScope s_is_lot, [], []⟩
def d_is_leak : He.DefD := ⟨("is_leak", none), "is_leak", "is_leak", defArgs s_is_leak, defBody s_is_leak, defScope s_is_leak, [], []⟩
def d_lets : He.DefD := ⟨("lets", none), "lets", "lets", defArgs s_lets, defBody s_lets, defScope s_lets, [], []⟩
def d_all_let : He.DefD := ⟨("all_let", none), "all_let", "all_let", defArgs s_all_let, defBody s_all_let, defScope s_all_let, [], []⟩
def d_Book_init : He.DefD := ⟨("Book", some "__init__"), "__init__", "Book.__init__", defArgs s_Book_init, defBody s_Book_init, defScope s_Book_init, [], []⟩
def d_Book_party : He.DefD := ⟨("Book", some "party"), "party", "Book.party", defArgs s_Book_party, defBody s_Book_party, defScope s_Book_party, [], []⟩
def d_Book_rows : He.DefD := ⟨("Book", some "rows"), "rows", "Book.rows", defArgs s_Book_rows, defBody s_Book_rows, defScope s_Book_rows, [], []⟩
def d_blocks : He.DefD := ⟨("blocks", none), "blocks", "blocks", defArgs s_blocks, defBody s_blocks, defScope s_blocks, [], []⟩
def d_cycles_of : He.DefD := ⟨("cycles_of", none), "cycles_of", "cycles_of", defArgs s_cycles_of, defBody s_cycles_of, defScope s_cycles_of, [], []⟩
def d_ring_masks : He.DefD := ⟨("ring_masks", none), "ring_masks", "ring_masks", defArgs s_ring_masks, defBody s_ring_masks, defScope s_ring_masks, [], []⟩
def d_lowest_bit : He.DefD := ⟨("lowest_bit", none), "lowest_bit", "lowest_bit", defArgs s_lowest_bit, defBody s_lowest_bit, defScope s_lowest_bit, [], []⟩
def d_by_lowest : He.DefD := ⟨("by_lowest", none), "by_lowest", "by_lowest", defArgs s_by_lowest, defBody s_by_lowest, defScope s_by_lowest, [], []⟩
def d_bin_count : He.DefD := ⟨("bin_count", none), "bin_count", "bin_count", defArgs s_bin_count, defBody s_bin_count, defScope s_bin_count, [], []⟩
def d_giving_rings : He.DefD := ⟨("giving_rings", none), "giving_rings", "giving_rings", defArgs s_giving_rings, defBody s_giving_rings, defScope s_giving_rings, [], []⟩
def d_drawn_by : He.DefD := ⟨("drawn_by", none), "drawn_by", "drawn_by", defArgs s_drawn_by, defBody s_drawn_by, defScope s_drawn_by, [], []⟩
def d_in_party_order : He.DefD := ⟨("in_party_order", none), "in_party_order", "in_party_order", defArgs s_in_party_order, defBody s_in_party_order, defScope s_in_party_order, [], []⟩
def d_check_size : He.DefD := ⟨("check_size", none), "check_size", "check_size", defArgs s_check_size, defBody s_check_size, defScope s_check_size, [], []⟩
def d_better : He.DefD := ⟨("better", none), "better", "better", defArgs s_better, defBody s_better, defScope s_better, [], []⟩
def d_best_rings : He.DefD := ⟨("best_rings", none), "best_rings", "best_rings", defArgs s_best_rings, defBody s_best_rings, defScope s_best_rings, [], []⟩
def d_numbered : He.DefD := ⟨("numbered", none), "numbered", "numbered", defArgs s_numbered, defBody s_numbered, defScope s_numbered, [], []⟩
def d_fewest_rings : He.DefD := ⟨("fewest_rings", none), "fewest_rings", "fewest_rings", defArgs s_fewest_rings, defBody s_fewest_rings, defScope s_fewest_rings, [], []⟩
def d_parts : He.DefD := ⟨("parts", none), "parts", "parts", defArgs s_parts, defBody s_parts, defScope s_parts, [], []⟩
def d_law_cell : He.DefD := ⟨("_law_cell", none), "_law_cell", "_law_cell", defArgs s_law_cell, defBody s_law_cell, defScope s_law_cell, [], []⟩
def d_law_draws : He.DefD := ⟨("_law_draws", none), "_law_draws", "_law_draws", defArgs s_law_draws, defBody s_law_draws, defScope s_law_draws, [], []⟩
def d_law_people : He.DefD := ⟨("_law_people", none), "_law_people", "_law_people", defArgs s_law_people, defBody s_law_people, defScope s_law_people, [], []⟩
def d_law_barred : He.DefD := ⟨("_law_barred", none), "_law_barred", "_law_barred", defArgs s_law_barred, defBody s_law_barred, defScope s_law_barred, [], []⟩
def d_law_hidden : He.DefD := ⟨("_law_hidden", none), "_law_hidden", "_law_hidden", defArgs s_law_hidden, defBody s_law_hidden, defScope s_law_hidden, [], []⟩
def d_law_lot : He.DefD := ⟨("_law_lot", none), "_law_lot", "_law_lot", defArgs s_law_lot, defBody s_law_lot, defScope s_law_lot, [], []⟩
def d_law_leak : He.DefD := ⟨("_law_leak", none), "_law_leak", "_law_leak", defArgs s_law_leak, defBody s_law_leak, defScope s_law_leak, [], []⟩
def d_law_lets : He.DefD := ⟨("_law_lets", none), "_law_lets", "_law_lets", defArgs s_law_lets, defBody s_law_lets, defScope s_law_lets, [], []⟩
def d_law_kept : He.DefD := ⟨("_law_kept", none), "_law_kept", "_law_kept", defArgs s_law_kept, defBody s_law_kept, defScope s_law_kept, [], []⟩
def d_law_mended : He.DefD := ⟨("_law_mended", none), "_law_mended", "_law_mended", defArgs s_law_mended, defBody s_law_mended, defScope s_law_mended, [], []⟩
def d_law_world : He.DefD := ⟨("_law_world", none), "_law_world", "_law_world", defArgs s_law_world, defBody s_law_world, defScope s_law_world, [], []⟩
def d_law_rows : He.DefD := ⟨("_law_rows", none), "_law_rows", "_law_rows", defArgs s_law_rows, defBody s_law_rows, defScope s_law_rows, [], []⟩
def d_law_drawings : He.DefD := ⟨("_law_drawings", none), "_law_drawings", "_law_drawings", defArgs s_law_drawings, defBody s_law_drawings, defScope s_law_drawings, [], []⟩
def d_law_as_dict : He.DefD := ⟨("_law_as_dict", none), "_law_as_dict", "_law_as_dict", defArgs s_law_as_dict, defBody s_law_as_dict, defScope s_law_as_dict, [], []⟩
def d_law_table : He.DefD := ⟨("_law_table", none), "_law_table", "_law_table", defArgs s_law_table, defBody s_law_table, defScope s_law_table, [], []⟩
def d_law_equal : He.DefD := ⟨("_law_equal", none), "_law_equal", "_law_equal", defArgs s_law_equal, defBody s_law_equal, defScope s_law_equal, [], []⟩
def d_law_book : He.DefD := ⟨("_law_book", none), "_law_book", "_law_book", defArgs s_law_book, defBody s_law_book, defScope s_law_book, [], []⟩
def d_law_due : He.DefD := ⟨("_law_due", none), "_law_due", "_law_due", defArgs s_law_due, defBody s_law_due, defScope s_law_due, [], []⟩
def d_law_within : He.DefD := ⟨("_law_within", none), "_law_within", "_law_within", defArgs s_law_within, defBody s_law_within, defScope s_law_within, [], []⟩
def d_law : He.DefD := ⟨("law", none), "law", "law", defArgs s_law, defBody s_law, defScope s_law, [], []⟩
def fn0 : List He.DefD := [d_seek, d_paired, d_owners_of, d_reached, d_table_rows, d_part_from, d_parts_of, d_is_name, d_is_person, d_are_different, d_is_pair, d_check_people]
def fn1 : List He.DefD := [d_check_pairs, d_check_name, d_Party_init, d_Party_people, d_Party_may, d_Party_contains, d_Party_len, d_is_drawing, d_is_lot, d_is_leak, d_lets, d_all_let]
def fn2 : List He.DefD := [d_Book_init, d_Book_party, d_Book_rows, d_blocks, d_cycles_of, d_ring_masks, d_lowest_bit, d_by_lowest, d_bin_count, d_giving_rings, d_drawn_by, d_in_party_order]
def fn3 : List He.DefD := [d_check_size, d_better, d_best_rings, d_numbered, d_fewest_rings, d_parts, d_law_cell, d_law_draws, d_law_people, d_law_barred, d_law_hidden, d_law_lot]
def fn4 : List He.DefD := [d_law_leak, d_law_lets, d_law_kept, d_law_mended, d_law_world, d_law_rows, d_law_drawings, d_law_as_dict, d_law_table, d_law_equal, d_law_book, d_law_due]
def fn5 : List He.DefD := [d_law_within, d_law]
def fn : List He.DefD := fn0 ++ fn1 ++ fn2 ++ fn3 ++ fn4 ++ fn5
def fa0 : List He.Fa := [.glo "seek", .glo "paired", .glo "owners_of", .glo "reached", .glo "table_rows", .glo "part_from", .glo "parts_of", .glo "is_name", .glo "is_person", .glo "are_different", .glo "is_pair", .glo "check_people"]
def fa1 : List He.Fa := [.glo "check_pairs", .glo "check_name", .glo "Party", .cls "Party", .mkr "Party", .meth "Party" "people", .meth "Party" "may", .meth "Party" "__contains__", .meth "Party" "__len__", .glo "is_drawing", .glo "is_lot", .glo "is_leak"]
def fa2 : List He.Fa := [.glo "lets", .glo "all_let", .glo "Book", .cls "Book", .mkr "Book", .meth "Book" "party", .meth "Book" "rows", .glo "blocks", .glo "cycles_of", .glo "ring_masks", .glo "lowest_bit", .glo "by_lowest"]
def fa3 : List He.Fa := [.glo "bin_count", .glo "giving_rings", .glo "drawn_by", .glo "in_party_order", .glo "check_size", .glo "better", .glo "best_rings", .glo "numbered", .glo "fewest_rings", .glo "parts", .glo "_law_cell", .glo "_law_draws"]
def fa4 : List He.Fa := [.glo "_law_people", .glo "_law_barred", .glo "_law_hidden", .glo "_law_lot", .glo "_law_leak", .glo "_law_lets", .glo "_law_kept", .glo "_law_mended", .glo "_law_world", .glo "_law_rows", .glo "_law_drawings", .glo "_law_as_dict"]
def fa5 : List He.Fa := [.glo "_law_table", .glo "_law_equal", .glo "_law_book", .glo "_law_due", .glo "_law_within", .glo "law", .noat "Party" "_people", .noat "Party" "_closed", .noat "Book" "_party", .noat "Book" "_leaks", .noat "Book" "_rows", .int "MOST_PEOPLE_parties" 24]
def fa6 : List He.Fa := [.int "MOST_BARRED" 600, .int "MOST_LEAKS" 40, .int "MOST_PEOPLE_circles" 10, .str "LETTERS" "abcdefghijklmnopqrstuvwxyz", .free "len", .free "isinstance", .free "sorted", .free "list", .free "tuple", .free "enumerate", .free "range", .free "int"]
def fa7 : List He.Fa := [.free "any", .free "all", .free "str", .free "dict", .free "bool"]
def fa : List He.Fa := fa0 ++ fa1 ++ fa2 ++ fa3 ++ fa4 ++ fa5 ++ fa6 ++ fa7
def loose0 : List PySem.Str := ["_wall", "GiftError", "BadPeople", "BadPair", "BadLeak", "NoLeak", "NoName", "UnlikeParties", "Empty", "NoDrawing", "TooMany", "seek"]
def loose1 : List PySem.Str := ["paired", "owners_of", "reached", "table_rows", "part_from", "parts_of", "LETTERS", "MOST_PEOPLE_parties", "MOST_BARRED", "is_name", "is_person", "are_different"]
def loose2 : List PySem.Str := ["is_pair", "check_people", "check_pairs", "check_name", "Party", "is_drawing", "MOST_LEAKS", "is_lot", "is_leak", "lets", "all_let", "Book"]
def loose3 : List PySem.Str := ["blocks", "cycles_of", "ring_masks", "lowest_bit", "by_lowest", "bin_count", "MOST_PEOPLE_circles", "giving_rings", "drawn_by", "in_party_order", "check_size", "better"]
def loose4 : List PySem.Str := ["best_rings", "numbered", "fewest_rings", "parts", "_law_cell", "_law_draws", "_law_people", "_law_barred", "_law_hidden", "_law_lot", "_law_leak", "_law_lets"]
def loose5 : List PySem.Str := ["_law_kept", "_law_mended", "_law_world", "_law_rows", "_law_drawings", "_law_as_dict", "_law_table", "_law_equal", "_law_book", "_law_due", "_law_within"]
def loose : List PySem.Str := loose0 ++ loose1 ++ loose2 ++ loose3 ++ loose4 ++ loose5
/-- what the top has left, as the walk wants it -/
structure Txt (K : PySem.W.Frag) (mg : Str → Option Value) : Prop where
  ex : ∃ h : Heap, K.In h ∧ h.Ns mainGlobals mg ∧ He.SaysD fa fn K
section
variable {K : PySem.W.Frag} {mg : Str → Option Value}
/-- where a class stands -/
abbrev cP (K : PySem.W.Frag) : Addr := He.ga K "Party"
abbrev cB (K : PySem.W.Frag) : Addr := He.ga K "Book"
theorem Txt.a_seek (T : Txt K mg) : At K mg "seek" s_seek := by
  obtain ⟨h, X, G, c⟩ := T.ex
  obtain ⟨fd, F⟩ := c.def_ 0 (d := d_seek) rfl
  exact ⟨_, fd, F, He.glo_ok X G (c.fact 0 (f := .glo "seek") rfl)⟩
theorem Txt.a_paired (T : Txt K mg) : At K mg "paired" s_paired := by
  obtain ⟨h, X, G, c⟩ := T.ex
  obtain ⟨fd, F⟩ := c.def_ 1 (d := d_paired) rfl
  exact ⟨_, fd, F, He.glo_ok X G (c.fact 1 (f := .glo "paired") rfl)⟩
theorem Txt.a_owners_of (T : Txt K mg) : At K mg "owners_of" s_owners_of := by
  obtain ⟨h, X, G, c⟩ := T.ex
  obtain ⟨fd, F⟩ := c.def_ 2 (d := d_owners_of) rfl
  exact ⟨_, fd, F, He.glo_ok X G (c.fact 2 (f := .glo "owners_of") rfl)⟩
theorem Txt.a_reached (T : Txt K mg) : At K mg "reached" s_reached := by
  obtain ⟨h, X, G, c⟩ := T.ex
  obtain ⟨fd, F⟩ := c.def_ 3 (d := d_reached) rfl
  exact ⟨_, fd, F, He.glo_ok X G (c.fact 3 (f := .glo "reached") rfl)⟩
theorem Txt.a_table_rows (T : Txt K mg) : At K mg "table_rows" s_table_rows := by
  obtain ⟨h, X, G, c⟩ := T.ex
  obtain ⟨fd, F⟩ := c.def_ 4 (d := d_table_rows) rfl
  exact ⟨_, fd, F, He.glo_ok X G (c.fact 4 (f := .glo "table_rows") rfl)⟩
theorem Txt.a_part_from (T : Txt K mg) : At K mg "part_from" s_part_from := by
  obtain ⟨h, X, G, c⟩ := T.ex
  obtain ⟨fd, F⟩ := c.def_ 5 (d := d_part_from) rfl
  exact ⟨_, fd, F, He.glo_ok X G (c.fact 5 (f := .glo "part_from") rfl)⟩
theorem Txt.a_parts_of (T : Txt K mg) : At K mg "parts_of" s_parts_of := by
  obtain ⟨h, X, G, c⟩ := T.ex
  obtain ⟨fd, F⟩ := c.def_ 6 (d := d_parts_of) rfl
  exact ⟨_, fd, F, He.glo_ok X G (c.fact 6 (f := .glo "parts_of") rfl)⟩
theorem Txt.a_is_name (T : Txt K mg) : At K mg "is_name" s_is_name := by
  obtain ⟨h, X, G, c⟩ := T.ex
  obtain ⟨fd, F⟩ := c.def_ 7 (d := d_is_name) rfl
  exact ⟨_, fd, F, He.glo_ok X G (c.fact 7 (f := .glo "is_name") rfl)⟩
theorem Txt.a_is_person (T : Txt K mg) : At K mg "is_person" s_is_person := by
  obtain ⟨h, X, G, c⟩ := T.ex
  obtain ⟨fd, F⟩ := c.def_ 8 (d := d_is_person) rfl
  exact ⟨_, fd, F, He.glo_ok X G (c.fact 8 (f := .glo "is_person") rfl)⟩
theorem Txt.a_are_different (T : Txt K mg) : At K mg "are_different" s_are_different := by
  obtain ⟨h, X, G, c⟩ := T.ex
  obtain ⟨fd, F⟩ := c.def_ 9 (d := d_are_different) rfl
  exact ⟨_, fd, F, He.glo_ok X G (c.fact 9 (f := .glo "are_different") rfl)⟩
theorem Txt.a_is_pair (T : Txt K mg) : At K mg "is_pair" s_is_pair := by
  obtain ⟨h, X, G, c⟩ := T.ex
  obtain ⟨fd, F⟩ := c.def_ 10 (d := d_is_pair) rfl
  exact ⟨_, fd, F, He.glo_ok X G (c.fact 10 (f := .glo "is_pair") rfl)⟩
theorem Txt.a_check_people (T : Txt K mg) : At K mg "check_people" s_check_people := by
  obtain ⟨h, X, G, c⟩ := T.ex
  obtain ⟨fd, F⟩ := c.def_ 11 (d := d_check_people) rfl
  exact ⟨_, fd, F, He.glo_ok X G (c.fact 11 (f := .glo "check_people") rfl)⟩
theorem Txt.a_check_pairs (T : Txt K mg) : At K mg "check_pairs" s_check_pairs := by
  obtain ⟨h, X, G, c⟩ := T.ex
  obtain ⟨fd, F⟩ := c.def_ 12 (d := d_check_pairs) rfl
  exact ⟨_, fd, F, He.glo_ok X G (c.fact 12 (f := .glo "check_pairs") rfl)⟩
theorem Txt.a_check_name (T : Txt K mg) : At K mg "check_name" s_check_name := by
  obtain ⟨h, X, G, c⟩ := T.ex
  obtain ⟨fd, F⟩ := c.def_ 13 (d := d_check_name) rfl
  exact ⟨_, fd, F, He.glo_ok X G (c.fact 13 (f := .glo "check_name") rfl)⟩
theorem Txt.a_Party_init (T : Txt K mg) : AtI K (He.ga K "Party") "Party.__init__" s_Party_init := by
  obtain ⟨h, X, G, c⟩ := T.ex
  obtain ⟨fd, F⟩ := c.def_ 14 (d := d_Party_init) rfl
  exact ⟨_, fd, F, He.mkr_ok (c.fact 16 (f := .mkr "Party") rfl)⟩
theorem Txt.a_Party_people (T : Txt K mg) : AtM K (He.ga K "Party") "people" "Party.people" s_Party_people := by
  obtain ⟨h, X, G, c⟩ := T.ex
  obtain ⟨fd, F⟩ := c.def_ 15 (d := d_Party_people) rfl
  exact ⟨_, fd, F, He.meth_ok (c.fact 17 (f := .meth "Party" "people") rfl)⟩
theorem Txt.a_Party_may (T : Txt K mg) : AtM K (He.ga K "Party") "may" "Party.may" s_Party_may := by
  obtain ⟨h, X, G, c⟩ := T.ex
  obtain ⟨fd, F⟩ := c.def_ 16 (d := d_Party_may) rfl
  exact ⟨_, fd, F, He.meth_ok (c.fact 18 (f := .meth "Party" "may") rfl)⟩
theorem Txt.a_Party_contains (T : Txt K mg) : AtM K (He.ga K "Party") "__contains__" "Party.__contains__" s_Party_contains := by
  obtain ⟨h, X, G, c⟩ := T.ex
  obtain ⟨fd, F⟩ := c.def_ 17 (d := d_Party_contains) rfl
  exact ⟨_, fd, F, He.meth_ok (c.fact 19 (f := .meth "Party" "__contains__") rfl)⟩
theorem Txt.a_Party_len (T : Txt K mg) : AtM K (He.ga K "Party") "__len__" "Party.__len__" s_Party_len := by
  obtain ⟨h, X, G, c⟩ := T.ex
  obtain ⟨fd, F⟩ := c.def_ 18 (d := d_Party_len) rfl
  exact ⟨_, fd, F, He.meth_ok (c.fact 20 (f := .meth "Party" "__len__") rfl)⟩
theorem Txt.a_is_drawing (T : Txt K mg) : At K mg "is_drawing" s_is_drawing := by
  obtain ⟨h, X, G, c⟩ := T.ex
  obtain ⟨fd, F⟩ := c.def_ 19 (d := d_is_drawing) rfl
  exact ⟨_, fd, F, He.glo_ok X G (c.fact 21 (f := .glo "is_drawing") rfl)⟩
theorem Txt.a_is_lot (T : Txt K mg) : At K mg "is_lot" s_is_lot := by
  obtain ⟨h, X, G, c⟩ := T.ex
  obtain ⟨fd, F⟩ := c.def_ 20 (d := d_is_lot) rfl
  exact ⟨_, fd, F, He.glo_ok X G (c.fact 22 (f := .glo "is_lot") rfl)⟩
theorem Txt.a_is_leak (T : Txt K mg) : At K mg "is_leak" s_is_leak := by
  obtain ⟨h, X, G, c⟩ := T.ex
  obtain ⟨fd, F⟩ := c.def_ 21 (d := d_is_leak) rfl
  exact ⟨_, fd, F, He.glo_ok X G (c.fact 23 (f := .glo "is_leak") rfl)⟩
theorem Txt.a_lets (T : Txt K mg) : At K mg "lets" s_lets := by
  obtain ⟨h, X, G, c⟩ := T.ex
  obtain ⟨fd, F⟩ := c.def_ 22 (d := d_lets) rfl
  exact ⟨_, fd, F, He.glo_ok X G (c.fact 24 (f := .glo "lets") rfl)⟩
theorem Txt.a_all_let (T : Txt K mg) : At K mg "all_let" s_all_let := by
  obtain ⟨h, X, G, c⟩ := T.ex
  obtain ⟨fd, F⟩ := c.def_ 23 (d := d_all_let) rfl
  exact ⟨_, fd, F, He.glo_ok X G (c.fact 25 (f := .glo "all_let") rfl)⟩
theorem Txt.a_Book_init (T : Txt K mg) : AtI K (He.ga K "Book") "Book.__init__" s_Book_init := by
  obtain ⟨h, X, G, c⟩ := T.ex
  obtain ⟨fd, F⟩ := c.def_ 24 (d := d_Book_init) rfl
  exact ⟨_, fd, F, He.mkr_ok (c.fact 28 (f := .mkr "Book") rfl)⟩
theorem Txt.a_Book_party (T : Txt K mg) : AtM K (He.ga K "Book") "party" "Book.party" s_Book_party := by
  obtain ⟨h, X, G, c⟩ := T.ex
  obtain ⟨fd, F⟩ := c.def_ 25 (d := d_Book_party) rfl
  exact ⟨_, fd, F, He.meth_ok (c.fact 29 (f := .meth "Book" "party") rfl)⟩
theorem Txt.a_Book_rows (T : Txt K mg) : AtM K (He.ga K "Book") "rows" "Book.rows" s_Book_rows := by
  obtain ⟨h, X, G, c⟩ := T.ex
  obtain ⟨fd, F⟩ := c.def_ 26 (d := d_Book_rows) rfl
  exact ⟨_, fd, F, He.meth_ok (c.fact 30 (f := .meth "Book" "rows") rfl)⟩
theorem Txt.a_blocks (T : Txt K mg) : At K mg "blocks" s_blocks := by
  obtain ⟨h, X, G, c⟩ := T.ex
  obtain ⟨fd, F⟩ := c.def_ 27 (d := d_blocks) rfl
  exact ⟨_, fd, F, He.glo_ok X G (c.fact 31 (f := .glo "blocks") rfl)⟩
theorem Txt.a_cycles_of (T : Txt K mg) : At K mg "cycles_of" s_cycles_of := by
  obtain ⟨h, X, G, c⟩ := T.ex
  obtain ⟨fd, F⟩ := c.def_ 28 (d := d_cycles_of) rfl
  exact ⟨_, fd, F, He.glo_ok X G (c.fact 32 (f := .glo "cycles_of") rfl)⟩
theorem Txt.a_ring_masks (T : Txt K mg) : At K mg "ring_masks" s_ring_masks := by
  obtain ⟨h, X, G, c⟩ := T.ex
  obtain ⟨fd, F⟩ := c.def_ 29 (d := d_ring_masks) rfl
  exact ⟨_, fd, F, He.glo_ok X G (c.fact 33 (f := .glo "ring_masks") rfl)⟩
theorem Txt.a_lowest_bit (T : Txt K mg) : At K mg "lowest_bit" s_lowest_bit := by
  obtain ⟨h, X, G, c⟩ := T.ex
  obtain ⟨fd, F⟩ := c.def_ 30 (d := d_lowest_bit) rfl
  exact ⟨_, fd, F, He.glo_ok X G (c.fact 34 (f := .glo "lowest_bit") rfl)⟩
theorem Txt.a_by_lowest (T : Txt K mg) : At K mg "by_lowest" s_by_lowest := by
  obtain ⟨h, X, G, c⟩ := T.ex
  obtain ⟨fd, F⟩ := c.def_ 31 (d := d_by_lowest) rfl
  exact ⟨_, fd, F, He.glo_ok X G (c.fact 35 (f := .glo "by_lowest") rfl)⟩
theorem Txt.a_bin_count (T : Txt K mg) : At K mg "bin_count" s_bin_count := by
  obtain ⟨h, X, G, c⟩ := T.ex
  obtain ⟨fd, F⟩ := c.def_ 32 (d := d_bin_count) rfl
  exact ⟨_, fd, F, He.glo_ok X G (c.fact 36 (f := .glo "bin_count") rfl)⟩
theorem Txt.a_giving_rings (T : Txt K mg) : At K mg "giving_rings" s_giving_rings := by
  obtain ⟨h, X, G, c⟩ := T.ex
  obtain ⟨fd, F⟩ := c.def_ 33 (d := d_giving_rings) rfl
  exact ⟨_, fd, F, He.glo_ok X G (c.fact 37 (f := .glo "giving_rings") rfl)⟩
theorem Txt.a_drawn_by (T : Txt K mg) : At K mg "drawn_by" s_drawn_by := by
  obtain ⟨h, X, G, c⟩ := T.ex
  obtain ⟨fd, F⟩ := c.def_ 34 (d := d_drawn_by) rfl
  exact ⟨_, fd, F, He.glo_ok X G (c.fact 38 (f := .glo "drawn_by") rfl)⟩
theorem Txt.a_in_party_order (T : Txt K mg) : At K mg "in_party_order" s_in_party_order := by
  obtain ⟨h, X, G, c⟩ := T.ex
  obtain ⟨fd, F⟩ := c.def_ 35 (d := d_in_party_order) rfl
  exact ⟨_, fd, F, He.glo_ok X G (c.fact 39 (f := .glo "in_party_order") rfl)⟩
theorem Txt.a_check_size (T : Txt K mg) : At K mg "check_size" s_check_size := by
  obtain ⟨h, X, G, c⟩ := T.ex
  obtain ⟨fd, F⟩ := c.def_ 36 (d := d_check_size) rfl
  exact ⟨_, fd, F, He.glo_ok X G (c.fact 40 (f := .glo "check_size") rfl)⟩
theorem Txt.a_better (T : Txt K mg) : At K mg "better" s_better := by
  obtain ⟨h, X, G, c⟩ := T.ex
  obtain ⟨fd, F⟩ := c.def_ 37 (d := d_better) rfl
  exact ⟨_, fd, F, He.glo_ok X G (c.fact 41 (f := .glo "better") rfl)⟩
theorem Txt.a_best_rings (T : Txt K mg) : At K mg "best_rings" s_best_rings := by
  obtain ⟨h, X, G, c⟩ := T.ex
  obtain ⟨fd, F⟩ := c.def_ 38 (d := d_best_rings) rfl
  exact ⟨_, fd, F, He.glo_ok X G (c.fact 42 (f := .glo "best_rings") rfl)⟩
theorem Txt.a_numbered (T : Txt K mg) : At K mg "numbered" s_numbered := by
  obtain ⟨h, X, G, c⟩ := T.ex
  obtain ⟨fd, F⟩ := c.def_ 39 (d := d_numbered) rfl
  exact ⟨_, fd, F, He.glo_ok X G (c.fact 43 (f := .glo "numbered") rfl)⟩
theorem Txt.a_fewest_rings (T : Txt K mg) : At K mg "fewest_rings" s_fewest_rings := by
  obtain ⟨h, X, G, c⟩ := T.ex
  obtain ⟨fd, F⟩ := c.def_ 40 (d := d_fewest_rings) rfl
  exact ⟨_, fd, F, He.glo_ok X G (c.fact 44 (f := .glo "fewest_rings") rfl)⟩
theorem Txt.a_parts (T : Txt K mg) : At K mg "parts" s_parts := by
  obtain ⟨h, X, G, c⟩ := T.ex
  obtain ⟨fd, F⟩ := c.def_ 41 (d := d_parts) rfl
  exact ⟨_, fd, F, He.glo_ok X G (c.fact 45 (f := .glo "parts") rfl)⟩
theorem Txt.a_law_cell (T : Txt K mg) : At K mg "_law_cell" s_law_cell := by
  obtain ⟨h, X, G, c⟩ := T.ex
  obtain ⟨fd, F⟩ := c.def_ 42 (d := d_law_cell) rfl
  exact ⟨_, fd, F, He.glo_ok X G (c.fact 46 (f := .glo "_law_cell") rfl)⟩
theorem Txt.a_law_draws (T : Txt K mg) : At K mg "_law_draws" s_law_draws := by
  obtain ⟨h, X, G, c⟩ := T.ex
  obtain ⟨fd, F⟩ := c.def_ 43 (d := d_law_draws) rfl
  exact ⟨_, fd, F, He.glo_ok X G (c.fact 47 (f := .glo "_law_draws") rfl)⟩
theorem Txt.a_law_people (T : Txt K mg) : At K mg "_law_people" s_law_people := by
  obtain ⟨h, X, G, c⟩ := T.ex
  obtain ⟨fd, F⟩ := c.def_ 44 (d := d_law_people) rfl
  exact ⟨_, fd, F, He.glo_ok X G (c.fact 48 (f := .glo "_law_people") rfl)⟩
theorem Txt.a_law_barred (T : Txt K mg) : At K mg "_law_barred" s_law_barred := by
  obtain ⟨h, X, G, c⟩ := T.ex
  obtain ⟨fd, F⟩ := c.def_ 45 (d := d_law_barred) rfl
  exact ⟨_, fd, F, He.glo_ok X G (c.fact 49 (f := .glo "_law_barred") rfl)⟩
theorem Txt.a_law_hidden (T : Txt K mg) : At K mg "_law_hidden" s_law_hidden := by
  obtain ⟨h, X, G, c⟩ := T.ex
  obtain ⟨fd, F⟩ := c.def_ 46 (d := d_law_hidden) rfl
  exact ⟨_, fd, F, He.glo_ok X G (c.fact 50 (f := .glo "_law_hidden") rfl)⟩
theorem Txt.a_law_lot (T : Txt K mg) : At K mg "_law_lot" s_law_lot := by
  obtain ⟨h, X, G, c⟩ := T.ex
  obtain ⟨fd, F⟩ := c.def_ 47 (d := d_law_lot) rfl
  exact ⟨_, fd, F, He.glo_ok X G (c.fact 51 (f := .glo "_law_lot") rfl)⟩
theorem Txt.a_law_leak (T : Txt K mg) : At K mg "_law_leak" s_law_leak := by
  obtain ⟨h, X, G, c⟩ := T.ex
  obtain ⟨fd, F⟩ := c.def_ 48 (d := d_law_leak) rfl
  exact ⟨_, fd, F, He.glo_ok X G (c.fact 52 (f := .glo "_law_leak") rfl)⟩
theorem Txt.a_law_lets (T : Txt K mg) : At K mg "_law_lets" s_law_lets := by
  obtain ⟨h, X, G, c⟩ := T.ex
  obtain ⟨fd, F⟩ := c.def_ 49 (d := d_law_lets) rfl
  exact ⟨_, fd, F, He.glo_ok X G (c.fact 53 (f := .glo "_law_lets") rfl)⟩
theorem Txt.a_law_kept (T : Txt K mg) : At K mg "_law_kept" s_law_kept := by
  obtain ⟨h, X, G, c⟩ := T.ex
  obtain ⟨fd, F⟩ := c.def_ 50 (d := d_law_kept) rfl
  exact ⟨_, fd, F, He.glo_ok X G (c.fact 54 (f := .glo "_law_kept") rfl)⟩
theorem Txt.a_law_mended (T : Txt K mg) : At K mg "_law_mended" s_law_mended := by
  obtain ⟨h, X, G, c⟩ := T.ex
  obtain ⟨fd, F⟩ := c.def_ 51 (d := d_law_mended) rfl
  exact ⟨_, fd, F, He.glo_ok X G (c.fact 55 (f := .glo "_law_mended") rfl)⟩
theorem Txt.a_law_world (T : Txt K mg) : At K mg "_law_world" s_law_world := by
  obtain ⟨h, X, G, c⟩ := T.ex
  obtain ⟨fd, F⟩ := c.def_ 52 (d := d_law_world) rfl
  exact ⟨_, fd, F, He.glo_ok X G (c.fact 56 (f := .glo "_law_world") rfl)⟩
theorem Txt.a_law_rows (T : Txt K mg) : At K mg "_law_rows" s_law_rows := by
  obtain ⟨h, X, G, c⟩ := T.ex
  obtain ⟨fd, F⟩ := c.def_ 53 (d := d_law_rows) rfl
  exact ⟨_, fd, F, He.glo_ok X G (c.fact 57 (f := .glo "_law_rows") rfl)⟩
theorem Txt.a_law_drawings (T : Txt K mg) : At K mg "_law_drawings" s_law_drawings := by
  obtain ⟨h, X, G, c⟩ := T.ex
  obtain ⟨fd, F⟩ := c.def_ 54 (d := d_law_drawings) rfl
  exact ⟨_, fd, F, He.glo_ok X G (c.fact 58 (f := .glo "_law_drawings") rfl)⟩
theorem Txt.a_law_as_dict (T : Txt K mg) : At K mg "_law_as_dict" s_law_as_dict := by
  obtain ⟨h, X, G, c⟩ := T.ex
  obtain ⟨fd, F⟩ := c.def_ 55 (d := d_law_as_dict) rfl
  exact ⟨_, fd, F, He.glo_ok X G (c.fact 59 (f := .glo "_law_as_dict") rfl)⟩
theorem Txt.a_law_table (T : Txt K mg) : At K mg "_law_table" s_law_table := by
  obtain ⟨h, X, G, c⟩ := T.ex
  obtain ⟨fd, F⟩ := c.def_ 56 (d := d_law_table) rfl
  exact ⟨_, fd, F, He.glo_ok X G (c.fact 60 (f := .glo "_law_table") rfl)⟩
theorem Txt.a_law_equal (T : Txt K mg) : At K mg "_law_equal" s_law_equal := by
  obtain ⟨h, X, G, c⟩ := T.ex
  obtain ⟨fd, F⟩ := c.def_ 57 (d := d_law_equal) rfl
  exact ⟨_, fd, F, He.glo_ok X G (c.fact 61 (f := .glo "_law_equal") rfl)⟩
theorem Txt.a_law_book (T : Txt K mg) : At K mg "_law_book" s_law_book := by
  obtain ⟨h, X, G, c⟩ := T.ex
  obtain ⟨fd, F⟩ := c.def_ 58 (d := d_law_book) rfl
  exact ⟨_, fd, F, He.glo_ok X G (c.fact 62 (f := .glo "_law_book") rfl)⟩
theorem Txt.a_law_due (T : Txt K mg) : At K mg "_law_due" s_law_due := by
  obtain ⟨h, X, G, c⟩ := T.ex
  obtain ⟨fd, F⟩ := c.def_ 59 (d := d_law_due) rfl
  exact ⟨_, fd, F, He.glo_ok X G (c.fact 63 (f := .glo "_law_due") rfl)⟩
theorem Txt.a_law_within (T : Txt K mg) : At K mg "_law_within" s_law_within := by
  obtain ⟨h, X, G, c⟩ := T.ex
  obtain ⟨fd, F⟩ := c.def_ 60 (d := d_law_within) rfl
  exact ⟨_, fd, F, He.glo_ok X G (c.fact 64 (f := .glo "_law_within") rfl)⟩
theorem Txt.a_law (T : Txt K mg) : At K mg "law" s_law := by
  obtain ⟨h, X, G, c⟩ := T.ex
  obtain ⟨fd, F⟩ := c.def_ 61 (d := d_law) rfl
  exact ⟨_, fd, F, He.glo_ok X G (c.fact 65 (f := .glo "law") rfl)⟩
theorem Txt.g_Party (T : Txt K mg) : mg "Party" = some (.ref (He.ga K "Party")) := by
  obtain ⟨h, X, G, c⟩ := T.ex
  exact He.glo_ok X G (c.fact 14 (f := .glo "Party") rfl)
theorem Txt.cl_Party (T : Txt K mg) : Cls K (He.ga K "Party") := by
  obtain ⟨h, X, G, c⟩ := T.ex
  exact He.cls_ok (c.fact 15 (f := .cls "Party") rfl)
theorem Txt.g_Book (T : Txt K mg) : mg "Book" = some (.ref (He.ga K "Book")) := by
  obtain ⟨h, X, G, c⟩ := T.ex
  exact He.glo_ok X G (c.fact 26 (f := .glo "Book") rfl)
theorem Txt.cl_Book (T : Txt K mg) : Cls K (He.ga K "Book") := by
  obtain ⟨h, X, G, c⟩ := T.ex
  exact He.cls_ok (c.fact 27 (f := .cls "Book") rfl)
theorem Txt.n_Party_people (T : Txt K mg) : NoAttr K (He.ga K "Party") "_people" := by
  obtain ⟨h, X, G, c⟩ := T.ex
  exact He.noat_ok (c.fact 66 (f := .noat "Party" "_people") rfl)
theorem Txt.n_Party_closed (T : Txt K mg) : NoAttr K (He.ga K "Party") "_closed" := by
  obtain ⟨h, X, G, c⟩ := T.ex
  exact He.noat_ok (c.fact 67 (f := .noat "Party" "_closed") rfl)
theorem Txt.n_Book_party (T : Txt K mg) : NoAttr K (He.ga K "Book") "_party" := by
  obtain ⟨h, X, G, c⟩ := T.ex
  exact He.noat_ok (c.fact 68 (f := .noat "Book" "_party") rfl)
theorem Txt.n_Book_leaks (T : Txt K mg) : NoAttr K (He.ga K "Book") "_leaks" := by
  obtain ⟨h, X, G, c⟩ := T.ex
  exact He.noat_ok (c.fact 69 (f := .noat "Book" "_leaks") rfl)
theorem Txt.n_Book_rows (T : Txt K mg) : NoAttr K (He.ga K "Book") "_rows" := by
  obtain ⟨h, X, G, c⟩ := T.ex
  exact He.noat_ok (c.fact 70 (f := .noat "Book" "_rows") rfl)
theorem Txt.i_MOST_PEOPLE_parties (T : Txt K mg) : ∃ t, mg "MOST_PEOPLE_parties" = some (.int 24 t) := by
  obtain ⟨h, X, G, c⟩ := T.ex
  exact He.int_ok X G (c.fact 71 (f := .int "MOST_PEOPLE_parties" 24) rfl)
theorem Txt.i_MOST_BARRED (T : Txt K mg) : ∃ t, mg "MOST_BARRED" = some (.int 600 t) := by
  obtain ⟨h, X, G, c⟩ := T.ex
  exact He.int_ok X G (c.fact 72 (f := .int "MOST_BARRED" 600) rfl)
theorem Txt.i_MOST_LEAKS (T : Txt K mg) : ∃ t, mg "MOST_LEAKS" = some (.int 40 t) := by
  obtain ⟨h, X, G, c⟩ := T.ex
  exact He.int_ok X G (c.fact 73 (f := .int "MOST_LEAKS" 40) rfl)
theorem Txt.i_MOST_PEOPLE_circles (T : Txt K mg) : ∃ t, mg "MOST_PEOPLE_circles" = some (.int 10 t) := by
  obtain ⟨h, X, G, c⟩ := T.ex
  exact He.int_ok X G (c.fact 74 (f := .int "MOST_PEOPLE_circles" 10) rfl)
theorem Txt.i_LETTERS (T : Txt K mg) : ∃ t, mg "LETTERS" = some (.str "abcdefghijklmnopqrstuvwxyz" t) := by
  obtain ⟨h, X, G, c⟩ := T.ex
  exact He.str_ok X G (c.fact 75 (f := .str "LETTERS" "abcdefghijklmnopqrstuvwxyz") rfl)
theorem Txt.f_len (T : Txt K mg) : mg "len" = none := by
  obtain ⟨h, X, G, c⟩ := T.ex
  exact He.free_ok X G (c.fact 76 (f := .free "len") rfl)
theorem Txt.f_isinstance (T : Txt K mg) : mg "isinstance" = none := by
  obtain ⟨h, X, G, c⟩ := T.ex
  exact He.free_ok X G (c.fact 77 (f := .free "isinstance") rfl)
theorem Txt.f_sorted (T : Txt K mg) : mg "sorted" = none := by
  obtain ⟨h, X, G, c⟩ := T.ex
  exact He.free_ok X G (c.fact 78 (f := .free "sorted") rfl)
theorem Txt.f_list (T : Txt K mg) : mg "list" = none := by
  obtain ⟨h, X, G, c⟩ := T.ex
  exact He.free_ok X G (c.fact 79 (f := .free "list") rfl)
theorem Txt.f_tuple (T : Txt K mg) : mg "tuple" = none := by
  obtain ⟨h, X, G, c⟩ := T.ex
  exact He.free_ok X G (c.fact 80 (f := .free "tuple") rfl)
theorem Txt.f_enumerate (T : Txt K mg) : mg "enumerate" = none := by
  obtain ⟨h, X, G, c⟩ := T.ex
  exact He.free_ok X G (c.fact 81 (f := .free "enumerate") rfl)
theorem Txt.f_range (T : Txt K mg) : mg "range" = none := by
  obtain ⟨h, X, G, c⟩ := T.ex
  exact He.free_ok X G (c.fact 82 (f := .free "range") rfl)
theorem Txt.f_int (T : Txt K mg) : mg "int" = none := by
  obtain ⟨h, X, G, c⟩ := T.ex
  exact He.free_ok X G (c.fact 83 (f := .free "int") rfl)
theorem Txt.f_any (T : Txt K mg) : mg "any" = none := by
  obtain ⟨h, X, G, c⟩ := T.ex
  exact He.free_ok X G (c.fact 84 (f := .free "any") rfl)
theorem Txt.f_all (T : Txt K mg) : mg "all" = none := by
  obtain ⟨h, X, G, c⟩ := T.ex
  exact He.free_ok X G (c.fact 85 (f := .free "all") rfl)
theorem Txt.f_str (T : Txt K mg) : mg "str" = none := by
  obtain ⟨h, X, G, c⟩ := T.ex
  exact He.free_ok X G (c.fact 86 (f := .free "str") rfl)
theorem Txt.f_dict (T : Txt K mg) : mg "dict" = none := by
  obtain ⟨h, X, G, c⟩ := T.ex
  exact He.free_ok X G (c.fact 87 (f := .free "dict") rfl)
theorem Txt.f_bool (T : Txt K mg) : mg "bool" = none := by
  obtain ⟨h, X, G, c⟩ := T.ex
  exact He.free_ok X G (c.fact 88 (f := .free "bool") rfl)
end
end GR
end
section
set_option Elab.async false
set_option linter.all false
set_option maxRecDepth 100000
set_option maxHeartbeats 0
/-! The head's run, look by look: each look runs the top anew, so that no declaration holds them all. -/
namespace GR
open PySem PySem.Spec PyProof.Rows L2 PySem.W PySem.Calls
abbrev R : PySem.W.OpenRow := PySem.W.OpenLaw.row PySem.Challenge.rw_giftrings_k67_whole_parts_of_people
abbrev hk : PySem.W.Hook := He.hookD 4 fa fn
def ob (s : PySem.W.SharedT) : He.AlD := He.obsDG 4 fa fn (HandSHeadRun.getT s)
theorem ob_eq (s : PySem.W.SharedT) : ob s = hk.obs s.abs := He.obsDG_eq (HandSHeadRun.getT_eq s)
/-- what stands behind the top -/
noncomputable abbrev endR (w : World) (os : OsState) : Option PySem.W.SharedT := HandSHeadRun.endF (HandSHeadRun.stepQ (HandSHeadRun.denQ HandSHeadRun.tabQ) R.prog w) 30000 R.prog w os
theorem runA (w : World) (os : OsState) : (endR w os).map (fun s => HandSHeadRun.looksF R.prog (boot_heap w.params) s.abs) = some true := by
  kernel_rfl
theorem runB (w : World) (os : OsState) : (endR w os).map (fun s => HandSHeadRun.seenQ (PySem.W.view R.prog [79]) loose (importedModules R.prog.main.body) (fun s => xlAt (PySem.W.view R.prog [79]) [] s && recOk R.toRowW.records s) s.abs) = some (openGood (PySem.W.view R.prog [79]) loose) := by
  kernel_rfl
theorem runC (w : World) (os : OsState) : (endR w os).map (fun s => ob s) = some (hk.val w) := by
  kernel_rfl
theorem three {α β γ δ : Type} {o : Option α} {f : α → β} {g : α → γ} {h : α → δ} {x : β} {y : γ} {z : δ} (a : o.map f = some x) (b : o.map g = some y) (c : o.map h = some z) : o.map (fun s => (f s, g s, h s)) = some (x, y, z) := by
  cases o with
  | none => cases a
  | some s =>
    cases a
    cases b
    cases c
    rfl
theorem run (w : World) : HandSHeadRun.RunEq R (PySem.W.view R.prog [79]) hk ob 30000 loose w := fun os => three (runA w os) (runB w os) (runC w os)
/-- the law's call is left -/
theorem head_holds (call : WalkO (PySem.W.view R.prog [79]) loose (XL (PySem.W.view R.prog [79]) []) hk.says R.toRowW (HandSHeadRun.topDef R.prog 79) [] fun f vs => PySem.call f vs) : PySem.Challenge.rw_giftrings_k67_whole_parts_of_people.Holds := by
  w_on; o_law
  refine HandSHeadRun.head_any (r := R) (q := PySem.W.view R.prog [79]) (H := hk) (ob := ob) (M := 30000) (loose := loose) (d := HandSHeadRun.topDef R.prog 79) (kwd := []) ob_eq
    (by kernel_rfl) (fun s => by kernel_rfl) run (by kernel_rfl) (by kernel_rfl) (by kernel_rfl) (by rfl) (by first | assumption | decide +kernel) (by decide +kernel) ⟨rfl, rfl, rfl, rfl, rfl, by decide +kernel⟩ ?hw call
  case hw => w_witness2
theorem law_name : (HandSHeadRun.topDef R.prog 79).name = ("law" : PySem.Str) := by kernel_rfl
theorem law_args : (HandSHeadRun.topDef R.prog 79).params.defaults = [] := by kernel_rfl
end GR
end
section
/-! Matchings, the table of possible pairs: plain lists, no program. -/
set_option linter.all false
namespace GM
universe u
variable {α : Type} [DecidableEq α]

/-- a choice of takers: each giver's from the own row, no two alike -/
structure IsDraw (people : List α) (row : α → List α) (d : α → α) : Prop where
  inn : ∀ g ∈ people, d g ∈ row g
  inj : ∀ g ∈ people, ∀ k ∈ people, d g = d k → g = k

def fset (h : α → Option α) (t g : α) : α → Option α := fun x => if x = t then some g else h x
theorem fset_same (h : α → Option α) (t g : α) : fset h t g t = some g := by unfold fset; rw [if_pos rfl]
theorem fset_ne (h : α → Option α) {t x : α} (g : α) (e : x ≠ t) : fset h t g x = h x := by unfold fset; rw [if_neg e]

/-- what is asked ahead of a search for a taker -/
structure Pre (people : List α) (row : α → List α) (h : α → Option α) (s : List α) (g : α) : Prop where
  inj : ∀ t1 t2 x, t1 ∉ s → t2 ∉ s → h t1 = some x → h t2 = some x → t1 = t2
  no : ∀ t, t ∉ s → h t ≠ some g
  nd : s.Nodup
  inU : ∀ x ∈ s, x ∈ people
  ok : ∀ t x, h t = some x → t ∈ row x ∧ x ∈ people
  dom : ∀ x ∈ people, ∀ t ∈ row x, t ∈ people
  gin : g ∈ people
/-- the search ended with nothing -/
structure Fail (people : List α) (row : α → List α) (h : α → Option α) (s s' : List α) (pre : List α) : Prop where
  sub : ∀ x ∈ s, x ∈ s'
  all : ∀ t ∈ pre, t ∈ s'
  cl : ∀ t ∈ s', t ∉ s → ∃ g', h t = some g' ∧ ∀ u ∈ row g', u ∈ s'
  nd : s'.Nodup
  inU : ∀ x ∈ s', x ∈ people
/-- the search found one -/
structure Succ (row : α → List α) (h h' : α → Option α) (s : List α) (g : α) : Prop where
  same : ∀ t ∈ s, h' t = h t
  inj : ∀ t1 t2 x, t1 ∉ s → t2 ∉ s → h' t1 = some x → h' t2 = some x → t1 = t2
  img : ∀ x, (∃ t, t ∉ s ∧ h' t = some x) ↔ (x = g ∨ ∃ t, t ∉ s ∧ h t = some x)

section
variable {people : List α} {row : α → List α} {h h1 : α → Option α} {s s1 s2 pre : List α} {g g' t : α}
theorem Fail.start (p : Pre people row h s g) : Fail people row h s s [] :=
  ⟨fun _ z => z, fun _ z => (nomatch z), fun _ z1 z2 => absurd z1 z2, p.nd, p.inU⟩
theorem Fail.seen (f : Fail people row h s s1 pre) (ht : t ∈ s1) : Fail people row h s s1 (pre ++ [t]) :=
  ⟨f.sub, fun u hu => by
    rcases List.mem_append.mp hu with z | z
    · exact f.all u z
    · rw [List.mem_singleton.mp z]; exact ht, f.cl, f.nd, f.inU⟩
theorem nodup_snoc {l : List α} {x : α} (h : l.Nodup) (hx : x ∉ l) : (l ++ [x]).Nodup := by
  refine List.nodup_append.mpr ⟨h, List.nodup_cons.mpr ⟨List.not_mem_nil, List.nodup_nil⟩, fun a ha b hb e => ?_⟩
  rw [List.mem_singleton.mp hb] at e
  exact hx (e ▸ ha)
theorem mem_snoc {l : List α} {x y : α} : y ∈ l ++ [x] ↔ y ∈ l ∨ y = x := by
  rw [List.mem_append, List.mem_singleton]
/-- ahead of the inner search -/
theorem Pre.inner (p : Pre people row h s g) (f : Fail people row h s s1 pre) (ht : t ∉ s1) (hg : h t = some g') (hU : t ∈ people) : Pre people row h (s1 ++ [t]) g' := by
  have out : ∀ x, x ∉ s1 ++ [t] → x ∉ s := fun x hx hs => hx (mem_snoc.mpr (.inl (f.sub x hs)))
  refine ⟨fun t1 t2 x a b c d => p.inj t1 t2 x (out t1 a) (out t2 b) c d, fun t2 ht2 e => ?_, nodup_snoc f.nd ht, fun x hx => ?_, p.ok, p.dom, (p.ok t g' hg).2⟩
  · have q := p.inj t2 t g' (out t2 ht2) (fun z => ht (f.sub t z)) e hg
    exact ht2 (mem_snoc.mpr (.inr q))
  · rcases mem_snoc.mp hx with z | z
    · exact f.inU x z
    · rw [z]; exact hU
/-- the inner search failed -/
theorem Fail.inner (f : Fail people row h s s1 pre) (hg : h t = some g') (f2 : Fail people row h (s1 ++ [t]) s2 (row g')) : Fail people row h s s2 (pre ++ [t]) := by
  have up : ∀ x ∈ s1, x ∈ s2 := fun x hx => f2.sub x (mem_snoc.mpr (.inl hx))
  have tin : t ∈ s2 := f2.sub t (mem_snoc.mpr (.inr rfl))
  refine ⟨fun x hx => up x (f.sub x hx), fun u hu => ?_, fun u hu hn => ?_, f2.nd, f2.inU⟩
  · rcases mem_snoc.mp hu with z | z
    · exact up u (f.all u z)
    · rw [z]; exact tin
  · by_cases e1 : u ∈ s1
    · obtain ⟨k, e, q⟩ := f.cl u e1 hn
      exact ⟨k, e, fun v hv => up v (q v hv)⟩
    · by_cases e2 : u = t
      · exact ⟨g', by rw [e2]; exact hg, fun v hv => f2.all v hv⟩
      · exact f2.cl u hu fun z => (mem_snoc.mp z).elim e1 e2
theorem Succ.free (p : Pre people row h s g) (f : Fail people row h s s1 pre) (ht : t ∉ s1) (hn : h t = none) : Succ row h (fset h t g) s g := by
  have ts : t ∉ s := fun z => ht (f.sub t z)
  refine ⟨fun u hu => fset_ne h g (fun e => ts (e ▸ hu)), fun t1 t2 x a b c d => ?_, fun x => ⟨?_, ?_⟩⟩
  · by_cases e1 : t1 = t
    · by_cases e2 : t2 = t
      · rw [e1, e2]
      · rw [fset_ne h g e2] at d
        rw [e1, fset_same] at c
        exact absurd (d.trans c.symm) (p.no t2 b)
    · rw [fset_ne h g e1] at c
      by_cases e2 : t2 = t
      · rw [e2, fset_same] at d
        exact absurd (c.trans d.symm) (p.no t1 a)
      · rw [fset_ne h g e2] at d
        exact p.inj t1 t2 x a b c d
  · rintro ⟨u, hu, e⟩
    by_cases e1 : u = t
    · rw [e1, fset_same] at e
      exact .inl (Option.some.inj e).symm
    · rw [fset_ne h g e1] at e
      exact .inr ⟨u, hu, e⟩
  · rintro (rfl | ⟨u, hu, e⟩)
    · exact ⟨t, ts, fset_same h t _⟩
    · refine ⟨u, hu, ?_⟩
      rw [fset_ne h g (fun z => by rw [z, hn] at e; cases e)]
      exact e
theorem Succ.inner (p : Pre people row h s g) (f : Fail people row h s s1 pre) (ht : t ∉ s1) (hg : h t = some g') (r : Succ row h h1 (s1 ++ [t]) g') : Succ row h (fset h1 t g) s g := by
  have ts : t ∉ s := fun z => ht (f.sub t z)
  have in1 : ∀ u, u ∈ s1 → u ≠ t → fset h1 t g u = h u := fun u hu e => by
    rw [fset_ne h1 g e]
    exact r.same u (mem_snoc.mpr (.inl hu))
  have out : ∀ u, u ∉ s1 → u ≠ t → u ∉ s1 ++ [t] := fun u a b z => (mem_snoc.mp z).elim a b
  -- where a value away from t comes from
  have back : ∀ u x, u ∉ s → u ≠ t → fset h1 t g u = some x → ∃ v, v ∉ s ∧ h v = some x ∧ (u ∈ s1 → v = u) ∧ (u ∉ s1 → v ∉ s1) := by
    intro u x hu e hx
    by_cases hs : u ∈ s1
    · rw [in1 u hs e] at hx
      exact ⟨u, hu, hx, fun _ => rfl, fun z => absurd hs z⟩
    · rw [fset_ne h1 g e] at hx
      rcases (r.img x).mp ⟨u, out u hs e, hx⟩ with z | ⟨v, hv, hx2⟩
      · rw [z]
        exact ⟨t, ts, hg, fun z => absurd z hs, fun _ => ht⟩
      · exact ⟨v, fun z => hv (mem_snoc.mpr (.inl (f.sub v z))), hx2, fun z => absurd z hs, fun _ z => hv (mem_snoc.mpr (.inl z))⟩
  refine ⟨fun u hu => in1 u (f.sub u hu) (fun e => ts (e ▸ hu)), fun t1 t2 x a b c d => ?_, fun x => ⟨?_, ?_⟩⟩
  · by_cases e1 : t1 = t
    · by_cases e2 : t2 = t
      · rw [e1, e2]
      · obtain ⟨v, hv, hx, _⟩ := back t2 x b e2 d
        rw [e1, fset_same] at c
        exact absurd (hx.trans c.symm) (p.no v hv)
    · by_cases e2 : t2 = t
      · obtain ⟨v, hv, hx, _⟩ := back t1 x a e1 c
        rw [e2, fset_same] at d
        exact absurd (hx.trans d.symm) (p.no v hv)
      · by_cases m1 : t1 ∈ s1
        · by_cases m2 : t2 ∈ s1
          · rw [in1 t1 m1 e1] at c
            rw [in1 t2 m2 e2] at d
            exact p.inj t1 t2 x a b c d
          · obtain ⟨v, hv, hx, _, q⟩ := back t2 x b e2 d
            rw [in1 t1 m1 e1] at c
            have z := p.inj t1 v x a hv c hx
            exact absurd m1 (z ▸ q m2)
        · by_cases m2 : t2 ∈ s1
          · obtain ⟨v, hv, hx, _, q⟩ := back t1 x a e1 c
            rw [in1 t2 m2 e2] at d
            have z := p.inj t2 v x b hv d hx
            exact absurd m2 (z ▸ q m1)
          · rw [fset_ne h1 g e1] at c
            rw [fset_ne h1 g e2] at d
            exact r.inj t1 t2 x (out t1 m1 e1) (out t2 m2 e2) c d
  · rintro ⟨u, hu, e⟩
    by_cases e1 : u = t
    · rw [e1, fset_same] at e
      exact .inl (Option.some.inj e).symm
    · obtain ⟨v, hv, hx, _⟩ := back u x hu e1 e
      exact .inr ⟨v, hv, hx⟩
  · rintro (rfl | ⟨u, hu, e⟩)
    · exact ⟨t, ts, fset_same h1 t _⟩
    · have far : ∀ v, v ∉ s1 ++ [t] → h1 v = some x → ∃ t, t ∉ s ∧ fset h1 t g t = some x → True := fun _ _ _ => ⟨t, fun _ => trivial⟩
      have fin : (x = g' ∨ ∃ v, v ∉ s1 ++ [t] ∧ h v = some x) → ∃ v, v ∉ s ∧ fset h1 t g v = some x := fun z => by
        obtain ⟨v, hv, hx⟩ := (r.img x).mpr z
        refine ⟨v, fun z => hv (mem_snoc.mpr (.inl (f.sub v z))), ?_⟩
        rw [fset_ne h1 g (fun z => hv (mem_snoc.mpr (.inr z)))]
        exact hx
      by_cases e1 : u = t
      · rw [e1, hg] at e
        exact fin (.inl (Option.some.inj e).symm)
      · by_cases m1 : u ∈ s1
        · exact ⟨u, hu, by rw [in1 u m1 e1]; exact e⟩
        · exact fin (.inr ⟨u, out u m1 e1, e⟩)
theorem Succ.ok_free (p : Pre people row h s g) (ht : t ∈ row g) : ∀ u x, fset h t g u = some x → u ∈ row x ∧ x ∈ people := fun u x e => by
  by_cases e1 : u = t
  · rw [e1, fset_same] at e
    rw [e1, ← Option.some.inj e]
    exact ⟨ht, p.gin⟩
  · rw [fset_ne h g e1] at e
    exact p.ok u x e
theorem Succ.ok_inner (p : Pre people row h s g) (ht : t ∈ row g) (hk : ∀ u x, h1 u = some x → u ∈ row x ∧ x ∈ people) : ∀ u x, fset h1 t g u = some x → u ∈ row x ∧ x ∈ people := fun u x e => by
  by_cases e1 : u = t
  · rw [e1, fset_same] at e
    rw [e1, ← Option.some.inj e]
    exact ⟨ht, p.gin⟩
  · rw [fset_ne h1 g e1] at e
    exact hk u x e
end

/-! ### giver by giver -/
/-- the givers of pre have their takers -/
structure Held (people : List α) (row : α → List α) (h : α → Option α) (pre : List α) : Prop where
  inj : ∀ t1 t2 x, h t1 = some x → h t2 = some x → t1 = t2
  img : ∀ x, (∃ t, h t = some x) ↔ x ∈ pre
  ok : ∀ t x, h t = some x → t ∈ row x ∧ x ∈ people
section
variable {people : List α} {row : α → List α} {h h1 : α → Option α} {s s1 pre : List α} {g : α}
theorem Held.nil : Held people row (fun _ => none) [] := ⟨fun _ _ _ e => (nomatch e), fun x => ⟨fun ⟨_, e⟩ => (nomatch e), fun e => (nomatch e)⟩, fun _ _ e => (nomatch e)⟩
theorem Held.ahead (H : Held people row h pre) (hd : ∀ x ∈ people, ∀ t ∈ row x, t ∈ people) (hg : g ∈ people) (hn : g ∉ pre) : Pre people row h [] g :=
  ⟨fun t1 t2 x _ _ => H.inj t1 t2 x, fun t _ e => hn ((H.img g).mp ⟨t, e⟩), List.nodup_nil, fun _ z => (nomatch z), H.ok, hd, hg⟩
theorem Held.next (H : Held people row h pre) (r : Succ row h h1 [] g) (ok : ∀ t x, h1 t = some x → t ∈ row x ∧ x ∈ people) : Held people row h1 (pre ++ [g]) := by
  refine ⟨fun t1 t2 x => r.inj t1 t2 x List.not_mem_nil List.not_mem_nil, fun x => ?_, ok⟩
  rw [mem_snoc, ← H.img x]
  constructor
  · rintro ⟨t, e⟩
    rcases (r.img x).mp ⟨t, List.not_mem_nil, e⟩ with z | ⟨v, _, z⟩
    · exact .inr z
    · exact .inl ⟨v, z⟩
  · rintro (⟨v, z⟩ | z)
    · obtain ⟨t, _, e⟩ := (r.img x).mpr (.inr ⟨v, List.not_mem_nil, z⟩)
      exact ⟨t, e⟩
    · obtain ⟨t, _, e⟩ := (r.img x).mpr (.inl z)
      exact ⟨t, e⟩
theorem nodup_map {β : Type} {l : List α} {f : α → β} (h : l.Nodup) (hf : ∀ a ∈ l, ∀ b ∈ l, f a = f b → a = b) : (l.map f).Nodup := by
  induction l with
  | nil => exact List.nodup_nil
  | cons x r ih =>
    obtain ⟨h1, h2⟩ := List.nodup_cons.mp h
    rw [List.map_cons]
    refine List.nodup_cons.mpr ⟨fun hm => ?_, ih h2 fun a ha b hb => hf a (List.mem_cons_of_mem _ ha) b (List.mem_cons_of_mem _ hb)⟩
    obtain ⟨y, hy, e⟩ := List.mem_map.mp hm
    have := hf y (List.mem_cons_of_mem _ hy) x List.mem_cons_self e
    exact h1 (this ▸ hy)
theorem no_draw (H : Held people row h pre) (f : Fail people row h [] s (row g)) (hg : g ∈ people) (hn : g ∉ pre) {d : α → α} (D : IsDraw people row d) : False := by
  have hv : ∀ t ∈ s, ∃ k, h t = some k ∧ ∀ u ∈ row k, u ∈ s := fun t ht => f.cl t ht List.not_mem_nil
  have gv : ∀ t ∈ s, h t = some ((h t).getD g) ∧ ∀ u ∈ row ((h t).getD g), u ∈ s := fun t ht => by
    obtain ⟨k, e, q⟩ := hv t ht
    rw [e]
    exact ⟨rfl, q⟩
  have vn : (g :: s.map fun t => (h t).getD g).Nodup := by
    refine List.nodup_cons.mpr ⟨fun hm => ?_, nodup_map f.nd fun a ha b hb e => ?_⟩
    · obtain ⟨t, ht, e⟩ := List.mem_map.mp hm
      exact hn ((H.img g).mp ⟨t, by rw [(gv t ht).1, e]⟩)
    · exact H.inj a b _ (gv a ha).1 (by rw [(gv b hb).1, e])
  have vp : ∀ x ∈ (g :: s.map fun t => (h t).getD g), x ∈ people := fun x hx => by
    rcases List.mem_cons.mp hx with z | z
    · rw [z]; exact hg
    · obtain ⟨t, ht, e⟩ := List.mem_map.mp z
      rw [← e]
      exact (H.ok t _ (gv t ht).1).2
  have dn : ((g :: s.map fun t => (h t).getD g).map d).Nodup := nodup_map vn fun a ha b hb e => D.inj a (vp a ha) b (vp b hb) e
  have ds : ((g :: s.map fun t => (h t).getD g).map d) ⊆ s := fun y hy => by
    obtain ⟨x, hx, e⟩ := List.mem_map.mp hy
    rw [← e]
    have din := D.inn x (vp x hx)
    rcases List.mem_cons.mp hx with z | z
    · rw [z] at din ⊢
      exact f.all _ din
    · obtain ⟨t, ht, e2⟩ := List.mem_map.mp z
      rw [← e2] at din ⊢
      exact (gv t ht).2 _ din
  have l := dn.length_le_of_subset ds
  simp only [List.length_map, List.length_cons] at l
  omega
/-- the whole pairing -/
theorem Held.draw (H : Held people row h people) {m : α → α} (hm : ∀ g ∈ people, h (m g) = some g) : IsDraw people row m :=
  ⟨fun g hg => (H.ok _ _ (hm g hg)).1, fun g hg k hk e => by
    have a := hm g hg
    rw [e, hm k hk] at a
    exact (Option.some.inj a).symm⟩
/-- what is one to one into a list of its own fills it -/
theorem onto {f : α → α} (nd : people.Nodup) (hin : ∀ x ∈ people, f x ∈ people) (hf : ∀ a ∈ people, ∀ b ∈ people, f a = f b → a = b) : ∀ y ∈ people, ∃ x ∈ people, f x = y := fun y hy => by
  refine Classical.byContradiction fun hc => ?_
  have n1 : (y :: people.map f).Nodup := List.nodup_cons.mpr ⟨fun hm => hc (by
    obtain ⟨x, hx, e⟩ := List.mem_map.mp hm
    exact ⟨x, hx, e⟩), nodup_map nd hf⟩
  have sb : (y :: people.map f) ⊆ people := fun z hz => by
    rcases List.mem_cons.mp hz with e | e
    · rw [e]; exact hy
    · obtain ⟨x, hx, e2⟩ := List.mem_map.mp e
      rw [← e2]; exact hin x hx
  have l := n1.length_le_of_subset sb
  simp only [List.length_map, List.length_cons] at l
  omega
end

/-! ### passing slips on -/
inductive Reach (row : α → List α) (o : α → α) (a : α) : α → Prop
  | refl : Reach row o a a
  | step {g t : α} : Reach row o a g → t ∈ row g → Reach row o a (o t)
def iter {β : Type} (f : β → β) : Nat → β → β
  | 0, x => x
  | n + 1, x => f (iter f n x)
theorem iter_add {β : Type} (f : β → β) (a b : Nat) (x : β) : iter f (a + b) x = iter f a (iter f b x) := by
  induction a with
  | zero => rw [Nat.zero_add]; rfl
  | succ k ih => rw [Nat.succ_add]; show f (iter f (k + b) x) = f (iter f k (iter f b x)); rw [ih]
/-- a one-to-one step within a list comes back -/
theorem comes_back {people : List α} {f : α → α} (hin : ∀ x ∈ people, f x ∈ people) (hf : ∀ a ∈ people, ∀ b ∈ people, f a = f b → a = b) {x : α} (hx : x ∈ people) : ∃ k, iter f (k + 1) x = x := by
  have mem : ∀ n, iter f n x ∈ people := fun n => by
    induction n with
    | zero => exact hx
    | succ k ih => exact hin _ ih
  have cancel : ∀ a b, iter f (a + b) x = iter f a x → iter f b x = x := fun a => by
    induction a with
    | zero => intro b e; rw [Nat.zero_add] at e; exact e
    | succ k ih =>
      intro b e
      rw [Nat.succ_add] at e
      exact ih b (hf _ (mem _) _ (mem _) e)
  refine Classical.byContradiction fun hc => ?_
  have nd : ((List.range (people.length + 1)).map fun n => iter f n x).Nodup := by
    refine nodup_map List.nodup_range fun a _ b _ e => ?_
    rcases Nat.lt_trichotomy a b with l | l | l
    · obtain ⟨c, rfl⟩ : ∃ c, b = a + (c + 1) := ⟨b - a - 1, by omega⟩
      exact absurd ⟨c, cancel a (c + 1) e.symm⟩ hc
    · exact l
    · obtain ⟨c, rfl⟩ : ∃ c, a = b + (c + 1) := ⟨a - b - 1, by omega⟩
      exact absurd ⟨c, cancel b (c + 1) e⟩ hc
  have l := nd.length_le_of_subset (l₂ := people) fun y hy => by
    obtain ⟨n, _, e⟩ := List.mem_map.mp hy
    rw [← e]; exact mem n
  simp only [List.length_map, List.length_range] at l
  omega
/-- a way without a repeat, by places -/
structure Way (people : List α) (row : α → List α) (m : α → α) (a g : α) (p : List α) : Prop where
  inn : ∀ x ∈ p, x ∈ people
  nd : p.Nodup
  ne : 0 < p.length
  fst : p[0]? = some a
  lst : p[p.length - 1]? = some g
  ok : ∀ i x y, p[i]? = some x → p[i + 1]? = some y → m y ∈ row x
theorem Way.of {people : List α} {row : α → List α} {m o : α → α} (hin : ∀ x ∈ people, ∀ t ∈ row x, t ∈ people) (hmo : ∀ t ∈ people, m (o t) = t) {a : α} (ha : a ∈ people) (ho : ∀ t ∈ people, o t ∈ people) : ∀ {g : α}, Reach row o a g → g ∈ people ∧ ∃ p, Way people row m a g p := by
  intro g r
  induction r with
  | refl => exact ⟨ha, [a], fun x hx => by rw [List.mem_singleton.mp hx]; exact ha, List.nodup_cons.mpr ⟨List.not_mem_nil, List.nodup_nil⟩, Nat.one_pos, rfl, rfl, fun i x y _ e2 => by simp at e2⟩
  | @step g t hr ht ih =>
    obtain ⟨hg, p, W⟩ := ih
    have htp := hin g hg t ht
    refine ⟨ho t htp, ?_⟩
    by_cases hc : o t ∈ p
    · obtain ⟨i, hi, e⟩ := List.getElem_of_mem hc
      have tl : (p.take (i + 1)).length = i + 1 := by rw [List.length_take]; omega
      refine ⟨p.take (i + 1), fun x hx => W.inn x (List.mem_of_mem_take hx), W.nd.sublist (List.take_sublist _ _), by omega, ?_, ?_, fun j x y e1 e2 => ?_⟩
      · rw [List.getElem?_take, if_pos (Nat.succ_pos i)]; exact W.fst
      · rw [tl, Nat.add_sub_cancel, List.getElem?_take, if_pos (Nat.lt_succ_self i), List.getElem?_eq_getElem hi, e]
      · rw [List.getElem?_take] at e1 e2
        split at e2
        · rw [if_pos (by omega)] at e1
          exact W.ok j x y e1 e2
        · cases e2
    · have pl := W.ne
      refine ⟨p ++ [o t], fun x hx => (mem_snoc.mp hx).elim (W.inn x) (fun z => by rw [z]; exact ho t htp), nodup_snoc W.nd hc, by simp, ?_, ?_, fun j x y e1 e2 => ?_⟩
      · rw [List.getElem?_append_left pl]; exact W.fst
      · rw [List.length_append, List.length_singleton, Nat.add_sub_cancel, List.getElem?_append_right (Nat.le_refl _), Nat.sub_self]; rfl
      · have lj : j + 1 < (p ++ [o t]).length := (List.getElem?_eq_some_iff.mp e2).1
        rw [List.length_append, List.length_singleton] at lj
        rw [List.getElem?_append_left (by omega)] at e1
        by_cases l2 : j + 1 < p.length
        · rw [List.getElem?_append_left l2] at e2
          exact W.ok j x y e1 e2
        · have ej : j = p.length - 1 := by omega
          have e3 : j + 1 - p.length = 0 := by omega
          rw [List.getElem?_append_right (by omega), e3] at e2
          have e4 : o t = y := Option.some.inj e2
          rw [ej, W.lst] at e1
          rw [← e4, ← Option.some.inj e1, hmo t htp]
          exact ht
/-- the next one round a list -/
def turnOf (p : List α) (x : α) : α := if x ∈ p then (p[(p.idxOf x + 1) % p.length]?).getD x else x
theorem turn_at {p : List α} (nd : p.Nodup) {i : Nat} {x : α} (h : p[i]? = some x) : turnOf p x = (p[(i + 1) % p.length]?).getD x := by
  have hm : x ∈ p := List.mem_of_getElem? h
  unfold turnOf
  rw [if_pos hm]
  obtain ⟨hi, e⟩ := List.getElem?_eq_some_iff.mp h
  have : p.idxOf x = i := by
    have h1 : p.idxOf x < p.length := List.idxOf_lt_length_iff.mpr hm
    have h2 : p[p.idxOf x] = x := List.getElem_idxOf h1
    exact (List.getElem_inj nd).mp (h2.trans e.symm)
  rw [this]
theorem turn_out {p : List α} {x : α} (h : x ∉ p) : turnOf p x = x := by unfold turnOf; rw [if_neg h]
theorem turn_mem {p : List α} {x : α} (h : x ∈ p) : turnOf p x ∈ p := by
  unfold turnOf
  rw [if_pos h]
  have pl : 0 < p.length := List.length_pos_of_mem h
  have l : (p.idxOf x + 1) % p.length < p.length := Nat.mod_lt _ pl
  rw [List.getElem?_eq_getElem l]
  exact List.getElem_mem l
theorem turn_inj {p : List α} (nd : p.Nodup) {x y : α} (e : turnOf p x = turnOf p y) : x = y := by
  by_cases hx : x ∈ p
  · by_cases hy : y ∈ p
    · obtain ⟨i, hi, ex⟩ := List.getElem_of_mem hx
      obtain ⟨j, hj, ey⟩ := List.getElem_of_mem hy
      rw [turn_at nd (by rw [List.getElem?_eq_getElem hi, ex]), turn_at nd (by rw [List.getElem?_eq_getElem hj, ey])] at e
      have pl : 0 < p.length := by omega
      have l1 : (i + 1) % p.length < p.length := Nat.mod_lt _ pl
      have l2 : (j + 1) % p.length < p.length := Nat.mod_lt _ pl
      rw [List.getElem?_eq_getElem l1, List.getElem?_eq_getElem l2] at e
      have q := (List.getElem_inj nd).mp (show p[(i + 1) % p.length] = p[(j + 1) % p.length] from e)
      have ij : i = j := by
        rcases Nat.lt_or_ge (i + 1) p.length with a | a <;> rcases Nat.lt_or_ge (j + 1) p.length with b | b
        · rw [Nat.mod_eq_of_lt a, Nat.mod_eq_of_lt b] at q; omega
        · have : j + 1 = p.length := by omega
          rw [Nat.mod_eq_of_lt a, this, Nat.mod_self] at q; omega
        · have : i + 1 = p.length := by omega
          rw [Nat.mod_eq_of_lt b, this, Nat.mod_self] at q; omega
        · omega
      subst ij
      rw [← ex, ← ey]
    · rw [turn_out hy] at e
      exact absurd (e ▸ turn_mem hx) hy
  · by_cases hy : y ∈ p
    · rw [turn_out hx] at e
      exact absurd (e.symm ▸ turn_mem hy) hx
    · rw [turn_out hx, turn_out hy] at e
      exact e
/-- a pair of the rows is in some whole choice exactly if its giver is reached from the taker's owner -/
theorem poss_iff {people : List α} {row : α → List α} {m o : α → α} (nd : people.Nodup) (hin : ∀ x ∈ people, ∀ t ∈ row x, t ∈ people) (M : IsDraw people row m) (hom : ∀ g ∈ people, o (m g) = g) {g t : α} (hg : g ∈ people) (ht : t ∈ row g) :
    (∃ d, IsDraw people row d ∧ d g = t) ↔ Reach row o (o t) g := by
  have mp : ∀ x ∈ people, m x ∈ people := fun x hx => hin x hx _ (M.inn x hx)
  have sur := onto nd mp M.inj
  have hmo : ∀ t ∈ people, m (o t) = t := fun t ht => by
    obtain ⟨x, hx, e⟩ := sur t ht
    rw [← e, hom x hx]
  have op : ∀ t ∈ people, o t ∈ people := fun t ht => by
    obtain ⟨x, hx, e⟩ := sur t ht
    rw [← e, hom x hx]; exact hx
  have tp := hin g hg t ht
  constructor
  · rintro ⟨d, D, e⟩
    have dp : ∀ x ∈ people, d x ∈ people := fun x hx => hin x hx _ (D.inn x hx)
    obtain ⟨k, hk⟩ := comes_back (people := people) (f := fun x => o (d x)) (fun x hx => op _ (dp x hx)) (fun a ha b hb q => D.inj a ha b hb (by
      have z : m (o (d a)) = m (o (d b)) := congrArg m q
      rw [hmo _ (dp a ha), hmo _ (dp b hb)] at z
      exact z)) hg
    have all : ∀ n, iter (fun x => o (d x)) n (o t) ∈ people ∧ Reach row o (o t) (iter (fun x => o (d x)) n (o t)) := fun n => by
      induction n with
      | zero => exact ⟨op t tp, .refl⟩
      | succ n ih => exact ⟨op _ (dp _ ih.1), .step ih.2 (D.inn _ ih.1)⟩
    have z : iter (fun x => o (d x)) k (o t) = g := by
      rw [iter_add] at hk
      have e1 : iter (fun x => o (d x)) 1 g = o t := by show o (d g) = o t; rw [e]
      rw [e1] at hk
      exact hk
    rw [← z]
    exact (all k).2
  · intro r
    obtain ⟨_, p, W⟩ := Way.of hin hmo (op t tp) op r
    have pl := W.ne
    have step : ∀ i x, p[i]? = some x → m (turnOf p x) ∈ row x := fun i x e => by
      have hi := (List.getElem?_eq_some_iff.mp e).1
      rw [turn_at W.nd e]
      by_cases l : i + 1 < p.length
      · rw [Nat.mod_eq_of_lt l, List.getElem?_eq_getElem l]
        exact W.ok i x _ e (List.getElem?_eq_getElem l)
      · have ei : i + 1 = p.length := by omega
        rw [ei, Nat.mod_self, W.fst]
        show m (o t) ∈ row x
        rw [hmo t tp]
        have : i = p.length - 1 := by omega
        rw [this, W.lst] at e
        rw [← Option.some.inj e]
        exact ht
    have tin : ∀ x ∈ people, turnOf p x ∈ people := fun x hx => by
      by_cases hp : x ∈ p
      · exact W.inn _ (turn_mem hp)
      · rw [turn_out hp]; exact hx
    refine ⟨fun x => m (turnOf p x), ⟨fun x hx => ?_, fun a ha b hb e => turn_inj W.nd (M.inj _ (tin a ha) _ (tin b hb) e)⟩, ?_⟩
    · by_cases hp : x ∈ p
      · obtain ⟨i, hi, e⟩ := List.getElem_of_mem hp
        exact step i x (by rw [List.getElem?_eq_getElem hi, e])
      · show m (turnOf p x) ∈ row x
        rw [turn_out hp]
        exact M.inn x hx
    · show m (turnOf p g) = t
      rw [turn_at W.nd W.lst]
      have : p.length - 1 + 1 = p.length := by omega
      rw [this, Nat.mod_self, W.fst]
      exact hmo t tp
end GM
end
section
set_option Elab.async false
set_option linter.all false
set_option maxRecDepth 100000
set_option maxHeartbeats 4000000
/-! Readings, step by step: each lemma turns the reading of one piece into what is left to show. -/
namespace GR
open PySem PySem.Spec L2
open Evl (Ex)
/-- another name for the slots, the ends -/
abbrev Sl := L2.St

/-- a choice -/
def Io (c : Bool) (A B : Prop) : Prop := if c = true then A else B
theorem io_t {A B : Prop} (h : A) : Io true A B := h
theorem io_f {A B : Prop} (h : B) : Io false A B := h
theorem io_nt {A B : Prop} (h : B) : Io (!true) A B := h
theorem io_nf {A B : Prop} (h : A) : Io (!false) A B := h
theorem io {A B : Prop} {c : Bool} (h1 : c = true → A) (h2 : c = false → B) : Io c A B := by
  cases c
  · exact h2 rfl
  · exact h1 rfl
theorem io_d {A B p : Prop} [Decidable p] (h1 : p → A) (h2 : ¬ p → B) : Io (decide p) A B := io (fun e => h1 (of_decide_eq_true e)) fun e => h2 (of_decide_eq_false e)
theorem io_nd {A B p : Prop} [Decidable p] (h1 : ¬ p → A) (h2 : p → B) : Io (!decide p) A B := by
  by_cases h : p
  · rw [decide_eq_true h]; exact h2 h
  · rw [decide_eq_false h]; exact h1 h
section
variable {σ : Sl} {H H' H1 : Hp} {Q : VK} {v x y : V} {i : Nat} {ta tb tc te td ty tv : TE} {t tr : TA} {tt uu : TT} {r : R2} {n bk ct : Sl → Hp → Prop} {rt : VK} {s u : TS} {g : TG} {K : PySem.W.Frag}
/-! ### statements -/
theorem i_seq (h : s ⟨u ⟨n, rt, bk, ct⟩, rt, bk, ct⟩ σ H) : tSeq s u ⟨n, rt, bk, ct⟩ σ H := h
theorem i_asg (h : te σ H fun x H1 => g x σ H1 n) : tAsg te g ⟨n, rt, bk, ct⟩ σ H := h
theorem i_name {N : Sl → Hp → Prop} (h : N (σ.set i (some v)) H) : gName i v σ H N := h
theorem i_drop (h : te σ H fun _ H1 => n σ H1) : tDrop te ⟨n, rt, bk, ct⟩ σ H := h
theorem i_ret (h : te σ H rt) : tRet te ⟨n, rt, bk, ct⟩ σ H := h
theorem i_retN (h : rt .non H) : tRetN ⟨n, rt, bk, ct⟩ σ H := h
theorem i_next (h : n σ H) : tNext ⟨n, rt, bk, ct⟩ σ H := h
theorem i_cont (h : ct σ H) : tCont ⟨n, rt, bk, ct⟩ σ H := h
theorem i_break (h : bk σ H) : tBreak ⟨n, rt, bk, ct⟩ σ H := h
def Br (b : Bool) (s u : TS) (D : Ends) (σ : Sl) (H : Hp) : Prop := if b = true then s D σ H else u D σ H
theorem i_if (h : tt σ H fun b H1 => Br b s u ⟨n, rt, bk, ct⟩ σ H1) : tIfS tt s u ⟨n, rt, bk, ct⟩ σ H := h
theorem br_t {D : Ends} (h : s D σ H) : Br true s u D σ H := h
theorem br_f {D : Ends} (h : u D σ H) : Br false s u D σ H := h
theorem br_nt {D : Ends} (h : u D σ H) : Br (!true) s u D σ H := h
theorem br_nf {D : Ends} (h : s D σ H) : Br (!false) s u D σ H := h
theorem br_d {D : Ends} {p : Prop} [Decidable p] (h1 : p → s D σ H) (h2 : ¬ p → u D σ H) : Br (decide p) s u D σ H := io_d h1 h2
theorem br_nd {D : Ends} {p : Prop} [Decidable p] (h1 : ¬ p → s D σ H) (h2 : p → u D σ H) : Br (!decide p) s u D σ H := io_nd h1 h2
theorem o_ip {f : Int → Int → Int} {a b : Int} (h : Q (.int (f a b)) H) : ipI f (.int a) (.int b) H Q := ⟨a, b, rfl, rfl, h⟩
theorem br {D : Ends} {b : Bool} (h1 : b = true → s D σ H) (h2 : b = false → u D σ H) : Br b s u D σ H := by
  cases b
  · exact h2 rfl
  · exact h1 rfl
theorem i_dput (h : tv σ H fun v H1 => td σ H1 fun x H2 => ty σ H2 fun y H3 => ∃ a H4, x = .ref a ∧ DPut H3 a y v H4 ∧ n σ H4) : sDPut td ty tv ⟨n, rt, bk, ct⟩ σ H := h
theorem i_sfld {f : Str} (h : tv σ H fun y H1 => ta σ H1 fun x H2 => ∃ a C dx fs, x = .ref a ∧ H2 a = some (.ins C dx fs) ∧ Cls K C ∧ NoAttr K C f ∧ fs.length < 1000 ∧ n σ (upd H2 a (.ins C dx (putF f y fs)))) : sFld K ta tv f ⟨n, rt, bk, ct⟩ σ H := h
theorem i_aug {ti : TIp} (hx : σ[i]? = some (some x)) (h : te σ H fun y H1 => ti x y H1 fun z H2 => n (σ.set i (some z)) H2) : tAug i te ti ⟨n, rt, bk, ct⟩ σ H := ⟨x, hx, h⟩
/-! ### expressions -/
theorem i_var (e : σ[i]? = some (some v)) (h : Q v H) : tVar i σ H Q := ⟨v, e, h⟩
theorem i_c (h : Q v H) : tC v σ H Q := h
theorem i_nil {N : List V → Hp → Prop} (h : N [] H) : tNil σ H N := h
theorem i_cons {N : List V → Hp → Prop} (h : ta σ H fun x H1 => tr σ H1 fun xs H2 => N (x :: xs) H2) : tCons ta tr σ H N := h
theorem i_cb {rc : List V → Hp → VK → Prop} (h : t σ H fun vs H1 => rc vs H1 Q) : tCB rc t σ H Q := h
theorem i_fn {sp : Sp} (h : t σ H fun vs H1 => sp vs H1 Q E0) : tFn sp t σ H Q := h
theorem i_op (h : ta σ H fun x H1 => tb σ H1 fun y H2 => r x y H2 Q) : tOp r ta tb σ H Q := h
theorem i_tup (h : t σ H fun xs H1 => xs.length ≤ sizeLine ∧ ∀ p, H1 p = none → Q (.ref p) (upd H1 p (.tup xs))) : tTup t σ H Q := h
theorem i_lst (h : t σ H fun xs H1 => xs.length ≤ sizeLine ∧ ∀ p, H1 p = none → Q (.ref p) (upd H1 p (.lst xs))) : tLst t σ H Q := h
theorem i_dget (h : td σ H fun x H1 => ty σ H1 fun y H2 => ∃ a v, x = .ref a ∧ DGet H2 a y (some v) ∧ Q v H2) : tDGet td ty σ H Q := h
theorem i_din (h : ty σ H fun y H1 => td σ H1 fun x H2 => ∃ a o, x = .ref a ∧ DGet H2 a y o ∧ Q (.bl o.isSome) H2) : tDIn ty td σ H Q := h
theorem i_dnotin (h : ty σ H fun y H1 => td σ H1 fun x H2 => ∃ a o, x = .ref a ∧ DGet H2 a y o ∧ Q (.bl (!o.isSome)) H2) : tDNotIn ty td σ H Q := h
theorem i_dnewK (h : ∀ p, H p = none → Q (.ref p) (upd H p (.dK []))) : tDNewK σ H Q := h
theorem i_dnewT (h : ∀ p, H p = none → Q (.ref p) (upd H p (.dT []))) : tDNewT σ H Q := h
theorem i_fld {f : Str} (h : ta σ H fun x H1 => ∃ a C dx fs v, x = .ref a ∧ H1 a = some (.ins C dx fs) ∧ Cls K C ∧ NoAttr K C f ∧ fs.lookup f = some v ∧ Q v H1) : tFld K ta f σ H Q := h
theorem i_bm0 {T : String} {rm : V → List V → Hp → VK → Prop} (h : ta σ H fun x H1 => tyV K T x H1 ∧ rm x [] H1 Q) : tBM0 K T rm ta σ H Q := h
theorem i_bm {T : String} {rm : V → List V → Hp → VK → Prop} (h : ta σ H fun x H1 => tyV K T x H1 ∧ t σ H1 fun xs H2 => rm x xs H2 Q) : tBM K T rm ta t σ H Q := h
theorem i_sl {rs : V → Option Int → Option Int → Hp → VK → Prop} {tl th : TO} (h : te σ H fun x H1 => tl σ H1 fun l H2 => th σ H2 fun u H3 => rs x l u H3 Q) : tSl rs te tl th σ H Q := h
theorem i_noPart {N : Option Int → Hp → Prop} (h : N none H) : tNoPart σ H N := h
theorem i_part {N : Option Int → Hp → Prop} (h : te σ H fun x H1 => ∃ i, x = .int i ∧ N (some i) H1) : tPart te σ H N := h
theorem i_chain {r' : R2} (h : ta σ H fun x H1 => tb σ H1 fun y H2 => r x y H2 fun z H3 => ∃ k, z = .bl k ∧ Io k (tc σ H3 fun w' H4 => r' y w' H4 Q) (Q (.bl false) H3)) : tChain r r' ta tb tc σ H Q := h
theorem i_notV (h : ta σ H fun x H1 => ∃ c, x = .bl c ∧ Q (.bl (!c)) H1) : tNotV ta σ H Q := h
theorem i_andV (h : ta σ H fun x H1 => ∃ c, x = .bl c ∧ Io c (tb σ H1 Q) (Q (.bl false) H1)) : tAndV ta tb σ H Q := h
theorem i_orV (h : ta σ H fun x H1 => ∃ c, x = .bl c ∧ Io c (Q (.bl true) H1) (tb σ H1 Q)) : tOrV ta tb σ H Q := h
theorem i_methR {C : Addr} {m : Str} {sp : Sp} {E : XK} (h : ta σ H fun x H1 => ∃ a dx fs, x = .ref a ∧ H1 a = some (.ins C dx fs) ∧ fs.lookup m = none ∧ t σ H1 fun vs H2 => sp (x :: vs) H2 Q E) : tMethR C m sp E ta t σ H Q := h
/-! ### tests -/
theorem i_test {N : Bool → Hp → Prop} (h : te σ H fun x H' => ∃ k, x = .bl k ∧ N k H') : tTest te σ H N := h
theorem i_tB {N : Bool → Hp → Prop} (h : te σ H fun x H1 => ∃ c, x = .bl c ∧ N c H1) : tB te σ H N := h
theorem i_not {N : Bool → Hp → Prop} (h : tt σ H fun c H1 => N (!c) H1) : tNot tt σ H N := h
theorem i_and {N : Bool → Hp → Prop} (h : tt σ H fun c H1 => Io c (uu σ H1 N) (N false H1)) : tAnd tt uu σ H N := h
theorem i_or {N : Bool → Hp → Prop} (h : tt σ H fun c H1 => Io c (N true H1) (uu σ H1 N)) : tOr tt uu σ H N := h
theorem ibl {b : Bool} {N : Bool → Hp → Prop} (h : N b H) : ∃ k, V.bl b = .bl k ∧ N k H := ⟨b, rfl, h⟩
theorem i_yes {N : Bool → Hp → Prop} (h : N true H) : tYes σ H N := h
/-! ### operators on values -/
theorem e_ref {p : Addr → Prop} {a : Addr} (h : p a) : ∃ a', V.ref a = .ref a' ∧ p a' := ⟨a, rfl, h⟩
theorem e_str {p : Str → Prop} {a : Str} (h : p a) : ∃ a', V.str a = .str a' ∧ p a' := ⟨a, rfl, h⟩
theorem e_int {p : Int → Prop} {a : Int} (h : p a) : ∃ a', V.int a = .int a' ∧ p a' := ⟨a, rfl, h⟩
theorem e_bl {p : Bool → Prop} {a : Bool} (h : p a) : ∃ a', V.bl a = .bl a' ∧ p a' := ⟨a, rfl, h⟩
theorem e_str1 {p : Str → Prop} {a : Str} (h : p a) : ∃ a', [V.str a] = [.str a'] ∧ p a' := ⟨a, rfl, h⟩
theorem e_int2 {p : Int → Int → Prop} {a b : Int} (h : p a b) : ∃ i j, V.int a = .int i ∧ V.int b = .int j ∧ p i j := ⟨a, b, rfl, rfl, h⟩
theorem e_str2 {p : Str → Str → Prop} {a b : Str} (h : p a b) : ∃ i j, V.str a = .str i ∧ V.str b = .str j ∧ p i j := ⟨a, b, rfl, rfl, h⟩
theorem e_int1 {p : Int → Prop} {q : Prop} {i : Int} (h : p i) : (∃ j, [V.int i] = [.int j] ∧ p j) ∨ q := .inl ⟨i, rfl, h⟩
theorem o_I0 {f : Int → Int → V} {a b : Int} (h : Q (f a b) H) : rI0 f (.int a) (.int b) H Q := ⟨a, b, rfl, rfl, h⟩
theorem o_I {C : Int → Int → Prop} {f : Int → Int → V} {a b : Int} (hc : C a b) (h : Q (f a b) H) : rI C f (.int a) (.int b) H Q := ⟨a, b, rfl, rfl, hc, h⟩
theorem o_eqS {a b : Str} (h : Q (.bl (decide (a = b))) H) : rEq (.str a) (.str b) H Q := ⟨rfl, by rw [show decide (V.str a = V.str b) = decide (a = b) by simp]; exact h⟩
theorem o_neS {a b : Str} (h : Q (.bl (!decide (a = b))) H) : rNe (.str a) (.str b) H Q := ⟨rfl, by rw [show decide (V.str a = V.str b) = decide (a = b) by simp]; exact h⟩
theorem o_eqI {a b : Int} (h : Q (.bl (decide (a = b))) H) : rEq (.int a) (.int b) H Q := ⟨rfl, by rw [show decide (V.int a = V.int b) = decide (a = b) by simp]; exact h⟩
theorem o_neI {a b : Int} (h : Q (.bl (!decide (a = b))) H) : rNe (.int a) (.int b) H Q := ⟨rfl, by rw [show decide (V.int a = V.int b) = decide (a = b) by simp]; exact h⟩
theorem o_eqB {a b : Bool} (h : Q (.bl (decide (a = b))) H) : rEq (.bl a) (.bl b) H Q := ⟨rfl, by rw [show decide (V.bl a = V.bl b) = decide (a = b) by simp]; exact h⟩
end
end GR
end
section
set_option Elab.async false
set_option linter.all false
set_option maxRecDepth 100000
set_option maxHeartbeats 4000000
/-! Dicts as lists of keys with a function, loops, comprehensions. -/
namespace GR
open PySem PySem.Spec L2
open Evl (Ex)

/-! ### a dict: its keys in order, what each holds -/
section
variable {α κ : Type} [DecidableEq α] [DecidableEq κ]
def kd (j : α → κ) (ks : List α) (f : α → V) : List (κ × V) := ks.map fun x => (j x, f x)
def addk (ks : List α) (x : α) : List α := if x ∈ ks then ks else ks ++ [x]
def setf {β : Type} (f : α → β) (x : α) (v : β) : α → β := fun y => if y = x then v else f y
theorem setf_same {β : Type} (f : α → β) (x : α) (v : β) : setf f x v x = v := by unfold setf; rw [if_pos rfl]
theorem setf_ne {β : Type} (f : α → β) {x y : α} (v : β) (h : y ≠ x) : setf f x v y = f y := by unfold setf; rw [if_neg h]
theorem addk_in {ks : List α} {x : α} (h : x ∈ ks) : addk ks x = ks := by unfold addk; rw [if_pos h]
theorem addk_new {ks : List α} {x : α} (h : x ∉ ks) : addk ks x = ks ++ [x] := by unfold addk; rw [if_neg h]
theorem mem_addk {ks : List α} {x y : α} : y ∈ addk ks x ↔ y ∈ ks ∨ y = x := by
  unfold addk
  split
  · rename_i h
    exact ⟨.inl, fun z => z.elim id fun e => e ▸ h⟩
  · rw [List.mem_append, List.mem_singleton]
theorem nd_addk {ks : List α} {x : α} (h : ks.Nodup) : (addk ks x).Nodup := by
  unfold addk
  split
  · exact h
  · rename_i hx
    refine List.nodup_append.mpr ⟨h, List.nodup_cons.mpr ⟨List.not_mem_nil, List.nodup_nil⟩, fun a ha b hb e => ?_⟩
    rw [List.mem_singleton.mp hb] at e
    exact hx (e ▸ ha)
theorem kd_nil (j : α → κ) (f : α → V) : kd j [] f = [] := rfl
theorem kd_length (j : α → κ) (ks : List α) (f : α → V) : (kd j ks f).length = ks.length := List.length_map ..
theorem kd_congr {j : α → κ} {ks : List α} {f g : α → V} (h : ∀ x ∈ ks, f x = g x) : kd j ks f = kd j ks g := by
  unfold kd
  exact List.map_congr_left fun x hx => by rw [h x hx]
theorem valV_kd {j : α → κ} (hj : ∀ a b, j a = j b → a = b) (f : α → V) (x : α) : ∀ ks : List α, valV (kd j ks f) (j x) = if x ∈ ks then some (f x) else none
  | [] => by rw [if_neg List.not_mem_nil]; rfl
  | y :: r => by
    by_cases e : y = x
    · subst e
      rw [if_pos List.mem_cons_self]
      exact valV_pos (p := (j y, f y)) rfl
    · have e2 : ¬ j y = j x := fun q => e (hj _ _ q)
      have step : valV (kd j (y :: r) f) (j x) = valV (kd j r f) (j x) := valV_neg (p := (j y, f y)) e2
      rw [step, valV_kd hj f x r]
      by_cases m : x ∈ r
      · rw [if_pos m, if_pos (List.mem_cons_of_mem _ m)]
      · rw [if_neg m, if_neg fun z => (List.mem_cons.mp z).elim (fun q => e q.symm) m]
theorem putK_kd {j : α → κ} (hj : ∀ a b, j a = j b → a = b) (ks : List α) (f : α → V) (x : α) (v : V) : putK (kd j ks f) (j x) v = kd j (addk ks x) (setf f x v) := by
  by_cases m : x ∈ ks
  · rw [addk_in m]
    unfold putK
    rw [valV_any, valV_kd hj, if_pos m]
    rw [if_pos (show (some (f x)).isSome = true from rfl)]
    unfold kd
    rw [List.map_map]
    refine List.map_congr_left fun y _ => ?_
    show (if j y = j x then (j y, v) else (j y, f y)) = (j y, setf f x v y)
    by_cases e : y = x
    · subst e; rw [if_pos rfl, setf_same]
    · rw [if_neg fun q => e (hj _ _ q), setf_ne f v e]
  · rw [addk_new m, putK_new v (by rw [valV_kd hj, if_neg m])]
    unfold kd
    rw [List.map_append]
    have e1 : (ks.map fun y => (j y, f y)) = ks.map fun y => (j y, setf f x v y) := List.map_congr_left fun y hy => by rw [setf_ne f v (y := y) (x := x) (fun e => m (by rw [← e]; exact hy))]
    rw [e1]
    show _ ++ [(j x, v)] = _ ++ [(j x, setf f x v x)]
    rw [setf_same]
end
theorem inrS (a b : Str) (h : (Sum.inr a : Key) = Sum.inr b) : a = b := Sum.inr.inj h
abbrev jS : Str → Key := Sum.inr
abbrev jN : Nat → Key := fun n => Sum.inl (n : Int)
theorem jN_inj (a b : Nat) (h : jN a = jN b) : a = b := Int.ofNat.inj (Sum.inl.inj h)
/-- a dict of names -/
abbrev sd (ks : List Str) (f : Str → V) : HO := .dK (kd jS ks f)
section
variable {σ : Sl} {H H' H1 : Hp} {Q : VK} {v x y : V} {i : Nat} {a d : Addr} {ks : List Str} {f : Str → V} {s : Str} {n : Sl → Hp → Prop}
theorem kd_get {p : V → Prop} (h : Rd H a (sd ks f)) (hx : s ∈ ks) (q : p (f s)) : ∃ a' v, V.ref a = .ref a' ∧ DGet H a' (.str s) (some v) ∧ p v :=
  ⟨a, f s, rfl, .inl ⟨_, .inr s, h, rfl, by rw [valV_kd inrS, if_pos hx]⟩, q⟩
theorem kd_o (h : Rd H a (sd ks f)) : DGet H a (.str s) (if s ∈ ks then some (f s) else none) := .inl ⟨_, .inr s, h, rfl, by rw [valV_kd inrS]⟩
theorem kd_some : (if s ∈ ks then some (f s) else none).isSome = decide (s ∈ ks) := by
  by_cases m : s ∈ ks
  · rw [if_pos m, decide_eq_true m]; rfl
  · rw [if_neg m, decide_eq_false m]; rfl
theorem kd_in {p : Option V → Prop} (h : Rd H a (sd ks f)) (q : ∀ o : Option V, o.isSome = decide (s ∈ ks) → p o) : ∃ a' o, V.ref a = .ref a' ∧ DGet H a' (.str s) o ∧ p o :=
  ⟨a, _, rfl, kd_o h, q _ kd_some⟩
theorem kd_put {p : Hp → Prop} (h : H a = some (sd ks f)) (hl : ks.length < sizeLine) (q : p (upd H a (sd (addk ks s) (setf f s v)))) : ∃ a' H4, V.ref a = .ref a' ∧ DPut H a' (.str s) v H4 ∧ p H4 :=
  ⟨a, _, rfl, .inl ⟨_, .inr s, h, rfl, by rw [kd_length]; exact hl, rfl⟩, by rw [show (Sum.inr s : Key) = jS s from rfl, putK_kd inrS]; exact q⟩
end
theorem small {n : Nat} (h : n ≤ 1000) : n ≤ sizeLine := Nat.le_of_lt (small1000 h)

/-! ### heaps: what stays -/
/-- off one place -/
def Exo (d : Addr) (H H' : Hp) : Prop := ∀ b o, b ≠ d → H b = some o → H' b = some o
theorem rd_ex {H H' : Hp} {a : Addr} {u : HO} (e : Ex H H') (h : Rd H a u) : Rd H' a u := Evl.ex_rd e h
theorem rd_lock {H : Hp} {a d : Addr} {u w : HO} {od : Obj} (hd : H d = some u) (mu : Mut (some u)) (h : Rd H a w) : Rd (upd H d (.frz od u)) a w := by
  by_cases e : a = d
  · subst e
    rcases h with h | ⟨o, h⟩
    · rw [hd] at h
      cases h
      exact .inr ⟨od, upd_same⟩
    · rw [hd] at h
      cases h
      exact mu.elim
  · unfold Rd
    rw [upd_ne e]
    exact h
theorem ex_unlock {H H' : Hp} {d : Addr} {u w : HO} (hd : H d = some u) (e : Ex (upd H d w) H') : Ex H (upd H' d u) := fun b o h => by
  by_cases q : b = d
  · subst q
    rw [hd] at h
    rw [upd_same]
    exact h
  · rw [upd_ne q]
    exact e b o (by rw [upd_ne q]; exact h)
theorem upd_self {H : Hp} {d : Addr} {u : HO} (h : H d = some u) : upd H d u = H := by
  funext b
  unfold upd
  split
  · rename_i e; rw [e, h]
  · rfl

/-! ### loops -/
section
variable {σ : Sl} {H H' H1 : Hp} {Q : VK} {n bk ct : Sl → Hp → Prop} {rt : VK} {g : TG} {tb s : TS} {J : It} {k : Nat} {G : Hp → Prop} {Y : Nat → Hp → V → Hp → Prop} {K : PySem.W.Frag} {wi : TI}
def Loop (g : TG) (tb : TS) (D : Ends) (σ : Sl) (J : It) (H : Hp) : Prop := ∃ W : Nat → Nat → Sl → Hp → Prop, (∃ m, W 0 m σ H) ∧ ∀ i m σ H, W i m σ H →
  (J.stop i H ∧ D.nx σ H) ∨ (J.go i H ∧ ∃ N : Sl → Hp → Prop, (∀ σ' H', N σ' H' → ∃ m', m' < m ∧ W (i + 1) m' σ' H') ∧ ∀ x H', J.yld i H x H' → g x σ H' fun σ2 H2 => tb ⟨N, D.rt, D.nx, N⟩ σ2 H2)
theorem i_for (h : wi σ H fun J H1 => Loop g tb ⟨n, rt, bk, ct⟩ σ J H1) : tFor wi g tb ⟨n, rt, bk, ct⟩ σ H := h
theorem loop_of (w : Walk J k G Y) (Pv : Nat → Sl → Hp → Prop) (h0 : Pv 0 σ H) (hG : ∀ i σ H, i ≤ k → Pv i σ H → G H)
    (hs : ∀ i x σ H H', i < k → Pv i σ H → Y i H x H' → g x σ H' fun σ2 H2 => tb ⟨Pv (i + 1), rt, n, Pv (i + 1)⟩ σ2 H2) (hd : ∀ σ H, Pv k σ H → n σ H) : Loop g tb ⟨n, rt, bk, ct⟩ σ J H :=
  for_it (D := ⟨n, rt, bk, ct⟩) w Pv h0 hG hs hd
/-- for x in a list of values that stays -/
theorem forL {a : Addr} {xs : List V} (hx : H a = some (.lst xs)) (Pv : Nat → Sl → Hp → Prop) (h0 : Pv 0 σ H) (hG : ∀ i σ H, i ≤ xs.length → Pv i σ H → SqL K H a xs)
    (hs : ∀ i x σ H, xs[i]? = some x → Pv i σ H → g x σ H fun σ2 H2 => tb ⟨Pv (i + 1), rt, n, Pv (i + 1)⟩ σ2 H2) (hd : ∀ σ H, Pv xs.length σ H → n σ H) :
    (∃ ys, SqL K H a ys) ∧ Loop g tb ⟨n, rt, bk, ct⟩ σ (Itl K a) H :=
  ⟨⟨xs, SqL.of hx⟩, loop_of walk_list Pv h0 hG (fun i x σ H H' _ p y => by obtain ⟨rfl, e⟩ := y; exact hs i x σ _ e p) hd⟩
theorem forT {a : Addr} {xs : List V} (hx : H a = some (.tup xs)) (Pv : Nat → Sl → Hp → Prop) (h0 : Pv 0 σ H) (hG : ∀ i σ H, i ≤ xs.length → Pv i σ H → SqT K H a xs)
    (hs : ∀ i x σ H, xs[i]? = some x → Pv i σ H → g x σ H fun σ2 H2 => tb ⟨Pv (i + 1), rt, n, Pv (i + 1)⟩ σ2 H2) (hd : ∀ σ H, Pv xs.length σ H → n σ H) :
    (∃ ys, SqT K H a ys) ∧ Loop g tb ⟨n, rt, bk, ct⟩ σ (Itt K a) H :=
  ⟨⟨xs, SqT.of hx⟩, loop_of walk_tup Pv h0 hG (fun i x σ H H' _ p y => by obtain ⟨rfl, e⟩ := y; exact hs i x σ _ e p) hd⟩
theorem i_iList {tl : TE} {R : It → Hp → Prop} (h : tl σ H fun x H1 => ∃ a, x = .ref a ∧ (∃ xs, SqL K H1 a xs) ∧ R (Itl K a) H1) : iList K tl σ H R := h
theorem i_iTup {tl : TE} {R : It → Hp → Prop} (h : tl σ H fun x H1 => ∃ a, x = .ref a ∧ (∃ xs, SqT K H1 a xs) ∧ R (Itt K a) H1) : iTup K tl σ H R := h
theorem i_iKeys {td : TE} {R : It → Hp → Prop} (h : td σ H fun x H1 => ∃ d o, x = .ref d ∧ ((∃ kvs, H1 d = some (.frz o (.dK kvs)) ∧ R (Itk d o kvs) H1) ∨ ∃ kvs, H1 d = some (.frz o (.dT kvs)) ∧ R (Itkt d o kvs) H1)) : iKeys td σ H R := h
theorem i_iRng1 {ta : TA} {R : It → Hp → Prop} (h : ta σ H fun vs H1 => ∃ j : Int, vs = [.int j] ∧ -(2 ^ 62) ≤ j ∧ j < 2 ^ 62 ∧ R (Itr 0 j.toNat) H1) : iRng1 ta σ H R := h
theorem i_iRng2 {ta : TA} {R : It → Hp → Prop} (h : ta σ H fun vs H1 => ∃ i j : Int, vs = [.int i, .int j] ∧ (-(2 ^ 62) ≤ i ∧ i < 2 ^ 62 ∧ -(2 ^ 62) ≤ j ∧ j < 2 ^ 62) ∧ R (Itr i (j - i).toNat) H1) : iRng2 ta σ H R := h
theorem i_iStr {te : TE} {R : It → Hp → Prop} (h : te σ H fun v H1 => ∃ x, v = .str x ∧ R (Its x) H1) : iStr te σ H R := h
theorem i_iEnum {ta : TA} {R : It → Hp → Prop} (h : ta σ H fun vs H1 => ∃ a xs, vs = [.ref a] ∧ SqL K H1 a xs ∧ R (Ite K a) H1) : iEnum K ta σ H R := h
theorem i_iVals {td : TE} {R : It → Hp → Prop} (h : td σ H fun x H1 => ∃ d o kvs, x = .ref d ∧ H1 d = some (.frz o (.dK kvs)) ∧ R (Itd d o kvs) H1) : iVals td σ H R := h
theorem i_iItems {td : TE} {R : It → Hp → Prop} (h : td σ H fun x H1 => ∃ d o kvs, x = .ref d ∧ H1 d = some (.frz o (.dK kvs)) ∧ R (Iti d o kvs) H1) : iItems td σ H R := h
/-- for i in range(m) -/
theorem forR {m : Nat} (hm : m ≤ 1000000) (Pv : Nat → Sl → Hp → Prop) (h0 : Pv 0 σ H) (hs : ∀ i σ H, i < m → Pv i σ H → g (.int (i : Int)) σ H fun σ2 H2 => tb ⟨Pv (i + 1), rt, n, Pv (i + 1)⟩ σ2 H2) (hd : ∀ σ H, Pv m σ H → n σ H) :
    ∃ j : Int, [V.int (m : Int)] = [.int j] ∧ -(2 ^ 62) ≤ j ∧ j < 2 ^ 62 ∧ Loop g tb ⟨n, rt, bk, ct⟩ σ (Itr 0 j.toNat) H :=
  ⟨m, rfl, by omega, by omega, loop_of (k := m) walk_range Pv h0 (fun _ _ _ _ _ => trivial) (fun i x σ H H' hi p y => by
    obtain ⟨rfl, rfl⟩ := y
    have := hs i σ H' hi p
    show g (.int (0 + (i : Int))) σ H' _
    rw [show (0 : Int) + (i : Int) = i by omega]
    exact this) hd⟩
/-- the dict is locked -/
theorem i_lock {d : Addr} {u : HO} (h : H d = some u) (mu : Mut (some u))
    (q : ∀ od, s ⟨fun σ' H' => H' d = some (.frz od u) ∧ n σ' (upd H' d u), fun v H' => H' d = some (.frz od u) ∧ rt v (upd H' d u), fun σ' H' => H' d = some (.frz od u) ∧ bk σ' (upd H' d u), fun σ' H' => H' d = some (.frz od u) ∧ ct σ' (upd H' d u)⟩ σ (upd H d (.frz od u))) : tLock s ⟨n, rt, bk, ct⟩ σ H :=
  ⟨d, u, h, mu, q⟩
theorem i_lockE {te : TE} {d : Addr} {u : HO} (h : H d = some u) (mu : Mut (some u)) (q : ∀ od, te σ (upd H d (.frz od u)) fun v H' => H' d = some (.frz od u) ∧ Q v (upd H' d u)) : tLockE te σ H Q := ⟨d, u, h, mu, q⟩
/-- for k in d, d locked -/
theorem forK {d : Addr} {o : Obj} {ks : List Str} {f : Str → V} (hx : H d = some (.frz o (sd ks f))) (Pv : Nat → Sl → Hp → Prop) (h0 : Pv 0 σ H) (hG : ∀ i σ H, i ≤ ks.length → Pv i σ H → H d = some (.frz o (sd ks f)))
    (hs : ∀ i x σ H, ks[i]? = some x → Pv i σ H → g (.str x) σ H fun σ2 H2 => tb ⟨Pv (i + 1), rt, n, Pv (i + 1)⟩ σ2 H2) (hd : ∀ σ H, Pv ks.length σ H → n σ H) :
    ∃ d' o', V.ref d = .ref d' ∧ ((∃ kvs, H d' = some (.frz o' (.dK kvs)) ∧ Loop g tb ⟨n, rt, bk, ct⟩ σ (Itk d' o' kvs) H) ∨ ∃ kvs, H d' = some (.frz o' (.dT kvs)) ∧ Loop g tb ⟨n, rt, bk, ct⟩ σ (Itkt d' o' kvs) H) := by
  refine ⟨d, o, rfl, .inl ⟨_, hx, loop_of (k := ks.length) (by rw [← kd_length jS ks f]; exact walk_keys) Pv h0 hG (fun i x σ H H' hi p y => ?_) hd⟩⟩
  obtain ⟨rfl, k, v, e, rfl⟩ := y
  unfold kd at e
  rw [List.getElem?_map] at e
  obtain ⟨z, hz, e2⟩ := Option.map_eq_some_iff.mp e
  injection e2 with e3 e4
  subst e3
  exact hs i z σ H' hz p
/-- while c: W by a number that falls -/
theorem i_while {c : TT} (W : Nat → Sl → Hp → Prop) (m : Nat) (h0 : W m σ H) (hs : ∀ m σ H, W m σ H → c σ H fun b H1 => if b = true then ∃ N : Sl → Hp → Prop, (∀ σ' H', N σ' H' → ∃ m', m' < m ∧ W m' σ' H') ∧ tb ⟨N, rt, n, N⟩ σ H1 else n σ H1) : tWhile c tb ⟨n, rt, bk, ct⟩ σ H :=
  ⟨W, ⟨m, h0⟩, hs⟩
end
end GR
end
section
set_option Elab.async false
set_option linter.all false
set_option maxRecDepth 100000
set_option maxHeartbeats 4000000
set_option autoImplicit false
/-! Operators, built-in calls over tracked lists and tuples, in words without the written part. -/
namespace GR
open PySem PySem.Spec L2
open Evl (Ex)

section
variable {X : Cx}
theorem pe_ty {x : Str} {n : String} {pos : Pos} (hm : X.mg x = none) (hv : bootBuiltins x = some (.type n)) (hg : Gl X x := by rfl) (hn : x ≠ "__name__" := by decide) (hd : (x == ("__debug__" : Str)) = false := by decide) : PE X (.Name x pos) (tC (.ty n)) :=
  pe_bltn hg hm hv rfl hn hd
/-! ### items, slices -/
def oIxL : R2 := fun x y H Q => ∃ (p : Addr) (xs : List V) (i : Int) (v : V), x = .ref p ∧ y = .int i ∧ H p = some (.lst xs) ∧ atI xs i = some v ∧ Q v H
def oIxT : R2 := fun x y H Q => ∃ (p : Addr) (xs : List V) (i : Int) (v : V), x = .ref p ∧ y = .int i ∧ H p = some (.tup xs) ∧ atI xs i = some v ∧ Q v H
def oIxU : R2 := fun x y H Q => oIxL x y H Q ∨ oIxT x y H Q
theorem ixL : IxR X oIxL := fun value slice pins s σ H x y v u Q I rx ry ⟨p, xs, i, z, e1, e2, e3, e4, q⟩ hs => ix_list value slice pins s σ H x y v u Q I rx ry ⟨p, xs, i, z, e1, e2, SqL.of e3, e4, q⟩ hs
theorem ixT : IxR X oIxT := fun value slice pins s σ H x y v u Q I rx ry ⟨p, xs, i, z, e1, e2, e3, e4, q⟩ hs => ix_tup value slice pins s σ H x y v u Q I rx ry ⟨p, xs, i, z, e1, e2, SqT.of e3, e4, q⟩ hs
theorem ixU : IxR X oIxU := ixL.or ixT
theorem ixS : IxR X rIxS := ix_str
def oSlL : V → Option Int → Option Int → Hp → VK → Prop := fun x lo hi H Q => ∃ (a : Addr) (xs : List V), x = .ref a ∧ H a = some (.lst xs) ∧ ∀ p, H p = none → Q (.ref p) (upd H p (.lst (cutV xs lo hi)))
def oSlT : V → Option Int → Option Int → Hp → VK → Prop := fun x lo hi H Q => ∃ (a : Addr) (xs : List V), x = .ref a ∧ H a = some (.tup xs) ∧ ¬ (HT.sIx xs.length 0 lo = 0 ∧ HT.sIx xs.length xs.length hi = xs.length) ∧ ∀ p, H p = none → Q (.ref p) (upd H p (.tup (cutV xs lo hi)))
theorem slL : SlR X oSlL := fun pins s σ H x v vl vu lo hi sl Q I rx hs pl pu ⟨a, xs, e1, e2, q⟩ => sl_list pins s σ H x v vl vu lo hi sl Q I rx hs pl pu ⟨a, xs, e1, SqL.of e2, q⟩
theorem slT : SlR X oSlT := fun pins s σ H x v vl vu lo hi sl Q I rx hs pl pu ⟨a, xs, e1, e2, e3, q⟩ => sl_tup pins s σ H x v vl vu lo hi sl Q I rx hs pl pu ⟨a, xs, e1, SqT.of e2, e3, q⟩
theorem i_revL {σ : Sl} {H : Hp} {Q : VK} {K : PySem.W.Frag} {te : TE} (h : te σ H fun x H1 => ∃ a xs, x = .ref a ∧ SqL K H1 a xs ∧ ∀ p, H1 p = none → Q (.ref p) (upd H1 p (.lst xs.reverse))) : tRevL K te σ H Q := h
/-! ### in, +, == -/
/-- a flat value in a list or tuple of flat ones -/
def oIn (neg : Bool) : R2 := fun x y H Q => ∃ (p : Addr) (xs : List V), y = .ref p ∧ (H p = some (.lst xs) ∨ H p = some (.tup xs)) ∧ flatV x = true ∧ xs.all flatV = true ∧ Q (.bl (neg != inV x xs)) H
theorem opIn : OpR X (compareOp .In) (oIn false) := fun pins s σ H x y v u Q I rx ry ⟨p, xs, e1, e2, e3, e4, q⟩ => op_in_seq pins s σ H x y v u Q I rx ry ⟨p, xs, e1, e2.imp SqL.of SqT.of, e3, e4, by
  show Q (.bl (if false = true then !inV x xs else inV x xs)) H
  rw [if_neg Bool.false_ne_true]
  rw [show inV x xs = (false != inV x xs) by cases inV x xs <;> rfl]
  exact q⟩
theorem opNotIn : OpR X (compareOp .NotIn) (oIn true) := fun pins s σ H x y v u Q I rx ry ⟨p, xs, e1, e2, e3, e4, q⟩ => op_notIn_seq pins s σ H x y v u Q I rx ry ⟨p, xs, e1, e2.imp SqL.of SqT.of, e3, e4, by
  show Q (.bl (if true = true then !inV x xs else inV x xs)) H
  rw [if_pos rfl]
  rw [show (!inV x xs) = (true != inV x xs) by cases inV x xs <;> rfl]
  exact q⟩
def oCatT : R2 := fun x y H Q => ∃ (a b : Addr) (xs ys : List V), x = .ref a ∧ y = .ref b ∧ H a = some (.tup xs) ∧ H b = some (.tup ys) ∧ xs.length + ys.length ≤ sizeLine ∧
  (xs = [] → Q (.ref b) H) ∧ (xs ≠ [] → ys = [] → Q (.ref a) H) ∧ (xs ≠ [] → ys ≠ [] → ∀ p, H p = none → Q (.ref p) (upd H p (.tup (xs ++ ys))))
theorem opCatT : OpR X (binaryOp .Add) oCatT := fun pins s σ H x y v u Q I rx ry ⟨a, b, xs, ys, e1, e2, e3, e4, e5, q0, q1, q2⟩ => op_catA pins s σ H x y v u Q I rx ry ⟨a, b, xs, ys, e1, e2, SqT.of e3, SqT.of e4, e5, q0, q1, q2⟩
theorem strOk_all : ∀ {ss : List Str}, (∀ s ∈ ss, PyData.strOk s = true) → PyData.canLayAll0 (ss.map PyData.str) = true
  | [], _ => by simp [PyData.canLayAll0]
  | s :: r, h => by
    show PyData.canLayAll0 (PyData.str s :: r.map PyData.str) = true
    rw [PyData.canLayAll0, strOk_all fun x hx => h x (List.mem_cons_of_mem _ hx)]
    rw [show PyData.canLay0 (.str s) = PyData.strOk s by simp [PyData.canLay0], h s List.mem_cons_self]
    rfl
theorem depth_strs : ∀ ss : List Str, PyData.depthAll (ss.map PyData.str) = 0
  | [] => by simp [PyData.depthAll]
  | s :: r => by
    show PyData.depthAll (PyData.str s :: r.map PyData.str) = 0
    rw [PyData.depthAll, depth_strs r]
    simp [PyData.depth]
theorem eqv_strs : ∀ xs ys : List Str, PyData.eqvAll (xs.map PyData.str) (ys.map PyData.str) = decide (xs = ys)
  | [], [] => by simp [PyData.eqvAll]
  | [], y :: ys => by simp [PyData.eqvAll]
  | x :: xs, [] => by simp [PyData.eqvAll]
  | x :: xs, y :: ys => by
    show PyData.eqvAll (PyData.str x :: xs.map PyData.str) (PyData.str y :: ys.map PyData.str) = _
    rw [PyData.eqvAll, eqv_strs xs ys]
    by_cases e : x = y <;> by_cases e2 : xs = ys <;> simp [PyData.eqv, e, e2]
theorem dpAll_strs {K : PySem.W.Frag} {H : Hp} : ∀ ss : List Str, DpAll K H (ss.map V.str) (ss.map PyData.str)
  | [] => .nil
  | s :: r => .cons (.str s) (dpAll_strs r)
theorem shaped_lst {ss : List Str} (h : ∀ s ∈ ss, PyData.strOk s = true) : SeqAt.shaped (.list (ss.map PyData.str)) = true := by
  unfold SeqAt.shaped
  rw [show PyData.canLay0 (.list (ss.map PyData.str)) = PyData.canLayAll0 (ss.map PyData.str) by simp [PyData.canLay0], strOk_all h]
  rw [show PyData.depth (.list (ss.map PyData.str)) = PyData.depthAll (ss.map PyData.str) + 1 by simp [PyData.depth] <;> omega, depth_strs]
  rfl
/-- two lists of names compared -/
def oEqL (neg : Bool) : R2 := fun x y H Q => ∃ (a b : Addr) (xs ys : List Str), x = .ref a ∧ y = .ref b ∧ H a = some (.lst (xs.map V.str)) ∧ H b = some (.lst (ys.map V.str)) ∧ (∀ s ∈ xs, PyData.strOk s = true) ∧ (∀ s ∈ ys, PyData.strOk s = true) ∧ Q (.bl (neg != decide (xs = ys))) H
theorem eqv_lst (xs ys : List Str) : PyData.eqv (.list (xs.map PyData.str)) (.list (ys.map PyData.str)) = decide (xs = ys) := by
  rw [← eqv_strs]
  simp [PyData.eqv]
theorem opNeL (hu : X.A.units + 64 < cLine) : OpR X (compareOp .NotEq) (oEqL true) := fun pins s σ H x y v u Q I rx ry ⟨a, b, xs, ys, e1, e2, e3, e4, h1, h2, q⟩ => by
  subst e1 e2
  refine op_neD hu pins s σ H _ _ v u Q I rx ry ⟨_, _, .lst (SqL.of e3) (dpAll_strs xs), .lst (SqL.of e4) (dpAll_strs ys), shaped_lst h1, shaped_lst h2, ?_⟩
  rw [eqv_lst]
  rw [show (!decide (xs = ys)) = (true != decide (xs = ys)) by cases decide (xs = ys) <;> rfl]
  exact q
/-! ### built-in calls -/
def cLen : List V → Hp → VK → Prop := fun xs H Q => ∃ (p : Addr) (ys : List V), xs = [.ref p] ∧ (H p = some (.lst ys) ∨ H p = some (.tup ys)) ∧ Q (.int (ys.length : Int)) H
theorem crLen : CallR X (.builtin "len") cLen := fun pins s σ H xs us Q I r ⟨p, ys, e1, e2, q⟩ => call_len_seq pins s σ H xs us Q I r ⟨p, ys, e1, e2.imp SqL.of SqT.of, q⟩
def cList : List V → Hp → VK → Prop := fun xs H Q => ∃ (p : Addr) (ys : List V), xs = [.ref p] ∧ (H p = some (.lst ys) ∨ H p = some (.tup ys)) ∧ ∀ l, H l = none → Q (.ref l) (upd H l (.lst ys))
theorem crList : CallR X (.type "list") cList := fun pins s σ H xs us Q I r ⟨p, ys, e1, e2, q⟩ => call_list_of pins s σ H xs us Q I r ⟨p, ys, e1, e2.imp SqL.of SqT.of, q⟩
def cTuple : List V → Hp → VK → Prop := fun xs H Q => ∃ (p : Addr) (ys : List V), xs = [.ref p] ∧ H p = some (.lst ys) ∧ ∀ l, H l = none → Q (.ref l) (upd H l (.tup ys))
theorem crTuple : CallR X (.type "tuple") cTuple := fun pins s σ H xs us Q I r ⟨p, ys, e1, e2, q⟩ => call_tuple_of pins s σ H xs us Q I r ⟨p, ys, e1, .inl ⟨SqL.of e2, q⟩⟩
def cAny : List V → Hp → VK → Prop := fun vs H Q => ∃ (a : Addr) (bs : List Bool), vs = [V.ref a] ∧ H a = some (.lst (bs.map V.bl)) ∧ Q (.bl (bs.any id)) H
def cAll : List V → Hp → VK → Prop := fun vs H Q => ∃ (a : Addr) (bs : List Bool), vs = [V.ref a] ∧ H a = some (.lst (bs.map V.bl)) ∧ Q (.bl (bs.all id)) H
theorem crAny (hc : X.calm = true) : CallR X (.builtin "any") cAny := fun pins s σ H xs us Q I r ⟨p, ys, e1, e2, q⟩ => cr_any hc pins s σ H xs us Q I r ⟨p, ys, e1, SqL.of e2, q⟩
theorem crAll (hc : X.calm = true) : CallR X (.builtin "all") cAll := fun pins s σ H xs us Q I r ⟨p, ys, e1, e2, q⟩ => cr_all hc pins s σ H xs us Q I r ⟨p, ys, e1, SqL.of e2, q⟩
/-- of which built-in kind a tracked value is -/
inductive TyH (H : Hp) : V → String → Prop where
  | non : TyH H .non "NoneType"
  | bl (x : Bool) : TyH H (.bl x) "bool"
  | int (i : Int) : TyH H (.int i) "int"
  | str (x : Str) : TyH H (.str x) "str"
  | lst {a : Addr} {xs : List V} (e : H a = some (.lst xs)) : TyH H (.ref a) "list"
  | tup {a : Addr} {xs : List V} (e : H a = some (.tup xs)) : TyH H (.ref a) "tuple"
  | dK {a : Addr} {kvs : List (Key × V)} (e : H a = some (.dK kvs)) : TyH H (.ref a) "dict"
theorem TyH.to {K : PySem.W.Frag} {H : Hp} {x : V} {t : String} (h : TyH H x t) : TyX K H x (.type t) := by
  cases h with
  | non => exact .base .non
  | bl x => exact .base (.bl x)
  | int x => exact .base (.int x)
  | str x => exact .base (.str x)
  | lst e => exact .base (.lst e)
  | tup e => exact .base (.tup e)
  | dK e => exact .base (.dK e)
def cIsi : List V → Hp → VK → Prop := fun vs H Q => ∃ (x : V) (n t : String) (b : Bool), vs = [x, .ty n] ∧ TyH H x t ∧ kitB t n = some b ∧ Q (.bl b) H
theorem crIsi : CallR X (.builtin "isinstance") cIsi := fun pins s σ H xs us Q I r ⟨x, n, t, b, e1, e2, e3, q⟩ => call_isi pins s σ H xs us Q I r ⟨x, .ty n, .type t, .type n, b, e1, .ty n, e2.to, kit_ty e3, q⟩
theorem k_tt : kitB "tuple" "tuple" = some true := by decide +kernel
theorem k_ss : kitB "str" "str" = some true := by decide +kernel
theorem k_ll : kitB "list" "list" = some true := by decide +kernel
theorem k_dd : kitB "dict" "dict" = some true := by decide +kernel
theorem k_tl : kitB "tuple" "list" = some false := by decide +kernel
theorem k_lt : kitB "list" "tuple" = some false := by decide +kernel
theorem k_sl : kitB "str" "list" = some false := by decide +kernel
theorem k_st : kitB "str" "tuple" = some false := by decide +kernel
theorem k_sd : kitB "str" "dict" = some false := by decide +kernel
theorem k_sb : kitB "str" "bool" = some false := by decide +kernel
/-- targets and walks, the written part named or out of sight -/
def gT (n : Nat) (t : TGs) : TG := fun v σ H Q => ∃ a xs, v = .ref a ∧ H a = some (.tup xs) ∧ xs.length = n ∧ t xs σ H Q
theorem pg_tupH {es : List Expr} {k : Nat} {t : TGs} {pos : Pos} (n : Nat) (hc : X.calm = true) (h : PGs X es t) (hn : (assignEach es X.env).length = n := by rfl) (hst : (assignEach es X.env).findIdx? (·.1) = none := by rfl) : PG X (.Tuple es k pos) (gT n t) :=
  ⟨fun pins s σ H v u Q I r hw => (pg_tup (pos := pos) (k := k) hc h hn hst).run pins s σ H v u Q I r (let ⟨a, xs, e1, e2, e3, q⟩ := hw; ⟨a, xs, e1, SqT.of e2, e3, q⟩)⟩
theorem pi_tupK {K : PySem.W.Frag} {tg l : Expr} {tl : TE} (hl : PE X l tl) (hK : X.K = K := by rfl) : PI X tg l (iTup K tl) := by
  subst hK
  exact pi_tup hl
/-- a field, the written part named (within a comprehension's block) -/
theorem pe_fldK {K : PySem.W.Frag} {e : Expr} {f : Str} {ta : TE} {pos : Pos} (hK : X.K = K) (he : PE X e ta) (hb : attributeBase e f X.env (eval e X.env) = eval e X.env) : PE X (.Attribute e f pos) (tFld K ta f) := by
  subst hK
  exact pe_fld he hb
end
end GR
end
section
set_option Elab.async false
set_option linter.all false
set_option maxRecDepth 100000
set_option maxHeartbeats 4000000
set_option autoImplicit false
/-! sorted: of names, of tuples of names, of data. -/
namespace GR
open PySem PySem.Spec L2
open Evl (Ex)
open PySem.W (EachIs AllAlike Sortable dataLe)

/-- a tracked value reads as data -/
def Dh (H : Hp) (v : V) (d : PyData) : Prop := ∀ K, Dp K H v d
theorem dh_str (H : Hp) (s : Str) : Dh H (.str s) (.str s) := fun _ => .str s
theorem dh_tupS {H : Hp} {a : Addr} {ss : List Str} (h : H a = some (.tup (ss.map V.str))) : Dh H (.ref a) (.tuple (ss.map PyData.str)) := fun _ => .tup (SqT.of h) (dpAll_strs ss)
theorem dh_tup2 {H : Hp} {a : Addr} {v u : V} {d e : PyData} (h : H a = some (.tup [v, u])) (h1 : Dh H v d) (h2 : Dh H u e) : Dh H (.ref a) (.tuple [d, e]) := fun K => .tup (SqT.of h) (.cons (h1 K) (.cons (h2 K) .nil))
theorem hr65 {A : Around} {k : Nat} (hr : Room k A) : A.units + 65 < cLine := by have := hr.un; omega
/-- a tracked value in a list of such, by their data -/
def oInD (neg : Bool) : R2 := fun x y H Q => ∃ (a : Addr) (xs : List (V × PyData)) (d : PyData), y = .ref a ∧ H a = some (.lst (xs.map Prod.fst)) ∧ Dh H x d ∧ (∀ z ∈ xs, Dh H z.1 z.2) ∧ SeqAt.shaped d = true ∧ SeqAt.shaped (.list (xs.map Prod.snd)) = true ∧ Q (.bl (neg != (xs.map Prod.snd).any fun z => PyData.eqv z d)) H
theorem dh_all {K : PySem.W.Frag} {H : Hp} : ∀ {xs : List (V × PyData)}, (∀ z ∈ xs, Dh H z.1 z.2) → DpAll K H (xs.map Prod.fst) (xs.map Prod.snd)
  | [], _ => .nil
  | z :: r, h => .cons (h z List.mem_cons_self K) (dh_all fun y hy => h y (List.mem_cons_of_mem _ hy))
section
variable {X : Cx}
theorem opNotInD (hu : X.A.units + 65 < cLine) : OpR X (compareOp .NotIn) (oInD true) := fun pins s σ H x y v u Q I rx ry ⟨a, xs, d, e1, e2, hd, hx, s1, s2, q⟩ => by
  subst e1
  refine op_notInD hu pins s σ H _ _ v u Q I rx ry ⟨d, xs.map Prod.snd, hd _, .lst (SqL.of e2) (dh_all hx), s1, s2, ?_⟩
  rw [show (!(xs.map Prod.snd).any fun z => PyData.eqv z d) = (true != (xs.map Prod.snd).any fun z => PyData.eqv z d) by cases (xs.map Prod.snd).any fun z => PyData.eqv z d <;> rfl]
  exact q
/-- sorted of a list whose items read as data -/
def cSortD : List V → Hp → VK → Prop := fun vs H Q => ∃ (a : Addr) (xs : List (V × PyData)), vs = [.ref a] ∧ H a = some (.lst (xs.map Prod.fst)) ∧ (∀ x ∈ xs, Dh H x.1 x.2) ∧ AllAlike (xs.map Prod.snd) ∧ Sortable (xs.map Prod.snd) ∧ (∀ x ∈ xs, x.2.depth ≤ 30) ∧
  ∀ p, H p = none → Q (.ref p) (upd H p (.lst ((xs.mergeSort (dataLe false Prod.snd)).map Prod.fst)))
theorem vals_each : ∀ {xs : List (V × PyData)} {us : List Value}, Vals (xs.map Prod.fst) us → EachIs (fun u (x : V × PyData) => RelV x.1 u) us xs
  | [], _, r => by
    rw [List.map_nil] at r
    cases r
    exact .nil
  | x :: xs, _, r => by
    rw [List.map_cons] at r
    cases r with
    | cons r1 r2 => exact .cons r1 (vals_each r2)
theorem each_vals : ∀ {xs : List (V × PyData)} {us : List Value}, EachIs (fun u (x : V × PyData) => RelV x.1 u) us xs → Vals (xs.map Prod.fst) us
  | [], _, r => by
    cases r
    exact .nil
  | x :: xs, _, r => by
    cases r with
    | cons r1 r2 => exact .cons r1 (each_vals r2)
theorem each_and {α β : Type} {R R' : α → β → Prop} : ∀ {us : List α} {xs : List β}, EachIs R us xs → (∀ u, ∀ x ∈ xs, R u x → R' u x) → EachIs R' us xs
  | _, _, .nil, _ => .nil
  | _, _, .cons h t, f => .cons (f _ _ List.mem_cons_self h) (each_and t fun u x hx => f u x (List.mem_cons_of_mem _ hx))
theorem crSortD (hu : X.A.units + 64 < cLine) : CallR X (.builtin "sorted") cSortD := by
  intro pins s σ H vs us Q I r h
  obtain ⟨a, xs, rfl, ha, hd, hal, hk, hdep, q⟩ := h
  rw [Vals.ref1 r]
  obtain ⟨its, rv, hl, hz⟩ := I.list (SqL.of ha)
  have e := vals_each rv
  have er : EachIs (fun u (x : V × PyData) => ∃ as, Reads s.heap u x.2 as) its xs := each_and e fun u x hx rx => Dp.reads I x.2 x.1 u (hd x hx X.K) rx
  have lx : xs.length ≤ sizeLine := by
    have := (I.hok a _ ha).1
    rw [List.length_map] at this
    exact this
  refine PySem.W.sorted_data (enc := Prod.snd) hl.isList e er hal hk lx (fun b hb => by have := hdep b hb; omega) fun out ho eo => ?_
  obtain ⟨ep, he'⟩ := PyProof.Rows.sortedAll_at s.heap its (List.toArray out)
  have hlen : ((xs.mergeSort (dataLe false Prod.snd)).map Prod.fst).length ≤ sizeLine := by
    rw [List.length_map, List.length_mergeSort]
    exact lx
  exact ⟨.ref _, upd H (s.heap.objs.size + 1) (.lst ((xs.mergeSort (dataLe false Prod.snd)).map Prod.fst)), I.laid (t' := s.toks) (fun _ _ => PyProof.Rows.sortedAll_old) (Nat.le_succ _) ⟨hlen, out, ep, each_vals eo, by simpa using he'⟩, rfl, q _ (I.hok.fresh (Nat.le_succ _))⟩
/-- the order of names -/
def strLe (a b : Str) : Bool := decide (a.cps.toList ≤ b.cps.toList)
def ssort (xs : List Str) : List Str := xs.mergeSort strLe
def cSortS : List V → Hp → VK → Prop := fun vs H Q => ∃ (a : Addr) (xs : List Str), vs = [.ref a] ∧ H a = some (.lst (xs.map V.str)) ∧ ∀ p, H p = none → Q (.ref p) (upd H p (.lst ((ssort xs).map V.str)))
theorem crSortS (hu : X.A.units + 64 < cLine) : CallR X (.builtin "sorted") cSortS := by
  intro pins s σ H vs us Q I r h
  obtain ⟨a, xs, rfl, ha, q⟩ := h
  have em : (xs.map fun x => (V.str x, PyData.str x)).map Prod.fst = xs.map V.str := by rw [List.map_map]; rfl
  have em2 : (xs.map fun x => (V.str x, PyData.str x)).map Prod.snd = xs.map PyData.str := by rw [List.map_map]; rfl
  have hsd : ((xs.map fun x => (V.str x, PyData.str x)).mergeSort (dataLe false Prod.snd)).map Prod.fst = (ssort xs).map V.str := by
    have h1 : (xs.map fun x => (V.str x, PyData.str x)).mergeSort (dataLe false Prod.snd) = (xs.mergeSort strLe).map fun x => (V.str x, PyData.str x) := by
      refine (PySem.W.sort_maps (r := strLe) (fun x => (V.str x, PyData.str x)) fun a _ b _ => ?_).symm
      have z := congrFun (congrFun (PySem.W.dataLe_str (β := Str) id) a) b
      exact z.symm
    rw [h1, List.map_map]
    rfl
  refine crSortD hu pins s σ H _ us Q I r ⟨a, xs.map fun x => (V.str x, PyData.str x), rfl, by rw [em]; exact ha, fun x hx => ?_, by rw [em2]; exact AllAlike.of fun b b' => (by simp [PySem.W.alike]), by rw [em2]; exact Sortable.others fun b => ⟨(by intro z; cases z), fun xs z => (by cases z)⟩, fun x hx => ?_, fun p hp => ?_⟩
  · obtain ⟨y, _, rfl⟩ := List.mem_map.mp hx
    exact dh_str H y
  · obtain ⟨y, _, rfl⟩ := List.mem_map.mp hx
    simp [PyData.depth]
  · rw [hsd]
    exact q p hp
end
end GR
end
section
set_option Elab.async false
set_option linter.all false
set_option maxRecDepth 100000
set_option maxHeartbeats 4000000
set_option autoImplicit false
/-! Comprehensions at large: a block whose collection is any tracked object. -/
namespace GR
open PySem PySem.Spec L2 PyProof.Rows
open Evl (Ex)

section
variable {X : Cx}
/-- what a turn does with the collection at D -/
structure PB (X : Cx) (put : Sem Unit) (D : Addr) (st : Sl → Hp → Addr → (Hp → Prop) → Prop) : Prop where
  run : ∀ (pins : List (Addr × Obj)) (s : Shared) (σ : Sl) (H : Hp) (N : Hp → Prop), Inv X pins σ H s → st σ H D N → wpAny (model X.prog X.w) X.A put (fun _ s' => ∃ H', Inv X pins σ H' s' ∧ N H') (fun _ _ => False) s
/-- the comprehension's reading: em the empty collection, st what a turn does -/
def tBk (wi : TI) (g : TG) (tt : TT) (em : Addr → HO) (st : Sl → Hp → Addr → (Hp → Prop) → Prop) (vs : List Nat) : TE := fun σ H Q => wi σ H fun J H1 => ∀ D, H1 D = none →
  ∃ W : Nat → Nat → Hp → Prop, (∃ m, W 0 m (upd H1 D (em D))) ∧ ∀ i m H, W i m H → (J.stop i H ∧ Q (.ref D) H) ∨
    (J.go i H ∧ ∃ N : Hp → Prop, (∀ H', N H' → ∃ m', m' < m ∧ W (i + 1) m' H') ∧ ∀ x H', J.yld i H x H' → g x (wipe σ vs) H' fun σ2 H2 => wipe σ2 vs = wipe σ vs ∧ tt σ2 H2 fun b H3 => if b = true then st σ2 H3 D N else N H3)
/-- the text's own facts of a node -/
structure Node (prog : Program) (w : World) (nd tg iter : Expr) (ifs : List Expr) (put : Env → Addr → Sem Unit) : Prop where
  cl : clausesOf nd = [⟨tg, iter, ifs, 0⟩]
  quiet : ∀ (it acc : Value) (env : Env), (Code.compLoop nd 0 it acc env).quiet = true
  den : ∀ (it acc : Value) (env : Env), (model prog w).den (.compLoop nd 0 it acc env) = (compTurn nd 0 it acc env).onRaise (fun x => do noteFrame x env; theTreesLotGoes x)
  under : ∀ (A : Around) (it acc : Value) (env : Env), A.under (.compLoop nd 0 it acc env) = A
  turn : ∀ (it : Value) (D : Addr) (env : Env), compTurn nd 0 it (.ref D) env = (do
    standAt iter.pos
    match ← pyNext it with
    | none => pure (.done .next)
    | some v =>
      letOwnedTupleGo tg it v
      assign tg env v
      let mut ok := true
      for c in ifs do
        if ok then ok ← isTrue c env (eval c env)
      if ok then put env D
      again (.compLoop nd 0 it (.ref D) env))
  start : ∀ {A : Around} {R : Result → Shared → Prop} {s : Shared} {it acc : Value} {env : Env}, codeAny (model prog w) A (.compLoop nd 0 it acc env) R s →
    wpAny (model prog w) A (pyIter it) (fun it' s' => codeAny (model prog w) A (.compLoop nd 0 it' acc env) R s') (notedBy (model prog w) A env fun x s' => R (.error x) s') s → codeAny (model prog w) A (.compStart nd 0 it acc env) R s
variable {nd tg iter : Expr} {ifs : List Expr} {put : Env → Addr → Sem Unit}
/-- the block's loop -/
theorem Node.loop {prog : Program} {w : World} {A : Around} {R : Result → Shared → Prop} {s : Shared} {it : Value} {D : Addr} {env : Env} (N : Node prog w nd tg iter ifs put) (I : Nat → Shared → Prop)
    (step : ∀ n s, I n s → wpAny (model prog w) A (pyNext it) (fun r s1 => match r with
      | none => R (.ok .next) s1
      | some v => wpAny (model prog w) A (letOwnedTupleGo tg it v) (fun _ s2 => wpAny (model prog w) A (assign tg env v) (fun _ s3 =>
          wpAny (model prog w) A (forIn ifs true fun c r => if r = true then do let ok ← isTrue c env (eval c env); pure (ForInStep.yield ok) else pure (ForInStep.yield r)) (fun ok s4 =>
            if ok = true then wpAny (model prog w) A (put env D) (fun _ s5 => ∃ m, m < n ∧ I m s5) (fun _ _ => False) s4 else ∃ m, m < n ∧ I m s4) (fun _ _ => False) s3) (fun _ _ => False) s2) (fun _ _ => False) s1) (fun _ _ => False) s)
    (n : Nat) (h : I n s) : codeAny (model prog w) A (.compLoop nd 0 it (.ref D) env) R s := by
  have no : ∀ {α : Type} {t : Sem α} {Q : α → Shared → Prop} {E : Value → Shared → Prop} {s : Shared}, wpAny (model prog w) A t Q (fun _ _ => False) s → wpAny (model prog w) A t Q E s := fun h => wpAny_mono h (fun _ _ z => z) fun _ _ z => z.elim
  refine codeAny_loop (N.quiet _ _ _) I (fun n s hI => ?_) n h
  rw [N.under, N.den]
  refine wpAny_noted ?_
  rw [N.turn]
  refine wpAny_bind (wpAny_standAt (wpAny_bind (no (wpAny_mono (step n s hI) (fun r s1 h1 => ?_) fun _ _ z => z))))
  cases r with
  | none => exact wpAny_pure h1
  | some v =>
    refine wpAny_bind (no (wpAny_mono h1 (fun _ s2 h2 => ?_) fun _ _ z => z))
    refine wpAny_bind (no (wpAny_mono h2 (fun _ s3 h3 => ?_) fun _ _ z => z))
    refine wpAny_bind (no (wpAny_mono h3 (fun ok s4 h4 => ?_) fun _ _ z => z))
    cases ok with
    | false => exact wpAny_pure ⟨rfl, h4⟩
    | true => exact wpAny_bind (no (wpAny_mono (show wpAny _ A (put env D) _ _ s4 from h4) (fun _ s5 h5 => wpAny_pure ⟨rfl, h5⟩) fun _ _ z => z))
/-- the comprehension -/
theorem bk_core {pins : List (Addr × Obj)} {s : Shared} {σ : Sl} {H : Hp} {Q : VK} {scope : Scope} {own : List (Str × Nat)} {pos : Pos} {wi : TI} {g : TG} {tt : TT} {em : Addr → HO} {st : Sl → Hp → Addr → (Hp → Prop) → Prop} {use : Option (Value → Sem Unit)} {Qf : Value → Shared → Prop}
    {mk : Sem Value} {ob : Obj} (hc : X.calm = true) (hN : X.N.Nodup) (I : Inv X pins σ H s) (N : Node X.prog X.w nd tg iter ifs put)
    (hmk : ∀ {A : Around} {E : Value → Shared → Prop} {Q : Value → Shared → Prop} {s : Shared}, Q (.ref s.heap.objs.size) { s with heap := s.heap.push ob } → wpAny (model X.prog X.w) A mk Q E s)
    (hem : ∀ (H : Hp) (h : Heap), sysModules < h.objs.size → ObjOk X.prog X.w H (h.push ob) h.objs.size (em h.objs.size))
    (hi : PI X tg iter wi) (ok : BlkOk X.N X.env.scope scope own)
    (hg : ∀ (s : Shared) (H : Hp) (C : Addr) (cl : List (Str × Addr)) (fp : List Addr), PG (X.blk s H scope (compEnvC scope cl C X.env) fp) tg g)
    (ht : ∀ (s : Shared) (H : Hp) (C : Addr) (cl : List (Str × Addr)) (fp : List Addr), PTs (X.blk s H scope (compEnvC scope cl C X.env) fp) ifs tt)
    (hp : ∀ (s : Shared) (H : Hp) (C : Addr) (cl : List (Str × Addr)) (fp : List Addr) (D : Addr), PB (X.blk s H scope (compEnvC scope cl C X.env) fp) (put (compEnvC scope cl C X.env) D) D st) (hs : ∀ x, foldedSetIterable iter X.env x = pure x)
    (h : tBk wi g tt em st (own.map (·.2)) σ H Q)
    (fin : ∀ D C s' m H', Inv X pins σ H' s' → Q (.ref D) H' → s'.heap.Ns C m → FpOk X pins H' C → compPost (model X.prog X.w) X.A X.xe use Qf (.ref D) C (.ok .next) s') :
    wpAny (model X.prog X.w) X.A (comprehension nd scope X.env pos mk false (eval iter X.env) use) Qf X.xe s := by
  have free : ∀ y ∈ scope.names, y.2 = .free → ∃ c, X.env.cells.lookup y.1 = some c := fun y hy e => (ok.free y hy e).elim (fun k => I.ok.has _ (.inl k)) (fun k => I.ok.has _ (.inr k))
  refine wpAny_comprehension_free (use := use) N.cl hs (closure_ok free) ok.kind (fun y hy e => by rw [ok.uniq y hy, e]) (thn (hi.run pins s σ H _ I h) fun _ s1 hx => thn hx fun _ s2 h2 => ?_)
  obtain ⟨it, fp, tn, J, H2, e, I2, T, at0, fr, q⟩ := h2
  subst e
  refine hmk (newEnv_comp ?_)
  obtain ⟨W, ⟨m0, w0⟩, turn⟩ := q s2.heap.objs.size (I2.hok.fresh (Nat.le_refl _))
  have I3 : Inv X pins σ (upd H2 s2.heap.objs.size (em s2.heap.objs.size)) { s2 with heap := s2.heap.push ob } := I2.laid (t' := s2.toks) (fun b o e => Heap.get?_push_of_some _ e) (Nat.le_refl _) (hem _ _ I2.big)
  have lt : ∀ b ∈ fp, b < s2.heap.objs.size := fun b hb => let ⟨_, e, _⟩ := T.obj _ _ at0 b hb; Heap.lt_size e
  have fr3 : ∀ b ∈ fp, FpOk X pins (upd H2 s2.heap.objs.size (em s2.heap.objs.size)) b ∧ b < (s2.heap.push ob).objs.size := fun b hb =>
    ⟨⟨by rw [upd_ne (Nat.ne_of_lt (lt b hb))]; exact (fr b hb).1, (fr b hb).2⟩, by rw [Heap.size_push]; exact Nat.lt_succ_of_lt (lt b hb)⟩
  have at3 : tn 0 (s2.heap.push ob) := T.keep _ _ _ at0 fun b _ o e => Heap.get?_push_of_some _ e
  generalize s2.heap.objs.size = D at *
  generalize upd H2 D (em D) = H3 at *
  generalize hs3 : ({ s2 with heap := s2.heap.push ob } : Shared) = s3 at *
  have hp3 : s2.heap.push ob = s3.heap := by rw [← hs3]
  rw [hp3] at fr3 at3
  show codeAny _ _ (.compStart nd 0 (.ref it) (.ref D) (compEnvC scope (cellsFrom (s3.heap.objs.size + 1) scope.names (cloFrom X.env.cells scope.names [])) s3.heap.objs.size X.env)) (compPost (model X.prog X.w) X.A X.xe use Qf (.ref D) s3.heap.objs.size) { s3 with heap := pushCells (s3.heap.push { cls := .type "dict", data := .dict #[] }) scope.names }
  have I4 := block_start I3 ok hN fr3
  have at4 : tn 0 (pushCells (s3.heap.push { cls := .type "dict", data := .dict #[] }) scope.names) := T.keep _ _ _ at3 fun b _ o e => pushCells_keeps _ _ _ _ (Heap.get?_push_of_some _ e)
  have pg := hg s3 H3 s3.heap.objs.size (cellsFrom (s3.heap.objs.size + 1) scope.names (cloFrom X.env.cells scope.names [])) fp
  have pt := ht s3 H3 s3.heap.objs.size (cellsFrom (s3.heap.objs.size + 1) scope.names (cloFrom X.env.cells scope.names [])) fp
  have pp := hp s3 H3 s3.heap.objs.size (cellsFrom (s3.heap.objs.size + 1) scope.names (cloFrom X.env.cells scope.names [])) fp D
  generalize hce : compEnvC scope (cellsFrom (s3.heap.objs.size + 1) scope.names (cloFrom X.env.cells scope.names [])) s3.heap.objs.size X.env = ce at I4 pg pt pp ⊢
  have cL : ce.locals = s3.heap.objs.size := by subst hce; rfl
  generalize hs4 : ({ s3 with heap := pushCells (s3.heap.push { cls := .type "dict", data := .dict #[] }) scope.names } : Shared) = s4 at I4 ⊢
  have at4 : tn 0 s4.heap := by rw [← hs4]; exact at4
  have pinned : ∀ {σ' : Sl} {H' : Hp} {s' : Shared}, Inv (X.blk s3 H3 scope ce fp) [] σ' H' s' → (∀ b ∈ fp, H' b = none) → ∀ b ∈ fp, FpOk (X.blk s3 H3 scope ce fp) [] H' b := fun {σ' H' s'} I' hn b hb =>
    ⟨hn b hb, (I'.ok.exf b hb).1, I'.ok.exfs b hb, .inl hb, fun x c e => (I'.ok.exf b hb).2 x c e, fun p hp => by simp at hp⟩
  have lp : codeAny (model X.prog X.w) X.A (.compLoop nd 0 (.ref it) (.ref D) ce) (compPost (model X.prog X.w) X.A X.xe use Qf (.ref D) s3.heap.objs.size) s4 := by
    refine N.loop (fun n s' => ∃ i H', Inv (X.blk s3 H3 scope ce fp) [] (wipe σ (own.map (·.2))) H' s' ∧ tn i s'.heap ∧ (∀ b ∈ fp, H' b = none) ∧ W i n H') ?_ m0 ⟨0, H3, I4, at4, fun b hb => (fr3 b hb).1.1, w0⟩
    rintro n s5 ⟨i, H5, I5, at5, n5, w5⟩
    rcases turn i n H5 w5 with ⟨stop, qq⟩ | ⟨go, Nx, hNx, step⟩
    · refine wpAny_mono (T.done (X.blk s3 H3 scope ce fp) rfl rfl rfl hc i [] s5 _ H5 (fun _ _ => False) I5 (pinned I5 n5) at5 stop) (fun r s6 hr => ?_) fun _ _ z => z
      obtain ⟨rfl, I6⟩ := hr
      have I7 : Inv X pins σ H5 s6 := I3.call' (ch := fp) I6.os I6.base I6.hok I6.bare fun b hb => ⟨(fr3 b hb).1.2.2.2.1, (fr3 b hb).1.2.1, (fr3 b hb).1.2.2.2.2.1, (fr3 b hb).1.2.2.2.2.2⟩
      obtain ⟨m, hn, _⟩ := I6.loc
      have hn : s6.heap.Ns ce.locals m := hn
      have hz : H5 ce.locals = none := I6.free
      rw [cL] at hn hz
      exact fin D _ s6 m H5 I7 qq hn (I3.fpOk (Nat.le_refl _) hz)
    · refine wpAny_mono (T.item (X.blk s3 H3 scope ce fp) rfl rfl rfl hc i [] s5 _ H5 (fun _ _ => False) I5 (pinned I5 n5) at5 go) (fun r s6 hr => ?_) fun _ _ z => z
      obtain ⟨u, rfl, h6⟩ := hr
      refine wpAny_mono h6 (fun _ s7 hr => ?_) fun _ _ z => z
      obtain ⟨x, H7, I7, r7, y7, at7, n7⟩ := hr
      have I7' := I7.pinned (pinned I7 n7) (T.obj _ _ at7)
      refine wpAny_mono (pg.run _ s7 _ H7 x u _ I7' r7 (step x H7 y7)) (fun _ s8 hr => ?_) fun _ _ z => z
      obtain ⟨σ8, H8, I8, w8, q8⟩ := hr
      refine wpAny_mono (pt.run _ s8 σ8 H8 _ I8 q8) (fun b s9 hr => ?_) fun _ _ z => z
      obtain ⟨H9, I9, q9⟩ := hr
      have over : ∀ {s' : Shared} {H' : Hp}, Inv (X.blk s3 H3 scope ce fp) ([] ++ pinsAt fp s7.heap) σ8 H' s' → Nx H' → ∃ m, m < n ∧ ∃ i H', Inv (X.blk s3 H3 scope ce fp) [] (wipe σ (own.map (·.2))) H' s' ∧ tn i s'.heap ∧ (∀ b ∈ fp, H' b = none) ∧ W i m H' := fun {s' H'} I' nx => by
        obtain ⟨m', hm, w'⟩ := hNx H' nx
        have pin : ∀ b ∈ fp, ∀ o, s7.heap.get? b = some o → s'.heap.get? b = some o ∧ H' b = none := fun b hb o e =>
          let z := I'.pin (b, o) (List.mem_append_right _ (List.mem_append_right _ (mem_pinsAt hb e))); ⟨z.1, z.2.1⟩
        refine ⟨m', hm, i + 1, H', (I'.unpinned (pins := [])).weak (by rw [← w8, wipe_length]) (fun j v e => ?_), T.keep _ _ _ at7 fun b hb o e => (pin b hb o e).1, fun b hb => ?_, w'⟩
        · rw [← w8] at e
          exact (wipe_some e).1
        · obtain ⟨o, e, _⟩ := T.obj _ _ at7 b hb
          exact (pin b hb o e).2
      cases b with
      | false => exact over I9 q9
      | true => exact wpAny_mono (pp.run _ s9 σ8 H9 _ I9 q9) (fun _ s10 hr => by obtain ⟨H10, I10, nx⟩ := hr; exact over I10 nx) fun _ _ z => z
  exact N.start lp (T.self X.A 0 _ _ _ at4 lp)
end
end GR
end
section
set_option Elab.async false
set_option linter.all false
set_option maxRecDepth 100000
set_option maxHeartbeats 4000000
set_option autoImplicit false
/-! Rules the hand layer lacks. -/
namespace GR
open PySem PySem.Spec L2 PyProof.Rows
open Evl (Ex)

/-! ### dict comprehensions, keys of any kind, as a value and on one line with a local name -/
section
variable {X : Cx} {kx vx tg iter : Expr} {ifs : List Expr} {scope : Scope} {pos : Pos}
def putD (kx vx : Expr) (env : Env) (D : Addr) : Sem Unit := do
  let kv ← eval kx env
  let vv ← holding [kv] (eval vx env)
  standAt { kx.pos with endLine := vx.pos.endLine, endCol := vx.pos.endCol }
  holding [kv, vv] (dictSet D kv vv)
theorem node_dict {prog : Program} {w : World} : Node prog w (.DictComp kx vx [⟨tg, iter, ifs, 0⟩] scope pos) tg iter ifs (putD kx vx) where
  cl := rfl
  quiet := fun _ _ _ => rfl
  den := fun _ _ _ => rfl
  under := fun _ _ _ _ => rfl
  turn := fun it D env => compTurn_dict kx vx tg iter ifs scope pos it D env
  start := fun h0 h => codeAny_compStart_dict h0 h
theorem setD {pins : List (Addr × Obj)} {σ : Sl} {H H' : Hp} {s : Shared} {a : Addr} {y v : V} {u r : Value} {A : Around} {E : Value → Shared → Prop} {Q : Unit → Shared → Prop} (hu : A.units + 1 < cLine) (I : Inv X pins σ H s) (g : DPut H a y v H') (ry : RelV y u) (rv : RelV v r) (h : ∀ s', Inv X pins σ H' s' → Q () s') :
    wpAny (model X.prog X.w) A (dictSet a u r) Q E s := by
  rcases g with ⟨kvs, k, e, ey, l, eH⟩ | ⟨kvs, k, b, e, ey, eb, l, eH⟩
  · subst ey eH
    obtain ⟨z, hd, vs, rel, dd⟩ := dk_of I.hok e
    have lz : (putK kvs k v).length ≤ sizeLine := Nat.le_trans (length_putK kvs k v) l
    refine wpAny_dictSet_pairs (hsz := rel.length ▸ z) (kV_is ry) dd fun h' dd' hs => h _ ?_
    exact d_write I (by rw [e]; exact True.intro) hs (let ⟨q, _, _, hq, _⟩ := dd'; ⟨q, hq⟩) (dk_new lz hd (rel.put k rv) dd')
  · subst ey eH
    cases (show u = Value.ref b from ry)
    obtain ⟨z, hd, xs, rel, dd⟩ := dt_of I.hok e
    have lz : (putK kvs k v).length ≤ sizeLine := Nat.le_trans (length_putK kvs k v) l
    have room : (tupleKind (mixKind X.prog X.w)).room A := Nat.lt_of_le_of_lt (Nat.le_add_right _ _) hu
    refine wpAny_dictSet_heap (hsz := Paired.length rel ▸ z) room (key_of I.hok eb) dd fun h' dd' hs => h _ ?_
    obtain ⟨q, es, ep, hq, h2, h3, h4, _, h5⟩ := dd'
    refine d_write I (by rw [e]; exact True.intro) hs ⟨q, hq⟩ ⟨lz, hd, _, (rel.put k eb rv).keeps fun c ys ec => ?_, q, es, ep, hq, h2, h3, h4, h5⟩
    rw [upd_ne (ne_of ec e fun z => nomatch z)]
    exact ec
/-- what a turn does -/
def stD (tk tv : TE) : Sl → Hp → Addr → (Hp → Prop) → Prop := fun σ H D N => tk σ H fun y H1 => tv σ H1 fun z H2 => ∃ H3, DPut H2 D y z H3 ∧ N H3
theorem pb_dict {tk tv : TE} {D : Addr} (hx : X.xe = fun _ _ => False) (hu : X.A.units + 1 < cLine) (hk : PE X kx tk) (hv : PE X vx tv) : PB X (putD kx vx X.env D) D (stD tk tv) := by
  refine ⟨fun pins s σ H N I h => ?_⟩
  have no : ∀ {v : Value} {s' : Shared}, X.xe v s' → False := fun h => by rw [hx] at h; exact h
  refine wpAny_bind (wpAny_mono (hk.run pins s σ H _ I h) (fun kv s1 z => ?_) fun _ _ z => no z)
  obtain ⟨y, H1, I1, r1, q1⟩ := z
  refine wpAny_bind (wpAny_holding (wpAny_mono (hv.run pins s1 σ H1 _ I1 q1) (fun vv s2 z => ?_) fun _ _ z => no z))
  obtain ⟨v, H2, I2, r2, H3, g, q2⟩ := z
  exact wpAny_bind (wpAny_standAt (wpAny_holding (setD hu I2 g r1 r2 fun s3 I3 => ⟨H3, I3, q2⟩)))
theorem emK {P : Program} {w : World} (H : Hp) (h : Heap) (hb : sysModules < h.objs.size) : ObjOk P w H (h.push { cls := .type "dict", data := .dict #[] }) h.objs.size ((fun _ => HO.dK []) h.objs.size) := dk_empty h hb
theorem emT {P : Program} {w : World} (H : Hp) (h : Heap) (hb : sysModules < h.objs.size) : ObjOk P w H (h.push { cls := .type "dict", data := .dict #[] }) h.objs.size ((fun _ => HO.dT []) h.objs.size) := dt_empty h hb
/-- {k: v for target in iter if ..} -/
abbrev tDcW (wi : TI) (g : TG) (tt : TT) (tk tv : TE) (em : HO) (vs : List Nat) : TE := tBk wi g tt (fun _ => em) (stD tk tv) vs
theorem pe_dcW {own : List (Str × Nat)} {wi : TI} {g : TG} {tt : TT} {tk tv : TE} {em : HO} (hem : em = .dK [] ∨ em = .dT []) (hc : X.calm = true) (hN : X.N.Nodup) (hu : X.A.units + 1 < cLine) (hi : PI X tg iter wi) (ok : BlkOk X.N X.env.scope scope own)
    (hg : ∀ (s : Shared) (H : Hp) (C : Addr) (cl : List (Str × Addr)) (fp : List Addr), PG (X.blk s H scope (compEnvC scope cl C X.env) fp) tg g)
    (ht : ∀ (s : Shared) (H : Hp) (C : Addr) (cl : List (Str × Addr)) (fp : List Addr), PTs (X.blk s H scope (compEnvC scope cl C X.env) fp) ifs tt)
    (hk : ∀ (s : Shared) (H : Hp) (C : Addr) (cl : List (Str × Addr)) (fp : List Addr), PE (X.blk s H scope (compEnvC scope cl C X.env) fp) kx tk)
    (hv : ∀ (s : Shared) (H : Hp) (C : Addr) (cl : List (Str × Addr)) (fp : List Addr), PE (X.blk s H scope (compEnvC scope cl C X.env) fp) vx tv) (hs : ∀ x, foldedSetIterable iter X.env x = pure x := by intro _; rfl) :
    PE X (.DictComp kx vx [⟨tg, iter, ifs, 0⟩] scope pos) (tDcW wi g tt tk tv em (own.map (·.2))) := by
  refine ⟨fun pins s σ H Q I h => ?_⟩
  rw [arm_eval_DictComp]
  have em2 : ∀ (H : Hp) (h : Heap), sysModules < h.objs.size → ObjOk X.prog X.w H (h.push { cls := .type "dict", data := .dict #[] }) h.objs.size ((fun _ => em) h.objs.size) := by
    rcases hem with e | e <;> subst e
    · exact emK
    · exact emT
  refine bk_core (mk := newDict) hc hN I node_dict (fun h => wpAny_newObj_type h) em2 hi ok hg ht (fun s H C cl fp D => pb_dict (X := X.blk s H scope (compEnvC scope cl C X.env) fp) rfl hu (hk s H C cl fp) (hv s H C cl fp)) hs h fun D C s' m H' I' q hn f => ⟨m, hn, fun h2 sb => ?_⟩
  obtain ⟨f0, f1, f2, f3, f4, f5⟩ := f
  exact ⟨.ref D, H', I'.turned (t' := s'.toks) (fun b o hb e => (sb.2 b hb).trans e) f0 f1 f3 f4 f5, rfl, q⟩
theorem ps_setDcW {i : Nat} {y : Str} {py spos : Pos} {own : List (Str × Nat)} {wi : TI} {g : TG} {tt : TT} {tk tv : TE} (hc : X.calm = true) (hN : X.N.Nodup) (hy : X.N[i]? = some y) (hyl : X.env.scope.names.lookup y = some .local)
    (hsw : swapsWith (.DictComp kx vx [⟨tg, iter, ifs, 0⟩] scope pos) (some (.Name y py)) spos.line X.env = pure true) (hi : PI X tg iter wi) (ok : BlkOk X.N X.env.scope scope own)
    (hg : ∀ (s : Shared) (H : Hp) (C : Addr) (cl : List (Str × Addr)) (fp : List Addr), PG (X.blk s H scope (compEnvC scope cl C X.env) fp) tg g)
    (ht : ∀ (s : Shared) (H : Hp) (C : Addr) (cl : List (Str × Addr)) (fp : List Addr), PTs (X.blk s H scope (compEnvC scope cl C X.env) fp) ifs tt)
    (hk : ∀ (s : Shared) (H : Hp) (C : Addr) (cl : List (Str × Addr)) (fp : List Addr), PE (X.blk s H scope (compEnvC scope cl C X.env) fp) kx tk)
    (hv : ∀ (s : Shared) (H : Hp) (C : Addr) (cl : List (Str × Addr)) (fp : List Addr), PE (X.blk s H scope (compEnvC scope cl C X.env) fp) vx tv) (hu : X.A.units + 1 < cLine) (hs : ∀ x, foldedSetIterable iter X.env x = pure x := by intro _; rfl) :
    PS X (.Assign [.Name y py] (.DictComp kx vx [⟨tg, iter, ifs, 0⟩] scope pos) spos) (tAsg (tDcW wi g tt tk tv (.dK []) (own.map (·.2))) (gName i)) := by
  refine ⟨fun pins s σ H D I h => ?_⟩
  rw [exec_Assign_Name_used _ _ _ _ hsw]
  refine wpAny_bind (wpAny_standAt (wpAny_bind ?_))
  show wpAny _ X.A (do let _ ← comprehension (.DictComp kx vx [⟨tg, iter, ifs, 0⟩] scope pos) scope X.env (firstIterPos [⟨tg, iter, ifs, 0⟩] pos) newDict false (eval iter X.env) (some (assign (.Name y py) X.env))) _ _ s
  have h' : tDcW wi g tt tk tv (.dK []) (own.map (·.2)) σ H (fun x H1 => gName i x σ H1 D.nx) := h
  refine wpAny_bind (thn (bk_core (Qf := fun _ s' => SP X pins D .next s') (mk := newDict) hc hN I node_dict (fun h => wpAny_newObj_type h) emK hi ok hg ht (fun s H C cl fp D => pb_dict (X := X.blk s H scope (compEnvC scope cl C X.env) fp) rfl hu (hk s H C cl fp) (hv s H C cl fp)) hs h' fun L C s' m H' I' q hn f => ?_) fun _ s' hq => wpAny_pure (wpAny_pure hq))
  show wpAny _ _ (assign (.Name y py) X.env (.ref L)) _ _ _
  refine wpAny_assign_Name (store_ok2 (v := V.ref L) I' hN hy (.inl hyl) rfl (fun s2 I2 ⟨a, sb, ha⟩ => ?_) (.inr hyl))
  obtain ⟨f0, f1, f2, f3, f4, f5⟩ := f
  have ca : C ≠ a := ha.elim (fun z => by rw [z]; exact f1) fun z e => f4 y a z e.symm
  exact ⟨m, hn.sameBut sb ca, fun h3 sb3 => ⟨_, H', I2.turned (t' := s2.toks) (fun b o hb e => (sb3.2 b hb).trans e) f0 f1 f3 f4 f5, q⟩⟩
theorem sw_trueD {gs : List Comprehension} {py : Pos} {y : Str} {l : Nat} {env : Env} (hk : env.scope.kind = .function) (hy : env.scope.names.lookup y = some .local) (hl : (py.line == pos.line) = true)
    (ha : (scope.names.any fun (n, k) => n == y && (k == .local || k == .cell)) = false) : swapsWith (.DictComp kx vx gs scope pos) (some (.Name y py)) l env = pure true := by
  have k : env.kindOf y = some .local := hy
  have b : env.blockKind = .function := by unfold Env.blockKind; rw [hk]; rfl
  unfold swapsWith
  simp only [b, k, ha, Expr.pos, hl]
  rfl
end

/-! ### enumerate of a tuple -/
theorem meets_enumT (l : Addr) (items : Array Value) :
    Meets (Builtin.«enumerate.__new__» ⟨[.type "enumerate", .ref l], []⟩) (fun _ R s => s.heap.IsTuple l items ∧
      R (.ok (.ret (.ref (s.heap.push { cls := .type "tuple_iterator", data := .fields #[.ref l, .int 0 0] }).objs.size)))
        { s with heap := (s.heap.push { cls := .type "tuple_iterator", data := .fields #[.ref l, .int 0 0] }).push { cls := .type "enumerate", data := .fields #[.none, .bool false, .ref s.heap.objs.size, rawInt 0, .none, .none] } }) :=
  .of_wp fun prog w A R s h => by
    obtain ⟨hp, g, d, tk, os⟩ := s
    obtain ⟨h1, h⟩ := h
    have hsub := sub_enumerate
    have q1 : ∀ {A' : Around} {E : Value → Shared → Prop} {Q : Value → Shared → Prop}, Q (.ref hp.objs.size) ⟨hp.push { cls := .type "tuple_iterator", data := .fields #[.ref l, .int 0 0] }, g, d, tk, os⟩ → wpAny (model prog w) A' (pyIter (.ref l)) Q E ⟨hp, g, d, tk, os⟩ :=
      fun q => (begins_tuple l items).iter prog w _ _ ⟨hp, g, d, tk, os⟩ _ h1 q
    wp_walk using q1
    refine wpAny_stack_any fun st => wpAny_pure ?_
    split
    · rename_i c _ _ _ _ _
      cases (c == Value.type "enumerate") <;>
      · wp_walk using q1
        exact ⟨_, rfl, h⟩
    · wp_walk using q1
      exact ⟨_, rfl, h⟩
theorem call_enumT {prog : Program} {w : World} {A : Around} {E : Value → Shared → Prop} {s : Shared} {l : Addr} {items : Array Value} {Q : Value → Shared → Prop} (hL : s.heap.IsTuple l items)
    (h : ∀ h', IsEnum h' (s.heap.objs.size + 1) s.heap.objs.size 0 .none → h'.IsTupleIter s.heap.objs.size l 0 → h'.objs.size = s.heap.objs.size + 2 → (∀ b o, s.heap.get? b = some o → h'.get? b = some o) → Q (.ref (s.heap.objs.size + 1)) { s with heap := h' }) :
    wpAny (model prog w) A (call (.type "enumerate") [.ref l]) Q E s := by
  refine callType_new F.called_enumerate (by decide) (F.typeCall_enumerate_1 _) (F.newCall_enumerate_1 _) (fun obj => F.args_object_init_2 obj _) F.entry_enumerate_new (meets_enumT l items) ⟨hL, ?_⟩
  have z : (s.heap.push { cls := .type "tuple_iterator", data := .fields #[.ref l, .int 0 0] }).objs.size = s.heap.objs.size + 1 := Heap.size_push ..
  show _ ∧ _
  rw [z]
  have e : IsEnum ((s.heap.push { cls := .type "tuple_iterator", data := .fields #[.ref l, .int 0 0] }).push { cls := .type "enumerate", data := .fields #[.none, .bool false, .ref s.heap.objs.size, rawInt 0, .none, .none] }) (s.heap.objs.size + 1) s.heap.objs.size 0 .none := by
    have q := Heap.get?_push_size (s.heap.push { cls := .type "tuple_iterator", data := .fields #[.ref l, .int 0 0] }) (o := { cls := .type "enumerate", data := .fields #[.none, .bool false, .ref s.heap.objs.size, rawInt 0, .none, .none] }) rfl
    rw [z] at q
    exact q
  exact ⟨⟨_, e, rfl⟩, h _ e ⟨_, Heap.get?_push_of_some _ (Heap.get?_push_size _ rfl), rfl, rfl⟩ (by rw [Heap.size_push, z]) fun b o x => Heap.get?_push_of_some _ (Heap.get?_push_of_some _ x)⟩
/-- the tuple at a, each item in a new pair -/
def Itet (a : Addr) (xs : List V) : It :=
  ⟨fun i H => H a = some (.tup xs) ∧ i < xs.length, fun i H v H' => ∃ T x, v = .ref T ∧ H T = none ∧ H' = upd H T (.tup [.int (i : Nat), x]) ∧ xs[i]? = some x, fun i H => H a = some (.tup xs) ∧ i = xs.length⟩
theorem walk_enumT {a : Addr} {xs : List V} : Walk (Itet a xs) xs.length (fun H => H a = some (.tup xs)) (YPair (fun i => some (.int (i : Nat))) (fun i => xs[i]?)) :=
  ⟨fun i _ hi q => ⟨q, hi⟩, fun _ q => ⟨q, rfl⟩, fun i H v H' _ q y => by
    obtain ⟨T, x, h1, h2, h3, h4⟩ := y
    exact ⟨T, .int (i : Nat), x, h1, h2, h3, rfl, h4⟩⟩
def iEnumT (ta : TA) : TI := fun σ H R => ta σ H fun vs H1 => ∃ a xs, vs = [.ref a] ∧ H1 a = some (.tup xs) ∧ R (Itet a xs) H1
section
variable {X : Cx}
theorem tup_raw {pins : List (Addr × Obj)} {σ : Sl} {H : Hp} {s : Shared} {a : Addr} {xs : List V} (I : Inv X pins σ H s) (h : H a = some (.tup xs)) : ∃ its, Vals xs its ∧ s.heap.IsTuple a its.toArray := by
  obtain ⟨its, r, pl, _⟩ := I.tuple (SqT.of h)
  exact ⟨its, r, pl⟩
theorem turn_enumT {P : Program} {w : World} {K : PySem.W.Frag} {elts : List Expr} {kk : Nat} {tpos : Pos} (a : Addr) (xs : List V) (e it : Addr) :
    Turn P w K (.Tuple elts kk tpos) (Itet a xs) [e, it] e (fun i h => (∃ old, IsEnum h e it ((i : Nat) : Int) old) ∧ h.IsTupleIter it a i ∧ e ≠ it ∧ a ≠ it ∧ e ≠ a) where
  mem := by simp
  obj := fun i h st b hb => by
    obtain ⟨⟨old, he⟩, ⟨o, ho, hc, hd⟩, _⟩ := st
    rcases (show b = e ∨ b = it by simpa using hb) with z | z
    · rw [z]; exact ⟨_, he, fun v q => nomatch q⟩
    · rw [z]; exact ⟨o, ho, fun v q => by rw [hd] at q; cases q⟩
  keep := fun i h h' st k => let ⟨⟨old, he⟩, hi, hne⟩ := st; ⟨⟨old, k e (by simp) _ he⟩, hi.at fun o q => k it (by simp) o q, hne⟩
  item := by
    intro X hP hw hK hc i pins s σ H E I hf st hg
    subst hP hw hK
    obtain ⟨⟨old, he⟩, hit, hne, hai, hea⟩ := st
    obtain ⟨hq, hi⟩ := hg
    obtain ⟨its, rv, ht⟩ := tup_raw I hq
    have hl : its.toArray.size = xs.length := by rw [List.size_toArray, ← rv.length]
    have el : e < s.heap.objs.size := Heap.lt_size he
    have il : it < s.heap.objs.size := by obtain ⟨_, q, _⟩ := hit; exact Heap.lt_size q
    refine wpAny_pyNext_enum_itemD (Draws.tuple (A := X.A.in1) (I.ok.hd hc) it a hai its.toArray) he ⟨hit, ht⟩ (by rw [hl]; exact hi) hne (by simp [hne, hea]) fun x h' tk hx ho hs hT hsz hk => ?_
    obtain ⟨u, hu, ru⟩ := rv.get (List.getElem?_eq_getElem hi)
    have ex : x = u := by
      have z : its[i]? = some x := by simpa using hx
      rw [hu] at z
      exact (Option.some.inj z).symm
    subst ex
    refine ⟨_, rfl, wpAny_letOwnedTupleGo_enum (s := { s with heap := h', toks := tk + 1 }) ho fun h'' he' sb => ?_⟩
    have hT2 : h''.get? s.heap.objs.size = some { cls := .type "tuple", data := .seq #[.int i tk, x] } := (sb.2 _ (Nat.ne_of_gt el)).trans hT
    have new : ObjOk X.prog X.w (upd H s.heap.objs.size (.tup [.int (i : Nat), xs[i]])) h'' s.heap.objs.size (.tup [.int (i : Nat), xs[i]]) :=
      ⟨by show 2 ≤ sizeLine; decide, [.int i tk, x], .cons ⟨_, rfl⟩ (.cons ru .nil), ⟨_, hT2, rfl, _, rfl⟩⟩
    have I1 : Inv X pins σ (upd H s.heap.objs.size (.tup [.int (i : Nat), xs[i]])) { s with heap := h'', toks := tk + 1 } :=
      I.turnedNew (ch := [e, it]) (fun b ob hb q => (sb.2 b (fun z => hb (by simp [z]))).trans (hk b ob (fun z => hb (by simp [z])) (fun z => hb (by simp [z])) q)) hf (Nat.le_refl _) new
    refine ⟨.ref s.heap.objs.size, _, I1, rfl, ⟨_, xs[i], rfl, I.hok.fresh (Nat.le_refl _), rfl, List.getElem?_eq_getElem hi⟩, ⟨⟨x, ?_⟩, hs.1.at fun o q => (sb.2 it (Ne.symm hne)).trans q, hne, hai, hea⟩, fun b hb => ?_⟩
    · rw [show ((i + 1 : Nat) : Int) = (i : Int) + 1 by omega]
      exact he'
    · have lt : b < s.heap.objs.size := by
        rcases (show b = e ∨ b = it by simpa using hb) with z | z
        · rw [z]; exact el
        · rw [z]; exact il
      rw [upd_ne (Nat.ne_of_lt lt)]
      exact (hf b hb).1
  done := by
    intro X hP hw hK hc i pins s σ H E I hf st hg
    subst hP hw hK
    obtain ⟨⟨old, he⟩, hit, hne, hai, hea⟩ := st
    obtain ⟨hq, hi⟩ := hg
    obtain ⟨its, rv, ht⟩ := tup_raw I hq
    obtain ⟨f0, f1, f2, f3, f4, f5⟩ := hf it (by simp)
    have hl : its.toArray.size = xs.length := by rw [List.size_toArray, ← rv.length]
    subst hi
    refine wpAny_pyNext_enum_endD (Draws.tuple (A := X.A.in1) (I.ok.hd hc) it a hai its.toArray) he ⟨by rw [hl]; exact hit, ht⟩ fun h' eb => ⟨rfl, I.turned (t' := s.toks) (fun b o hb q => eb b o hb q) f0 f1 f3 f4 f5⟩
  self := fun A i s Q E st h => let ⟨⟨_, he⟩, _⟩ := st; wpAny_pyIter_enum he h
end
end GR
end
section
set_option Elab.async false
set_option linter.all false
set_option maxRecDepth 100000
set_option maxHeartbeats 4000000
set_option autoImplicit false
/-! More rules: enumerate of a tuple, the pairs of a dict with tuple keys, its truth, a display of one, list(d.keys()). -/
namespace GR
open PySem PySem.Spec L2 PyProof.Rows
open Evl (Ex)
section
variable {X : Cx}
theorem pi_enumT {e : Expr} {ta : TA} {p pos tpos : Pos} {elts : List Expr} {kk : Nat} (hg : Gl X "enumerate") (hm : X.mg "enumerate" = none) (ha : PA X [e] ta) (hs : starEach [e] X.env = [(false, eval e X.env)] := by rfl) :
    PI X (.Tuple elts kk tpos) (.Call (.Name "enumerate" p) [e] [] pos) (iEnumT ta) := by
  refine ⟨fun pins s σ H R I h => ?_⟩
  refine Call_ (ld_blt I hg hm boot_enumerate (PyProof.Rows.callWith_type1 (thn (ha.run pos pins s σ H _ I h) fun us s1 ⟨vs, H1, I1, r1, q1⟩ => ?_) hs rfl))
  obtain ⟨a, xs, rfl, hq, q⟩ := q1
  rw [Vals.ref1 r1]
  obtain ⟨its, rv, ht⟩ := tup_raw I1 hq
  refine call_enumT ht fun h' he hit hsz hk => wpAny_pyIter_enum he ?_
  have la : a < s1.heap.objs.size := by obtain ⟨_, q, _⟩ := ht; exact Heap.lt_size q
  have I2 : Inv X pins σ H1 { s1 with heap := h' } := I1.kept (t' := s1.toks) hk
  refine ⟨s1.heap.objs.size + 1, [s1.heap.objs.size + 1, s1.heap.objs.size], _, _, H1, rfl, I2, turn_enumT a xs (s1.heap.objs.size + 1) s1.heap.objs.size, ⟨⟨.none, he⟩, hit, Nat.succ_ne_self _, Nat.ne_of_lt la, Nat.ne_of_gt (Nat.lt_succ_of_lt la)⟩, fun b hb => ?_, q⟩
  have le : s1.heap.objs.size ≤ b := by
    rcases (show b = s1.heap.objs.size + 1 ∨ b = s1.heap.objs.size by simpa using hb) with z | z
    · rw [z]; exact Nat.le_add_right _ _
    · rw [z]; exact Nat.le_refl _
  exact I1.fpOk le (I1.hok.fresh le)

/-! ### d.items(), the keys tuples -/
def Itit (d : Addr) (o : Obj) (kvs : List (List Key × V)) : It :=
  ⟨fun i H => H d = some (.frz o (.dT kvs)) ∧ i < kvs.length, fun i H x H' => ∃ T q k v, kvs[i]? = some (k, v) ∧ x = .ref T ∧ H q = some (.tup (k.map kV)) ∧ H T = none ∧ H' = upd H T (.tup [.ref q, v]), fun i H => H d = some (.frz o (.dT kvs)) ∧ kvs.length ≤ i⟩
theorem walk_itemsT {d : Addr} {o : Obj} {kvs : List (List Key × V)} : Walk (Itit d o kvs) kvs.length (fun H => H d = some (.frz o (.dT kvs)))
    (fun i H x H' => ∃ T q k v, kvs[i]? = some (k, v) ∧ x = .ref T ∧ H q = some (.tup (k.map kV)) ∧ H T = none ∧ H' = upd H T (.tup [.ref q, v])) :=
  ⟨fun _ _ hi q => ⟨q, hi⟩, fun _ q => ⟨q, Nat.le_refl _⟩, fun _ _ _ _ _ _ y => y⟩
theorem frz_rawT {pins : List (Addr × Obj)} {σ : Sl} {H : Hp} {s : Shared} {d : Addr} {o : Obj} {kvs : List (List Key × V)} (I : Inv X pins σ H s) (h : H d = some (.frz o (.dT kvs))) :
    (d == sysModules) = false ∧ s.heap.get? d = some o ∧ ∃ (es : Array DictEntry) (ep : Nat), o.data = .dict es ep ∧ es.size = kvs.length ∧ DT.Raw s.heap d es ep ∧
      ∀ (i : Nat) (k : List Key) (v : V), kvs[i]? = some (k, v) → ∃ (q : Addr) (hi : i < es.size), es[i].key = .ref q ∧ H q = some (.tup (k.map kV)) ∧ RelV v es[i].val := by
  obtain ⟨hd, z, hs, xs, pr, o', es, ep, ho, hx, hdt, he, _⟩ := I.hok d _ h
  rw [hd] at ho
  cases ho
  have l1 : es.size = xs.length := size_of_entries he
  have l2 : kvs.length = xs.length := Paired.length pr
  refine ⟨hs, hd, es, ep, hdt, by omega, ⟨_, hd, hx, hdt⟩, fun i k v e => ?_⟩
  obtain ⟨b, hb, e1, e2, e3⟩ := paired_get pr e
  have q := entry_at he i
  rw [hb] at q
  have hi : i < es.size := by
    have := (List.getElem?_eq_some_iff.mp hb).1
    omega
  rw [Array.getElem?_eq_getElem hi] at q
  have q : es[i] = entryOfKey _ b := Option.some.inj q
  refine ⟨b.2.1, hi, ?_, e2, ?_⟩
  · rw [q]; rfl
  · rw [q]; exact e3
theorem turn_itemsT {P : Program} {w : World} {K : PySem.W.Frag} {d : Addr} {o : Obj} {es : Array DictEntry} {ep : Nat} {kvs : List (List Key × V)} {elts : List Expr} {kk : Nat} {tpos : Pos} (it : Addr) (hod : o.data = .dict es ep) :
    Turn P w K (.Tuple elts kk tpos) (Itit d o kvs) [it] it (fun i h => ∃ ok ov, IsItemIter h it d i kvs.length ep ok ov) where
  mem := by simp
  obj := fun i h st b hb => by
    obtain rfl : b = it := by simpa using hb
    obtain ⟨ok, ov, e⟩ := st
    exact ⟨_, e, fun v z => nomatch z⟩
  keep := fun i h h' st k => let ⟨ok, ov, e⟩ := st; ⟨ok, ov, k it (by simp) _ e⟩
  item := by
    intro X hP hw hK hc i pins s σ H E I hf st hg
    subst hP hw hK
    obtain ⟨hd, hi⟩ := hg
    obtain ⟨hs, hgd, es', ep', hdt, hl, raw, get⟩ := frz_rawT I hd
    obtain ⟨rfl, rfl⟩ := dict_ep hod hdt
    obtain ⟨q, hi2, ek, eq, ev⟩ := get i _ _ (List.getElem?_eq_getElem hi)
    obtain ⟨ok, ov, he⟩ := st
    rw [← hl] at he
    have lt : it < s.heap.objs.size := Heap.lt_size he
    refine DT.nextI he raw hi2 fun h' ho hT hz hk => ?_
    refine ⟨_, rfl, wpAny_letOwnedTupleGo_items (s := { s with heap := h' }) ho fun h'' he' sb => ?_⟩
    have hT2 : h''.get? s.heap.objs.size = some { cls := .type "tuple", data := .seq #[es'[i].key, es'[i].val] } := (sb.2 _ (Nat.ne_of_gt lt)).trans hT
    have new : ObjOk X.prog X.w (upd H s.heap.objs.size (.tup [.ref q, kvs[i].2])) h'' s.heap.objs.size (.tup [.ref q, kvs[i].2]) :=
      ⟨by show 2 ≤ sizeLine; decide, [es'[i].key, es'[i].val], .cons (show es'[i].key = Value.ref q from ek) (.cons ev .nil), ⟨_, hT2, rfl, _, rfl⟩⟩
    have I1 : Inv X pins σ (upd H s.heap.objs.size (.tup [.ref q, kvs[i].2])) { s with heap := h'' } :=
      I.turnedNew (t' := s.toks) (ch := [it]) (fun b ob hb e => (sb.2 b (by simpa using hb)).trans (hk b ob (by simpa using hb) e)) hf (Nat.le_refl _) new
    refine ⟨.ref s.heap.objs.size, _, I1, rfl, ⟨_, q, kvs[i].1, kvs[i].2, List.getElem?_eq_getElem hi, rfl, eq, I.hok.fresh (Nat.le_refl _), rfl⟩, ⟨es'[i].key, es'[i].val, ?_⟩, fun b hb => ?_⟩
    · rw [← hl]
      exact he'
    · obtain rfl : b = it := by simpa using hb
      rw [upd_ne (Nat.ne_of_lt lt)]
      exact (hf b (by simp)).1
  done := by
    intro X hP hw hK hc i pins s σ H E I hf st hg
    subst hP hw hK
    obtain ⟨hd, hi⟩ := hg
    obtain ⟨hs, hgd, es', ep', hdt, hl, raw, get⟩ := frz_rawT I hd
    obtain ⟨rfl, rfl⟩ := dict_ep hod hdt
    obtain ⟨f0, f1, f2, f3, f4, f5⟩ := hf it (by simp)
    obtain ⟨ok, ov, he⟩ := st
    rw [← hl] at he
    exact DT.endI (I.ok.hd hc) he raw (by omega) fun h' eb => ⟨rfl, I.turned (t' := s.toks) (fun b ob hb e => eb b ob hb e) f0 f1 f3 f4 f5⟩
  self := fun A i s Q E st h => let ⟨_, _, e⟩ := st; PySem.W.kcp_self e h
def iItemsT (td : TE) : TI := fun σ H R => td σ H fun x H1 => ∃ d o kvs, x = .ref d ∧ H1 d = some (.frz o (.dT kvs)) ∧ R (Itit d o kvs) H1
theorem pi_itemsT {e : Expr} {td : TE} {apos cpos tpos : Pos} {elts : List Expr} {kk : Nat} (he : PE X e td) (hbase : attributeBase e "items" X.env (eval e X.env) = eval e X.env := by rfl) (hline : (apos.endLine == cpos.line) = true := by rfl) :
    PI X (.Tuple elts kk tpos) (.Call (.Attribute e "items" apos) [] [] cpos) (iItemsT td) := by
  refine ⟨fun pins s σ H R I h => ?_⟩
  refine wpAny_Call_method (T := "dict") (id := "dict.items") hbase rfl hline F.plainAttrs_dict F.slot_dict_items F.type_dict_items (thn (he.run pins s σ H _ I h) fun u s1 ⟨x, H1, I1, rx, d, o, kvs, ex, hd, q⟩ => ?_)
  subst ex
  obtain rfl : u = Value.ref d := rx
  obtain ⟨hs, hgd, es, ep, hdt, hl, raw, get⟩ := frz_rawT I1 hd
  refine ⟨raw.typeIs, fun b z => ?_, ?_⟩
  · cases z
    obtain ⟨ob, h1, h2, _⟩ := raw
    exact ⟨ob, h1, h2.2.1⟩
  have I2 : Inv X pins σ H1 { s1 with heap := s1.heap.push { cls := .type "dict_items", data := .fields #[.ref d] } } := I1.kept (t' := s1.toks) fun b ob q => Heap.get?_push_of_some _ q
  have fin : wpAny (model X.prog X.w) X.A (pyIter (.ref s1.heap.objs.size)) (PIE X pins σ (.Tuple elts kk tpos) R) X.xe { s1 with heap := s1.heap.push { cls := .type "dict_items", data := .fields #[.ref d] } } := by
    refine DT.iterI (d := d) ⟨_, Heap.get?_push_size _ rfl, rfl, rfl⟩ (raw.push _) (pi_one (tk := s1.toks) I2 _ (turn_itemsT _ hdt) ⟨.none, .none, ?_⟩ q)
    rw [← hl]
    exact Heap.get?_push_size _ rfl
  show wpAny _ _ (callWith cpos (.builtin "dict.items") [.ref d] [] []) _ X.xe s1
  exact method_meetsIn F.slot_dict_items F.entry_dict_items rfl (PySem.evalArgs_none ⟨rfl, raw.typeIs, F.args_dict_items_1 _, _, DT.meetsItems (es := es) (ep := ep) hs, raw, fin⟩)

/-! ### the truth of such a dict -/
theorem dT_raw {pins : List (Addr × Obj)} {σ : Sl} {H : Hp} {s : Shared} {d : Addr} {kvs : List (List Key × V)} (I : Inv X pins σ H s) (h : H d = some (.dT kvs)) : (d == sysModules) = false ∧ kvs.length ≤ sizeLine ∧ ∃ es ep, s.heap.DictRaw d es ep ∧ es.size = kvs.length := by
  obtain ⟨z, hs, xs, rel, o, es, ep, ho, hx, hdt, he, _⟩ := dt_of I.hok h
  exact ⟨hs, z, es, ep, ⟨o, ho, hx, hdt⟩, by rw [size_of_entries he, ← Paired.length rel]⟩
theorem truth_raw {d : Addr} {es : Array DictEntry} {ep : Nat} {s : Shared} {Q : Bool → Shared → Prop} {E : Value → Shared → Prop} (hd : (d == sysModules) = false) (hm : s.heap.DictRaw d es ep) (hz : es.size ≤ sizeLine)
    (h : ∀ t, Q (decide (0 < es.size)) { s with toks := t }) : wpAny (model X.prog X.w) X.A (truthy (.ref d)) Q E s := by
  have hfit : ¬ ((es.size : Nat) : Int) ≥ 2 ^ 63 := by rw [sizeLine_eq] at hz; omega
  have hne : (((es.size : Nat) : Int) != 0) = decide (0 < es.size) := by
    by_cases e : es.size = 0
    · rw [e]; rfl
    · rw [decide_eq_true (Nat.pos_of_ne_zero e)]
      exact bne_iff_ne.mpr (by omega)
  have key : wpAny (model X.prog X.w) X.A (runValue (.builtin "len" ⟨[.ref d], []⟩)) (fun r s' => r = .int es.size (s.toks + 1) ∧ Q (decide (0 < es.size)) s') E s := by
    refine wpAny_runValue (codeAny_builtin entry_len ?_)
    rw [Around.under_plainId plain_len _]
    refine wpAny_mono (show wpAny (model X.prog X.w) X.A.in1 (Builtin.«len» ⟨[.ref d], []⟩) (fun fin s' => ∃ r, fin = .done (.ret r) ∧ r = .int es.size (s.toks + 1) ∧ Q (decide (0 < es.size)) s') _ s from ?_) (fun fin s' z => by obtain ⟨r, rfl, hq⟩ := z; exact hq) fun _ _ e => e
    unfold Builtin.«len»
    refine wpAny_bind (m := oneArg "len" _) (wpAny_pure ?_)
    refine wpAny_bind (m := callSpecial? (.ref d) (Str.ofString "__len__")) (wpAny_callSpecial?_slot (name := Str.ofString "__len__") hm.typeIs F.slot_dict_len (call_len_raw hd hm ?_))
    show wpAny _ _ _ _ _ { s with toks := s.toks + 1 }
    refine wpAny_bind (wpAny_holding (wpAny_pure ?_))
    refine wpAny_bind (wpAny_letGo ?_)
    show wpAny _ _ (if ((es.size : Nat) : Int) < 0 then _ else _) _ _ _
    rw [if_neg (by omega)]
    show wpAny _ _ (if ((es.size : Nat) : Int) ≥ 2 ^ 63 then _ else _) _ _ _
    rw [if_neg hfit]
    exact wpAny_bind (wpAny_mkInt (wpAny_pure ⟨_, rfl, rfl, h _⟩))
  unfold truthy
  first
    | refine wpAny_bind (wpAny_callSpecial?_none (name := Str.ofString "__bool__") hm.typeIs noBool_dict ?_)
    | refine wpAny_bind (wpAny_pure (wpAny_bind (wpAny_callSpecial?_none (name := Str.ofString "__bool__") hm.typeIs noBool_dict ?_)))
  first
    | refine wpAny_bind (wpAny_specialOf (name := Str.ofString "__len__") hm.typeIs F.slot_dict_len.lookup ?_)
    | refine wpAny_bind (wpAny_pure (wpAny_bind (wpAny_specialOf (name := Str.ofString "__len__") hm.typeIs F.slot_dict_len.lookup ?_)))
  first
    | exact wpAny_bind (wpAny_mono key (fun r s' z => by obtain ⟨rfl, hq⟩ := z; exact wpAny_pure (hne ▸ hq)) fun _ _ e => e)
    | exact wpAny_bind (wpAny_pure (wpAny_bind (wpAny_mono key (fun r s' z => by obtain ⟨rfl, hq⟩ := z; exact wpAny_pure (hne ▸ hq)) fun _ _ e => e)))
def rTruT : V → Hp → (Bool → Hp → Prop) → Prop := fun x H Q => ∃ a kvs, x = .ref a ∧ H a = some (.dT kvs) ∧ Q (decide (0 < kvs.length)) H
theorem truT : TruR X rTruT := by
  intro pins s σ H x v Q I rx h
  obtain ⟨a, kvs, rfl, ha, q⟩ := h
  cases rx
  obtain ⟨hd, hz, es, ep, raw, hl⟩ := dT_raw I ha
  exact truth_raw hd raw (hl ▸ hz) fun t => ⟨H, I.tok t, by rw [hl]; exact q⟩

/-! ### {(..): v} -/
def tDisp1T (tk tv : TE) : TE := fun σ H Q => ∀ p, H p = none → tk σ (upd H p (.dT [])) fun y H1 => tv σ H1 fun v H2 => ∃ (b : Addr) (k : List Key), y = .ref b ∧ H2 b = some (.tup (k.map kV)) ∧ H2 p = some (.dT []) ∧ Q (.ref p) (upd H2 p (.dT [(k, v)]))
theorem pe_disp1T {pos : Pos} {kx vx : Expr} {tk tv : TE} (hu : X.A.units + 1 < cLine) (hk : PE X kx tk) (hv : PE X vx tv) : PE X (.Dict [some kx] [vx] pos) (tDisp1T tk tv) := by
  refine ⟨fun pins s σ H Q I q => ?_⟩
  have room : (tupleKind (mixKind X.prog X.w)).room X.A := Nat.lt_of_le_of_lt (Nat.le_add_right _ _) hu
  have I1 := I.laid (a := s.heap.objs.size) (o := .dT []) (h' := s.heap.push { cls := .type "dict", data := .dict #[] }) (t' := s.toks) (fun _ _ q => Heap.get?_push_of_some _ q) (Nat.le_refl _) (dt_empty s.heap I.big)
  rw [arm_eval_Dict, zip_pairTrees [some kx] [vx] X.env pos rfl rfl, dictDisplay_pairs _ (by intro z; cases z) (by show 1 < 17; decide)]
  refine wpAny_bind (wpAny_standAt (wpAny_bind (wpAny_subDictH (knd := tupleKind (mixKind X.prog X.w)) (Q := fun d s' => wpAny (model X.prog X.w) X.A (pure (Value.ref d)) (EP X pins σ Q) X.xe s') room (by show 1 ≤ 15; decide)
    (pairTrees_cons_walk (thn (hk.run pins _ σ _ _ I1 (q _ (I.hok.fresh (Nat.le_refl _)))) fun kv s2 ⟨y, H2, I2, r2, q2⟩ => thn (hv.run pins s2 σ H2 _ I2 q2) fun vv s3 ⟨v, H3, I3, r3, b, k, ey, hb, hp, q3⟩ => pairTrees_nil_walk ?_)))))
  subst ey
  cases (show kv = Value.ref b from r2)
  obtain ⟨z, hd, xs, rel, dd⟩ := dt_of I3.hok hp
  cases rel
  refine ⟨[(k, b, vv)], ⟨rfl, rfl, key_of I3.hok hb, trivial⟩, dd, fun h' tk dd' hs => wpAny_pure ?_⟩
  obtain ⟨ob, es, ep, hq, h2, h3, h4, h6, h5⟩ := dd'
  have KTn : L2.KT (upd H3 s.heap.objs.size (.dT [(k, v)])) [(k, v)] [(k, b, vv)] := .cons ⟨rfl, by rw [upd_ne (ne_of hb hp fun z => nomatch z)]; exact hb, r3⟩ .nil
  exact ⟨.ref s.heap.objs.size, upd H3 s.heap.objs.size (.dT [(k, v)]), d_write (t' := tk) I3 (by rw [hp]; exact True.intro) hs ⟨ob, hq⟩ ⟨by show 1 ≤ sizeLine; decide, hd, _, KTn, ob, es, ep, hq, h2, h3, h4, h5⟩, rfl, q3⟩

/-! ### list(d.keys()) -/
def keysO (p d : Addr) : HO := .ext fun h => PySem.W.KdlKeysView h p d
def oKeys : V → List V → Hp → VK → Prop := fun x xs H Q => ∃ (a : Addr) (kvs : List (Key × V)), x = .ref a ∧ xs = [] ∧ H a = some (.dK kvs) ∧ ∀ p, H p = none → Q (.ref p) (upd H p (keysO p a))
theorem mt_keysK : MtR X "dict.keys" oKeys := by
  intro pins s σ H x xs v us Q I rx rxs h
  obtain ⟨a, kvs, rfl, rfl, ha, q⟩ := h
  cases rx
  cases rxs
  obtain ⟨z, hd, vs, rel, dd⟩ := dk_of I.hok ha
  refine call_meetsIn F.slot_dict_keys dd.typeIs F.entry_dict_keys (F.args_dict_keys_1 _) (PySem.W.kdl_meets_keys (mixKind X.prog X.w) a hd) ⟨⟨vs, dd⟩, ?_⟩
  refine ⟨.ref s.heap.objs.size, upd H s.heap.objs.size (keysO s.heap.objs.size a), I.laid (t' := s.toks) (fun b u e => Heap.get?_push_of_some _ e) (Nat.le_refl _) ?_, rfl, q _ (I.hok.fresh (Nat.le_refl _))⟩
  exact ⟨⟨_, Heap.get?_push_size _ rfl, rfl, rfl⟩, ⟨_, Heap.get?_push_size _ rfl⟩, fun h1 h2 x k => let ⟨o, ho, r⟩ := x; ⟨o, k o ho, r⟩⟩
def cListK : List V → Hp → VK → Prop := fun vs H Q => ∃ (p a : Addr) (kvs : List (Key × V)), vs = [.ref p] ∧ H p = some (keysO p a) ∧ H a = some (.dK kvs) ∧ ∀ l, H l = none → Q (.ref l) (upd H l (.lst (kvs.map fun kv => kV kv.1)))
theorem crListK (hcalm : X.calm = true) : CallR X (.type "list") cListK := by
  intro pins s σ H xs us Q I r h
  obtain ⟨p, a, kvs, rfl, hp, ha, q⟩ := h
  rw [Vals.ref1 r]
  obtain ⟨z, lo, vs, rel, dd⟩ := dk_of I.hok ha
  obtain ⟨ep, hat⟩ := dd.dictAt
  have hv : PySem.W.KdlKeysView s.heap p a := (I.hok p _ hp).1
  have ek : (kvs.map fun kv => kV kv.1) = vs.map fun p => kV p.1 := by
    have e := congrArg (List.map kV) rel.keys
    rw [List.map_map, List.map_map] at e
    exact e
  refine PySem.W.kdl_call (PySem.W.kdl_keys (knd := mixKind X.prog X.w) (kvs := vs) (ep := ep)) (I.ok.hd hcalm) ⟨hv, hat⟩ (rel.length ▸ z) fun h' tk acc c' hk hD hacc => ?_
  have hvs : Vals (vs.map fun p => kV p.1) acc.toList := keys_at (by rw [Array.length_toList]; exact hacc.1) fun j v e => hacc.2 j v (by rw [← Array.getElem?_toList]; exact e)
  exact ⟨.ref s.heap.objs.size, upd H s.heap.objs.size (.lst (kvs.map fun kv => kV kv.1)), I.laid (t' := tk) hk (Nat.le_refl _) (show ObjOk X.prog X.w _ _ _ (.lst (kvs.map fun kv => kV kv.1)) from ⟨by rw [List.length_map]; exact z, acc.toList, c', by rw [ek]; exact hvs, by rw [Array.toArray_toList]; exact hD⟩), rfl, q _ (I.hok.fresh (Nat.le_refl _))⟩
end
end GR
end
section
set_option Elab.async false
set_option linter.all false
set_option maxRecDepth 100000
set_option maxHeartbeats 4000000
set_option autoImplicit false
/-! Readings of comprehensions: the heap without the new collection. -/
namespace GR
open PySem PySem.Spec L2
open Evl (Ex)
/-- the heap without D -/
def off (D : Addr) (H : Hp) : Hp := fun b => if b = D then none else H b
section
variable {D b p : Addr} {H H' B : Hp} {o u : HO}
theorem off_D : off D H D = none := by unfold off; rw [if_pos rfl]
theorem off_ne (h : b ≠ D) : off D H b = H b := by unfold off; rw [if_neg h]
theorem off_upd : off D (upd H D o) = off D H := by
  funext b
  by_cases e : b = D
  · rw [e, off_D, off_D]
  · rw [off_ne e, off_ne e, upd_ne e]
theorem off_none (h : H D = none) : off D H = H := by
  funext b
  by_cases e : b = D
  · rw [e, off_D, h]
  · rw [off_ne e]
theorem off_le : Ex (off D H) H := fun b o h => by
  by_cases e : b = D
  · rw [e, off_D] at h; cases h
  · rw [off_ne e] at h; exact h
theorem off_back (h : H D = some o) : upd (off D H) D o = H := by
  funext b
  by_cases e : b = D
  · rw [e, upd_same, h]
  · rw [upd_ne e, off_ne e]
theorem off_ex (e : Ex (upd B D o) H) (h : B D = none) : Ex B (off D H) := fun b u q => by
  by_cases z : b = D
  · rw [z, h] at q; cases q
  · rw [off_ne z]
    exact e b u (by rw [upd_ne z]; exact q)
theorem ne_new (h : H p = none) (h2 : H D = some o) : p ≠ D := fun e => by rw [e, h2] at h; cases h
theorem off_new (h : H p = some u) (hd : H D = some o) (ho : u ≠ o) : off D H p = some u := by
  rw [off_ne fun e => by rw [e, hd] at h; exact ho (Option.some.inj h).symm]
  exact h
theorem upd_some (h : p ≠ D) (q : H p = some u) : upd H D o p = some u := by rw [upd_ne h]; exact q
theorem ex_same : Ex (upd B D o) H → H D = some o := fun e => e D o upd_same
end
/-- the turns of a list comprehension -/
def LcAt (g : TG) (tt : TT) (te : TE) (vs : List Nat) (σ : Sl) (J : It) (H1 : Hp) (Q : VK) : Prop := ∀ D, H1 D = none → ∃ W : Nat → Nat → Hp → Prop, (∃ m, W 0 m (upd H1 D (.lst []))) ∧ ∀ i m H, W i m H →
  (J.stop i H ∧ Q (.ref D) H) ∨ (J.go i H ∧ ∃ Nx : Hp → Prop, (∀ H', Nx H' → ∃ m', m' < m ∧ W (i + 1) m' H') ∧ ∀ x H', J.yld i H x H' → g x (wipe σ vs) H' fun σ2 H2 => wipe σ2 vs = wipe σ vs ∧ tt σ2 H2 fun b H3 =>
    if b = true then te σ2 H3 fun y H4 => ∃ acc, H4 D = some (.lst acc) ∧ acc.length < sizeLine ∧ Nx (upd H4 D (.lst (acc ++ [y]))) else Nx H3)
def DcAt (g : TG) (tt : TT) (tk tv : TE) (em : HO) (vs : List Nat) (σ : Sl) (J : It) (H1 : Hp) (Q : VK) : Prop := ∀ D, H1 D = none →
  ∃ W : Nat → Nat → Hp → Prop, (∃ m, W 0 m (upd H1 D em)) ∧ ∀ i m H, W i m H → (J.stop i H ∧ Q (.ref D) H) ∨
    (J.go i H ∧ ∃ N : Hp → Prop, (∀ H', N H' → ∃ m', m' < m ∧ W (i + 1) m' H') ∧ ∀ x H', J.yld i H x H' → g x (wipe σ vs) H' fun σ2 H2 => wipe σ2 vs = wipe σ vs ∧ tt σ2 H2 fun b H3 => if b = true then stD tk tv σ2 H3 D N else N H3)
section
variable {σ : Sl} {H H1 : Hp} {Q : VK} {wi : TI} {g : TG} {tt : TT} {te tk tv td ty tx : TE} {vs : List Nat} {em : HO} {J : It} {n : Nat} {G : Hp → Prop} {Y : Nat → Hp → V → Hp → Prop}
theorem i_lc (h : wi σ H fun J H1 => LcAt g tt te vs σ J H1 Q) : tLc wi g tt te vs σ H Q := h
theorem i_dcw (h : wi σ H fun J H1 => DcAt g tt tk tv em vs σ J H1 Q) : tDcW wi g tt tk tv em vs σ H Q := h
theorem i_dsetd (h : td σ H fun x H1 => ∃ a, x = .ref a ∧ IsD H1 a ∧ ty σ H1 fun y H2 => tx σ H2 fun z H3 => ∃ (kvs : List (Key × V)) (k : Key), H3 a = some (.dK kvs) ∧ y = kV k ∧ kvs.length < sizeLine ∧
  (∀ v, valV kvs k = some v → Q v H3) ∧ (valV kvs k = none → Q z (upd H3 a (.dK (putK kvs k z))))) : tDSetd td ty tx σ H Q := h
theorem i_iEnumT {ta : TA} {R : It → Hp → Prop} (h : ta σ H fun vs H1 => ∃ a xs, vs = [.ref a] ∧ H1 a = some (.tup xs) ∧ R (Itet a xs) H1) : iEnumT ta σ H R := h
theorem i_iItemsT {R : It → Hp → Prop} (h : td σ H fun x H1 => ∃ d o kvs, x = .ref d ∧ H1 d = some (.frz o (.dT kvs)) ∧ R (Itit d o kvs) H1) : iItemsT td σ H R := h
/-- by turns, S telling of the heap without the new list -/
theorem lcX (w : Walk J n G Y) (hn : n ≤ sizeLine) (S : Addr → Nat → Hp → List V → Prop) (h0 : ∀ D, H1 D = none → S D 0 H1 [])
    (hG : ∀ D i B acc, Ex H1 B → B D = none → S D i B acc → G (upd B D (.lst acc)))
    (hs : ∀ D i x B H' acc (N : Hp → Prop) (T : V → Hp → Prop), i < n → Ex H1 B → B D = none → S D i B acc → Y i (upd B D (.lst acc)) x H' →
      (∀ H3, Ex (upd B D (.lst acc)) H3 → S D (i + 1) (off D H3) acc → N H3) → (∀ y H4, Ex (upd B D (.lst acc)) H4 → S D (i + 1) (off D H4) (acc ++ [y]) → T y H4) →
      g x (wipe σ vs) H' fun σ2 H2 => wipe σ2 vs = wipe σ vs ∧ tt σ2 H2 fun b H3 => Io b (te σ2 H3 T) (N H3))
    (hd : ∀ D B acc, H1 D = none → Ex H1 B → B D = none → S D n B acc → Q (.ref D) (upd B D (.lst acc))) : LcAt g tt te vs σ J H1 Q := by
  intro D hD
  refine lc_it w (fun i H => ∃ B acc, H = upd B D (.lst acc) ∧ Ex H1 B ∧ B D = none ∧ S D i B acc ∧ acc.length ≤ i) ⟨H1, [], rfl, Ex.refl _, hD, h0 D hD, Nat.le_refl _⟩ (fun i H _ p => ?_) (fun i x H H' hi p y => ?_) fun H p => ?_
  · obtain ⟨B, acc, rfl, e, hB, s, _⟩ := p
    exact hG D i B acc e hB s
  · obtain ⟨B, acc, rfl, e, hB, s, hl⟩ := p
    refine hs D i x B H' acc _ _ hi e hB s y (fun H3 z1 z2 => ?_) fun y H4 z1 z2 => ?_
    · exact ⟨off D H3, acc, (off_back (ex_same z1)).symm, e.trans (off_ex z1 hB), off_D, z2, by omega⟩
    · exact ⟨acc, ex_same z1, by omega, off D H4, acc ++ [y], by rw [← off_back (ex_same z1), upd_upd, off_back (ex_same z1)], e.trans (off_ex z1 hB), off_D, z2, by rw [List.length_append, List.length_singleton]; omega⟩
  · obtain ⟨B, acc, rfl, e, hB, s, _⟩ := p
    exact hd D B acc hD e hB s
/-- nothing made by the way -/
theorem lcP (w : Walk J n G Y) (hn : n ≤ sizeLine) (p : Nat → Bool) (f : Nat → V) (hG : ∀ D acc, H1 D = none → G (upd H1 D (.lst acc)))
    (hs : ∀ D i x H' acc (N : Hp → Prop) (T : V → Hp → Prop), H1 D = none → i < n → Y i (upd H1 D (.lst acc)) x H' → (p i = false → N (upd H1 D (.lst acc))) → (p i = true → T (f i) (upd H1 D (.lst acc))) →
      g x (wipe σ vs) H' fun σ2 H2 => wipe σ2 vs = wipe σ vs ∧ tt σ2 H2 fun b H3 => Io b (te σ2 H3 T) (N H3))
    (hd : ∀ D, H1 D = none → Q (.ref D) (upd H1 D (.lst (((List.range n).filter p).map f)))) : LcAt g tt te vs σ J H1 Q := by
  refine lcX w hn (fun D i B acc => B = H1 ∧ acc = ((List.range i).filter p).map f) (fun D hD => ⟨rfl, rfl⟩) (fun D i B acc e hB s => ?_) (fun D i x B H' acc N T hi e hB s y k1 k2 => ?_) fun D B acc hD e hB s => ?_
  · obtain ⟨rfl, rfl⟩ := s
    exact hG D _ hB
  · obtain ⟨rfl, rfl⟩ := s
    refine hs D i x H' _ N T hB hi y (fun e => k1 _ (Ex.refl _) ⟨by rw [off_upd, off_none hB], ?_⟩) fun e => k2 _ _ (Ex.refl _) ⟨by rw [off_upd, off_none hB], ?_⟩
    · rw [List.range_succ, List.filter_append, List.map_append]
      simp [e]
    · rw [List.range_succ, List.filter_append, List.map_append]
      simp [e]
  · obtain ⟨rfl, rfl⟩ := s
    exact hd D hD
theorem range_filter_map {α β : Type} (xs : List α) (p : α → Bool) (f : α → β) (d : α) : ((List.range xs.length).filter fun i => p (xs.getD i d)).map (fun i => f (xs.getD i d)) = (xs.filter p).map f := by
  have e : (List.range xs.length).map (fun i => xs.getD i d) = xs := by
    apply List.ext_getElem (by simp)
    intro i h1 h2
    simp at h1
    simp [h1]
  have e2 : ((List.range xs.length).filter fun i => p (xs.getD i d)) = (List.range xs.length).filter (p ∘ fun i => xs.getD i d) := rfl
  rw [e2, show (fun i => f (xs.getD i d)) = f ∘ fun i => xs.getD i d from rfl, ← List.map_map, ← List.filter_map, e]
/-- over a list of things -/
theorem lcL {α : Type} [Inhabited α] (xs : List α) (v : α → V) (w : Walk J xs.length G Y) (hn : xs.length ≤ sizeLine) (hY : ∀ i H x H', Y i H x H' → H' = H ∧ (xs.map v)[i]? = some x) (p : α → Bool) (f : α → V) (hG : ∀ D acc, H1 D = none → G (upd H1 D (.lst acc)))
    (hs : ∀ D acc z (N : Hp → Prop) (T : V → Hp → Prop), H1 D = none → z ∈ xs → (p z = false → N (upd H1 D (.lst acc))) → (p z = true → T (f z) (upd H1 D (.lst acc))) →
      g (v z) (wipe σ vs) (upd H1 D (.lst acc)) fun σ2 H2 => wipe σ2 vs = wipe σ vs ∧ tt σ2 H2 fun b H3 => Io b (te σ2 H3 T) (N H3))
    (hd : ∀ D, H1 D = none → Q (.ref D) (upd H1 D (.lst ((xs.filter p).map f)))) : LcAt g tt te vs σ J H1 Q := by
  refine lcP w hn (fun i => p (xs.getD i default)) (fun i => f (xs.getD i default)) hG (fun D i x H' acc N T hD hi y k1 k2 => ?_) fun D hD => ?_
  · obtain ⟨rfl, hx⟩ := hY _ _ _ _ y
    rw [List.getElem?_map] at hx
    obtain ⟨z, hz, rfl⟩ := Option.map_eq_some_iff.mp hx
    have e : xs.getD i default = z := by rw [List.getD_eq_getElem?_getD, hz]; rfl
    rw [e] at k1 k2
    exact hs D acc z N T hD (List.mem_of_getElem? hz) k1 k2
  · rw [range_filter_map xs p f default]
    exact hd D hD
/-- dicts of names: by turns, S telling of the heap without the new dict -/
theorem dcX (w : Walk J n G Y) (hn : n ≤ 1000) (S : Addr → Nat → Hp → List Str → (Str → V) → Prop) (h0 : ∀ D, H1 D = none → S D 0 H1 [] fun _ => .non)
    (hG : ∀ D i B ks f, Ex H1 B → B D = none → S D i B ks f → G (upd B D (sd ks f)))
    (hs : ∀ D i x B H' ks f (N : Hp → Prop), i < n → Ex H1 B → B D = none → S D i B ks f → Y i (upd B D (sd ks f)) x H' →
      (∀ H3, Ex (upd B D (sd ks f)) H3 → S D (i + 1) (off D H3) ks f → N H3) → (∀ s z H5, Ex (upd B D (sd ks f)) H5 → S D (i + 1) (off D H5) (addk ks s) (setf f s z) → ∃ H6, DPut H5 D (.str s) z H6 ∧ N H6) →
      g x (wipe σ vs) H' fun σ2 H2 => wipe σ2 vs = wipe σ vs ∧ tt σ2 H2 fun b H3 => Io b (stD tk tv σ2 H3 D N) (N H3))
    (hd : ∀ D B ks f, H1 D = none → Ex H1 B → B D = none → S D n B ks f → Q (.ref D) (upd B D (sd ks f))) : DcAt g tt tk tv (.dK []) vs σ J H1 Q := by
  intro D hD
  refine ⟨fun i m H => m = n - i ∧ i ≤ n ∧ ∃ B ks f, H = upd B D (sd ks f) ∧ Ex H1 B ∧ B D = none ∧ S D i B ks f ∧ ks.length ≤ i, ⟨n, rfl, Nat.zero_le _, H1, [], fun _ => .non, rfl, Ex.refl _, hD, h0 D hD, Nat.le_refl _⟩, ?_⟩
  rintro i m H ⟨rfl, hi, B, ks, f, rfl, e, hB, s, hl⟩
  have g0 := hG D i B ks f e hB s
  by_cases lt : i < n
  · refine .inr ⟨w.goes i _ lt g0, fun H => ∃ B ks f, H = upd B D (sd ks f) ∧ Ex H1 B ∧ B D = none ∧ S D (i + 1) B ks f ∧ ks.length ≤ i + 1, fun H' z => ⟨n - (i + 1), by omega, rfl, lt, z⟩, fun x H' y => ?_⟩
    refine hs D i x B H' ks f _ lt e hB s (w.yields i _ x H' lt g0 y) (fun H3 z1 z2 => ?_) fun k z H5 z1 z2 => ?_
    · exact ⟨off D H3, ks, f, (off_back (ex_same z1)).symm, e.trans (off_ex z1 hB), off_D, z2, by omega⟩
    · obtain ⟨a', H6, ea, hp, hn6⟩ := kd_put (p := fun H6 => H6 = upd H5 D (sd (addk ks k) (setf f k z))) (s := k) (v := z) (ex_same z1) (by have := small1000 (n := ks.length) (by omega); omega) rfl
      cases ea
      refine ⟨H6, hp, off D H5, addk ks k, setf f k z, ?_, e.trans (off_ex z1 hB), off_D, z2, ?_⟩
      · rw [hn6, ← off_back (ex_same z1), upd_upd, off_back (ex_same z1)]
      · unfold addk
        split
        · omega
        · rw [List.length_append, List.length_singleton]; omega
  · have e2 : i = n := by omega
    subst e2
    exact .inl ⟨w.stops _ g0, hd D B ks f hD e hB s⟩
theorem i_stD {D : Addr} {N : Hp → Prop} (h : tk σ H fun y H1 => tv σ H1 fun z H2 => ∃ H3, DPut H2 D y z H3 ∧ N H3) : stD tk tv σ H D N := h
end
end GR
end
section
set_option Elab.async false
set_option linter.all false
set_option maxRecDepth 100000
set_option maxHeartbeats 4000000
set_option autoImplicit false
/-! Sets of tuples of keys: a set comprehension, sorted of the set. The table's laws are HandS.TupSets'; here the members are tuples of names. -/
namespace GR
open PySem PySem.Spec L2 PyProof.Rows
open Evl (Ex)
section
variable {P : Program} {w : World} {A : Around} {E : Value → Shared → Prop} {s : Shared}
abbrev mh (P : Program) (w : World) (k : List Key) : Int := tupleKeyHash (mixKind P w) k
abbrev IsM (P : Program) (w : World) (h : Heap) (k : List Key) (b : Addr) : Prop := IsTupleKey (mixKind P w) h k b
theorem items_plain {k : List Key} {vs : List Value} (h : ItemsAre (mixKind P w) k vs) : ∀ v ∈ vs, (∀ n, ofAClassStatement n v = pure false) ∧ ∀ n, ∃ c, hashByValue n v = pure c := by
  induction h with
  | nil => intro v hv; cases hv
  | @cons k0 u ks us h1 _ ih =>
    intro v hv
    rcases List.mem_cons.mp hv with e | hv
    · subst e
      rcases keyIs_shape (show keyIs k0 v = true from h1) with ⟨i, t, _, e2⟩ | ⟨x, t, _, e2⟩
      · rw [e2]
        exact ⟨fun n => (by cases n <;> rfl), fun n => ⟨true, by cases n <;> rfl⟩⟩
      · rw [e2]
        exact ⟨fun n => (by cases n <;> rfl), fun n => ⟨false, by cases n <;> rfl⟩⟩
    · exact ih v hv
theorem plain_class {k : List Key} {b : Addr} {Q : Bool → Shared → Prop} (hk : IsM P w s.heap k b) (q : Q false s) : wpAny (model P w) A (ofAClassStatement 8 (.ref b)) Q E s := by
  have hT := hk.typeIs
  obtain ⟨o, items, n, ho, _, hd, hi⟩ := hk
  unfold ofAClassStatement
  refine wpAny_bind (wpAny_typeOf hT ?_)
  dsimp only
  have e0 : (("tuple" : String) == "tuple") = true := by decide
  simp only [e0, if_true, Bool.not_true, Bool.false_eq_true, if_false]
  try refine wpAny_bind (wpAny_pure ?_)
  try simp only [Bool.not_true, Bool.false_eq_true, if_false]
  show wpAny _ _ (seqItems? (.ref b) >>= _) _ _ s
  refine wpAny_bind (wpAny_seqItems ho hd ?_)
  dsimp only
  refine wpAny_bind ?_
  show wpAny _ _ (forIn items _ _) _ _ s
  rw [← Array.forIn_toList]
  refine wpAny_forIn_list _ (fun left r s' => (r.1 = none ∧ s' = s) ∧ ∀ v ∈ left, ∀ n, ofAClassStatement n v = pure false) _ ?_ ?_ _ _ ⟨⟨rfl, rfl⟩, fun v hv => (items_plain hi v hv).1⟩
  · rintro v left r s' ⟨⟨h1, rfl⟩, all⟩
    rw [all v List.mem_cons_self]
    refine wpAny_bind (wpAny_pure ?_)
    simp only [Bool.false_eq_true, if_false]
    exact wpAny_pure ⟨⟨rfl, rfl⟩, fun u hu => all u (List.mem_cons_of_mem _ hu)⟩
  · rintro ⟨r1, r2⟩ s' ⟨⟨h1, rfl⟩, _⟩
    simp only at h1
    subst h1
    exact wpAny_pure q
theorem plain_hash {k : List Key} {b : Addr} {Q : Bool → Shared → Prop} (hk : IsM P w s.heap k b) (q : ∀ c, Q c s) : wpAny (model P w) A (hashByValue 8 (.ref b)) Q E s := by
  have hT := hk.typeIs
  obtain ⟨o, items, n, ho, _, hd, hi⟩ := hk
  unfold hashByValue
  refine wpAny_bind (wpAny_specialOf hT F.slot_tuple_hash.lookup ?_)
  show wpAny _ _ (seqItems? (.ref b) >>= _) _ _ s
  refine wpAny_bind (wpAny_seqItems ho hd ?_)
  refine wpAny_bind ?_
  show wpAny _ _ (forIn items _ _) _ _ s
  rw [← Array.forIn_toList]
  have go : ∀ (left : List Value) (r0 : Option Bool × Unit), r0.1 = none → (∀ v ∈ left, ∀ n, ∃ c, hashByValue n v = pure c) → ∀ {R : Option Bool × Unit → Shared → Prop}, (∀ c u, R (c, u) s) →
      wpAny (model P w) A (forIn left r0 fun x r => do
        let __do_lift ← hashByValue 7 x
        if (!__do_lift) = true then pure (ForInStep.done (some false, ())) else pure (ForInStep.yield (none, ()))) R E s := by
    intro left
    induction left with
    | nil =>
      intro r0 h0 _ R hR
      rw [List.forIn_nil]
      exact wpAny_pure (hR _ _)
    | cons v left ih =>
      intro r0 h0 all R hR
      rw [List.forIn_cons]
      obtain ⟨c, hc⟩ := all v List.mem_cons_self 7
      rw [hc]
      cases c with
      | true => exact wpAny_bind (wpAny_bind (wpAny_pure (wpAny_pure (ih _ rfl (fun u hu => all u (List.mem_cons_of_mem _ hu)) hR))))
      | false => exact wpAny_bind (wpAny_bind (wpAny_pure (wpAny_pure (wpAny_pure (hR _ _)))))
  refine go items.toList (none, ()) rfl (fun v hv => (items_plain hi v hv).2) fun c u => ?_
  cases c with
  | none => exact wpAny_pure (q _)
  | some c => exact wpAny_pure (q _)
theorem plain_seen {k : List Key} {b : Addr} {Q : Bool → Shared → Prop} (hk : IsM P w s.heap k b) {ys : List Value} (hy : ∀ y ∈ ys, ∃ k' c, y = Value.ref c ∧ IsM P w s.heap k' c) (q : Q false s) : wpAny (model P w) A (searchCouldBeSeen (.ref b) ys) Q E s := by
  unfold searchCouldBeSeen
  refine wpAny_bind ?_
  refine wpAny_forIn_list _ (fun left r s' => (r.1 = none ∧ s' = s) ∧ ∀ y ∈ left, ∃ k' c, y = Value.ref c ∧ IsM P w s.heap k' c) _ ?_ ?_ _ _ ⟨⟨rfl, rfl⟩, hy⟩
  · rintro v left r s' ⟨⟨h1, rfl⟩, all⟩
    obtain ⟨k', c, rfl, hc⟩ := all v List.mem_cons_self
    have more : ∀ y ∈ left, ∃ k' c, y = Value.ref c ∧ IsM P w s'.heap k' c := fun u hu => all u (List.mem_cons_of_mem _ hu)
    dsimp only
    by_cases hv : (b == c || (carriedByValue (.ref b) && carriedByValue (.ref c))) = true
    · exact wp_if_pos hv (wpAny_pure ⟨⟨rfl, rfl⟩, more⟩)
    · refine wp_if_neg hv (wpAny_bind (wpAny_eqIsQuiet_tuple hk ?_))
      simp only [Bool.not_true, Bool.false_eq_true, if_false]
      refine wpAny_bind (wpAny_eqIsQuiet_tuple hc ?_)
      simp only [Bool.not_true, Bool.false_eq_true, if_false]
      refine wpAny_bind (plain_class hk ?_)
      simp only [Bool.false_eq_true, if_false]
      refine wpAny_bind (plain_class hc ?_)
      simp only [Bool.false_eq_true, if_false]
      exact wpAny_pure ⟨⟨rfl, rfl⟩, more⟩
  · rintro ⟨r1, r2⟩ s' ⟨⟨h1, rfl⟩, _⟩
    simp only at h1
    subst h1
    exact wpAny_pure q

/-! ### the set -/
def rowM (P : Program) (w : World) (L : List (Addr × List Key)) : List (Int × Value) := L.map fun p => (mh P w p.2, Value.ref p.1)
theorem rowM_len (L : List (Addr × List Key)) : (rowM P w L).length = L.length := List.length_map ..
/-- the set's table with its rows, the members in the order they lie -/
structure SetM (P : Program) (w : World) (h : Heap) (a : Addr) (L : List (Addr × List Key)) (es : Array (Int × Value)) (ep : Nat) (t : SetTable) : Prop where
  ob : ∃ o, h.get? a = some o ∧ o.ExactSet ∧ o.data = .set es ep t
  lay : es.toList = rowM P w L
  tab : TabOk t (L.map fun p => mh P w p.2)
  nd : (L.map Prod.snd).Nodup
  mem : ∀ p ∈ L, IsM P w h p.2 p.1
  ld : w.params.followText "set-order" = true ∨ t.led = true
  rm : L.length * 5 < t.mask * 3
  lt : L.length < 64
variable {a : Addr} {L : List (Addr × List Key)} {es : Array (Int × Value)} {ep : Nat} {t : SetTable}
theorem lay_size (h : es.toList = rowM P w L) : es.size = L.length := by rw [← Array.length_toList, h, rowM_len]
theorem SetM.fit (R : SetM P w s.heap a L es ep t) : t.fits es.size = true := by
  have z1 := R.tab.sz
  rw [List.length_map] at z1
  have z2 := lay_size R.lay
  have z3 := R.rm
  unfold SetTable.fits SetTable.fill
  rw [R.tab.dm, Bool.and_eq_true, beq_iff_eq, decide_eq_true_eq]
  show t.place.size = es.size ∧ t.place.size + 0 ≤ t.mask
  omega
theorem lay_at (h : es.toList = rowM P w L) {i : Nat} {p : Addr × List Key} (hp : L[i]? = some p) : es[i]? = some (mh P w p.2, Value.ref p.1) := by
  rw [← Array.getElem?_toList, h]
  unfold rowM
  rw [List.getElem?_map, hp]
  rfl
theorem SetM.whole (R : SetM P w s.heap a L es ep t) : ¬ t.gaveWay = true := by
  unfold SetTable.gaveWay
  rw [mask_odd R.tab.mok]
  decide
/-- the way of a hash, from the c-th step on -/
abbrev stp (t : SetTable) (hk : Int) (c : Nat) : SetTable.Probe := nth t.mask (runAt t.mask (SetTable.bits hk % (t.mask + 1)) (SetTable.bits hk)) c
theorem stp_dummy (t : SetTable) (hk : Int) (c : Nat) : (stp t hk c).dummy = none := by
  have key : ∀ (n : Nat) (p : SetTable.Probe), p.dummy = none → (nth t.mask p n).dummy = none := by
    intro n
    induction n with
    | zero => exact fun p h => h
    | succ n ih =>
      refine fun p h => ih (adv t.mask p) ?_
      unfold adv
      split <;> exact h
  exact key c _ rfl
theorem stp_add (t : SetTable) (hk : Int) (c q : Nat) : nth t.mask (stp t hk c) q = stp t hk (c + q) := (nth_add t.mask c _ q).symm
/-- looking for a tuple that is to be added -/
theorem seek_from (R : SetM P w s.heap a L es ep t) {x : Addr} {k : List Key} (hx : IsM P w s.heap k x) (hu : A.units < cLine) {K : Nat} (lim : K < 10 * SetTable.turns t.mask) (gap : way t.mask (mh P w k) K ∉ t.place.toList)
    (full : ∀ c, c < K → way t.mask (mh P w k) c ∈ t.place.toList) {Q : SetFound → Shared → Prop} (yes : k ∈ L.map Prod.snd → Q (.there none) s) (no : k ∉ L.map Prod.snd → Q (.free (way t.mask (mh P w k) K) false) s) :
    ∀ (f c : Nat) (from? : Option SetTable.Probe), from?.getD (t.probeStart (mh P w k)) = stp t (mh P w k) c → c ≤ K → K - c < f →
      (∀ (i : Nat) p, L[i]? = some p → p.2 = k → ∃ c', c ≤ c' ∧ c' < K ∧ t.place.toList[i]? = some (way t.mask (mh P w k) c')) → wpAny (model P w) A (setSearchFrom a (.ref x) (mh P w k) true f from?) Q E s
  | 0, _, _, _, _, z, _ => absurd z (Nat.not_lt_zero _)
  | f + 1, c, from?, at', le, lt, ahead => by
    obtain ⟨o, ho, hex, hd⟩ := R.ob
    rw [setSearchFrom_succ]
    refine wpAny_bind (wpAny_setState_of ho hd R.fit ?_)
    dsimp only
    refine wp_if_neg R.whole ?_
    try refine wpAny_bind (wpAny_pure ?_)
    have j1 : ∀ q, (nth t.mask (stp t (mh P w k) c) q).j = way t.mask (mh P w k) (c + q) := fun q => congrArg SetTable.Probe.j (stp_add t _ c q)
    have hashAt : ∀ (i : Nat) p, L[i]? = some p → (fun i => (es[i]?.map (·.1)).getD 0) i = mh P w p.2 := fun i p hp => by
      show (es[i]?.map (·.1)).getD 0 = _
      rw [lay_at R.lay hp]
      rfl
    rcases go_spec t R.tab.ris R.tab.dm (fun i => (es[i]?.map (·.1)).getD 0) (mh P w k) (10 * SetTable.turns t.mask) (K - c) _ (stp_dummy t _ c) (by omega)
      (fun q hq => by rw [j1]; exact full (c + q) (by omega)) (by rw [j1, show c + (K - c) = K by omega]; exact gap) with ⟨q, i, hq, hi, hh, before, found⟩ | ⟨before, found⟩
    · have found' : t.probe (fun i => (es[i]?.map (·.1)).getD 0) (mh P w k) (from?.getD (t.probeStart (mh P w k))) = some (.candidate (way t.mask (mh P w k) (c + q)) i (stp t (mh P w k) (c + (q + 1)))) := by
        rw [at', ← j1, ← stp_add]
        exact found
      rw [found']
      dsimp only
      rw [j1] at hi
      have il : i < L.length := by
        have y1 := (List.getElem?_eq_some_iff.mp hi).1
        have y2 := R.tab.sz
        rw [List.length_map] at y2
        rw [Array.length_toList] at y1
        omega
      obtain ⟨p, hp⟩ : ∃ p, L[i]? = some p := ⟨_, List.getElem?_eq_getElem il⟩
      have pm : p ∈ L := List.mem_of_getElem? hp
      have live := slot_live R.tab.ris hi
      have after : wpAny (model P w) A (searchRest a (.ref x) (mh P w k) true f es t (way t.mask (mh P w k) (c + q)) i (stp t (mh P w k) (c + (q + 1)))) Q E s := by
        unfold searchRest
        rw [lay_at R.lay hp]
        dsimp only
        refine wpAny_bind (wpAny_holding (wpAny_eqBool_tuple hu (R.mem p pm) hx ?_))
        refine wpAny_bind (wpAny_setState_of ho hd R.fit ?_)
        dsimp only
        by_cases same : p.2 = k
        · exact wp_if_pos (by simp [same]) (wpAny_pure (yes (List.mem_map.mpr ⟨p, pm, same⟩)))
        · refine wp_if_neg (by simp [same]) ?_
          try refine wpAny_bind (wpAny_pure ?_)
          rw [sameMem]
          dsimp only
          simp only [if_true, live, lay_at R.lay hp]
          refine wpAny_bind (wpAny_isSame_ref_self (wpAny_bind (wpAny_pure ?_)))
          simp only [if_true]
          refine wp_if_neg (by simp [same]) (seek_from R hx hu lim gap full yes no f (c + (q + 1)) _ rfl (by omega) (by omega) fun i0 p0 h0 k0 => ?_)
          obtain ⟨c', a1, a2, a3⟩ := ahead i0 p0 h0 k0
          refine ⟨c', Nat.lt_of_not_le fun (z : c' ≤ c + q) => ?_, a2, a3⟩
          rcases Nat.lt_or_eq_of_le z with y | y
          · exact before (c' - c) i0 (by omega) (by rw [j1, show c + (c' - c) = c' by omega]; exact a3) ((hashAt i0 p0 h0).trans (congrArg (mh P w) k0))
          · rw [y] at a3
            have s0 := slot_live R.tab.ris a3
            rw [live] at s0
            injection s0 with s0
            rw [← s0, hp] at h0
            exact same ((congrArg Prod.snd (Option.some.inj h0)).trans k0)
      by_cases hl : t.led = true
      · refine wp_if_neg (by simp [hl]) ?_
        try refine wpAny_bind (wpAny_pure ?_)
        exact after
      · refine wp_if_pos (by simp [hl]) (wpAny_bind (plain_seen hx (fun y hy => ?_) ?_))
        · obtain ⟨e, he, ee⟩ := List.mem_map.mp hy
          have e1 : e ∈ es ∧ e.1 = mh P w k := by simpa using he
          have e2 : e ∈ es.toList := by simpa using e1.1
          rw [R.lay] at e2
          obtain ⟨p2, hp2, e3⟩ := List.mem_map.mp e2
          exact ⟨p2.2, p2.1, by rw [← ee, ← e3], R.mem p2 hp2⟩
        · refine wp_if_neg (by decide) ?_
          try refine wpAny_bind (wpAny_pure ?_)
          exact after
    · have found' : t.probe (fun i => (es[i]?.map (·.1)).getD 0) (mh P w k) (from?.getD (t.probeStart (mh P w k))) = some (.empty (way t.mask (mh P w k) K) none) := by
        have y : way t.mask (mh P w k) K = (nth t.mask (stp t (mh P w k) c) (K - c)).j := by rw [j1, show c + (K - c) = K by omega]
        rw [at', y]
        exact found
      rw [found']
      dsimp only
      refine wpAny_pure (no fun hm => ?_)
      obtain ⟨p0, h0, k0⟩ := List.mem_map.mp hm
      obtain ⟨i0, h00⟩ := List.getElem?_of_mem h0
      obtain ⟨c', a1, a2, a3⟩ := ahead i0 p0 h00 k0
      exact before (c' - c) i0 (by omega) (by rw [j1, show c + (c' - c) = c' by omega]; exact a3) ((hashAt i0 p0 h00).trans (congrArg (mh P w) k0))
theorem seek_at (R : SetM P w s.heap a L es ep t) {x : Addr} {k : List Key} (hx : IsM P w s.heap k x) (hu : A.units < cLine) {Q : SetFound → Shared → Prop} (yes : k ∈ L.map Prod.snd → Q (.there none) s)
    (no : ∀ K, k ∉ L.map Prod.snd → way t.mask (mh P w k) K ∉ t.place.toList → (∀ c, c < K → way t.mask (mh P w k) c ∈ t.place.toList) → Q (.free (way t.mask (mh P w k) K) false) s) : wpAny (model P w) A (setSearch a (.ref x) (mh P w k) true) Q E s := by
  have z := R.rm
  obtain ⟨K, lim, gap, full⟩ := R.tab.first (by rw [List.length_map]; omega) (mh P w k)
  have big : 10 * SetTable.turns t.mask ≤ 1420 := by
    unfold SetTable.turns
    rcases R.tab.mok with e | e | e <;> omega
  unfold setSearch
  refine seek_from R hx hu lim gap full yes (fun hn => no K hn gap full) 100000 0 none rfl (Nat.zero_le _) (by omega) fun i p hp hk => ?_
  have hi : (L.map fun p => mh P w p.2)[i]? = some (mh P w k) := by rw [List.getElem?_map, hp, ← hk]; rfl
  have il : i < t.place.toList.length := by
    have y1 : i < L.length := (List.getElem?_eq_some_iff.mp hp).1
    have y2 := R.tab.sz
    rw [List.length_map] at y2
    rw [Array.length_toList]
    omega
  obtain ⟨c, hc, e⟩ := R.tab.before gap hi (List.getElem?_eq_getElem il)
  exact ⟨c, Nat.zero_le _, hc, by rw [List.getElem?_eq_getElem il, e]⟩

/-! ### one more member -/
theorem isM_same {h h' : Heap} {k : List Key} {b : Addr} {o : Obj} (hb : IsM P w h k b) (ho : h.get? a = some o) (hd : o.data = .set es ep t) (hs : Heap.SameBut a h h') : IsM P w h' k b := by
  obtain ⟨o', items, n, ho', r1, hd', r2⟩ := hb
  have ne : b ≠ a := fun e => by
    subst e
    rw [ho] at ho'
    cases ho'
    rw [hd] at hd'
    cases hd'
  exact ⟨o', items, n, (hs.2 b ne).trans ho', r1, hd', r2⟩
theorem lay_order (order : Array Nat) (hr : es.toList = rowM P w L) (hp : order.toList.Perm (List.range L.length)) :
    ∃ L2, (order.filterMap (es[·]?)).toList = rowM P w L2 ∧ L2.Perm L ∧ (L2.map fun p => mh P w p.2) = order.toList.map fun i => (es.map (·.1)).getD i 0 := by
  have sz := lay_size hr
  have key : ∀ l : List Nat, (∀ i ∈ l, i < L.length) → l.filterMap (fun i => es[i]?) = rowM P w (l.filterMap fun i => L[i]?) ∧ ((l.filterMap fun i => L[i]?).map fun p => mh P w p.2) = l.map fun i => (es.map (·.1)).getD i 0 := by
    intro l
    induction l with
    | nil => exact fun _ => ⟨rfl, rfl⟩
    | cons i l ih =>
      intro hl
      have hi := hl i List.mem_cons_self
      obtain ⟨y1, y2⟩ := ih fun j hj => hl j (List.mem_cons_of_mem _ hj)
      have at' := lay_at hr (List.getElem?_eq_getElem hi)
      rw [List.filterMap_cons_some at', List.filterMap_cons_some (List.getElem?_eq_getElem hi), y1, List.map_cons, List.map_cons, y2]
      refine ⟨rfl, ?_⟩
      congr 1
      have y3 : (es.map (·.1))[i]? = some (mh P w (L[i]).2) := by rw [Array.getElem?_map, at']; rfl
      simp [Array.getD_eq_getD_getElem?, y3]
  obtain ⟨y1, y2⟩ := key order.toList fun i hi => List.mem_range.mp (hp.mem_iff.mp hi)
  refine ⟨order.toList.filterMap fun i => L[i]?, by first | (rw [Array.toList_filterMap]; exact y1) | simpa using y1, ?_, y2⟩
  have all : (List.range L.length).filterMap (fun i => L[i]?) = L := by
    have upto : ∀ n, n ≤ L.length → (List.range n).filterMap (fun i => L[i]?) = L.take n := by
      intro n
      induction n with
      | zero => exact fun _ => rfl
      | succ n ih =>
        intro hn
        rw [List.range_succ, List.filterMap_append, ih (Nat.le_of_succ_le hn), List.take_succ, List.getElem?_eq_getElem hn, List.filterMap_cons_some (List.getElem?_eq_getElem hn)]
        rfl
    rw [upto _ (Nat.le_refl _), List.take_length]
  have := hp.filterMap fun i => L[i]?
  rwa [all] at this
theorem relay_m {o : Obj} (ho : s.heap.get? a = some o) (hex : o.ExactSet) (hd : o.data = .set es ep t) (hr : es.toList = rowM P w L) (hsz : t.place.size = es.size) (hdm : t.dummies = #[]) (hfl : es.size ≤ t.mask) (nd : (L.map Prod.snd).Nodup) (mem : ∀ p ∈ L, IsM P w s.heap p.2 p.1) 
    (ld : w.params.followText "set-order" = true ∨ t.led = true) (few : L.length < 64) {wanted M : Nat} (hw : SetTable.sizeAbove wanted - 1 = M) (hM : MaskOk M) (hw2 : SetTable.sizeAbove wanted ≤ 128) (hn : L.length * 5 < M * 3) {Q : Unit → Shared → Prop}
    (q : ∀ h' L' es' ep' t', Heap.SameBut a s.heap h' → SetM P w h' a L' es' ep' t' → L'.Perm L → Q () { s with heap := h' }) : wpAny (model P w) A (setRelay a wanted) Q E s := by
  have sl := lay_size hr
  have fit : t.fits es.size = true := by
    unfold SetTable.fits SetTable.fill
    rw [hdm, Bool.and_eq_true, beq_iff_eq, decide_eq_true_eq]
    show t.place.size = es.size ∧ t.place.size + 0 ≤ t.mask
    omega
  obtain ⟨t', order, e, hp, T, em, el, ep', ed⟩ := relaid_ok t (hs := es.map (·.1)) (wanted := wanted) hw hM (by rw [Array.size_map, sl]; omega)
  rw [Array.size_map, sl] at hp
  obtain ⟨L2, r1, r2, r3⟩ := lay_order order hr hp
  rw [← r3] at T
  have s2 : (order.filterMap (es[·]?)).size = es.size := by rw [lay_size r1, r2.length_eq, sl]
  rw [setRelay_eq]
  refine wpAny_bind (wpAny_setState_of ho hd fit ?_)
  dsimp only
  refine wp_if_neg (by rw [sizeLine_eq]; omega) ?_
  try refine wpAny_bind (wpAny_pure ?_)
  rw [e]
  dsimp only
  refine wpAny_bind (wp_if_neg (by rw [s2]; simp) ?_)
  try refine wpAny_bind (wpAny_pure ?_)
  refine wpAny_pure ?_
  dsimp only
  refine wpAny_storeSet_of ho hd ?_ (by rw [s2, sl, sizeLine_eq]; omega)
  have sb : Heap.SameBut a s.heap (s.heap.update a (Obj.putSet (order.filterMap (es[·]?)) t')) := Heap.SameBut.update ..
  refine q _ L2 (order.filterMap (es[·]?)) (ep + 1) t' sb ⟨⟨_, store_at ho hd, ⟨hex.1, hex.2.1, hex.2.2⟩, rfl⟩, r1, T, (r2.map Prod.snd).nodup_iff.mpr nd, fun p hpm => isM_same (mem p (r2.mem_iff.mp hpm)) ho hd sb, by rw [el]; exact ld, ?_, by rw [r2.length_eq]; exact few⟩ r2
  rw [r2.length_eq, em]
  exact hn
end
end GR
end
section
set_option Elab.async false
set_option linter.all false
set_option maxRecDepth 100000
set_option maxHeartbeats 4000000
set_option autoImplicit false
/-! One more member; the set of tuples of names as a tracked thing; its comprehension; sorted of it. -/
namespace GR
open PySem PySem.Spec L2 PyProof.Rows
open Evl (Ex)
open PySem.W (EachIs AllAlike Sortable dataLe)
section
variable {P : Program} {w : World} {A : Around} {E : Value → Shared → Prop} {s : Shared} {a : Addr} {L : List (Addr × List Key)} {es : Array (Int × Value)} {ep : Nat} {t : SetTable}
theorem full_at {t1 : SetTable} {n : Nat} (h : t1.tooFull = true) (hf : t1.fill = n) : t1.mask * 3 ≤ n * 5 := by
  unfold SetTable.tooFull at h
  rw [decide_eq_true_eq, hf] at h
  exact h
theorem room_at {t1 : SetTable} {n : Nat} (h : ¬ t1.tooFull = true) (hf : t1.fill = n) : n * 5 < t1.mask * 3 := by
  unfold SetTable.tooFull at h
  rw [decide_eq_true_eq, hf] at h
  omega
/-- what of a table a plain mark leaves -/
structure LaidT (t : SetTable) (hs : List Int) (m : Nat) (l : Bool) : Prop where
  tab : TabOk t hs
  mm : t.mask = m
  ld : t.led = l
  fl : t.fill = hs.length
theorem laid_mark {t1 : SetTable} {hs : List Int} {m : Nat} {l c : Bool} (h : LaidT t1 hs m l) : LaidT (if c = true then t1 else { t1 with plain := false }) hs m l := by
  cases c with
  | true => exact h
  | false => exact ⟨⟨h.tab.ris, h.tab.dm, h.tab.sz, h.tab.mok, h.tab.bd, h.tab.reach⟩, h.mm, h.ld, h.fl⟩
theorem add_m (R : SetM P w s.heap a L es ep t) {x : Addr} {k : List Key} (hx : IsM P w s.heap k x) (hu : A.units < cLine) (few : L.length + 1 < 64) {Q : Bool → Shared → Prop}
    (q : ∀ b h' L' es' ep' t', Heap.SameBut a s.heap h' → SetM P w h' a L' es' ep' t' → (k ∈ L.map Prod.snd → L' = L) → (k ∉ L.map Prod.snd → L'.Perm ((x, k) :: L)) → Q b { s with heap := h' }) : wpAny (model P w) A (setAddHashed a (.ref x) (mh P w k)) Q E s := by
  obtain ⟨o, ho, hex, hd⟩ := R.ob
  have sl := lay_size R.lay
  have rm := R.rm
  unfold setAddHashed
  refine wpAny_holding ?_
  rw [show (100000 : Nat) = 99999 + 1 from rfl, setAddHashedIn_succ]
  refine wpAny_bind (wpAny_setState_of ho hd R.fit ?_)
  dsimp only
  refine wp_if_neg (by simp [byScan, Value.scannable]) ?_
  try refine wpAny_bind (wpAny_pure ?_)
  refine wpAny_bind (seek_at R hx hu (fun hm => ?_) fun K hm gap full => ?_)
  · dsimp only
    exact wpAny_pure (q false s.heap L es ep t (Heap.SameBut.refl a s.heap) R (fun _ => rfl) fun z => absurd hm z)
  · dsimp only
    refine wpAny_bind (wpAny_setState_of ho hd R.fit ?_)
    dsimp only
    obtain ⟨e1, e2, e3, e4, e5, _, _, _, e9⟩ := R.tab.put gap full
    rw [e1]
    have pm := put_perm L (SetTable.below t.place (way t.mask (mh P w k) K)) (x, k)
    have rows : (SetTable.insertAt es (SetTable.below t.place (way t.mask (mh P w k) K)) (mh P w k, Value.ref x)).toList = rowM P w (L.take (SetTable.below t.place (way t.mask (mh P w k) K)) ++ (x, k) :: L.drop (SetTable.below t.place (way t.mask (mh P w k) K))) := by
      rw [SetTable.toList_insertAt, R.lay]
      unfold rowM
      rw [List.map_append, List.map_cons, List.map_take, List.map_drop]
    have hs : (L.take (SetTable.below t.place (way t.mask (mh P w k) K)) ++ (x, k) :: L.drop (SetTable.below t.place (way t.mask (mh P w k) K))).map (fun p => mh P w p.2) =
        (L.map fun p => mh P w p.2).take (SetTable.below t.place (way t.mask (mh P w k) K)) ++ mh P w k :: (L.map fun p => mh P w p.2).drop (SetTable.below t.place (way t.mask (mh P w k) K)) := by
      rw [List.map_append, List.map_cons, List.map_take, List.map_drop]
    rw [← hs] at e3
    generalize (t.put (way t.mask (mh P w k) K)).1 = t0 at e3 e4 e5 e9 ⊢
    generalize SetTable.below t.place (way t.mask (mh P w k) K) = p at *
    have nl : (L.take p ++ (x, k) :: L.drop p).length = L.length + 1 := pm.length_eq
    have la0 : LaidT t0 ((L.take p ++ (x, k) :: L.drop p).map fun p => mh P w p.2) t.mask t.led := ⟨e3, e4, e5, by rw [e9, List.length_map, List.length_map, nl]⟩
    have nd1 : ((L.take p ++ (x, k) :: L.drop p).map Prod.snd).Nodup := (pm.map Prod.snd).nodup_iff.mpr (by rw [List.map_cons]; exact List.nodup_cons.mpr ⟨hm, R.nd⟩)
    have s1 : (SetTable.insertAt es p (mh P w k, Value.ref x)).size = L.length + 1 := by rw [lay_size rows, nl]
    generalize SetTable.insertAt es p (mh P w k, Value.ref x) = es1 at rows s1 ⊢
    generalize L.take p ++ (x, k) :: L.drop p = L1 at pm nl nd1 rows la0
    have after : ∀ t1 : SetTable, LaidT t1 (L1.map fun p => mh P w p.2) t.mask t.led → wpAny (model P w) A (do
        storeSet a es1 t1
        if (!false && t1.tooFull) = true then do
            setRelay a (SetTable.grown (es.size + 1))
            pure true
          else pure true) Q E s := fun t1 la => by
      refine wpAny_bind (wpAny_storeSet_of ho hd ?_ (by rw [s1, sizeLine_eq]; omega))
      have sb : Heap.SameBut a s.heap (s.heap.update a (Obj.putSet es1 t1)) := Heap.SameBut.update ..
      have ho1 := store_at (es' := es1) (t' := t1) ho hd
      generalize s.heap.update a (Obj.putSet es1 t1) = h1 at sb ho1 ⊢
      have mem1 : ∀ p ∈ L1, IsM P w h1 p.2 p.1 := fun p hp => (List.mem_cons.mp (pm.mem_iff.mp hp)).elim (fun e => by rw [e]; exact isM_same hx ho hd sb) fun hp => isM_same (R.mem p hp) ho hd sb
      have ld1 : w.params.followText "set-order" = true ∨ t1.led = true := by rw [la.ld]; exact R.ld
      have fl : t1.fill = L.length + 1 := by rw [la.fl, List.length_map, nl]
      by_cases hf : t1.tooFull = true
      · refine wp_if_pos (by simp [hf]) (wpAny_bind ?_)
        have fa := full_at hf fl
        rw [la.mm] at fa
        rw [sl]
        have at5 : (t.mask = 7 ∧ L.length = 4) ∨ (t.mask = 31 ∧ L.length = 18) := by rcases R.tab.mok with e | e | e <;> rw [e] at fa rm <;> first | exact .inl ⟨e, by omega⟩ | exact .inr ⟨e, by omega⟩ | omega
        have z1 : t1.place.size = es1.size := by rw [la.tab.sz, List.length_map, nl, s1]
        have relay : ∀ M, SetTable.sizeAbove (SetTable.grown (L.length + 1)) - 1 = M → MaskOk M → SetTable.sizeAbove (SetTable.grown (L.length + 1)) ≤ 128 → (L.length + 1) * 5 < M * 3 →
            wpAny (model P w) A (setRelay a (SetTable.grown (L.length + 1))) (fun _ s' => wpAny (model P w) A (pure true) Q E s') E { s with heap := h1 } := fun M y1 y2 y3 y4 => by
          refine relay_m (s := { s with heap := h1 }) ho1 ⟨hex.1, hex.2.1, hex.2.2⟩ rfl rows z1 la.tab.dm (by rw [s1, la.mm]; rcases at5 with ⟨e, e2⟩ | ⟨e, e2⟩ <;> omega) nd1 mem1 ld1 (by rw [nl]; exact few) y1 y2 y3 (by rw [nl]; exact y4) fun h2 L2 es2 ep2 t2 sb2 R2 pm2 => ?_
          exact wpAny_pure (q true h2 L2 es2 ep2 t2 (sb.trans sb2) R2 (fun z => absurd z hm) fun _ => pm2.trans pm)
        rcases at5 with ⟨_, e⟩ | ⟨_, e⟩
        · exact relay 31 (by rw [e, size_20]) (.inr (.inl rfl)) (by rw [e, size_20]; decide) (by omega)
        · exact relay 127 (by rw [e, size_76]) (.inr (.inr rfl)) (by rw [e, size_76]; decide) (by omega)
      · refine wp_if_neg (by simp [hf]) (wpAny_pure (q true h1 L1 es1 (ep + 1) t1 sb ⟨⟨_, ho1, ⟨hex.1, hex.2.1, hex.2.2⟩, rfl⟩, rows, la.tab, nd1, mem1, ld1, ?_, by rw [nl]; exact few⟩ (fun z => absurd z hm) fun _ => pm))
        rw [nl]
        exact room_at hf fl
    by_cases hp : t0.plain = true
    · refine wp_if_pos hp (wpAny_bind (plain_hash hx fun c => ?_))
      exact after _ (laid_mark la0)
    · refine wp_if_neg hp (wpAny_bind (wpAny_pure ?_))
      exact after _ (laid_mark (c := true) la0)

/-! ### a new set; set.add -/
theorem set_new {h : Heap} (ho : h.get? a = some { cls := .type "set", dict := none, data := .set #[] 0 (.fresh 0 0 (!w.params.followText "set-order")) }) : SetM P w h a [] #[] 0 (.fresh 0 0 (!w.params.followText "set-order")) where
  ob := ⟨_, ho, ⟨rfl, rfl, rfl⟩, rfl⟩
  lay := rfl
  tab := ⟨List.Pairwise.nil, rfl, rfl, .inl rfl, fun x hx => (nomatch hx), fun i h j hi => (nomatch hi)⟩
  nd := List.nodup_nil
  mem := fun p hp => nomatch hp
  ld := by
    show _ ∨ (!w.params.followText "set-order") = true
    cases w.params.followText "set-order"
    · exact .inr rfl
    · exact .inl rfl
  rm := by show 0 * 5 < 7 * 3; decide
  lt := by show 0 < 64; decide
theorem call_add_m (R : SetM P w s.heap a L es ep t) {x : Addr} {k : List Key} (hx : IsM P w s.heap k x) (hu : A.units + 8 < cLine) (few : L.length + 1 < 64) {Q : Value → Shared → Prop}
    (q : ∀ tk h' L' es' ep' t', Heap.SameBut a s.heap h' → SetM P w h' a L' es' ep' t' → (k ∈ L.map Prod.snd → L' = L) → (k ∉ L.map Prod.snd → L'.Perm ((x, k) :: L)) → Q .none { s with heap := h', toks := tk }) : wpAny (model P w) A (call (.builtin "set.add") [.ref a, .ref x]) Q E s := by
  obtain ⟨o, ho, hex, hd⟩ := R.ob
  refine wpAny_call_entry F.slot_set_add ⟨o, ho, hex.1⟩ F.entry_set_add ?_ (F.args_set_add_2 _ _)
  unfold Builtin.«set.add» Builtin.Frozenset.oneOther
  simp only [List.isEmpty_nil, bind_assoc]
  unfold Builtin.Frozenset.addrOf setAdd
  refine wpAny_bind (wpAny_pure ?_)
  try dsimp only
  refine wpAny_bind (wpAny_pure ?_)
  try dsimp only
  refine wpAny_bind ?_
  refine wpAny_holding ?_
  have u1 : A.in1.units < cLine := tupleKind_room_in1 (knd := mixKind P w) (by omega)
  refine wpAny_bind ((tupleKind (mixKind P w)).pyHash u1 hx ?_)
  refine add_m (s := { s with toks := s.toks + (tupleKind (mixKind P w)).draws k }) R hx u1 few fun b h' L' es' ep' t' sb R' y n => ?_
  show wpAny _ _ (ret Value.none) _ _ _
  exact wpAny_pure ⟨_, rfl, q _ h' L' es' ep' t' sb R' y n⟩
end

/-! ### as a tracked thing -/
abbrev keyd (L : List (Addr × List Str)) : List (Addr × List Key) := L.map fun p => (p.1, p.2.map Sum.inr)
/-- the set without the tuples themselves -/
def M0 (P : Program) (w : World) (h : Heap) (a : Addr) (L : List (Addr × List Key)) : Prop :=
  ∃ (es : Array (Int × Value)) (ep : Nat) (t : SetTable), (∃ o, h.get? a = some o ∧ o.ExactSet ∧ o.data = .set es ep t) ∧ es.toList = rowM P w L ∧ TabOk t (L.map fun p => mh P w p.2) ∧ (L.map Prod.snd).Nodup ∧
    (w.params.followText "set-order" = true ∨ t.led = true) ∧ L.length * 5 < t.mask * 3 ∧ L.length < 64
def MO (P : Program) (w : World) (L : List (Addr × List Str)) (a : Addr) : HO := .ext fun h => M0 P w h a (keyd L)
section
variable {P : Program} {w : World} {h : Heap} {a : Addr} {H : Hp}
theorem m0_of {L : List (Addr × List Key)} {es : Array (Int × Value)} {ep : Nat} {t : SetTable} (R : SetM P w h a L es ep t) : M0 P w h a L := ⟨es, ep, t, R.ob, R.lay, R.tab, R.nd, R.ld, R.rm, R.lt⟩
theorem m0_whole {L : List (Addr × List Key)} (R : M0 P w h a L) (mem : ∀ p ∈ L, IsM P w h p.2 p.1) : ∃ es ep t, SetM P w h a L es ep t := by
  obtain ⟨es, ep, t, y1, y2, y3, y4, y5, y6, y7⟩ := R
  exact ⟨es, ep, t, y1, y2, y3, y4, mem, y5, y6, y7⟩
theorem mo_ok {L : List (Addr × List Str)} (R : M0 P w h a (keyd L)) : ObjOk P w H h a (MO P w L a) := by
  refine ⟨R, ?_, fun h1 h2 p k => ?_⟩
  · obtain ⟨es, ep, t, ⟨o, ho, _⟩, _⟩ := R
    exact ⟨o, ho⟩
  · obtain ⟨es, ep, t, ⟨o, ho, r⟩, z⟩ := (show M0 P w h1 a (keyd L) from p)
    exact ⟨es, ep, t, ⟨o, k o ho, r⟩, z⟩
theorem perm_un {α β : Type} (f : α → β) {vs us : List β} (h : vs.Perm us) : ∀ L : List α, us = L.map f → ∃ L1 : List α, vs = L1.map f ∧ L1.Perm L := by
  induction h with
  | nil => exact fun L e => ⟨L, e, .refl _⟩
  | @cons x l1 l2 _ ih =>
    intro L e
    cases L with
    | nil => cases e
    | cons y L =>
      rw [List.map_cons] at e
      injection e with e1 e2
      obtain ⟨L1, e3, p⟩ := ih L e2
      exact ⟨y :: L1, by rw [List.map_cons, e1, e3], p.cons y⟩
  | swap x y l =>
    intro L e
    match L, e with
    | z1 :: z2 :: L, e =>
      rw [List.map_cons, List.map_cons] at e
      injection e with e1 e2
      injection e2 with e2 e3
      exact ⟨z2 :: z1 :: L, by rw [List.map_cons, List.map_cons, e1, e2, e3], .swap _ _ _⟩
  | trans _ _ ih1 ih2 =>
    intro L e
    obtain ⟨L1, e1, p1⟩ := ih2 L e
    obtain ⟨L2, e2, p2⟩ := ih1 L1 e1
    exact ⟨L2, e2, p2.trans p1⟩
theorem inr_inj {x y : List Str} (h : x.map (Sum.inr (α := Int)) = y.map Sum.inr) : x = y := by
  induction x generalizing y with
  | nil => cases y with
    | nil => rfl
    | cons => cases h
  | cons a x ih => cases y with
    | nil => cases h
    | cons b y =>
      rw [List.map_cons, List.map_cons] at h
      injection h with h1 h2
      injection h1 with h1
      rw [h1, ih h2]
theorem keyd_mem {L : List (Addr × List Str)} {k : List Str} : k.map Sum.inr ∈ (keyd L).map Prod.snd ↔ k ∈ L.map Prod.snd := by
  rw [List.map_map]
  constructor
  · intro h
    obtain ⟨p, hp, e⟩ := List.mem_map.mp h
    exact List.mem_map.mpr ⟨p, hp, inr_inj e⟩
  · intro h
    obtain ⟨p, hp, e⟩ := List.mem_map.mp h
    exact List.mem_map.mpr ⟨p, hp, by rw [← e]; rfl⟩
theorem isM_tup {b : Addr} {ss : List Str} (ok : HOk P w H h) (e : H b = some (.tup (ss.map V.str))) : IsM P w h (ss.map Sum.inr) b := key_of ok (by rw [e, List.map_map]; rfl)
theorem isM_all {L : List (Addr × List Str)} (ok : HOk P w H h) (e : ∀ p ∈ L, H p.1 = some (.tup (p.2.map V.str))) : ∀ p ∈ keyd L, IsM P w h p.2 p.1 := fun p hp => by
  obtain ⟨q, hq, rfl⟩ := List.mem_map.mp hp
  exact isM_tup ok (e q hq)
end
section
variable {X : Cx}
/-- what a turn does with the set at D -/
def stM (P : Program) (w : World) (te : TE) : Sl → Hp → Addr → (Hp → Prop) → Prop := fun σ H D N => te σ H fun y H1 => ∃ (L : List (Addr × List Str)) (x : Addr) (ss : List Str), y = .ref x ∧ H1 x = some (.tup (ss.map V.str)) ∧ H1 D = some (MO P w L D) ∧
  (∀ p ∈ L, H1 p.1 = some (.tup (p.2.map V.str))) ∧ L.length + 1 < 64 ∧ ∀ L' : List (Addr × List Str), (ss ∈ L.map Prod.snd → L' = L) → (ss ∉ L.map Prod.snd → L'.Perm ((x, ss) :: L)) → N (upd H1 D (MO P w L' D))
def putM (elt : Expr) (env : Env) (D : Addr) : Sem Unit := do
  let v ← eval elt env
  standAt elt.pos
  let _ ← call (.builtin "set.add") [.ref D, v]
theorem keyd_un {L1 : List (Addr × List Key)} {L : List (Addr × List Str)} (h : L1.Perm (keyd L)) : ∃ L2 : List (Addr × List Str), L1 = keyd L2 ∧ L2.Perm L := perm_un _ h L rfl
theorem pb_m {elt : Expr} {te : TE} {D : Addr} (hx : X.xe = fun _ _ => False) (hu : X.A.units + 64 < cLine) (he : PE X elt te) : PB X (putM elt X.env D) D (stM X.prog X.w te) := by
  refine ⟨fun pins s σ H N I h => ?_⟩
  have no : ∀ {v : Value} {s' : Shared}, X.xe v s' → False := fun h => by rw [hx] at h; exact h
  refine wpAny_bind (wpAny_mono (he.run pins s σ H _ I h) (fun v s1 z => ?_) fun _ _ z => no z)
  obtain ⟨y, H1, I1, r1, L, x, ss, rfl, hxx, hD, hL, few, q⟩ := z
  cases (show v = Value.ref x from r1)
  refine wpAny_bind (wpAny_standAt ?_)
  have R0 : M0 X.prog X.w s1.heap D (keyd L) := (I1.hok D _ hD).1
  obtain ⟨es, ep, t, R⟩ := m0_whole R0 (isM_all I1.hok hL)
  refine wpAny_bind (call_add_m R (isM_tup I1.hok hxx) (by omega) (by rw [List.length_map]; exact few) fun tk h' L' es' ep' t' sb R' y n => ?_)
  have ⟨L2, e2, p2⟩ : ∃ L2 : List (Addr × List Str), L' = keyd L2 ∧ (ss ∈ L.map Prod.snd → L2 = L) ∧ (ss ∉ L.map Prod.snd → L2.Perm ((x, ss) :: L)) := by
    by_cases hm : ss ∈ L.map Prod.snd
    · exact ⟨L, y (keyd_mem.mpr hm), fun _ => rfl, fun z => absurd hm z⟩
    · obtain ⟨L2, e2, p2⟩ := keyd_un (L := (x, ss) :: L) (n fun z => hm (keyd_mem.mp z))
      exact ⟨L2, e2, fun z => absurd z hm, fun _ => p2⟩
  rw [e2] at R'
  have M := m0_of R'
  refine wpAny_pure ⟨upd H1 D (MO X.prog X.w L2 D), I1.write (e := D) (t' := tk) (by rw [hD]; exact True.intro) (.inl rfl) (fun b u hb hu => (sb.2 b hb).trans hu) ?_ (mo_ok M), q L2 p2.1 p2.2⟩
  obtain ⟨_, _, _, ⟨o, ho, _⟩, _⟩ := M
  exact ⟨o, ho⟩
variable {elt tg iter : Expr} {ifs : List Expr} {scope : Scope} {pos : Pos}
theorem node_set {prog : Program} {w : World} : Node prog w (.SetComp elt [⟨tg, iter, ifs, 0⟩] scope pos) tg iter ifs (putM elt) where
  cl := rfl
  quiet := fun _ _ _ => rfl
  den := fun _ _ _ => rfl
  under := fun _ _ _ _ => rfl
  turn := fun it D env => PpSet.compTurn_set elt tg iter ifs scope pos it (.ref D) env
  start := fun h0 h => PpSet.codeAny_compStart_set h0 h
abbrev tScT (P : Program) (w : World) (wi : TI) (g : TG) (tt : TT) (te : TE) (vs : List Nat) : TE := tBk wi g tt (fun D => MO P w [] D) (stM P w te) vs
theorem pe_scT {own : List (Str × Nat)} {wi : TI} {g : TG} {tt : TT} {te : TE} (hc : X.calm = true) (hN : X.N.Nodup) (hu : X.A.units + 64 < cLine) (hi : PI X tg iter wi) (ok : BlkOk X.N X.env.scope scope own)
    (hg : ∀ (s : Shared) (H : Hp) (C : Addr) (cl : List (Str × Addr)) (fp : List Addr), PG (X.blk s H scope (compEnvC scope cl C X.env) fp) tg g)
    (ht : ∀ (s : Shared) (H : Hp) (C : Addr) (cl : List (Str × Addr)) (fp : List Addr), PTs (X.blk s H scope (compEnvC scope cl C X.env) fp) ifs tt)
    (he : ∀ (s : Shared) (H : Hp) (C : Addr) (cl : List (Str × Addr)) (fp : List Addr), PE (X.blk s H scope (compEnvC scope cl C X.env) fp) elt te) (hs : ∀ x, foldedSetIterable iter X.env x = pure x := by intro _; rfl) :
    PE X (.SetComp elt [⟨tg, iter, ifs, 0⟩] scope pos) (tScT X.prog X.w wi g tt te (own.map (·.2))) := by
  refine ⟨fun pins s σ H Q I h => ?_⟩
  rw [PpSet.eval_SetComp]
  refine bk_core (mk := newSet (.type "set")) hc hN I node_set (fun h => PpSet.newSet_ok h) (fun H h _ => mo_ok (m0_of (set_new (Heap.get?_push_size _ rfl)))) hi ok hg ht (fun s H C cl fp D => pb_m (X := X.blk s H scope (compEnvC scope cl C X.env) fp) rfl hu (he s H C cl fp)) hs h fun D C s' m H' I' q hn f => ⟨m, hn, fun h2 sb => ?_⟩
  obtain ⟨f0, f1, f2, f3, f4, f5⟩ := f
  exact ⟨.ref D, H', I'.turned (t' := s'.toks) (fun b o hb e => (sb.2 b hb).trans e) f0 f1 f3 f4 f5, rfl, q⟩
end

/-! ### sorted of it -/
def tLe (x y : List Str) : Bool := dataLe false (fun z : List Str => PyData.tuple (z.map PyData.str)) x y
def tsort (xs : List (List Str)) : List (List Str) := xs.mergeSort tLe
theorem keyToks_strs : ∀ {x y : List Str}, PySem.W.keyToksAll (x.map PyData.str) = PySem.W.keyToksAll (y.map PyData.str) → x = y
  | [], [], _ => rfl
  | [], b :: y, h => by simp [PySem.W.keyToksAll] at h
  | a :: x, [], h => by simp [PySem.W.keyToksAll] at h
  | a :: x, b :: y, h => by
    simp [PySem.W.keyToksAll, PySem.W.keyToks] at h
    obtain ⟨h1, h2⟩ := h
    have e := PySem.W.str_of_cps (x := a) (y := b) (by first | exact h1 | simpa using h1)
    rw [e, keyToks_strs h2]
theorem tLe_total : PySem.W.TotalLe tLe := show PySem.W.TotalLe (dataLe false fun z : List Str => PyData.tuple (z.map PyData.str)) from PySem.W.sortLe_total _ _ _
theorem tLe_anti {x y : List Str} (h1 : tLe x y = true) (h2 : tLe y x = true) : x = y := by
  have a1 : PySem.W.dataLt (.tuple (y.map PyData.str)) (.tuple (x.map PyData.str)) = false := by
    have := h1
    unfold tLe at this
    rw [PySem.W.dataLe_eq] at this
    simpa using this
  have a2 : PySem.W.dataLt (.tuple (x.map PyData.str)) (.tuple (y.map PyData.str)) = false := by
    have := h2
    unfold tLe at this
    rw [PySem.W.dataLe_eq] at this
    simpa using this
  have e := (listOrd itemOrd).total _ _ a2 a1
  exact keyToks_strs (by simpa [PySem.W.keyToks] using e)
theorem tsort_perm {xs ys : List (List Str)} (h : xs.Perm ys) : tsort xs = tsort ys :=
  List.Perm.eq_of_pairwise (fun _ _ _ _ => tLe_anti) (PySem.W.sort_pairwise tLe_total xs) (PySem.W.sort_pairwise tLe_total ys) (((List.mergeSort_perm _ _).trans h).trans (List.mergeSort_perm _ _).symm)
theorem tsort_mem {xs : List (List Str)} {x : List Str} : x ∈ tsort xs ↔ x ∈ xs := (List.mergeSort_perm _ _).mem_iff
theorem reads_strs {P : Program} {w : World} {h : Heap} : ∀ {ss : List Str} {vs : List Value}, ItemsAre (mixKind P w) (ss.map Sum.inr) vs → ReadsAll h vs (ss.map PyData.str) []
  | [], _, q => by
    rw [List.map_nil] at q
    cases q
    exact .nil
  | s :: ss, _, q => by
    rw [List.map_cons] at q
    cases q with
    | cons q1 q2 =>
      rename_i v _
      rcases keyIs_shape (show keyIs (.inr s) v = true from q1) with ⟨i, t, e1, e2⟩ | ⟨x, t, e1, e2⟩
      · cases e1
      · cases e1
        rw [e2]
        exact .cons (as := []) (bs := []) (.str _ _) (reads_strs q2)

theorem reads_isM {P : Program} {w : World} {h : Heap} {b : Addr} {ss : List Str} (hb : IsM P w h (ss.map Sum.inr) b) : Reads h (.ref b) (.tuple (ss.map PyData.str)) [] := by
  obtain ⟨o, items, n, ho, hc, hd, hi⟩ := hb
  exact .tuple ho hc hd (reads_strs hi)
theorem each_refs : ∀ L : List (Addr × List Str), EachIs (fun v (b : Addr × List Str) => v = Value.ref b.1) (L.map fun q => Value.ref q.1) L
  | [] => .nil
  | q :: L => .cons rfl (each_refs L)
theorem refs_each : ∀ {vs : List Value} {L : List (Addr × List Str)}, EachIs (fun v (b : Addr × List Str) => v = Value.ref b.1) vs L → vs = L.map fun q => Value.ref q.1
  | _, _, .nil => rfl
  | _, _, .cons h t => by rw [List.map_cons, h, refs_each t]
theorem al_strs : ∀ xs ys : List Str, PySem.W.alikeAll (xs.map PyData.str) (ys.map PyData.str) = true
  | [], _ => by simp [PySem.W.alikeAll]
  | _ :: _, [] => by simp [PySem.W.alikeAll]
  | x :: xs, y :: ys => by
    show PySem.W.alikeAll (PyData.str x :: xs.map PyData.str) (PyData.str y :: ys.map PyData.str) = true
    rw [PySem.W.alikeAll, al_strs xs ys]
    simp [PySem.W.alike]
section
variable {X : Cx}
theorem vals_refs : ∀ L : List (Addr × List Str), Vals (L.map fun q => V.ref q.1) (L.map fun q => Value.ref q.1)
  | [] => .nil
  | q :: L => .cons rfl (vals_refs L)
def cSortX (P : Program) (w : World) : List V → Hp → VK → Prop := fun vs H Q => ∃ (a : Addr) (L : List (Addr × List Str)), vs = [.ref a] ∧ H a = some (MO P w L a) ∧ (∀ p ∈ L, H p.1 = some (.tup (p.2.map V.str))) ∧ (∀ p ∈ L, p.2 ≠ []) ∧
  ∀ (L' : List (Addr × List Str)) (p : Addr), L'.Perm L → L'.map Prod.snd = tsort (L.map Prod.snd) → H p = none → Q (.ref p) (upd H p (.lst (L'.map fun q => V.ref q.1)))
theorem crSortX (hu : X.A.units + 64 < cLine) (hc : X.calm = true) : CallR X (.builtin "sorted") (cSortX X.prog X.w) := by
  intro pins s σ H vs us Q I r h
  obtain ⟨a, L, rfl, ha, hL, ne, q⟩ := h
  rw [Vals.ref1 r]
  have R0 : M0 X.prog X.w s.heap a (keyd L) := (I.hok a _ ha).1
  obtain ⟨es, ep, t, R⟩ := m0_whole R0 (isM_all I.hok hL)
  obtain ⟨o, ho, hex, hd⟩ := R.ob
  have sl := lay_size R.lay
  have lt : L.length < 64 := by have := R.lt; rwa [List.length_map] at this
  rw [List.length_map] at sl
  refine Calls.call_function_entry kind_sorted plain_sorted entry_sorted (args_sorted1 _) ?_
  unfold Builtin.«sorted»
  refine wpAny_bind (m := checkCount "sorted" 1 1 _) (wpAny_pure ?_)
  refine wpAny_bind (collect_set (A := X.A.in1) (I.ok.hd hc) ⟨o, ho, hex.1, hd⟩ R.fit (by unfold scanBound; omega) R.tab.ris R.ld fun s1 vs k1 hz g1 o1 pm => ?_)
  have em : es.toList.map (·.2) = L.map fun q => Value.ref q.1 := by
    rw [R.lay]
    unfold rowM keyd
    rw [List.map_map, List.map_map]
    rfl
  rw [em] at pm
  obtain ⟨L1, rfl, p1⟩ := perm_un _ pm L rfl
  have l1 : L1.length < 64 := by rw [p1.length_eq]; exact lt
  refine wpAny_bind (wpAny_newList ?_ (by rw [List.length_map, sizeLine_eq]; omega))
  have hoL : (s1.heap.push (seqObj "list" (L1.map fun q => Value.ref q.1).toArray 0)).get? s1.heap.objs.size = some (seqObj "list" (L1.map fun q => Value.ref q.1).toArray 0) := Heap.get?_push_size _ rfl
  have er : EachIs (fun v (b : Addr × List Str) => ∃ as, Reads (s1.heap.push (seqObj "list" (L1.map fun q => Value.ref q.1).toArray 0)) v (.tuple (b.2.map PyData.str)) as ∧ s1.heap.objs.size ∉ as) (L1.map fun q => Value.ref q.1) L1 :=
    each_and (each_refs L1) fun u x hx e => ⟨[], by
      rw [e]
      obtain ⟨ob, its, n, y1, y2⟩ := isM_tup (P := X.prog) (w := X.w) I.hok (hL x (p1.mem_iff.mp hx))
      exact reads_isM (P := X.prog) (w := X.w) ⟨ob, its, n, Heap.get?_push_of_some _ (k1 _ _ y1), y2⟩, fun z => nomatch z⟩
  have hal : AllAlike (L1.map fun b => PyData.tuple (b.2.map PyData.str)) := by
    intro d hd d' hd'
    obtain ⟨x, _, rfl⟩ := List.mem_map.mp hd
    obtain ⟨y, _, rfl⟩ := List.mem_map.mp hd'
    rw [PySem.W.alike]
    exact al_strs x.2 y.2
  have hso : Sortable (L1.map fun b => PyData.tuple (b.2.map PyData.str)) := .inl fun d hd => by
    obtain ⟨x, hx, rfl⟩ := List.mem_map.mp hd
    match e : x.2, ne x (p1.mem_iff.mp hx) with
    | [], z => exact absurd rfl z
    | y :: r, _ => exact ⟨.str y, r.map PyData.str, rfl⟩
  refine wpAny_bind (wpAny_holding (PySem.W.list_sort_data (s := { s1 with heap := s1.heap.push (seqObj "list" (L1.map fun q => Value.ref q.1).toArray 0) }) hoL (each_refs L1) er hal hso (by rw [sizeLine_eq]; omega) (fun b _ => ?_) fun out a1 a2 => ?_))
  · have : (PyData.tuple (b.2.map PyData.str)).depth = 1 := by rw [PyData.depth, depth_strs]
    rw [this]
    have := X.A.in1_units
    omega
  rw [refs_each a2]
  generalize hL' : L1.mergeSort (dataLe false fun b : Addr × List Str => PyData.tuple (b.2.map PyData.str)) = L' at *
  have pL : L'.Perm L := by rw [← hL']; exact (List.mergeSort_perm _ _).trans p1
  have sL : L'.map Prod.snd = tsort (L.map Prod.snd) := by
    rw [← tsort_perm (p1.map Prod.snd), ← hL']
    exact PySem.W.sort_maps (s := tLe) Prod.snd fun a _ b _ => rfl
  obtain ⟨c, hcc⟩ := sortedHeap_at (vs := L1.map fun q => Value.ref q.1) (out := (L'.map fun q => Value.ref q.1).toArray) hoL
  have kk : ∀ b u, s.heap.get? b = some u → (sortedHeap (s1.heap.push (seqObj "list" (L1.map fun q => Value.ref q.1).toArray 0)) s1.heap.objs.size (L1.map fun q => Value.ref q.1) (L'.map fun q => Value.ref q.1).toArray).get? b = some u := fun b u e => by
    have z := k1 b u e
    have lb := Heap.lt_size z
    rw [sortedHeap_old (Nat.ne_of_lt lb) (by rw [size_push']; exact Nat.lt_succ_of_lt lb)]
    exact Heap.get?_push_of_some _ z
  have hn : H s1.heap.objs.size = none := I.hok.fresh hz
  have ll : (L'.map fun q => V.ref q.1).length ≤ sizeLine := by rw [List.length_map, pL.length_eq, sizeLine_eq]; omega
  refine wpAny_pure ⟨_, rfl, ?_⟩
  refine ⟨.ref s1.heap.objs.size, upd H s1.heap.objs.size (.lst (L'.map fun q => V.ref q.1)), ?_, rfl, q L' _ pL sL hn⟩
  exact I.call' (ch := []) o1 (Un.laid kk hz hn) (I.hok.laid kk hz ⟨ll, L'.map fun q => Value.ref q.1, c, vals_refs L', hcc⟩) (by show AllBare s1.gens; rw [g1]; exact I.bare) (fun _ z => nomatch z)
end
end GR
end
section
set_option Elab.async false
set_option linter.all false
set_option maxRecDepth 100000
set_option maxHeartbeats 4000000
set_option autoImplicit false
namespace GR
open PySem PySem.Spec L2
open Evl (Ex)
local macro_rules | `(tactic| walk_at "go") => `(tactic| (repeat (first
  | with_reducible refine i_seq ?_
  | ((with_reducible apply i_var); focus rfl)
  | with_reducible refine i_c ?_
  | with_reducible refine i_cons ?_
  | with_reducible refine i_nil ?_
  | with_reducible refine i_asg ?_
  | with_reducible refine i_name ?_
  | with_reducible refine i_op ?_
  | with_reducible refine i_cb ?_
  | with_reducible refine i_fn ?_
  | with_reducible refine i_ret ?_
  | with_reducible refine i_retN ?_
  | with_reducible refine i_drop ?_
  | with_reducible refine i_next ?_
  | with_reducible refine i_cont ?_
  | with_reducible refine i_break ?_
  | with_reducible refine i_if ?_
  | with_reducible refine br_t ?_
  | with_reducible refine br_f ?_
  | with_reducible refine br_nt ?_
  | with_reducible refine io_t ?_
  | with_reducible refine io_f ?_
  | with_reducible refine io_nt ?_
  | with_reducible refine io_nf ?_
  | with_reducible refine br_nf ?_
  | with_reducible refine o_ip ?_
  | with_reducible refine i_test ?_
  | with_reducible refine i_tB ?_
  | with_reducible refine i_not ?_
  | with_reducible refine i_notV ?_
  | with_reducible refine i_andV ?_
  | with_reducible refine i_orV ?_
  | with_reducible refine i_and ?_
  | with_reducible refine i_or ?_
  | with_reducible refine i_dput ?_
  | with_reducible refine i_dget ?_
  | with_reducible refine i_din ?_
  | with_reducible refine i_dnotin ?_
  | with_reducible refine i_dnewK ?_
  | with_reducible refine i_dnewT ?_
  | with_reducible refine i_fld ?_
  | with_reducible refine i_sfld ?_
  | with_reducible refine i_bm0 ?_
  | with_reducible refine i_bm ?_
  | with_reducible refine i_sl ?_
  | with_reducible refine i_noPart ?_
  | with_reducible refine i_part ?_
  | with_reducible refine i_chain ?_
  | with_reducible refine i_methR ?_
  | with_reducible refine i_tup ?_
  | with_reducible refine i_lst ?_
  | with_reducible refine i_for ?_
  | with_reducible refine i_iList ?_
  | with_reducible refine i_iTup ?_
  | with_reducible refine i_iKeys ?_
  | with_reducible refine i_iRng1 ?_
  | with_reducible refine i_iRng2 ?_
  | with_reducible refine i_iStr ?_
  | with_reducible refine i_iEnum ?_
  | with_reducible refine i_iEnumT ?_
  | with_reducible refine i_lc ?_
  | with_reducible refine i_stD ?_
  | with_reducible refine i_iItemsT ?_
  | with_reducible refine i_dcw ?_
  | with_reducible refine i_dsetd ?_
  | with_reducible refine i_iVals ?_
  | with_reducible refine i_iItems ?_
  | with_reducible refine i_revL ?_
  | with_reducible refine i_yes ?_
  | with_reducible refine o_I0 ?_
  | with_reducible refine o_eqS ?_
  | with_reducible refine o_neS ?_
  | with_reducible refine o_eqI ?_
  | with_reducible refine o_neI ?_
  | with_reducible refine o_eqB ?_
  | with_reducible refine e_ref ?_
  | with_reducible refine e_str ?_
  | with_reducible refine e_int ?_
  | with_reducible refine e_bl ?_
  | with_reducible refine e_str1 ?_
  | with_reducible refine e_int1 ?_
  | with_reducible refine e_int2 ?_
  | with_reducible refine e_str2 ?_)))
/-! ### bits -/
def lowB (m : Nat) : Nat := ((List.range m).find? fun j => m.testBit j).getD 0
theorem tb_div (m j : Nat) : m / 2 ^ j % 2 = if m.testBit j then 1 else 0 := by
  rw [Nat.testBit_eq_decide_div_mod_eq]
  by_cases h : m / 2 ^ j % 2 = 1
  · rw [decide_eq_true h, h]; rfl
  · rw [decide_eq_false h]
    have := Nat.mod_two_eq_zero_or_one (m / 2 ^ j)
    simp only [Bool.false_eq_true, if_false]
    omega
theorem tb_some {m : Nat} (h : m ≠ 0) : ∃ j, j < m ∧ m.testBit j = true := by
  have hz : ∃ j, m.testBit j = true := Nat.exists_testBit_of_ne_zero h
  obtain ⟨j, hj⟩ := hz
  refine ⟨j, ?_, hj⟩
  have h1 : 2 ^ j ≤ m := Nat.ge_two_pow_of_testBit hj
  exact Nat.lt_of_lt_of_le Nat.lt_two_pow_self h1
theorem low_spec {m : Nat} (h : m ≠ 0) : m.testBit (lowB m) = true ∧ (∀ j, j < lowB m → m.testBit j = false) ∧ lowB m < m := by
  obtain ⟨j, hj, tj⟩ := tb_some h
  unfold lowB
  cases e : (List.range m).find? fun j => m.testBit j with
  | none =>
    have := List.find?_eq_none.mp e j (List.mem_range.mpr hj)
    exact absurd tj this
  | some k =>
    have h1 := List.find?_some e
    have h2 : ∀ j, j < k → m.testBit j = false := fun i hi => by
      obtain ⟨_, as, bs, e1, e2⟩ := List.find?_eq_some_iff_append.mp e
      have hk : as.length = k := by
        have := congrArg (fun l => l[as.length]?) e1
        simp at this
        have hl : as.length < m := by
          have := congrArg List.length e1
          simp at this
          omega
        rw [List.getElem?_eq_getElem (by simpa using hl)] at this
        simp at this
        exact this
      have hm : i ∈ as := by
        have : (List.range m)[i]? = some i := by
          have : k < m := by
            have := congrArg List.length e1
            simp at this
            omega
          rw [List.getElem?_eq_getElem (by simp; omega)]
          simp
        rw [e1, List.getElem?_append_left (by omega)] at this
        exact List.mem_of_getElem? this
      simpa using e2 i hm
    exact ⟨h1, h2, List.mem_range.mp (List.mem_of_find?_eq_some e)⟩
theorem and_one (m j : Nat) : Builtin.bitAnd ((m : Int) / 2 ^ ((j : Int)).toNat) 1 = if m.testBit j then 1 else 0 := by
  rw [PyProof.Rows.bitAnd_m1, Int.toNat_natCast]
  rw [show (m : Int) / 2 ^ j = ((m / 2 ^ j : Nat) : Int) by push_cast; rfl]
  rw [show ((m / 2 ^ j : Nat) : Int) % 2 = ((m / 2 ^ j % 2 : Nat) : Int) by push_cast; rfl, tb_div]
  split <;> rfl
section
variable {P : Program} {w : World} {K : PySem.W.Frag} {mg : Str → Option Value} {base : Heap}
abbrev n_lowest_bit : List Str := ["mask", "at"]
theorem sc_lowest_bit : FnScope n_lowest_bit ["mask"] (defScope s_lowest_bit) := ⟨rfl, rfl, rfl, by decide +kernel, rfl, by decide +kernel, by decide +kernel⟩
def spLow : Sp := fun vs H Q _ => ∃ m : Nat, vs = [.int m] ∧ m ≠ 0 ∧ Q (.int (lowB m : Nat)) H
theorem c_lowest_bit (T : Txt K mg) : Cal P w K mg base 1 "lowest_bit" spLow := by
  refine T.a_lowest_bit.ok sc_lowest_bit (fun _ _ _ _ _ _ us hl => match us, hl with | [_], _ => rfl) (fun vs H Q E h => ?_) (fun f cdv A outer s H vs Q E hr h => ⟨_, (pss_cons (ps_set (i := 1) sc_lowest_bit.nd rfl (Or.inl rfl) pe_int)
      (pss_cons (ps_while PassesOwn.never (pt_cmpR op_eq (pe_op op_and (pe_op op_shr (pv 0) (pv 1)) pe_int) pe_int (nomark _)) (pss_one (ps_aug (i := 1) sc_lowest_bit.nd rfl (.inl rfl) pe_int ip_add)))
      (pss_one (ps_ret (pv 1))))), ?_⟩)
  · obtain ⟨m, rfl, _⟩ := h; rfl
  · obtain ⟨m, rfl, h0, q⟩ := h
    walk_at "go"
    obtain ⟨t1, t2, t3⟩ := low_spec h0
    refine i_while (fun k σ H1 => ∃ j : Nat, σ = [some (.int m), some (.int (j : Nat))] ∧ j + k = lowB m ∧ H1 = H) (lowB m) ⟨0, rfl, by omega, rfl⟩ ?_
    rintro k σ H1 ⟨j, rfl, hj, rfl⟩
    walk_at "go"
    refine ⟨_, _, rfl, rfl, show (0 : Int) ≤ j by omega, ?_⟩
    walk_at "go"
    rw [and_one]
    by_cases e : j = lowB m
    · subst e
      rw [if_pos t1]
      show if decide ((1 : Int) = 0) = true then _ else _
      rw [if_neg (by decide)]
      walk_at "go"
      exact q
    · rw [t2 j (by omega)]
      show if decide ((0 : Int) = 0) = true then _ else _
      rw [if_pos (by decide)]
      refine ⟨fun σ' H' => ∃ j : Nat, σ' = [some (.int m), some (.int (j : Nat))] ∧ j + (k - 1) = lowB m ∧ H' = H1, fun σ' H' z => ⟨k - 1, by omega, z⟩, ?_⟩
      refine i_aug rfl ?_
      walk_at "go"
      exact ⟨j + 1, rfl, by omega, rfl⟩
abbrev n_bin_count : List Str := ["mask", "many"]
theorem sc_bin_count : FnScope n_bin_count ["mask"] (defScope s_bin_count) := ⟨rfl, rfl, rfl, by decide +kernel, rfl, by decide +kernel, by decide +kernel⟩
def bits (m : Nat) : Nat := if m = 0 then 0 else m % 2 + bits (m / 2)
def spBits : Sp := fun vs H Q _ => ∃ m : Nat, vs = [.int m] ∧ Q (.int (bits m : Nat)) H
theorem c_bin_count (T : Txt K mg) : Cal P w K mg base 1 "bin_count" spBits := by
  refine T.a_bin_count.ok sc_bin_count (fun _ _ _ _ _ _ us hl => match us, hl with | [_], _ => rfl) (fun vs H Q E h => ?_) (fun f cdv A outer s H vs Q E hr h => ⟨_, (pss_cons (ps_set (i := 1) sc_bin_count.nd rfl (Or.inl rfl) pe_int)
      (pss_cons (ps_while PassesOwn.never (pt_cmpR op_gt (pv 0) pe_int (nomark _)) (pss_cons (ps_aug (i := 1) sc_bin_count.nd rfl (.inl rfl) (pe_op op_and (pv 0) pe_int) ip_add)
      (pss_one (ps_aug (i := 0) sc_bin_count.nd rfl (.inl rfl) pe_int iop_halfI))))
      (pss_one (ps_ret (pv 1))))), ?_⟩)
  · obtain ⟨m, rfl, _⟩ := h; rfl
  · obtain ⟨m, rfl, q⟩ := h
    walk_at "go"
    refine i_while (fun k σ H1 => ∃ c : Nat, σ = [some (.int (k : Nat)), some (.int (c : Nat))] ∧ c + bits k = bits m ∧ H1 = H) m ⟨0, rfl, by omega, rfl⟩ ?_
    rintro k σ H1 ⟨c, rfl, hc, rfl⟩
    walk_at "go"
    by_cases e : k = 0
    · subst e
      rw [decide_eq_false (by omega)]
      rw [if_neg Bool.false_ne_true]
      walk_at "go"
      rw [show bits 0 = 0 by unfold bits; rfl] at hc
      rw [show c = bits m by omega]
      exact q
    · rw [decide_eq_true (by omega), if_pos rfl]
      refine ⟨fun σ' H' => ∃ c : Nat, σ' = [some (.int ((k / 2 : Nat) : Nat)), some (.int (c : Nat))] ∧ c + bits (k / 2) = bits m ∧ H' = H1, fun σ' H' z => ⟨k / 2, by omega, z⟩, ?_⟩
      walk_at "go"
      refine i_aug rfl ?_
      walk_at "go"
      refine i_aug rfl ?_
      walk_at "go"
      refine ⟨rfl, c + k % 2, ?_, ?_, rfl⟩
      · rw [PyProof.Rows.bitAnd_m1]
        show [some (V.int ((k : Int) / 2)), some (V.int ((c : Int) + (k : Int) % 2))] = _
        rw [show (k : Int) / 2 = ((k / 2 : Nat) : Int) by omega, show (c : Int) + (k : Int) % 2 = ((c + k % 2 : Nat) : Int) by omega]
      · rw [show bits k = k % 2 + bits (k / 2) by rw [bits, if_neg e]] at hc
        omega
end
end GR
end
section
set_option Elab.async false
set_option linter.all false
set_option maxRecDepth 100000
set_option maxHeartbeats 4000000
set_option autoImplicit false
namespace GR
open PySem PySem.Spec L2
open Evl (Ex)
local macro_rules | `(tactic| walk_at "go") => `(tactic| (repeat (first
  | with_reducible refine i_seq ?_
  | ((with_reducible apply i_var); focus rfl)
  | with_reducible refine i_c ?_
  | with_reducible refine i_cons ?_
  | with_reducible refine i_nil ?_
  | with_reducible refine i_asg ?_
  | with_reducible refine i_name ?_
  | with_reducible refine i_op ?_
  | with_reducible refine i_cb ?_
  | with_reducible refine i_fn ?_
  | with_reducible refine i_ret ?_
  | with_reducible refine i_retN ?_
  | with_reducible refine i_drop ?_
  | with_reducible refine i_next ?_
  | with_reducible refine i_cont ?_
  | with_reducible refine i_break ?_
  | with_reducible refine i_if ?_
  | with_reducible refine br_t ?_
  | with_reducible refine br_f ?_
  | with_reducible refine br_nt ?_
  | with_reducible refine io_t ?_
  | with_reducible refine io_f ?_
  | with_reducible refine io_nt ?_
  | with_reducible refine io_nf ?_
  | with_reducible refine br_nf ?_
  | with_reducible refine o_ip ?_
  | with_reducible refine i_test ?_
  | with_reducible refine i_tB ?_
  | with_reducible refine i_not ?_
  | with_reducible refine i_notV ?_
  | with_reducible refine i_andV ?_
  | with_reducible refine i_orV ?_
  | with_reducible refine i_and ?_
  | with_reducible refine i_or ?_
  | with_reducible refine i_dput ?_
  | with_reducible refine i_dget ?_
  | with_reducible refine i_din ?_
  | with_reducible refine i_dnotin ?_
  | with_reducible refine i_dnewK ?_
  | with_reducible refine i_dnewT ?_
  | with_reducible refine i_fld ?_
  | with_reducible refine i_sfld ?_
  | with_reducible refine i_bm0 ?_
  | with_reducible refine i_bm ?_
  | with_reducible refine i_sl ?_
  | with_reducible refine i_noPart ?_
  | with_reducible refine i_part ?_
  | with_reducible refine i_chain ?_
  | with_reducible refine i_methR ?_
  | with_reducible refine i_tup ?_
  | with_reducible refine i_lst ?_
  | with_reducible refine i_for ?_
  | with_reducible refine i_iList ?_
  | with_reducible refine i_iTup ?_
  | with_reducible refine i_iKeys ?_
  | with_reducible refine i_iRng1 ?_
  | with_reducible refine i_iRng2 ?_
  | with_reducible refine i_iStr ?_
  | with_reducible refine i_iEnum ?_
  | with_reducible refine i_iEnumT ?_
  | with_reducible refine i_lc ?_
  | with_reducible refine i_stD ?_
  | with_reducible refine i_iItemsT ?_
  | with_reducible refine i_dcw ?_
  | with_reducible refine i_dsetd ?_
  | with_reducible refine i_iVals ?_
  | with_reducible refine i_iItems ?_
  | with_reducible refine i_revL ?_
  | with_reducible refine i_yes ?_
  | with_reducible refine o_I0 ?_
  | with_reducible refine o_eqS ?_
  | with_reducible refine o_neS ?_
  | with_reducible refine o_eqI ?_
  | with_reducible refine o_neI ?_
  | with_reducible refine o_eqB ?_
  | with_reducible refine e_ref ?_
  | with_reducible refine e_str ?_
  | with_reducible refine e_int ?_
  | with_reducible refine e_bl ?_
  | with_reducible refine e_str1 ?_
  | with_reducible refine e_int1 ?_
  | with_reducible refine e_int2 ?_
  | with_reducible refine e_str2 ?_)))
/-! ### how plain data stand in the heap -/
/-- a tuple, a list of names -/
def Ts (H : Hp) (a : Addr) (xs : List Str) : Prop := H a = some (.tup (xs.map V.str))
def Ls (H : Hp) (a : Addr) (xs : List Str) : Prop := H a = some (.lst (xs.map V.str))
/-- a list of objects, each told by R -/
def LP {β : Type} (R : Addr → β → Prop) (H : Hp) (a : Addr) (bs : List β) : Prop := ∃ zs : List (Addr × β), H a = some (.lst (zs.map fun z => V.ref z.1)) ∧ (∀ z ∈ zs, R z.1 z.2) ∧ zs.map Prod.snd = bs
section
variable {H H' : Hp} {a : Addr} {xs : List Str} {s : Str}
theorem Ts.ex (e : Ex H H') (h : Ts H a xs) : Ts H' a xs := e a _ h
theorem Ls.ex (e : Ex H H') (h : Ls H a xs) : Ls H' a xs := e a _ h
theorem LP.ex {β : Type} {R R' : Addr → β → Prop} {bs : List β} (e : Ex H H') (h : LP R H a bs) (hr : ∀ a b, R a b → R' a b) : LP R' H' a bs := by
  obtain ⟨zs, h1, h2, h3⟩ := h
  exact ⟨zs, e a _ h1, fun z hz => hr _ _ (h2 z hz), h3⟩
theorem flat_strs : ∀ xs : List Str, (xs.map V.str).all flatV = true
  | [] => rfl
  | x :: r => by rw [List.map_cons, List.all_cons, flat_strs r]; rfl
theorem in_strs (s : Str) : ∀ xs : List Str, inV (.str s) (xs.map V.str) = decide (s ∈ xs)
  | [] => rfl
  | x :: r => by
    rw [List.map_cons, inV, List.any_cons]
    have ih := in_strs s r
    unfold inV at ih
    rw [ih]
    have e : eqV (.str x) (.str s) = decide (x = s) := by
      by_cases h : x = s
      · subst h
        rw [decide_eq_true rfl]
        exact beq_iff_eq.mpr rfl
      · rw [decide_eq_false h]
        exact Bool.eq_false_iff.mpr fun z => h (beq_iff_eq.mp z)
    rw [e]
    by_cases h : x = s
    · subst h; simp
    · have h2 : ¬ s = x := fun e => h e.symm
      simp [h, h2]
theorem i_in {Q : VK} (h : Ts H a xs ∨ Ls H a xs) (q : Q (.bl (decide (s ∈ xs))) H) : oIn false (.str s) (.ref a) H Q :=
  ⟨a, xs.map V.str, rfl, h.elim .inr .inl, rfl, flat_strs xs, by rw [in_strs, show (false != decide (s ∈ xs)) = decide (s ∈ xs) by cases decide (s ∈ xs) <;> rfl]; exact q⟩
theorem i_ni {Q : VK} (h : Ts H a xs ∨ Ls H a xs) (q : Q (.bl (!decide (s ∈ xs))) H) : oIn true (.str s) (.ref a) H Q :=
  ⟨a, xs.map V.str, rfl, h.elim .inr .inl, rfl, flat_strs xs, by rw [in_strs, show (true != decide (s ∈ xs)) = !decide (s ∈ xs) by cases decide (s ∈ xs) <;> rfl]; exact q⟩
theorem i_lenT {Q : VK} (h : Ts H a xs) (q : Q (.int (xs.length : Nat)) H) : cLen [.ref a] H Q := ⟨a, xs.map V.str, rfl, .inr h, by rw [List.length_map]; exact q⟩
theorem i_lenL {Q : VK} (h : Ls H a xs) (q : Q (.int (xs.length : Nat)) H) : cLen [.ref a] H Q := ⟨a, xs.map V.str, rfl, .inl h, by rw [List.length_map]; exact q⟩
theorem map_get {α β : Type} {f : α → β} {l : List α} {i : Nat} {y : β} (h : (l.map f)[i]? = some y) : ∃ x, l[i]? = some x ∧ y = f x := by
  rw [List.getElem?_map] at h
  obtain ⟨x, h1, h2⟩ := Option.map_eq_some_iff.mp h
  exact ⟨x, h1, h2.symm⟩
end
/-- a name as the program wants it: 1 to 8 small letters -/
def letter (c : Nat) : Prop := 97 ≤ c ∧ c ≤ 122
def Nm (s : Str) : Prop := 1 ≤ s.length ∧ s.length ≤ 8 ∧ ∀ c ∈ s.cps.toList, letter c
theorem letter_in {c : Nat} (h : letter c) : c ∈ (Str.ofString "abcdefghijklmnopqrstuvwxyz").cps.toList := by
  have e : (Str.ofString "abcdefghijklmnopqrstuvwxyz").cps.toList = (List.range 26).map (· + 97) := by decide +kernel
  rw [e]
  obtain ⟨h1, h2⟩ := h
  exact List.mem_map.mpr ⟨c - 97, List.mem_range.mpr (by omega), by omega⟩
section
variable {P : Program} {w : World} {K : PySem.W.Frag} {mg : Str → Option Value} {base : Heap} {k : Nat}
abbrev n_is_name : List Str := ["value", "sign"]
theorem sc_is_name : FnScope n_is_name ["value"] (defScope s_is_name) := ⟨rfl, rfl, rfl, by decide +kernel, rfl, by decide +kernel, by decide +kernel⟩
def spIsName : Sp := fun vs H Q _ => ∃ s, vs = [.str s] ∧ Nm s ∧ Q (.bl true) H
theorem c_is_name (T : Txt K mg) : Cal P w K mg base 1 "is_name" spIsName := by
  refine T.a_is_name.ok sc_is_name (fun _ _ _ _ _ _ us hl => match us, hl with | [_], _ => rfl) (fun vs H Q E h => ?_) (fun f cdv A outer s H vs Q E hr h => ⟨_, (pss_cons (ps_if (PW.pt (pw_or (pt_not (pt_val (pe_callB crIsi (by rfl) T.f_isinstance b_isinstance (pa_cons (pv 0) (pa_cons (pe_ty T.f_str b_str) pa_nil))))) (pw_or1 (pt_not (pt_chain op_le op_le pe_int (pe_callB call_len_str (by rfl) T.f_len b_len (pa_cons (pv 0) pa_nil)) pe_int))))) (pss_one (ps_ret pe_bl)) pss_nil)
      (pss_cons (ps_for PassesOwn.never rfl (pi_str (pv 0)) (pg_name (i := 1) sc_is_name.nd rfl (Or.inl rfl)) (pss_one (ps_if (pt_cmpR op_notIn_sign (pv 1) (pe_globS T.i_LETTERS) rfl) (pss_one (ps_ret pe_bl)) pss_nil)))
      (pss_one (ps_ret pe_bl)))), ?_⟩)
  · obtain ⟨m, rfl, _⟩ := h; rfl
  · obtain ⟨s, rfl, nm, q⟩ := h
    walk_at "go"
    refine ⟨_, _, _, true, rfl, .str s, k_ss, ?_⟩
    walk_at "go"
    refine ⟨small (by have := nm.2.1; omega), ?_⟩
    walk_at "go"
    have h1 := nm.1
    rw [decide_eq_true (by omega)]
    walk_at "go"
    have h2 := nm.2.1
    rw [decide_eq_true (by omega)]
    walk_at "go"
    refine loop_of (k := s.cps.size) walk_str (fun _ σ H1 => (∃ o, σ = [some (.str s), o]) ∧ H1 = H) ⟨⟨_, rfl⟩, rfl⟩ (fun _ _ _ _ _ => trivial) (fun i x σ H1 H2 hi p y => ?_) (fun σ H1 p => ?_)
    · obtain ⟨⟨o, rfl⟩, rfl⟩ := p
      obtain ⟨rfl, c, hc, rfl⟩ := y
      walk_at "go"
      refine ⟨c, _, rfl, rfl, ?_⟩
      have hm : c ∈ s.cps.toList := by
        have : s.cps.toList[i]? = some c := by rw [Array.getElem?_toList]; exact hc
        exact List.mem_of_getElem? this
      rw [decide_eq_true (letter_in (nm.2.2 c hm))]
      walk_at "go"
      exact ⟨⟨_, rfl⟩, rfl⟩
    · obtain ⟨⟨o, rfl⟩, rfl⟩ := p
      walk_at "go"
      exact q
abbrev n_is_person : List Str := ["people", "value"]
theorem sc_is_person : FnScope n_is_person ["people", "value"] (defScope s_is_person) := ⟨rfl, rfl, rfl, by decide +kernel, rfl, by decide +kernel, by decide +kernel⟩
def spIsPerson : Sp := fun vs H Q _ => ∃ a ps s, vs = [.ref a, .str s] ∧ Ts H a ps ∧ Q (.bl (decide (s ∈ ps))) H
theorem c_is_person (T : Txt K mg) : Cal P w K mg base 1 "is_person" spIsPerson := by
  refine T.a_is_person.ok sc_is_person (fun _ _ _ _ _ _ us hl => match us, hl with | [_, _], _ => rfl) (fun vs H Q E h => ?_) (fun f cdv A outer s H vs Q E hr h => ⟨_, (pss_one (ps_ret (pe_and (pe_callB crIsi (by rfl) T.f_isinstance b_isinstance (pa_cons (pv 1) (pa_cons (pe_ty T.f_str b_str) pa_nil))) (pe_one (pe_cmpR opIn (pv 1) (pv 0) rfl))))), ?_⟩)
  · obtain ⟨_, _, _, rfl, _⟩ := h; rfl
  · obtain ⟨a, ps, s, rfl, ha, q⟩ := h
    walk_at "go"
    refine ⟨_, _, _, true, rfl, .str s, k_ss, ?_⟩
    walk_at "go"
    refine i_in (.inl ha) ?_
    exact q
abbrev n_are_different : List Str := ["people", "values", "index", "value"]
theorem sc_are_different : FnScope n_are_different ["people", "values"] (defScope s_are_different) := ⟨rfl, rfl, rfl, by decide +kernel, rfl, by decide +kernel, by decide +kernel⟩
/-- all of the people, no two alike -/
def diffB (ps vs : List Str) : Bool := decide (vs.Nodup ∧ ∀ v ∈ vs, v ∈ ps)
def spAreDiff : Sp := fun vs H Q _ => ∃ a b ps xs, vs = [.ref a, .ref b] ∧ Ts H a ps ∧ Ts H b xs ∧ ∀ H', Ex H H' → Q (.bl (diffB ps xs)) H'
theorem cut_take {α : Type} (xs : List α) (f : α → V) {i : Nat} (h : i ≤ xs.length) : cutV (xs.map f) none (some (i : Nat)) = (xs.take i).map f := by
  unfold cutV
  have e : HT.sIx (xs.map f).length (xs.map f).length (some (i : Nat)) = i := by
    rw [List.length_map]
    rw [HT.sIx_nat, Nat.min_eq_left h]
  have e0 : HT.sIx (xs.map f).length 0 none = 0 := rfl
  rw [e, e0]
  simp
theorem i_cutT {H : Hp} {a : Addr} {xs : List Str} {i : Nat} {Q : VK} (h : Ts H a xs) (hi : i < xs.length) (q : ∀ p, H p = none → Q (.ref p) (upd H p (.tup ((xs.take i).map V.str)))) : oSlT (.ref a) none (some (i : Nat)) H Q := by
  refine ⟨a, xs.map V.str, rfl, h, fun z => ?_, fun p hp => ?_⟩
  · have z2 := z.2
    rw [List.length_map, HT.sIx_nat, Nat.min_eq_left (Nat.le_of_lt hi)] at z2
    omega
  · rw [cut_take xs V.str (Nat.le_of_lt hi)]
    exact q p hp
theorem i_gT2 {H : Hp} {a : Addr} {x y : V} {i j : Nat} {σ : Sl} {N : Sl → Hp → Prop} (h : H a = some (.tup [x, y])) (q : N ((σ.set i (some x)).set j (some y)) H) : gT 2 (gCons (gName i) (gCons (gName j) gNil)) (.ref a) σ H N :=
  ⟨a, [x, y], rfl, h, rfl, x, [y], rfl, y, [], rfl, rfl, q⟩
theorem i_gT3 {H : Hp} {a : Addr} {x y z : V} {i j k : Nat} {σ : Sl} {N : Sl → Hp → Prop} (h : H a = some (.tup [x, y, z])) (q : N (((σ.set i (some x)).set j (some y)).set k (some z)) H) : gT 3 (gCons (gName i) (gCons (gName j) (gCons (gName k) gNil))) (.ref a) σ H N :=
  ⟨a, [x, y, z], rfl, h, rfl, x, [y, z], rfl, y, [z], rfl, z, [], rfl, rfl, q⟩
theorem nodup_snoc_iff {xs : List Str} {x : Str} : (xs ++ [x]).Nodup ↔ xs.Nodup ∧ x ∉ xs := by
  constructor
  · intro h
    have := List.nodup_append.mp h
    exact ⟨this.1, fun hx => this.2.2 x hx x (List.mem_singleton.mpr rfl) rfl⟩
  · rintro ⟨h1, h2⟩
    exact List.nodup_append.mpr ⟨h1, List.nodup_cons.mpr ⟨List.not_mem_nil, List.nodup_nil⟩, fun a ha b hb e => h2 (by rw [List.mem_singleton.mp hb] at e; exact e ▸ ha)⟩
theorem take_snoc {α : Type} {xs : List α} {i : Nat} {x : α} (h : xs[i]? = some x) : xs.take (i + 1) = xs.take i ++ [x] := by
  rw [List.take_succ, h]
  rfl
theorem c_are_different {T : Txt K mg} (c_is_person : Cal P w K mg base k "is_person" spIsPerson) : Cal P w K mg base (k + 1) "are_different" spAreDiff := by
  refine T.a_are_different.ok sc_are_different (fun _ _ _ _ _ _ us hl => match us, hl with | [_, _], _ => rfl) (fun vs H Q E h => ?_) (fun f cdv A outer s H vs Q E hr h => ⟨_, (pss_cons (ps_for PassesOwn.never rfl (pi_enumT (by rfl) T.f_enumerate (pa_cons (pv 1) pa_nil)) (pg_tupH 2 rfl (pgs_cons (pg_name (i := 2) sc_are_different.nd rfl (Or.inl rfl)) (pgs_cons (pg_name (i := 3) sc_are_different.nd rfl (Or.inl rfl)) pgs_nil))) (pss_one (ps_if (PW.pt (pw_or (pt_not (pt_val (pe_fn c_is_person (hr.mono (by omega)) (pa_cons (pv 0) (pa_cons (pv 3) pa_nil))))) (pw_or1 (pt_cmpR opIn (pv 3) (pe_slice slT (pv 1) po_none (po_some (pv 2))) rfl)))) (pss_one (ps_ret pe_bl)) pss_nil)))
      (pss_one (ps_ret pe_bl))), ?_⟩)
  · obtain ⟨_, _, _, _, rfl, _⟩ := h; rfl
  · obtain ⟨a, b, ps, xs, rfl, ha, hb, q⟩ := h
    walk_at "go"
    refine ⟨b, _, rfl, hb, ?_⟩
    refine loop_of (k := (xs.map V.str).length) walk_enumT (fun i σ H1 => (∃ o o2, σ = [some (.ref a), some (.ref b), o, o2]) ∧ Ex H H1 ∧ (xs.take i).Nodup ∧ ∀ v ∈ xs.take i, v ∈ ps) ⟨⟨_, _, rfl⟩, Ex.refl _, by simp, by simp⟩ (fun i σ H1 _ p => p.2.1 _ _ hb) (fun i x σ H1 H2 hi p y => ?_) (fun σ H1 p => ?_)
    · obtain ⟨⟨o, o2, rfl⟩, e, nd, mem⟩ := p
      obtain ⟨T1, x1, x2, rfl, hT, rfl, hx1, hx2⟩ := y
      obtain ⟨s, hs, rfl⟩ := map_get hx2
      cases hx1
      have e2 : Ex H (upd H1 T1 (.tup [.int (i : Nat), .str s])) := e.trans (Ex.new hT)
      refine i_gT2 upd_same ?_
      walk_at "go"
      refine ⟨a, ps, s, rfl, e2 a _ ha, ?_⟩
      walk_at "go"
      have bad : ¬ ((xs.take i ++ [s]).Nodup ∧ ∀ v ∈ xs.take i ++ [s], v ∈ ps) → Q (.bl (diffB ps xs)) H → Q (.bl false) H := fun h q => by
        have hn : ¬ (xs.Nodup ∧ ∀ v ∈ xs, v ∈ ps) := fun z => h (by
          rw [← take_snoc hs]
          exact ⟨z.1.sublist (List.take_sublist _ _), fun v hv => z.2 v (List.mem_of_mem_take hv)⟩)
        unfold diffB at q
        rw [decide_eq_false hn] at q
        exact q
      have bad : ¬ ((xs.take i ++ [s]).Nodup ∧ ∀ v ∈ xs.take i ++ [s], v ∈ ps) → diffB ps xs = false := fun h => decide_eq_false fun z => h (by
        rw [← take_snoc hs]
        exact ⟨z.1.sublist (List.take_sublist _ _), fun v hv => z.2 v (List.mem_of_mem_take hv)⟩)
      refine io_nd (fun hm => ?_) fun hm => ?_
      · walk_at "go"
        rw [← bad fun z => hm (z.2 s (by simp))]
        exact q _ e2
      · walk_at "go"
        refine i_cutT (e2 b _ hb) (by rw [List.length_map] at hi; exact hi) fun p hp => ?_
        refine i_in (.inl upd_same) ?_
        walk_at "go"
        by_cases hx : s ∈ xs.take i
        · rw [decide_eq_true hx]
          walk_at "go"
          rw [← bad fun z => (nodup_snoc_iff.mp z.1).2 hx]
          exact q _ (e2.trans (Ex.new hp))
        · rw [decide_eq_false hx]
          walk_at "go"
          refine ⟨⟨_, _, rfl⟩, e2.trans (Ex.new hp), ?_⟩
          rw [take_snoc hs]
          refine ⟨nodup_snoc_iff.mpr ⟨nd, hx⟩, fun v hv => ?_⟩
          rcases List.mem_append.mp hv with z | z
          · exact mem v z
          · rw [List.mem_singleton.mp z]; exact hm
    · obtain ⟨⟨o, o2, rfl⟩, e, nd, mem⟩ := p
      walk_at "go"
      rw [List.length_map, List.take_length] at nd mem
      have z := q H1 e
      unfold diffB at z
      rw [decide_eq_true ⟨nd, mem⟩] at z
      exact z
abbrev n_is_pair : List Str := ["people", "value"]
theorem sc_is_pair : FnScope n_is_pair ["people", "value"] (defScope s_is_pair) := ⟨rfl, rfl, rfl, by decide +kernel, rfl, by decide +kernel, by decide +kernel⟩
def spIsPair : Sp := fun vs H Q _ => ∃ a b ps x y, vs = [.ref a, .ref b] ∧ Ts H a ps ∧ Ts H b [x, y] ∧ ∀ H', Ex H H' → Q (.bl (diffB ps [x, y])) H'
theorem c_is_pair (T : Txt K mg) (c_are_different : Cal P w K mg base k "are_different" spAreDiff) : Cal P w K mg base (k + 1) "is_pair" spIsPair := by
  refine T.a_is_pair.ok sc_is_pair (fun _ _ _ _ _ _ us hl => match us, hl with | [_, _], _ => rfl) (fun vs H Q E h => ?_) (fun f cdv A outer s H vs Q E hr h => ⟨_, (pss_one (ps_ret (pe_and (pe_callB crIsi (by rfl) T.f_isinstance b_isinstance (pa_cons (pv 1) (pa_cons (pe_ty T.f_tuple b_tuple) pa_nil))) (pe_and (pe_cmpR op_eq (pe_callB crLen (by rfl) T.f_len b_len (pa_cons (pv 1) pa_nil)) pe_int (nomark _)) (pe_one (pe_fn c_are_different (hr.mono (by omega)) (pa_cons (pv 0) (pa_cons (pv 1) pa_nil)))))))), ?_⟩)
  · obtain ⟨_, _, _, _, _, rfl, _⟩ := h; rfl
  · obtain ⟨a, b, ps, x, y, rfl, ha, hb, q⟩ := h
    walk_at "go"
    refine ⟨_, _, _, true, rfl, .tup hb, k_tt, ?_⟩
    walk_at "go"
    refine i_lenT hb ?_
    walk_at "go"
    rw [decide_eq_true (by rfl)]
    walk_at "go"
    exact ⟨a, b, ps, [x, y], rfl, ha, hb, q⟩
/-- a lot: some of the people, each once -/
def lotOk (ps xs : List Str) : Prop := xs ≠ [] ∧ xs.Nodup ∧ ∀ v ∈ xs, v ∈ ps
theorem diff_t {ps xs : List Str} (h : xs.Nodup ∧ ∀ v ∈ xs, v ∈ ps) : diffB ps xs = true := decide_eq_true h
abbrev n_is_lot : List Str := ["people", "value"]
theorem sc_is_lot : FnScope n_is_lot ["people", "value"] (defScope s_is_lot) := ⟨rfl, rfl, rfl, by decide +kernel, rfl, by decide +kernel, by decide +kernel⟩
def spIsLot : Sp := fun vs H Q _ => ∃ a b ps xs, vs = [.ref a, .ref b] ∧ Ts H a ps ∧ Ts H b xs ∧ lotOk ps xs ∧ ∀ H', Ex H H' → Q (.bl true) H'
theorem c_is_lot (T : Txt K mg) (c_are_different : Cal P w K mg base k "are_different" spAreDiff) : Cal P w K mg base (k + 1) "is_lot" spIsLot := by
  refine T.a_is_lot.ok sc_is_lot (fun _ _ _ _ _ _ us hl => match us, hl with | [_, _], _ => rfl) (fun vs H Q E h => ?_) (fun f cdv A outer s H vs Q E hr h => ⟨_, (pss_one (ps_ret (pe_and (pe_callB crIsi (by rfl) T.f_isinstance b_isinstance (pa_cons (pv 1) (pa_cons (pe_ty T.f_tuple b_tuple) pa_nil))) (pe_and (pe_cmpR op_ge (pe_callB crLen (by rfl) T.f_len b_len (pa_cons (pv 1) pa_nil)) pe_int (nomark _)) (pe_one (pe_fn c_are_different (hr.mono (by omega)) (pa_cons (pv 0) (pa_cons (pv 1) pa_nil)))))))), ?_⟩)
  · obtain ⟨_, _, _, _, rfl, _⟩ := h; rfl
  · obtain ⟨a, b, ps, xs, rfl, ha, hb, ok, q⟩ := h
    walk_at "go"
    refine ⟨_, _, _, true, rfl, .tup hb, k_tt, ?_⟩
    walk_at "go"
    refine i_lenT hb ?_
    walk_at "go"
    have := List.length_pos_iff.mpr ok.1
    rw [decide_eq_true (by omega)]
    walk_at "go"
    exact ⟨a, b, ps, xs, rfl, ha, hb, fun H' e => by rw [diff_t ok.2]; exact q H' e⟩
abbrev n_check_name : List Str := ["people", "value"]
theorem sc_check_name : FnScope n_check_name ["people", "value"] (defScope s_check_name) := ⟨rfl, rfl, rfl, by decide +kernel, rfl, by decide +kernel, by decide +kernel⟩
def spCheckName : Sp := fun vs H Q _ => ∃ a ps s, vs = [.ref a, .str s] ∧ Ts H a ps ∧ s ∈ ps ∧ Q .non H
theorem c_check_name (T : Txt K mg) (c_is_person : Cal P w K mg base k "is_person" spIsPerson) : Cal P w K mg base (k + 1) "check_name" spCheckName := by
  refine T.a_check_name.ok sc_check_name (fun _ _ _ _ _ _ us hl => match us, hl with | [_, _], _ => rfl) (fun vs H Q E h => ?_) (fun f cdv A outer s H vs Q E hr h => ⟨_, (pss_one (ps_if (pt_not (pt_val (pe_fn c_is_person (hr.mono (by omega)) (pa_cons (pv 0) (pa_cons (pv 1) pa_nil))))) (pss_one (ps_never)) pss_nil)), ?_⟩)
  · obtain ⟨_, _, _, rfl, _⟩ := h; rfl
  · obtain ⟨a, ps, s, rfl, ha, hs, q⟩ := h
    walk_at "go"
    refine ⟨a, ps, s, rfl, ha, ?_⟩
    rw [decide_eq_true hs]
    walk_at "go"
    exact q
abbrev n_check_people : List Str := ["people", "index", "person"]
theorem sc_check_people : FnScope n_check_people ["people"] (defScope s_check_people) := ⟨rfl, rfl, rfl, by decide +kernel, rfl, by decide +kernel, by decide +kernel⟩
def peopleOk (ps : List Str) : Prop := 2 ≤ ps.length ∧ ps.length ≤ 24 ∧ ps.Nodup ∧ ∀ s ∈ ps, Nm s
def spCheckPeople : Sp := fun vs H Q _ => ∃ a ps, vs = [.ref a] ∧ Ts H a ps ∧ peopleOk ps ∧ ∀ H', Ex H H' → Q .non H'
theorem c_check_people (T : Txt K mg) (c_is_name : Cal P w K mg base k "is_name" spIsName) : Cal P w K mg base (k + 1) "check_people" spCheckPeople := by
  refine T.a_check_people.ok sc_check_people (fun _ _ _ _ _ _ us hl => match us, hl with | [_], _ => rfl) (fun vs H Q E h => ?_) (fun f cdv A outer s H vs Q E hr h => ⟨_, (pss_cons (ps_if (PW.pt (pw_or (pt_not (pt_val (pe_callB crIsi (by rfl) T.f_isinstance b_isinstance (pa_cons (pv 0) (pa_cons (pe_ty T.f_tuple b_tuple) pa_nil))))) (pw_or1 (pt_not (pt_chain op_le op_le pe_int (pe_callB crLen (by rfl) T.f_len b_len (pa_cons (pv 0) pa_nil)) (pe_globI T.i_MOST_PEOPLE_parties)))))) (pss_one (ps_never)) pss_nil)
      (pss_one (ps_for PassesOwn.never rfl (pi_enumT (by rfl) T.f_enumerate (pa_cons (pv 0) pa_nil)) (pg_tupH 2 rfl (pgs_cons (pg_name (i := 1) sc_check_people.nd rfl (Or.inl rfl)) (pgs_cons (pg_name (i := 2) sc_check_people.nd rfl (Or.inl rfl)) pgs_nil))) (pss_one (ps_if (PW.pt (pw_or (pt_not (pt_val (pe_fn c_is_name (hr.mono (by omega)) (pa_cons (pv 2) pa_nil)))) (pw_or1 (pt_cmpR opIn (pv 2) (pe_slice slT (pv 0) po_none (po_some (pv 1))) rfl)))) (pss_one (ps_never)) pss_nil))))), ?_⟩)
  · obtain ⟨_, _, rfl, _⟩ := h; rfl
  · obtain ⟨a, ps, rfl, ha, ok, q⟩ := h
    walk_at "go"
    refine ⟨_, _, _, true, rfl, .tup ha, k_tt, ?_⟩
    walk_at "go"
    refine i_lenT ha ?_
    walk_at "go"
    have h1 := ok.1
    have h2 := ok.2.1
    rw [decide_eq_true (by omega)]
    walk_at "go"
    rw [decide_eq_true (by omega)]
    walk_at "go"
    refine ⟨a, _, rfl, ha, ?_⟩
    refine loop_of (k := (ps.map V.str).length) walk_enumT (fun i σ H1 => (∃ o o2, σ = [some (.ref a), o, o2]) ∧ Ex H H1) ⟨⟨_, _, rfl⟩, Ex.refl _⟩ (fun i σ H1 _ p => p.2 _ _ ha) (fun i x σ H1 H2 hi p y => ?_) (fun σ H1 p => ?_)
    · obtain ⟨⟨o, o2, rfl⟩, e⟩ := p
      obtain ⟨T1, x1, x2, rfl, hT, rfl, hx1, hx2⟩ := y
      obtain ⟨s, hs, rfl⟩ := map_get hx2
      cases hx1
      have e2 : Ex H (upd H1 T1 (.tup [.int (i : Nat), .str s])) := e.trans (Ex.new hT)
      refine i_gT2 upd_same ?_
      walk_at "go"
      refine ⟨s, rfl, ok.2.2.2 s (List.mem_of_getElem? hs), ?_⟩
      walk_at "go"
      refine i_cutT (e2 a _ ha) (by rw [List.length_map] at hi; exact hi) fun p hp => ?_
      refine i_in (.inl upd_same) ?_
      walk_at "go"
      have hn : s ∉ ps.take i := by
        have := ok.2.2.1.sublist (List.take_sublist (i + 1) ps)
        rw [take_snoc hs] at this
        exact (nodup_snoc_iff.mp this).2
      rw [decide_eq_false hn]
      walk_at "go"
      exact ⟨⟨_, _, rfl⟩, e2.trans (Ex.new hp)⟩
    · obtain ⟨⟨o, o2, rfl⟩, e⟩ := p
      walk_at "go"
      exact q _ e
abbrev n_check_pairs : List Str := ["people", "pairs", "index", "pair"]
theorem sc_check_pairs : FnScope n_check_pairs ["people", "pairs"] (defScope s_check_pairs) := ⟨rfl, rfl, rfl, by decide +kernel, rfl, by decide +kernel, by decide +kernel⟩
def pairOk (ps xs : List Str) : Prop := ∃ x y, xs = [x, y] ∧ x ≠ y ∧ x ∈ ps ∧ y ∈ ps
theorem pair_t {ps : List Str} {x y : Str} (h : x ≠ y) (hx : x ∈ ps) (hy : y ∈ ps) : diffB ps [x, y] = true := decide_eq_true ⟨by simp [h], fun v hv => by
  rcases List.mem_cons.mp hv with z | z
  · rw [z]; exact hx
  · rw [List.mem_singleton.mp z]; exact hy⟩
def spCheckPairs : Sp := fun vs H Q _ => ∃ a b ps prs, vs = [.ref a, .ref b] ∧ Ts H a ps ∧ LP (Ts H) H b prs ∧ (∀ xs ∈ prs, pairOk ps xs) ∧ prs.length ≤ 600 ∧ ∀ H', Ex H H' → Q .non H'
theorem c_check_pairs (T : Txt K mg) (c_is_pair : Cal P w K mg base k "is_pair" spIsPair) : Cal P w K mg base (k + 1) "check_pairs" spCheckPairs := by
  refine T.a_check_pairs.ok sc_check_pairs (fun _ _ _ _ _ _ us hl => match us, hl with | [_, _], _ => rfl) (fun vs H Q E h => ?_) (fun f cdv A outer s H vs Q E hr h => ⟨_, (pss_cons (ps_if (PW.pt (pw_or (pt_not (pt_val (pe_callB crIsi (by rfl) T.f_isinstance b_isinstance (pa_cons (pv 1) (pa_cons (pe_ty T.f_list b_list) pa_nil))))) (pw_or1 (pt_cmpR op_gt (pe_callB crLen (by rfl) T.f_len b_len (pa_cons (pv 1) pa_nil)) (pe_globI T.i_MOST_BARRED) (nomark _))))) (pss_one (ps_never)) pss_nil)
      (pss_one (ps_for PassesOwn.never rfl (pi_enum (by rfl) T.f_enumerate (pa_cons (pv 1) pa_nil)) (pg_tupH 2 rfl (pgs_cons (pg_name (i := 2) sc_check_pairs.nd rfl (Or.inl rfl)) (pgs_cons (pg_name (i := 3) sc_check_pairs.nd rfl (Or.inl rfl)) pgs_nil))) (pss_one (ps_if (pt_not (pt_val (pe_fn c_is_pair (hr.mono (by omega)) (pa_cons (pv 0) (pa_cons (pv 3) pa_nil))))) (pss_one (ps_never)) pss_nil))))), ?_⟩)
  · obtain ⟨_, _, _, _, rfl, _⟩ := h; rfl
  · obtain ⟨a, b, ps, prs, rfl, ha, ⟨zs, hb, hz, rfl⟩, ok, hl, q⟩ := h
    walk_at "go"
    refine ⟨_, _, _, true, rfl, .lst hb, k_ll, ?_⟩
    walk_at "go"
    refine ⟨b, _, rfl, .inl hb, ?_⟩
    walk_at "go"
    rw [List.length_map] at hl
    rw [List.length_map, decide_eq_false (by omega)]
    walk_at "go"
    refine ⟨b, _, rfl, SqL.of hb, ?_⟩
    refine loop_of (k := (zs.map fun z => V.ref z.1).length) walk_enum (fun i σ H1 => (∃ o o2, σ = [some (.ref a), some (.ref b), o, o2]) ∧ Ex H H1) ⟨⟨_, _, rfl⟩, Ex.refl _⟩ (fun i σ H1 _ p => SqL.of (p.2 _ _ hb)) (fun i x σ H1 H2 hi p y => ?_) (fun σ H1 p => ?_)
    · obtain ⟨⟨o, o2, rfl⟩, e⟩ := p
      obtain ⟨T1, x1, x2, rfl, hT, rfl, hx1, hx2⟩ := y
      obtain ⟨z, hs, rfl⟩ := map_get hx2
      cases hx1
      have hm := List.mem_of_getElem? hs
      have e2 : Ex H (upd H1 T1 (.tup [.int (i : Nat), .ref z.1])) := e.trans (Ex.new hT)
      refine i_gT2 upd_same ?_
      walk_at "go"
      obtain ⟨x, y, exy, nxy, hx, hy⟩ := ok z.2 (List.mem_map_of_mem hm)
      have tz := hz z hm
      rw [exy] at tz
      refine ⟨a, z.1, ps, x, y, rfl, e2 a _ ha, e2 _ _ tz, fun H3 e3 => ?_⟩
      rw [pair_t nxy hx hy]
      walk_at "go"
      exact ⟨⟨_, _, rfl⟩, e2.trans e3⟩
    · obtain ⟨⟨o, o2, rfl⟩, e⟩ := p
      walk_at "go"
      exact q _ e
end
end GR
end
section
set_option Elab.async false
set_option linter.all false
set_option maxRecDepth 100000
set_option maxHeartbeats 4000000
set_option autoImplicit false
namespace GR
open PySem PySem.Spec L2
open Evl (Ex)
local macro_rules | `(tactic| walk_at "go") => `(tactic| (repeat (first
  | with_reducible refine i_seq ?_
  | ((with_reducible apply i_var); focus rfl)
  | with_reducible refine i_c ?_
  | with_reducible refine i_cons ?_
  | with_reducible refine i_nil ?_
  | with_reducible refine i_asg ?_
  | with_reducible refine i_name ?_
  | with_reducible refine i_op ?_
  | with_reducible refine i_cb ?_
  | with_reducible refine i_fn ?_
  | with_reducible refine i_ret ?_
  | with_reducible refine i_retN ?_
  | with_reducible refine i_drop ?_
  | with_reducible refine i_next ?_
  | with_reducible refine i_cont ?_
  | with_reducible refine i_break ?_
  | with_reducible refine i_if ?_
  | with_reducible refine br_t ?_
  | with_reducible refine br_f ?_
  | with_reducible refine br_nt ?_
  | with_reducible refine io_t ?_
  | with_reducible refine io_f ?_
  | with_reducible refine io_nt ?_
  | with_reducible refine io_nf ?_
  | with_reducible refine br_nf ?_
  | with_reducible refine o_ip ?_
  | with_reducible refine i_test ?_
  | with_reducible refine i_tB ?_
  | with_reducible refine i_not ?_
  | with_reducible refine i_notV ?_
  | with_reducible refine i_andV ?_
  | with_reducible refine i_orV ?_
  | with_reducible refine i_and ?_
  | with_reducible refine i_or ?_
  | with_reducible refine i_dput ?_
  | with_reducible refine i_dget ?_
  | with_reducible refine i_din ?_
  | with_reducible refine i_dnotin ?_
  | with_reducible refine i_dnewK ?_
  | with_reducible refine i_dnewT ?_
  | with_reducible refine i_fld ?_
  | with_reducible refine i_sfld ?_
  | with_reducible refine i_bm0 ?_
  | with_reducible refine i_bm ?_
  | with_reducible refine i_sl ?_
  | with_reducible refine i_noPart ?_
  | with_reducible refine i_part ?_
  | with_reducible refine i_chain ?_
  | with_reducible refine i_methR ?_
  | with_reducible refine i_tup ?_
  | with_reducible refine i_lst ?_
  | with_reducible refine i_for ?_
  | with_reducible refine i_iList ?_
  | with_reducible refine i_iTup ?_
  | with_reducible refine i_iKeys ?_
  | with_reducible refine i_iRng1 ?_
  | with_reducible refine i_iRng2 ?_
  | with_reducible refine i_iStr ?_
  | with_reducible refine i_iEnum ?_
  | with_reducible refine i_iEnumT ?_
  | with_reducible refine i_lc ?_
  | with_reducible refine i_stD ?_
  | with_reducible refine i_iItemsT ?_
  | with_reducible refine i_dcw ?_
  | with_reducible refine i_dsetd ?_
  | with_reducible refine i_iVals ?_
  | with_reducible refine i_iItems ?_
  | with_reducible refine i_revL ?_
  | with_reducible refine i_yes ?_
  | with_reducible refine o_I0 ?_
  | with_reducible refine o_eqS ?_
  | with_reducible refine o_neS ?_
  | with_reducible refine o_eqI ?_
  | with_reducible refine o_neI ?_
  | with_reducible refine o_eqB ?_
  | with_reducible refine e_ref ?_
  | with_reducible refine e_str ?_
  | with_reducible refine e_int ?_
  | with_reducible refine e_bl ?_
  | with_reducible refine e_str1 ?_
  | with_reducible refine e_int1 ?_
  | with_reducible refine e_int2 ?_
  | with_reducible refine e_str2 ?_)))
/-! ### leaks -/
inductive Lk where
  | nt (a b : Str)
  | ths (a b : Str)
  | one (a : Str) (ts : List Str)
  | frm (b : Str) (gs : List Str)
  | lot (gs ts : List Str)
  | nev (gs ts : List Str)
def Lk.word : Lk → Str
  | .nt _ _ => "not"
  | .ths _ _ => "this"
  | .one _ _ => "one"
  | .frm _ _ => "from"
  | .lot _ _ => "lot"
  | .nev _ _ => "never"
/-- a name, a lot -/
def Nv (_ : Hp) (v : V) (s : Str) : Prop := v = .str s
def Lv (H : Hp) (v : V) (xs : List Str) : Prop := ∃ t, v = .ref t ∧ Ts H t xs
def Lk.Vals (H : Hp) : Lk → V → V → Prop
  | .nt a b, v, u => v = .str a ∧ u = .str b
  | .ths a b, v, u => v = .str a ∧ u = .str b
  | .one a ts, v, u => v = .str a ∧ Lv H u ts
  | .frm b gs, v, u => v = .str b ∧ Lv H u gs
  | .lot gs ts, v, u => Lv H v gs ∧ Lv H u ts
  | .nev gs ts, v, u => Lv H v gs ∧ Lv H u ts
def LkAt (H : Hp) (a : Addr) (l : Lk) : Prop := ∃ v u, H a = some (.tup [.str l.word, v, u]) ∧ l.Vals H v u
def Lk.ok (ps : List Str) : Lk → Prop
  | .nt a b => a ≠ b ∧ a ∈ ps ∧ b ∈ ps
  | .ths a b => a ≠ b ∧ a ∈ ps ∧ b ∈ ps
  | .one a ts => a ∈ ps ∧ lotOk ps ts
  | .frm b gs => b ∈ ps ∧ lotOk ps gs
  | .lot gs ts => lotOk ps gs ∧ lotOk ps ts
  | .nev gs ts => lotOk ps gs ∧ lotOk ps ts
/-- the leak lets the giver have the taker -/
def Lk.lets : Lk → Str → Str → Bool
  | .nt a b, g, t => !decide (g = a) || !decide (t = b)
  | .ths a b, g, t => decide (decide (g = a) = decide (t = b))
  | .one a ts, g, t => !decide (g = a) || decide (t ∈ ts)
  | .frm b gs, g, t => !decide (t = b) || decide (g ∈ gs)
  | .lot gs ts, g, t => !decide (g ∈ gs) || decide (t ∈ ts)
  | .nev gs ts, g, t => !decide (g ∈ gs) || !decide (t ∈ ts)
section
variable {H H' : Hp} {a : Addr} {l : Lk} {v u : V} {xs : List Str}
theorem Lv.ex (e : Ex H H') (h : Lv H v xs) : Lv H' v xs := let ⟨t, h1, h2⟩ := h; ⟨t, h1, h2.ex e⟩
theorem Lk.Vals.ex (e : Ex H H') (h : l.Vals H v u) : l.Vals H' v u := by
  cases l with
  | nt _ _ => exact h
  | ths _ _ => exact h
  | one _ _ => exact ⟨h.1, h.2.ex e⟩
  | frm _ _ => exact ⟨h.1, h.2.ex e⟩
  | lot _ _ => exact ⟨h.1.ex e, h.2.ex e⟩
  | nev _ _ => exact ⟨h.1.ex e, h.2.ex e⟩
theorem LkAt.ex (e : Ex H H') (h : LkAt H a l) : LkAt H' a l := by
  obtain ⟨v, u, h1, h2⟩ := h
  exact ⟨v, u, e a _ h1, h2.ex e⟩
theorem i_ixT {Q : VK} {ys : List V} {i : Int} (h : H a = some (.tup ys)) (e : atI ys i = some v) (q : Q v H) : oIxT (.ref a) (.int i) H Q := ⟨a, ys, i, v, rfl, rfl, h, e, q⟩
theorem i_ixL {Q : VK} {ys : List V} {i : Int} (h : H a = some (.lst ys)) (e : atI ys i = some v) (q : Q v H) : oIxL (.ref a) (.int i) H Q := ⟨a, ys, i, v, rfl, rfl, h, e, q⟩
theorem i_ixU {Q : VK} {ys : List V} {i : Int} (h : H a = some (.tup ys)) (e : atI ys i = some v) (q : Q v H) : oIxU (.ref a) (.int i) H Q := .inr (i_ixT h e q)
theorem atI_map {α : Type} (f : α → V) {xs : List α} {i : Nat} {x : α} (h : xs[i]? = some x) : atI (xs.map f) (i : Nat) = some (f x) := by
  have hl := (List.getElem?_eq_some_iff.mp h).1
  exact atI_nat (by rw [List.getElem?_map, h]; rfl)
theorem Lk.kinds {ps : List Str} (hv : l.Vals H v u) (ok : l.ok ps) :
    (l.word ∈ [Str.ofString "not", Str.ofString "this"] ∧ ∃ x y, v = .str x ∧ u = .str y ∧ x ≠ y ∧ x ∈ ps ∧ y ∈ ps) ∨
    (l.word ∉ [Str.ofString "not", Str.ofString "this"] ∧ l.word ∈ [Str.ofString "one", Str.ofString "from"] ∧ ∃ x ts, v = .str x ∧ Lv H u ts ∧ x ∈ ps ∧ lotOk ps ts) ∨
    (l.word ∉ [Str.ofString "not", Str.ofString "this"] ∧ l.word ∉ [Str.ofString "one", Str.ofString "from"] ∧ l.word ∈ [Str.ofString "lot", Str.ofString "never"] ∧ ∃ gs ts, Lv H v gs ∧ Lv H u ts ∧ lotOk ps gs ∧ lotOk ps ts) := by
  cases l with
  | nt x y => exact .inl ⟨(show Str.ofString "not" ∈ [Str.ofString "not", Str.ofString "this"] by decide), x, y, hv.1, hv.2, ok⟩
  | ths x y => exact .inl ⟨(show Str.ofString "this" ∈ [Str.ofString "not", Str.ofString "this"] by decide), x, y, hv.1, hv.2, ok⟩
  | one x ts => exact .inr (.inl ⟨(show Str.ofString "one" ∉ [Str.ofString "not", Str.ofString "this"] by decide), (show Str.ofString "one" ∈ [Str.ofString "one", Str.ofString "from"] by decide), x, ts, hv.1, hv.2, ok⟩)
  | frm x ts => exact .inr (.inl ⟨(show Str.ofString "from" ∉ [Str.ofString "not", Str.ofString "this"] by decide), (show Str.ofString "from" ∈ [Str.ofString "one", Str.ofString "from"] by decide), x, ts, hv.1, hv.2, ok⟩)
  | lot gs ts => exact .inr (.inr ⟨(show Str.ofString "lot" ∉ [Str.ofString "not", Str.ofString "this"] by decide), (show Str.ofString "lot" ∉ [Str.ofString "one", Str.ofString "from"] by decide), (show Str.ofString "lot" ∈ [Str.ofString "lot", Str.ofString "never"] by decide), gs, ts, hv.1, hv.2, ok⟩)
  | nev gs ts => exact .inr (.inr ⟨(show Str.ofString "never" ∉ [Str.ofString "not", Str.ofString "this"] by decide), (show Str.ofString "never" ∉ [Str.ofString "one", Str.ofString "from"] by decide), (show Str.ofString "never" ∈ [Str.ofString "lot", Str.ofString "never"] by decide), gs, ts, hv.1, hv.2, ok⟩)
end
section
variable {P : Program} {w : World} {K : PySem.W.Frag} {mg : Str → Option Value} {base : Heap} {k j : Nat}
abbrev n_is_leak : List Str := ["people", "leak"]
theorem sc_is_leak : FnScope n_is_leak ["people", "leak"] (defScope s_is_leak) := ⟨rfl, rfl, rfl, by decide +kernel, rfl, by decide +kernel, by decide +kernel⟩
def spIsLeak : Sp := fun vs H Q _ => ∃ a b ps l, vs = [.ref a, .ref b] ∧ Ts H a ps ∧ LkAt H b l ∧ l.ok ps ∧ ∀ H', Ex H H' → Q (.bl true) H'
theorem c_is_leak (T : Txt K mg) (c_is_pair : Cal P w K mg base k "is_pair" spIsPair) (c_is_person : Cal P w K mg base k "is_person" spIsPerson) (c_is_lot : Cal P w K mg base k "is_lot" spIsLot) : Cal P w K mg base (k + 1) "is_leak" spIsLeak := by
  refine T.a_is_leak.ok sc_is_leak (fun _ _ _ _ _ _ us hl => match us, hl with | [_, _], _ => rfl) (fun vs H Q E h => ?_) (fun f cdv A outer s H vs Q E hr h => ⟨_, (pss_cons (ps_if (PW.pt (pw_or (pt_not (pt_val (pe_callB crIsi (by rfl) T.f_isinstance b_isinstance (pa_cons (pv 1) (pa_cons (pe_ty T.f_tuple b_tuple) pa_nil))))) (pw_or (pt_cmpR op_ne (pe_callB crLen (by rfl) T.f_len b_len (pa_cons (pv 1) pa_nil)) pe_int (nomark _)) (pw_or1 (pt_not (pt_val (pe_callB crIsi (by rfl) T.f_isinstance b_isinstance (pa_cons (pe_ix ixT (pv 1) pe_int (fun _ _ => rfl)) (pa_cons (pe_ty T.f_str b_str) pa_nil))))))))) (pss_one (ps_ret pe_bl)) pss_nil)
      (pss_cons (ps_if (pt_cmpR opIn (pe_ix ixT (pv 1) pe_int (fun _ _ => rfl)) (pe_tup (pa_cons pe_str (pa_cons pe_str pa_nil))) rfl) (pss_one (ps_ret (pe_fn c_is_pair (hr.mono (by omega)) (pa_cons (pv 0) (pa_cons (pe_slice slT (pv 1) (po_some pe_int) po_none) pa_nil))))) pss_nil)
      (pss_cons (ps_if (pt_cmpR opIn (pe_ix ixT (pv 1) pe_int (fun _ _ => rfl)) (pe_tup (pa_cons pe_str (pa_cons pe_str pa_nil))) rfl) (pss_one (ps_ret (pe_and (pe_fn c_is_person (hr.mono (by omega)) (pa_cons (pv 0) (pa_cons (pe_ix ixT (pv 1) pe_int (fun _ _ => rfl)) pa_nil))) (pe_one (pe_fn c_is_lot (hr.mono (by omega)) (pa_cons (pv 0) (pa_cons (pe_ix ixT (pv 1) pe_int (fun _ _ => rfl)) pa_nil))))))) pss_nil)
      (pss_cons (ps_if (pt_cmpR opIn (pe_ix ixT (pv 1) pe_int (fun _ _ => rfl)) (pe_tup (pa_cons pe_str (pa_cons pe_str pa_nil))) rfl) (pss_one (ps_ret (pe_and (pe_fn c_is_lot (hr.mono (by omega)) (pa_cons (pv 0) (pa_cons (pe_ix ixT (pv 1) pe_int (fun _ _ => rfl)) pa_nil))) (pe_one (pe_fn c_is_lot (hr.mono (by omega)) (pa_cons (pv 0) (pa_cons (pe_ix ixT (pv 1) pe_int (fun _ _ => rfl)) pa_nil))))))) pss_nil)
      (pss_one (ps_ret pe_bl)))))), ?_⟩)
  · obtain ⟨_, _, _, _, rfl, _⟩ := h; rfl
  · obtain ⟨a, b, ps, l, rfl, ha, ⟨v, u, hb, hv⟩, ok, q⟩ := h
    walk_at "go"
    refine ⟨_, _, _, true, rfl, .tup hb, k_tt, ?_⟩
    walk_at "go"
    refine ⟨b, _, rfl, .inr hb, ?_⟩
    walk_at "go"
    rw [decide_eq_true (by rfl)]
    walk_at "go"
    refine i_ixT hb rfl ?_
    walk_at "go"
    refine ⟨_, _, _, true, rfl, .str _, k_ss, ?_⟩
    walk_at "go"
    refine i_ixT hb rfl ?_
    walk_at "go"
    refine ⟨by decide, fun p hp => ?_⟩
    have e1 : Ex H (upd H p (.tup [.str "not", .str "this"])) := Ex.new hp
    refine i_in (xs := ["not", "this"]) (.inl upd_same) ?_
    rcases Lk.kinds hv ok with ⟨w1, x, y, rfl, rfl, nxy, hx, hy⟩ | ⟨w1, w2, x, ts, rfl, ⟨t, rfl, ht⟩, hx, lt⟩ | ⟨w1, w2, w3, gs, ts, ⟨g, rfl, hg⟩, ⟨t, rfl, ht⟩, lg, lt⟩
    · rw [decide_eq_true w1]
      walk_at "go"
      refine ⟨b, _, rfl, e1 _ _ hb, fun z => absurd z.1 (show ¬ (1 : Nat) = 0 by decide), fun p2 hp2 => ?_⟩
      walk_at "go"
      refine ⟨a, p2, ps, x, y, rfl, (e1.trans (Ex.new hp2)) a _ ha, upd_same, fun H3 e3 => ?_⟩
      rw [pair_t nxy hx hy]
      exact q _ ((e1.trans (Ex.new hp2)).trans e3)
    · rw [decide_eq_false w1]
      walk_at "go"
      refine i_ixT (e1 _ _ hb) rfl ?_
      walk_at "go"
      refine ⟨by decide, fun p2 hp2 => ?_⟩
      have e2 := e1.trans (Ex.new (o := .tup [.str "one", .str "from"]) hp2)
      refine i_in (xs := ["one", "from"]) (.inl upd_same) ?_
      rw [decide_eq_true w2]
      walk_at "go"
      refine i_ixT (e2 _ _ hb) rfl ?_
      walk_at "go"
      refine ⟨a, ps, x, rfl, e2 a _ ha, ?_⟩
      rw [decide_eq_true hx]
      walk_at "go"
      refine i_ixT (e2 _ _ hb) rfl ?_
      walk_at "go"
      exact ⟨a, t, ps, ts, rfl, e2 a _ ha, ht.ex e2, lt, fun H3 e3 => q _ (e2.trans e3)⟩
    · rw [decide_eq_false w1]
      walk_at "go"
      refine i_ixT (e1 _ _ hb) rfl ?_
      walk_at "go"
      refine ⟨by decide, fun p2 hp2 => ?_⟩
      have e2 := e1.trans (Ex.new (o := .tup [.str "one", .str "from"]) hp2)
      refine i_in (xs := ["one", "from"]) (.inl upd_same) ?_
      rw [decide_eq_false w2]
      walk_at "go"
      refine i_ixT (e2 _ _ hb) rfl ?_
      walk_at "go"
      refine ⟨by decide, fun p3 hp3 => ?_⟩
      have e3 := e2.trans (Ex.new (o := .tup [.str "lot", .str "never"]) hp3)
      refine i_in (xs := ["lot", "never"]) (.inl upd_same) ?_
      rw [decide_eq_true w3]
      walk_at "go"
      refine i_ixT (e3 _ _ hb) rfl ?_
      walk_at "go"
      refine ⟨a, g, ps, gs, rfl, e3 a _ ha, hg.ex e3, lg, fun H4 e4 => ?_⟩
      have e5 := e3.trans e4
      walk_at "go"
      refine i_ixT (e5 _ _ hb) rfl ?_
      walk_at "go"
      exact ⟨a, t, ps, ts, rfl, e5 a _ ha, ht.ex e5, lt, fun H6 e6 => q _ (e5.trans e6)⟩
abbrev n_lets : List Str := ["leak", "giver", "taker", "word", "left", "right"]
theorem sc_lets : FnScope n_lets ["leak", "giver", "taker"] (defScope s_lets) := ⟨rfl, rfl, rfl, by decide +kernel, rfl, by decide +kernel, by decide +kernel⟩
def spLets : Sp := fun vs H Q _ => ∃ a l g t, vs = [.ref a, .str g, .str t] ∧ LkAt H a l ∧ Q (.bl (l.lets g t)) H
theorem bnot_dec {p : Prop} [Decidable p] : (!decide p) = decide (¬ p) := by by_cases h : p <;> simp [h]
theorem c_lets (T : Txt K mg) : Cal P w K mg base (k + 1) "lets" spLets := by
  refine T.a_lets.ok sc_lets (fun _ _ _ _ _ _ us hl => match us, hl with | [_, _, _], _ => rfl) (fun vs H Q E h => ?_) (fun f cdv A outer s H vs Q E hr h => ⟨_, (pss_cons (ps_asg (pv 0) (pg_tupH 3 rfl (pgs_cons (pg_name (i := 3) sc_lets.nd rfl (Or.inl rfl)) (pgs_cons (pg_name (i := 4) sc_lets.nd rfl (Or.inl rfl)) (pgs_cons (pg_name (i := 5) sc_lets.nd rfl (Or.inl rfl)) pgs_nil)))))
      (pss_cons (ps_if (pt_cmpR op_eq (pv 3) pe_str (nomark _)) (pss_one (ps_ret (pe_or (pe_cmpR op_ne (pv 1) (pv 4) (nomark _)) (pe_one (pe_cmpR op_ne (pv 2) (pv 5) (nomark _)))))) pss_nil)
      (pss_cons (ps_if (pt_cmpR op_eq (pv 3) pe_str (nomark _)) (pss_one (ps_ret (pe_cmpR op_eq (pe_cmpR op_eq (pv 1) (pv 4) (nomark _)) (pe_cmpR op_eq (pv 2) (pv 5) (nomark _)) (nomark _)))) pss_nil)
      (pss_cons (ps_if (pt_cmpR op_eq (pv 3) pe_str (nomark _)) (pss_one (ps_ret (pe_or (pe_cmpR op_ne (pv 1) (pv 4) (nomark _)) (pe_one (pe_cmpR opIn (pv 2) (pv 5) rfl))))) pss_nil)
      (pss_cons (ps_if (pt_cmpR op_eq (pv 3) pe_str (nomark _)) (pss_one (ps_ret (pe_or (pe_cmpR op_ne (pv 2) (pv 4) (nomark _)) (pe_one (pe_cmpR opIn (pv 1) (pv 5) rfl))))) pss_nil)
      (pss_cons (ps_if (pt_cmpR op_eq (pv 3) pe_str (nomark _)) (pss_one (ps_ret (pe_or (pe_cmpR opNotIn (pv 1) (pv 4) rfl) (pe_one (pe_cmpR opIn (pv 2) (pv 5) rfl))))) pss_nil)
      (pss_one (ps_ret (pe_or (pe_cmpR opNotIn (pv 1) (pv 4) rfl) (pe_one (pe_cmpR opNotIn (pv 2) (pv 5) rfl))))))))))), ?_⟩)
  · obtain ⟨_, _, _, _, rfl, _⟩ := h; rfl
  · obtain ⟨a, l, g, t, rfl, ⟨v, u, ha, hv⟩, q⟩ := h
    walk_at "go"
    refine i_gT3 ha ?_
    walk_at "go"
    cases l with
    | nt x y =>
      obtain ⟨rfl, rfl⟩ := hv
      rw [show decide ((Lk.nt x y).word = Str.ofString "not") = true from rfl]
      walk_at "go"
      refine io_nd (fun h => ?_) fun h => ?_
      · have : (Lk.nt x y).lets g t = true := by simp [Lk.lets, h]
        rw [← this]; exact q
      · walk_at "go"
        have : (Lk.nt x y).lets g t = !decide (t = y) := by simp [Lk.lets, h]
        rw [← this]; exact q
    | ths x y =>
      obtain ⟨rfl, rfl⟩ := hv
      rw [show decide ((Lk.ths x y).word = Str.ofString "not") = false from rfl]
      walk_at "go"
      rw [show decide ((Lk.ths x y).word = Str.ofString "this") = true from rfl]
      walk_at "go"
      exact q
    | one x ts =>
      obtain ⟨rfl, s, rfl, hs⟩ := hv
      rw [show decide ((Lk.one x ts).word = Str.ofString "not") = false from rfl]
      walk_at "go"
      rw [show decide ((Lk.one x ts).word = Str.ofString "this") = false from rfl]
      walk_at "go"
      rw [show decide ((Lk.one x ts).word = Str.ofString "one") = true from rfl]
      walk_at "go"
      refine io_nd (fun h => ?_) fun h => ?_
      · have : (Lk.one x ts).lets g t = true := by simp [Lk.lets, h]
        rw [← this]; exact q
      · walk_at "go"
        refine i_in (.inl hs) ?_
        have : (Lk.one x ts).lets g t = decide (t ∈ ts) := by simp [Lk.lets, h]
        rw [← this]; exact q
    | frm x ts =>
      obtain ⟨rfl, s, rfl, hs⟩ := hv
      rw [show decide ((Lk.frm x ts).word = Str.ofString "not") = false from rfl]
      walk_at "go"
      rw [show decide ((Lk.frm x ts).word = Str.ofString "this") = false from rfl]
      walk_at "go"
      rw [show decide ((Lk.frm x ts).word = Str.ofString "one") = false from rfl]
      walk_at "go"
      rw [show decide ((Lk.frm x ts).word = Str.ofString "from") = true from rfl]
      walk_at "go"
      refine io_nd (fun h => ?_) fun h => ?_
      · have : (Lk.frm x ts).lets g t = true := by simp [Lk.lets, h]
        rw [← this]; exact q
      · walk_at "go"
        refine i_in (.inl hs) ?_
        have : (Lk.frm x ts).lets g t = decide (g ∈ ts) := by simp [Lk.lets, h]
        rw [← this]; exact q
    | lot gs ts =>
      obtain ⟨⟨r, rfl, hr⟩, s, rfl, hs⟩ := hv
      rw [show decide ((Lk.lot gs ts).word = Str.ofString "not") = false from rfl]
      walk_at "go"
      rw [show decide ((Lk.lot gs ts).word = Str.ofString "this") = false from rfl]
      walk_at "go"
      rw [show decide ((Lk.lot gs ts).word = Str.ofString "one") = false from rfl]
      walk_at "go"
      rw [show decide ((Lk.lot gs ts).word = Str.ofString "from") = false from rfl]
      walk_at "go"
      rw [show decide ((Lk.lot gs ts).word = Str.ofString "lot") = true from rfl]
      walk_at "go"
      refine i_ni (.inl hr) ?_
      walk_at "go"
      refine io_nd (fun h => ?_) fun h => ?_
      · have : (Lk.lot gs ts).lets g t = true := by simp [Lk.lets, h]
        rw [← this]; exact q
      · walk_at "go"
        refine i_in (.inl hs) ?_
        have : (Lk.lot gs ts).lets g t = decide (t ∈ ts) := by simp [Lk.lets, h]
        rw [← this]; exact q
    | nev gs ts =>
      obtain ⟨⟨r, rfl, hr⟩, s, rfl, hs⟩ := hv
      rw [show decide ((Lk.nev gs ts).word = Str.ofString "not") = false from rfl]
      walk_at "go"
      rw [show decide ((Lk.nev gs ts).word = Str.ofString "this") = false from rfl]
      walk_at "go"
      rw [show decide ((Lk.nev gs ts).word = Str.ofString "one") = false from rfl]
      walk_at "go"
      rw [show decide ((Lk.nev gs ts).word = Str.ofString "from") = false from rfl]
      walk_at "go"
      rw [show decide ((Lk.nev gs ts).word = Str.ofString "lot") = false from rfl]
      walk_at "go"
      refine i_ni (.inl hr) ?_
      walk_at "go"
      refine io_nd (fun h => ?_) fun h => ?_
      · have : (Lk.nev gs ts).lets g t = true := by simp [Lk.lets, h]
        rw [← this]; exact q
      · walk_at "go"
        refine i_ni (.inl hs) ?_
        have : (Lk.nev gs ts).lets g t = !decide (t ∈ ts) := by simp [Lk.lets, h]
        rw [← this]; exact q
abbrev n_all_let : List Str := ["leaks", "giver", "taker", "leak"]
theorem sc_all_let : FnScope n_all_let ["leaks", "giver", "taker"] (defScope s_all_let) := ⟨rfl, rfl, rfl, by decide +kernel, rfl, by decide +kernel, by decide +kernel⟩
def allLet (ls : List Lk) (g t : Str) : Bool := ls.all fun l => l.lets g t
def spAllLet : Sp := fun vs H Q _ => ∃ a ls g t, vs = [.ref a, .str g, .str t] ∧ LP (LkAt H) H a ls ∧ Q (.bl (allLet ls g t)) H
theorem c_all_let (T : Txt K mg) (c_lets : Cal P w K mg base k "lets" spLets) : Cal P w K mg base (k + 1) "all_let" spAllLet := by
  refine T.a_all_let.ok sc_all_let (fun _ _ _ _ _ _ us hl => match us, hl with | [_, _, _], _ => rfl) (fun vs H Q E h => ?_) (fun f cdv A outer s H vs Q E hr h => ⟨_, (pss_cons (ps_for PassesOwn.never rfl (pi_list (pv 0)) (pg_name (i := 3) sc_all_let.nd rfl (Or.inl rfl)) (pss_one (ps_if (pt_not (pt_val (pe_fn c_lets (hr.mono (by omega)) (pa_cons (pv 3) (pa_cons (pv 1) (pa_cons (pv 2) pa_nil)))))) (pss_one (ps_ret pe_bl)) pss_nil)))
      (pss_one (ps_ret pe_bl))), ?_⟩)
  · obtain ⟨_, _, _, _, rfl, _⟩ := h; rfl
  · obtain ⟨a, ls, g, t, rfl, ⟨zs, ha, hz, rfl⟩, q⟩ := h
    walk_at "go"
    refine forL ha (fun i σ H1 => (∃ o, σ = [some (.ref a), some (.str g), some (.str t), o]) ∧ H1 = H ∧ ∀ z ∈ zs.take i, z.2.lets g t = true) ⟨⟨_, rfl⟩, rfl, by simp⟩ (fun i σ H1 _ p => by obtain ⟨_, rfl, _⟩ := p; exact SqL.of ha) (fun i x σ H1 hx p => ?_) (fun σ H1 p => ?_)
    · obtain ⟨⟨o, rfl⟩, rfl, al⟩ := p
      obtain ⟨z, hzi, rfl⟩ := map_get hx
      walk_at "go"
      refine ⟨z.1, z.2, g, t, rfl, hz z (List.mem_of_getElem? hzi), ?_⟩
      walk_at "go"
      by_cases hl : z.2.lets g t = true
      · rw [hl]
        walk_at "go"
        refine ⟨⟨_, rfl⟩, rfl, fun y hy => ?_⟩
        rw [take_snoc hzi] at hy
        rcases List.mem_append.mp hy with c | c
        · exact al y c
        · rw [List.mem_singleton.mp c]; exact hl
      · rw [Bool.eq_false_iff.mpr hl]
        walk_at "go"
        have : allLet (zs.map Prod.snd) g t = false := List.all_eq_false.mpr ⟨z.2, List.mem_map_of_mem (List.mem_of_getElem? hzi), hl⟩
        rw [← this]
        exact q
    · obtain ⟨⟨o, rfl⟩, rfl, al⟩ := p
      walk_at "go"
      rw [List.length_map, List.take_length] at al
      have : allLet (zs.map Prod.snd) g t = true := List.all_eq_true.mpr fun l hl => by
        obtain ⟨z, hz1, rfl⟩ := List.mem_map.mp hl
        exact al z hz1
      rw [← this]
      exact q
end
end GR
end
section
set_option Elab.async false
set_option linter.all false
set_option maxRecDepth 100000
set_option maxHeartbeats 4000000
set_option autoImplicit false
namespace GR
open PySem PySem.Spec L2
open Evl (Ex)
local macro_rules | `(tactic| walk_at "go") => `(tactic| (repeat (first
  | with_reducible refine i_seq ?_
  | ((with_reducible apply i_var); focus rfl)
  | with_reducible refine i_c ?_
  | with_reducible refine i_cons ?_
  | with_reducible refine i_nil ?_
  | with_reducible refine i_asg ?_
  | with_reducible refine i_name ?_
  | with_reducible refine i_op ?_
  | with_reducible refine i_cb ?_
  | with_reducible refine i_fn ?_
  | with_reducible refine i_ret ?_
  | with_reducible refine i_retN ?_
  | with_reducible refine i_drop ?_
  | with_reducible refine i_next ?_
  | with_reducible refine i_cont ?_
  | with_reducible refine i_break ?_
  | with_reducible refine i_if ?_
  | with_reducible refine br_t ?_
  | with_reducible refine br_f ?_
  | with_reducible refine br_nt ?_
  | with_reducible refine io_t ?_
  | with_reducible refine io_f ?_
  | with_reducible refine io_nt ?_
  | with_reducible refine io_nf ?_
  | with_reducible refine br_nf ?_
  | with_reducible refine o_ip ?_
  | with_reducible refine i_test ?_
  | with_reducible refine i_tB ?_
  | with_reducible refine i_not ?_
  | with_reducible refine i_notV ?_
  | with_reducible refine i_andV ?_
  | with_reducible refine i_orV ?_
  | with_reducible refine i_and ?_
  | with_reducible refine i_or ?_
  | with_reducible refine i_dput ?_
  | with_reducible refine i_dget ?_
  | with_reducible refine i_din ?_
  | with_reducible refine i_dnotin ?_
  | with_reducible refine i_dnewK ?_
  | with_reducible refine i_dnewT ?_
  | with_reducible refine i_fld ?_
  | with_reducible refine i_sfld ?_
  | with_reducible refine i_bm0 ?_
  | with_reducible refine i_bm ?_
  | with_reducible refine i_sl ?_
  | with_reducible refine i_noPart ?_
  | with_reducible refine i_part ?_
  | with_reducible refine i_chain ?_
  | with_reducible refine i_methR ?_
  | with_reducible refine i_tup ?_
  | with_reducible refine i_lst ?_
  | with_reducible refine i_for ?_
  | with_reducible refine i_iList ?_
  | with_reducible refine i_iTup ?_
  | with_reducible refine i_iKeys ?_
  | with_reducible refine i_iRng1 ?_
  | with_reducible refine i_iRng2 ?_
  | with_reducible refine i_iStr ?_
  | with_reducible refine i_iEnum ?_
  | with_reducible refine i_iEnumT ?_
  | with_reducible refine i_lc ?_
  | with_reducible refine i_stD ?_
  | with_reducible refine i_iItemsT ?_
  | with_reducible refine i_dcw ?_
  | with_reducible refine i_dsetd ?_
  | with_reducible refine i_iVals ?_
  | with_reducible refine i_iItems ?_
  | with_reducible refine i_revL ?_
  | with_reducible refine i_yes ?_
  | with_reducible refine o_I0 ?_
  | with_reducible refine o_eqS ?_
  | with_reducible refine o_neS ?_
  | with_reducible refine o_eqI ?_
  | with_reducible refine o_neI ?_
  | with_reducible refine o_eqB ?_
  | with_reducible refine e_ref ?_
  | with_reducible refine e_str ?_
  | with_reducible refine e_int ?_
  | with_reducible refine e_bl ?_
  | with_reducible refine e_str1 ?_
  | with_reducible refine e_int1 ?_
  | with_reducible refine e_int2 ?_
  | with_reducible refine e_str2 ?_)))
section
variable {H H' H1 B : Hp} {D p : Addr} {o u : HO}
theorem ex_none (e : Ex H B) (h : B D = none) : H D = none := by
  cases z : H D with
  | none => rfl
  | some o => rw [e D o z] at h; cases h
theorem ex_in (e : Ex H B) (h : B D = none) : Ex H (upd B D o) := Ex.mut e (ex_none e h)
/-- two steps that leave the new list out of sight -/
theorem ex_step (e : Ex H B) (h : B D = none) (e2 : Ex (upd B D o) H') : Ex H H' := (ex_in e h).trans e2
end
/-! ### parties -/
def kk (xs : List Str) : List Key := xs.map Sum.inr
theorem kk_kV (xs : List Str) : (kk xs).map kV = xs.map V.str := by unfold kk; rw [List.map_map]; rfl
theorem kk_inj (a b : List Str) (h : kk a = kk b) : a = b := by
  have : ∀ (a b : List Str), a.map (Sum.inr : Str → Key) = b.map Sum.inr → a = b := by
    intro a
    induction a with
    | nil => intro b h; cases b with
      | nil => rfl
      | cons => cases h
    | cons x r ih => intro b h; cases b with
      | nil => cases h
      | cons y s =>
        rw [List.map_cons, List.map_cons] at h
        injection h with h1 h2
        rw [Sum.inr.inj h1, ih s h2]
  exact this a b h
structure PartyAt (K : PySem.W.Frag) (H : Hp) (x : Addr) (ps : List Str) (cl : List (List Str)) : Prop where
  ex : ∃ dx a d, H x = some (.ins (cP K) dx [("_people", .ref a), ("_closed", .ref d)]) ∧ Ts H a ps ∧ H d = some (.dT (kd kk cl fun _ => .bl true))
theorem PartyAt.mono {K : PySem.W.Frag} {H H' : Hp} {x : Addr} {ps : List Str} {cl : List (List Str)} (e : Ex H H') (h : PartyAt K H x ps cl) : PartyAt K H' x ps cl := by
  obtain ⟨dx, a, d, h1, h2, h3⟩ := h.ex
  exact ⟨dx, a, d, e _ _ h1, h2.ex e, e _ _ h3⟩
theorem dT_get {H : Hp} {d b : Addr} {cl : List (List Str)} {xs : List Str} (h : H d = some (.dT (kd kk cl fun _ => .bl true))) (hb : Ts H b xs) : DGet H d (.ref b) (if xs ∈ cl then some (.bl true) else none) :=
  .inr ⟨_, kk xs, b, .inl h, rfl, by rw [kk_kV]; exact hb, by rw [valV_kd kk_inj]; congr⟩
theorem ite_some {p : Prop} [Decidable p] {v : V} : (if p then some v else none).isSome = decide p := by
  by_cases h : p
  · rw [if_pos h, decide_eq_true h]; rfl
  · rw [if_neg h, decide_eq_false h]; rfl
theorem length_addk {α : Type} [DecidableEq α] (ks : List α) (x : α) : (addk ks x).length ≤ ks.length + 1 := by
  unfold addk
  split
  · exact Nat.le_succ _
  · rw [List.length_append, List.length_singleton]; exact Nat.le_refl _
theorem dcT {K : PySem.W.Frag} {σ : Sl} {H1 : Hp} {a : Addr} {zs : List (Addr × List Str)} {Q : VK} {g : TG} {tt : TT} {tk tv : TE} {vs : List Nat} (ha : H1 a = some (.lst (zs.map fun z => V.ref z.1))) (hz : ∀ z ∈ zs, Ts H1 z.1 z.2) (hl : zs.length ≤ 1000)
    (hs : ∀ D ks z (N : Hp → Prop), H1 D = none → z ∈ zs → (∃ H6, DPut (upd H1 D (.dT (kd kk ks fun _ => .bl true))) D (.ref z.1) (.bl true) H6 ∧ N H6) → g (.ref z.1) (wipe σ vs) (upd H1 D (.dT (kd kk ks fun _ => .bl true))) fun σ2 H2 => wipe σ2 vs = wipe σ vs ∧ tt σ2 H2 fun b H3 => Io b (stD tk tv σ2 H3 D N) (N H3))
    (hd : ∀ D, H1 D = none → Q (.ref D) (upd H1 D (.dT (kd kk ((zs.map Prod.snd).foldl addk []) fun _ => .bl true)))) : DcAt g tt tk tv (.dT []) vs σ (Itl K a) H1 Q := by
  intro D hD
  have hn : (zs.map fun z => V.ref z.1).length = zs.length := List.length_map ..
  refine ⟨fun i m H => m = zs.length - i ∧ i ≤ zs.length ∧ ((zs.take i).map Prod.snd |>.foldl addk []).length ≤ i ∧ H = upd H1 D (.dT (kd kk (((zs.take i).map Prod.snd).foldl addk []) fun _ => .bl true)), ⟨zs.length, rfl, Nat.zero_le _, Nat.le_refl _, rfl⟩, ?_⟩
  rintro i m H ⟨rfl, hi, hk, rfl⟩
  have sq : ∀ ks, SqL K (upd H1 D (.dT ks)) a (zs.map fun z => V.ref z.1) := fun ks => SqL.of (Ex.new hD a _ ha)
  by_cases lt : i < zs.length
  · refine .inr ⟨walk_list.goes i _ (by omega) (sq _), fun H => i + 1 ≤ zs.length ∧ ((zs.take (i + 1)).map Prod.snd |>.foldl addk []).length ≤ i + 1 ∧ H = upd H1 D (.dT (kd kk (((zs.take (i + 1)).map Prod.snd).foldl addk []) fun _ => .bl true)), fun H' z => ⟨zs.length - (i + 1), by omega, rfl, z⟩, fun x H' y => ?_⟩
    obtain ⟨rfl, hx⟩ := walk_list.yields i _ x H' (by omega) (sq _) y
    obtain ⟨z, hzi, rfl⟩ := map_get hx
    refine hs D _ z _ hD (List.mem_of_getElem? hzi) ⟨_, .inr ⟨_, kk z.2, z.1, upd_same, rfl, by rw [kk_kV]; exact Ex.new hD _ _ (hz z (List.mem_of_getElem? hzi)), by rw [kd_length]; have := small1000 (n := (List.foldl addk [] (List.map Prod.snd (List.take i zs))).length) (by omega); omega, rfl⟩, lt, ?_, ?_⟩
    · rw [take_snoc hzi, List.map_append, List.foldl_append]
      exact Nat.le_trans (length_addk _ z.2) (Nat.succ_le_succ hk)
    · rw [upd_upd, putK_kd kk_inj, take_snoc hzi, List.map_append, List.foldl_append]
      congr 2
      exact kd_congr fun x _ => by
        show setf (fun _ => V.bl true) z.2 (.bl true) x = .bl true
        unfold setf
        split <;> rfl
  · have e2 : i = zs.length := by omega
    subst e2
    rw [List.take_length]
    exact .inl ⟨hn ▸ walk_list.stops _ (sq _), hd D hD⟩
theorem mem_fold_addk {α : Type} [DecidableEq α] {x : α} : ∀ {ys ks : List α}, x ∈ ys.foldl addk ks ↔ x ∈ ks ∨ x ∈ ys
  | [], ks => by simp
  | y :: r, ks => by
    rw [List.foldl_cons, mem_fold_addk, mem_addk, List.mem_cons, or_assoc]
section
variable {P : Program} {w : World} {K : PySem.W.Frag} {mg : Str → Option Value} {base : Heap} {k j : Nat}
abbrev n_Party_people : List Str := ["self"]
theorem sc_Party_people : FnScope n_Party_people ["self"] (defScope s_Party_people) := ⟨rfl, rfl, rfl, by decide +kernel, rfl, by decide +kernel, by decide +kernel⟩
def spPeople (K : PySem.W.Frag) : Sp := fun vs H Q _ => ∃ x ps cl, vs = [.ref x] ∧ PartyAt K H x ps cl ∧ ∀ a, Ts H a ps → Q (.ref a) H
theorem c_Party_people (T : Txt K mg) : Mth P w K mg base (k + 1) (cP K) "people" (spPeople K) := by
  refine T.a_Party_people.ok sc_Party_people (fun _ _ _ _ _ _ us hl => match us, hl with | [_], _ => rfl) (fun vs H Q E h => ?_) (fun f cdv A outer s H vs Q E hr h => ⟨_, (pss_one (ps_ret (pe_fldK rfl (pv 0) rfl))), ?_⟩)
  · obtain ⟨_, _, _, rfl, _⟩ := h; rfl
  · obtain ⟨x, ps, cl, rfl, ⟨dx, a, d, hx, ha, hd⟩, q⟩ := h
    walk_at "go"
    refine ⟨x, _, dx, _, _, rfl, hx, T.cl_Party, T.n_Party_people, rfl, ?_⟩
    exact q a ha
abbrev n_Party_len : List Str := ["self"]
theorem sc_Party_len : FnScope n_Party_len ["self"] (defScope s_Party_len) := ⟨rfl, rfl, rfl, by decide +kernel, rfl, by decide +kernel, by decide +kernel⟩
def spPLen (K : PySem.W.Frag) : Sp := fun vs H Q _ => ∃ x ps cl, vs = [.ref x] ∧ PartyAt K H x ps cl ∧ Q (.int (ps.length : Nat)) H
theorem c_Party_len (T : Txt K mg) : Mth P w K mg base (k + 1) (cP K) "__len__" (spPLen K) := by
  refine T.a_Party_len.ok sc_Party_len (fun _ _ _ _ _ _ us hl => match us, hl with | [_], _ => rfl) (fun vs H Q E h => ?_) (fun f cdv A outer s H vs Q E hr h => ⟨_, (pss_one (ps_ret (pe_callB crLen (by rfl) T.f_len b_len (pa_cons (pe_fldK rfl (pv 0) rfl) pa_nil)))), ?_⟩)
  · obtain ⟨_, _, _, rfl, _⟩ := h; rfl
  · obtain ⟨x, ps, cl, rfl, ⟨dx, a, d, hx, ha, hd⟩, q⟩ := h
    walk_at "go"
    refine ⟨x, _, dx, _, _, rfl, hx, T.cl_Party, T.n_Party_people, rfl, ?_⟩
    walk_at "go"
    exact i_lenT ha q
abbrev n_Party_contains : List Str := ["self", "pair"]
theorem sc_Party_contains : FnScope n_Party_contains ["self", "pair"] (defScope s_Party_contains) := ⟨rfl, rfl, rfl, by decide +kernel, rfl, by decide +kernel, by decide +kernel⟩
def mayB (ps : List Str) (cl : List (List Str)) (g t : Str) : Bool := diffB ps [g, t] && !decide ([g, t] ∈ cl)
def spPIn (K : PySem.W.Frag) : Sp := fun vs H Q _ => ∃ x b ps cl g t, vs = [.ref x, .ref b] ∧ PartyAt K H x ps cl ∧ Ts H b [g, t] ∧ ∀ H', Ex H H' → Q (.bl (mayB ps cl g t)) H'
theorem c_Party_contains (T : Txt K mg) (c_is_pair : Cal P w K mg base k "is_pair" spIsPair) : Mth P w K mg base (k + 1) (cP K) "__contains__" (spPIn K) := by
  refine T.a_Party_contains.ok sc_Party_contains (fun _ _ _ _ _ _ us hl => match us, hl with | [_, _], _ => rfl) (fun vs H Q E h => ?_) (fun f cdv A outer s H vs Q E hr h => ⟨_, (pss_one (ps_ret (pe_and (pe_fn c_is_pair (hr.mono (by omega)) (pa_cons (pe_fldK rfl (pv 0) rfl) (pa_cons (pv 1) pa_nil))) (pe_one (pe_cmp (pc_dnotin (hu_of hr) (pv 1) (pe_fldK rfl (pv 0) rfl)) rfl))))), ?_⟩)
  · obtain ⟨_, _, _, _, _, _, rfl, _⟩ := h; rfl
  · obtain ⟨x, b, ps, cl, g, t, rfl, ⟨dx, a, d, hx, ha, hd⟩, hb, q⟩ := h
    walk_at "go"
    refine ⟨x, _, dx, _, _, rfl, hx, T.cl_Party, T.n_Party_people, rfl, ?_⟩
    walk_at "go"
    refine ⟨a, b, ps, g, t, rfl, ha, hb, fun H1 e => ?_⟩
    have z := q H1 e
    unfold mayB at z
    walk_at "go"
    refine io (fun h => ?_) fun h => ?_
    · walk_at "go"
      refine ⟨x, _, dx, _, _, rfl, e _ _ hx, T.cl_Party, T.n_Party_closed, rfl, ?_⟩
      refine ⟨d, _, rfl, dT_get (e _ _ hd) (hb.ex e), ?_⟩
      rw [ite_some]
      rw [h] at z
      exact z
    · rw [h] at z
      exact z
abbrev n_Party_may : List Str := ["self", "giver", "taker"]
theorem sc_Party_may : FnScope n_Party_may ["self", "giver"] (defScope s_Party_may) := ⟨rfl, rfl, rfl, by decide +kernel, rfl, by decide +kernel, by decide +kernel⟩
def spMay (K : PySem.W.Frag) : Sp := fun vs H Q _ => ∃ x ps cl g, vs = [.ref x, .str g] ∧ PartyAt K H x ps cl ∧ g ∈ ps ∧ ps.length ≤ 24 ∧ ∀ p H', Ex H H' → Ls H' p (ssort (ps.filter (mayB ps cl g))) → Q (.ref p) H'
theorem c_Party_may (T : Txt K mg) (c_check_name : Cal P w K mg base k "check_name" spCheckName) (c_Party_contains : Mth P w K mg base k (cP K) "__contains__" (spPIn K)) : Mth P w K mg base (k + 1) (cP K) "may" (spMay K) := by
  refine T.a_Party_may.ok sc_Party_may (fun _ _ _ _ _ _ us hl => match us, hl with | [_, _], _ => rfl) (fun vs H Q E h => ?_) (fun f cdv A outer s H vs Q E hr h => ⟨_, (pss_cons (ps_expr (pe_fn c_check_name (hr.mono (by omega)) (pa_cons (pe_fldK rfl (pv 0) rfl) (pa_cons (pv 1) pa_nil))))
      (pss_one (ps_ret (pe_callB (crSortS hr.units) (by rfl) T.f_sorted b_sorted (pa_cons (pe_lc (own := [("taker", 2)]) rfl sc_Party_may.nd (pi_tup (pe_fldK rfl (pv 0) rfl)) (blkOk_by (own := [("taker", 2)]) (N := n_Party_may) (sc := defScope s_Party_may) (by decide +kernel)) (fun _ _ _ _ _ => (pg_name (i := 2) sc_Party_may.nd rfl (Or.inl rfl))) (fun _ _ _ _ _ => pts_one (pt_cmpR (op_mIn c_Party_contains (hr.mono (by omega))) (pe_tup (pa_cons (pv 1) (pa_cons (pv 2) pa_nil))) (pv 0) rfl)) (fun _ _ _ _ _ => (pv 2))) pa_nil))))), ?_⟩)
  · obtain ⟨_, _, _, _, rfl, _⟩ := h; rfl
  · obtain ⟨x, ps, cl, g, rfl, ⟨dx, a, d, hx, ha, hd⟩, hg, hl, q⟩ := h
    walk_at "go"
    refine ⟨x, _, dx, _, _, rfl, hx, T.cl_Party, T.n_Party_people, rfl, ?_⟩
    walk_at "go"
    refine ⟨a, ps, g, rfl, ha, hg, ?_⟩
    walk_at "go"
    refine ⟨x, _, dx, _, _, rfl, hx, T.cl_Party, T.n_Party_people, rfl, ?_⟩
    refine ⟨a, rfl, ⟨_, SqT.of ha⟩, ?_⟩
    refine lcX walk_tup (by rw [List.length_map]; exact small (by omega)) (fun D i B acc => acc = ((ps.take i).filter (mayB ps cl g)).map V.str) (fun D hD => rfl) (fun D i B acc e hB _ => SqT.of (ex_in e hB a _ ha)) (fun D i v B H2 acc N T' hi e hB sp y k1 k2 => ?_) fun D B acc hD e hB sp => ?_
    · obtain ⟨rfl, hv⟩ := y
      obtain ⟨t, ht, rfl⟩ := map_get hv
      walk_at "go"
      refine ⟨rfl, ?_⟩
      walk_at "go"
      refine ⟨by show 2 ≤ sizeLine; decide, fun p hp => ?_⟩
      have e2 : Ex (upd B D (.lst acc)) (upd (upd B D (.lst acc)) p (.tup [.str g, .str t])) := Ex.new hp
      have e3 := ex_step e hB e2
      walk_at "go"
      refine ⟨x, dx, _, rfl, e3 _ _ hx, x, p, ps, cl, g, t, rfl, ⟨dx, a, d, e3 _ _ hx, ha.ex e3, e3 _ _ hd⟩, upd_same, fun H5 e5 => ?_⟩
      walk_at "go"
      rw [take_snoc ht, List.filter_append, List.map_append, ← sp] at *
      by_cases hm : mayB ps cl g t = true
      · rw [hm]
        walk_at "go"
        exact k2 _ _ (e2.trans e5) (by simp [hm])
      · have hm := Bool.eq_false_iff.mpr hm
        rw [hm]
        walk_at "go"
        exact k1 _ (e2.trans e5) (by simp [hm])
    · walk_at "go"
      rw [List.take_of_length_le (by rw [List.length_map]; exact Nat.le_refl _)] at sp
      subst sp
      refine ⟨D, _, rfl, upd_same, fun p hp => ?_⟩
      exact q p _ ((ex_in e hB).trans (Ex.new hp)) upd_same
end
end GR
end
section
set_option Elab.async false
set_option linter.all false
set_option maxRecDepth 100000
set_option maxHeartbeats 4000000
set_option autoImplicit false
namespace GR
open PySem PySem.Spec L2
open Evl (Ex)
local macro_rules | `(tactic| walk_at "go") => `(tactic| (repeat (first
  | with_reducible refine i_seq ?_
  | ((with_reducible apply i_var); focus rfl)
  | with_reducible refine i_c ?_
  | with_reducible refine i_cons ?_
  | with_reducible refine i_nil ?_
  | with_reducible refine i_asg ?_
  | with_reducible refine i_name ?_
  | with_reducible refine i_op ?_
  | with_reducible refine i_cb ?_
  | with_reducible refine i_fn ?_
  | with_reducible refine i_ret ?_
  | with_reducible refine i_retN ?_
  | with_reducible refine i_drop ?_
  | with_reducible refine i_next ?_
  | with_reducible refine i_cont ?_
  | with_reducible refine i_break ?_
  | with_reducible refine i_if ?_
  | with_reducible refine br_t ?_
  | with_reducible refine br_f ?_
  | with_reducible refine br_nt ?_
  | with_reducible refine io_t ?_
  | with_reducible refine io_f ?_
  | with_reducible refine io_nt ?_
  | with_reducible refine io_nf ?_
  | with_reducible refine br_nf ?_
  | with_reducible refine o_ip ?_
  | with_reducible refine i_test ?_
  | with_reducible refine i_tB ?_
  | with_reducible refine i_not ?_
  | with_reducible refine i_notV ?_
  | with_reducible refine i_andV ?_
  | with_reducible refine i_orV ?_
  | with_reducible refine i_and ?_
  | with_reducible refine i_or ?_
  | with_reducible refine i_dput ?_
  | with_reducible refine i_dget ?_
  | with_reducible refine i_din ?_
  | with_reducible refine i_dnotin ?_
  | with_reducible refine i_dnewK ?_
  | with_reducible refine i_dnewT ?_
  | with_reducible refine i_fld ?_
  | with_reducible refine i_sfld ?_
  | with_reducible refine i_bm0 ?_
  | with_reducible refine i_bm ?_
  | with_reducible refine i_sl ?_
  | with_reducible refine i_noPart ?_
  | with_reducible refine i_part ?_
  | with_reducible refine i_chain ?_
  | with_reducible refine i_methR ?_
  | with_reducible refine i_tup ?_
  | with_reducible refine i_lst ?_
  | with_reducible refine i_for ?_
  | with_reducible refine i_iList ?_
  | with_reducible refine i_iTup ?_
  | with_reducible refine i_iKeys ?_
  | with_reducible refine i_iRng1 ?_
  | with_reducible refine i_iRng2 ?_
  | with_reducible refine i_iStr ?_
  | with_reducible refine i_iEnum ?_
  | with_reducible refine i_iEnumT ?_
  | with_reducible refine i_lc ?_
  | with_reducible refine i_stD ?_
  | with_reducible refine i_iItemsT ?_
  | with_reducible refine i_dcw ?_
  | with_reducible refine i_dsetd ?_
  | with_reducible refine i_iVals ?_
  | with_reducible refine i_iItems ?_
  | with_reducible refine i_revL ?_
  | with_reducible refine i_yes ?_
  | with_reducible refine o_I0 ?_
  | with_reducible refine o_eqS ?_
  | with_reducible refine o_neS ?_
  | with_reducible refine o_eqI ?_
  | with_reducible refine o_neI ?_
  | with_reducible refine o_eqB ?_
  | with_reducible refine e_ref ?_
  | with_reducible refine e_str ?_
  | with_reducible refine e_int ?_
  | with_reducible refine e_bl ?_
  | with_reducible refine e_str1 ?_
  | with_reducible refine e_int1 ?_
  | with_reducible refine e_int2 ?_
  | with_reducible refine e_str2 ?_)))
section
variable {H H' B : Hp} {x b p : Addr} {o u w : HO} {xs : List Str}
theorem upd_keep (h : H b = some u) (hx : H x = some w) (n : u ≠ w) : upd H x o b = some u := upd_some (fun e => by rw [e, hx] at h; exact n (Option.some.inj h).symm) h
end
/-! ### rows -/
def RowsV (H : Hp) (ks : List Str) (f : Str → V) (row : Str → List Str) : Prop := ∀ k ∈ ks, ∃ b, f k = .ref b ∧ Ls H b (row k)
def RowsAt (H : Hp) (r : Addr) (ks : List Str) (row : Str → List Str) : Prop := ∃ f, H r = some (sd ks f) ∧ RowsV H ks f row
def RowsRd (H : Hp) (r : Addr) (ks : List Str) (row : Str → List Str) : Prop := ∃ f, Rd H r (sd ks f) ∧ RowsV H ks f row
section
variable {H H' : Hp} {r D : Addr} {ks : List Str} {f : Str → V} {row : Str → List Str} {s : Str} {v : V} {o w : HO}
theorem RowsV.ex (e : Ex H H') (h : RowsV H ks f row) : RowsV H' ks f row := fun k hk => let ⟨b, h1, h2⟩ := h k hk; ⟨b, h1, h2.ex e⟩
theorem RowsAt.ex (e : Ex H H') (h : RowsAt H r ks row) : RowsAt H' r ks row := let ⟨f, h1, h2⟩ := h; ⟨f, e _ _ h1, h2.ex e⟩
theorem RowsRd.ex (e : Ex H H') (h : RowsRd H r ks row) : RowsRd H' r ks row := let ⟨f, h1, h2⟩ := h; ⟨f, rd_ex e h1, h2.ex e⟩
theorem RowsAt.rd (h : RowsAt H r ks row) : RowsRd H r ks row := let ⟨f, h1, h2⟩ := h; ⟨f, .inl h1, h2⟩
/-- another object is written -/
theorem RowsV.keep (hD : H D = some w) (nw : ∀ xs, w ≠ .lst xs) (h : RowsV H ks f row) : RowsV (upd H D o) ks f row := fun k hk => let ⟨b, h1, h2⟩ := h k hk; ⟨b, h1, upd_keep h2 hD fun e => nw _ e.symm⟩
theorem RowsV.put {b : Addr} (h : RowsV H ks f row) (hb : Ls H b (row s)) : RowsV H (addk ks s) (setf f s (.ref b)) row := fun k hk => by
  unfold setf
  by_cases e : k = s
  · rw [if_pos e, e]; exact ⟨b, rfl, hb⟩
  · rw [if_neg e]
    exact h k ((mem_addk.mp hk).resolve_right e)
theorem RowsV.nil : RowsV H [] f row := fun k hk => by cases hk
end
theorem walkK {d : Addr} {o : Obj} {ks : List Str} {f : Str → V} : Walk (Itk d o (kd jS ks f)) ks.length (fun H => H d = some (.frz o (sd ks f))) (fun i H x H' => H' = H ∧ ∃ s, ks[i]? = some s ∧ x = .str s) := by
  have w := walk_keys (d := d) (o := o) (kvs := kd jS ks f)
  rw [kd_length] at w
  refine w.mono (fun H h => h) fun i H x H' hi g y => ?_
  obtain ⟨e, kx, vx, hk, rfl⟩ := y
  obtain ⟨s, hs, h2⟩ := map_get hk
  injection h2 with h3 h4
  exact ⟨e, s, hs, by rw [h3]; rfl⟩
/-! ### books -/
/-- who may give to whom by the party and the leaks -/
def rowOf (ps : List Str) (cl : List (List Str)) (ls : List Lk) (g : Str) : List Str := (ssort (ps.filter (mayB ps cl g))).filter (allLet ls g)
structure BookAt (K : PySem.W.Frag) (H : Hp) (x : Addr) (ps : List Str) (cl : List (List Str)) (row : Str → List Str) : Prop where
  ex : ∃ dx p l r, H x = some (.ins (cB K) dx [("_party", .ref p), ("_leaks", l), ("_rows", .ref r)]) ∧ PartyAt K H p ps cl ∧ RowsAt H r ps row
theorem BookAt.mono {K : PySem.W.Frag} {H H' : Hp} {x : Addr} {ps : List Str} {cl : List (List Str)} {row : Str → List Str} (e : Ex H H') (h : BookAt K H x ps cl row) : BookAt K H' x ps cl row := by
  obtain ⟨dx, p, l, r, h1, h2, h3⟩ := h.ex
  exact ⟨dx, p, l, r, e _ _ h1, h2.mono e, h3.ex e⟩
section
variable {P : Program} {w : World} {K : PySem.W.Frag} {mg : Str → Option Value} {base : Heap} {k j : Nat}
abbrev n_Party_init : List Str := ["self", "people", "barred", "pair"]
theorem sc_Party_init : FnScope n_Party_init ["self", "people", "barred"] (defScope s_Party_init) := ⟨rfl, rfl, rfl, by decide +kernel, rfl, by decide +kernel, by decide +kernel⟩
def spPInit (K : PySem.W.Frag) : Sp := fun vs H Q _ => ∃ x dx B a b ps prs, vs = [.ref x, .ref a, .ref b] ∧ H = upd (upd B dx (.own x)) x (.ins (cP K) dx []) ∧ B x = none ∧ B dx = none ∧ dx ≠ x ∧ Ts B a ps ∧ LP (Ts B) B b prs ∧ peopleOk ps ∧ (∀ xs ∈ prs, pairOk ps xs) ∧ prs.length ≤ 600 ∧
  ∀ H', Ex B H' → PartyAt K H' x ps (prs.foldl addk []) → Q .non H'
theorem c_Party_init (T : Txt K mg) (c_check_people : Cal P w K mg base k "check_people" spCheckPeople) (c_check_pairs : Cal P w K mg base k "check_pairs" spCheckPairs) : Ini P w K mg base (k + 1) (cP K) (spPInit K) := by
  refine T.a_Party_init.ok sc_Party_init (fun _ _ _ _ _ _ us hl => match us, hl with | [_, _, _], _ => rfl) (fun vs H Q E h => ?_) (fun f cdv A outer s H vs Q E hr h => ⟨_, (pss_cons (ps_expr (pe_fn c_check_people (hr.mono (by omega)) (pa_cons (pv 1) pa_nil)))
      (pss_cons (ps_expr (pe_fn c_check_pairs (hr.mono (by omega)) (pa_cons (pv 1) (pa_cons (pv 2) pa_nil))))
      (pss_cons (ps_fld (pv 0) (pv 1) rfl)
      (pss_one (ps_fld (pv 0) (pe_dcW (own := [("pair", 3)]) (.inr rfl) rfl sc_Party_init.nd (hu_of hr) (pi_list (pv 2)) (blkOk_by (own := [("pair", 3)]) (N := n_Party_init) (sc := defScope s_Party_init) (by decide +kernel)) (fun _ _ _ _ _ => (pg_name (i := 3) sc_Party_init.nd rfl (Or.inl rfl))) (fun _ _ _ _ _ => pts_nil) (fun _ _ _ _ _ => (pv 3)) (fun _ _ _ _ _ => pe_bl)) rfl))))), ?_⟩)
  · obtain ⟨_, _, _, _, _, _, _, rfl, _⟩ := h; rfl
  · obtain ⟨x, dx, B, a, b, ps, prs, rfl, rfl, hx, hdx, ndx, ha, ⟨zs, hb, hz, rfl⟩, pok, ok, hl, q⟩ := h
    have e0 : Ex B (upd (upd B dx (.own x)) x (.ins (cP K) dx [])) := Ex.mut (Ex.new hdx) hx
    walk_at "go"
    refine ⟨a, ps, rfl, ha.ex e0, pok, fun H1 e1 => ?_⟩
    have e01 := e0.trans e1
    walk_at "go"
    refine ⟨a, b, ps, _, rfl, ha.ex e01, ⟨zs, e01 _ _ hb, fun z h => (hz z h).ex e01, rfl⟩, ok, hl, fun H2 e2 => ?_⟩
    have e02 := e01.trans e2
    have hx2 : H2 x = some (.ins (cP K) dx []) := e2 _ _ (e1 _ _ upd_same)
    walk_at "go"
    refine ⟨x, _, dx, _, rfl, hx2, T.cl_Party, T.n_Party_people, by show 0 < 1000; decide, ?_⟩
    have e03 : Ex B (upd H2 x (.ins (cP K) dx (putF "_people" (.ref a) []))) := Ex.mut e02 hx
    walk_at "go"
    refine ⟨⟨_, SqL.of (e03 _ _ hb)⟩, ?_⟩
    refine dcT (e03 _ _ hb) (fun z h => (hz z h).ex e03) (by rw [List.length_map] at hl; omega) (fun D ks z N hD hm p => ?_) fun D hD => ?_
    · walk_at "go"
      refine ⟨rfl, ?_⟩
      walk_at "go"
      exact p
    · walk_at "go"
      have hxD : x ≠ D := fun e => by rw [← e, upd_same] at hD; cases hD
      refine ⟨x, _, dx, _, rfl, (upd_some hxD upd_same), T.cl_Party, T.n_Party_closed, by show 1 < 1000; decide, ?_⟩
      have e05 := Ex.mut (o := .ins (cP K) dx (putF "_closed" (.ref D) (putF "_people" (.ref a) []))) (Ex.mut (o := .dT (kd kk ((zs.map Prod.snd).foldl addk []) fun _ => .bl true)) e03 (ex_none e03 hD)) hx
      refine q _ e05 ⟨dx, a, D, upd_same, ha.ex e05, upd_some (Ne.symm hxD) upd_same⟩
abbrev n_Book_party : List Str := ["self"]
theorem sc_Book_party : FnScope n_Book_party ["self"] (defScope s_Book_party) := ⟨rfl, rfl, rfl, by decide +kernel, rfl, by decide +kernel, by decide +kernel⟩
def spBParty (K : PySem.W.Frag) : Sp := fun vs H Q _ => ∃ x ps cl row, vs = [.ref x] ∧ BookAt K H x ps cl row ∧ ∀ p, PartyAt K H p ps cl → Q (.ref p) H
theorem c_Book_party (T : Txt K mg) : Mth P w K mg base (k + 1) (cB K) "party" (spBParty K) := by
  refine T.a_Book_party.ok sc_Book_party (fun _ _ _ _ _ _ us hl => match us, hl with | [_], _ => rfl) (fun vs H Q E h => ?_) (fun f cdv A outer s H vs Q E hr h => ⟨_, (pss_one (ps_ret (pe_fldK rfl (pv 0) rfl))), ?_⟩)
  · obtain ⟨_, _, _, _, rfl, _⟩ := h; rfl
  · obtain ⟨x, ps, cl, row, rfl, ⟨dx, p, l, r, hx, hp, hr2⟩, q⟩ := h
    walk_at "go"
    refine ⟨x, _, dx, _, _, rfl, hx, T.cl_Book, T.n_Book_party, rfl, ?_⟩
    exact q p hp
abbrev n_Book_rows : List Str := ["self", "giver"]
theorem sc_Book_rows : FnScope n_Book_rows ["self"] (defScope s_Book_rows) := ⟨rfl, rfl, rfl, by decide +kernel, rfl, by decide +kernel, by decide +kernel⟩
def spBRows (K : PySem.W.Frag) : Sp := fun vs H Q _ => ∃ x ps cl row, vs = [.ref x] ∧ BookAt K H x ps cl row ∧ ps.Nodup ∧ ps.length ≤ 24 ∧ ∀ r H', Ex H H' → H r = none → RowsAt H' r ps row → Q (.ref r) H'
theorem c_Book_rows (T : Txt K mg) : Mth P w K mg base (k + 1) (cB K) "rows" (spBRows K) := by
  refine T.a_Book_rows.ok sc_Book_rows (fun _ _ _ _ _ _ us hl => match us, hl with | [_], _ => rfl) (fun vs H Q E h => ?_) (fun f cdv A outer s H vs Q E hr h => ⟨_, (pss_one (ps_ret (pe_lock (pe_dcW (own := [("giver", 1)]) (.inl rfl) rfl sc_Book_rows.nd (hu_of hr) (pi_keys (pe_fldK rfl (pv 0) rfl)) (blkOk_by (own := [("giver", 1)]) (N := n_Book_rows) (sc := defScope s_Book_rows) (by decide +kernel)) (fun _ _ _ _ _ => (pg_name (i := 1) sc_Book_rows.nd rfl (Or.inl rfl))) (fun _ _ _ _ _ => pts_nil) (fun _ _ _ _ _ => (pv 1)) (fun _ _ _ _ _ => (pe_callTy crList (by rfl) T.f_list b_list (pa_cons (pe_dget (hu_of hr) (pe_fldK rfl (pv 0) rfl) (pv 1) (fun _ _ => rfl)) pa_nil))))))), ?_⟩)
  · obtain ⟨_, _, _, _, rfl, _⟩ := h; rfl
  · obtain ⟨x, ps, cl, row, rfl, ⟨dx, p, l, r, hx, hp, fr, hr1, hr2⟩, nd, hl, q⟩ := h
    walk_at "go"
    refine i_lockE hr1 trivial fun od => ?_
    walk_at "go"
    have hxr : x ≠ r := fun e => by rw [e, hr1] at hx; cases hx
    have lk : ∀ {b xs}, Ls H b xs → Ls (upd H r (.frz od (sd ps fr))) b xs := fun h => upd_keep h hr1 fun e => nomatch e
    refine ⟨x, _, dx, _, _, rfl, upd_some hxr hx, T.cl_Book, T.n_Book_rows, rfl, ?_⟩
    refine ⟨r, od, rfl, .inl ⟨_, upd_same, ?_⟩⟩
    refine dcX (n := ps.length) walkK (by omega) (fun D i B ks f => ks = ps.take i ∧ RowsV B ks f row) (fun D hD => ⟨rfl, RowsV.nil⟩) (fun D i B ks f e hB _ => ex_in e hB _ _ upd_same) (fun D i v B H2 ks f N hi e hB s y k1 k2 => ?_) fun D B ks f hD e hB s => ?_
    · obtain ⟨rfl, g, hg, rfl⟩ := y
      obtain ⟨rfl, rv⟩ := s
      obtain ⟨b, hb1, hb2⟩ := hr2 g (List.mem_of_getElem? hg)
      have ei := ex_in (o := sd (ps.take i) f) e hB
      walk_at "go"
      refine ⟨rfl, ?_⟩
      walk_at "go"
      refine ⟨x, _, dx, _, _, rfl, ei _ _ (upd_some hxr hx), T.cl_Book, T.n_Book_rows, rfl, ?_⟩
      walk_at "go"
      refine kd_get (rd_ex ei (.inr ⟨od, upd_same⟩)) (List.mem_of_getElem? hg) ?_
      rw [hb1]
      walk_at "go"
      refine ⟨b, _, rfl, .inl (ei _ _ (lk hb2)), fun lc hlc => ?_⟩
      have e2 : Ex (upd B D (sd (ps.take i) f)) (upd (upd B D (sd (ps.take i) f)) lc (.lst ((row g).map V.str))) := Ex.new hlc
      refine k2 g (.ref lc) _ e2 ⟨?_, ?_⟩
      · rw [take_snoc hg, addk_new]
        exact fun hm => (nodup_snoc_iff.mp (by rw [← take_snoc hg]; exact nd.sublist (List.take_sublist _ _))).2 hm
      · refine RowsV.put (rv.ex (off_ex e2 hB)) ?_
        exact off_new upd_same (ex_same e2) fun e => nomatch e
    · obtain ⟨rfl, rv⟩ := s
      rw [List.take_length] at rv ⊢
      have ei := ex_in (o := sd ps f) e hB
      refine ⟨ei _ _ upd_same, ?_⟩
      have hDr : D ≠ r := fun e2 => by rw [e2, upd_same] at hD; cases hD
      have hH : Ex H (upd (upd B D (sd ps f)) r (sd ps fr)) := ex_unlock hr1 ei
      refine q D _ hH (by rw [upd_ne hDr] at hD; exact hD) ⟨f, upd_some hDr upd_same, ?_⟩
      refine RowsV.keep (ei _ _ upd_same) (fun xs e => nomatch e) (rv.ex ?_)
      exact ex_in (Ex.refl _) hB
end
end GR
end
section
set_option Elab.async false
set_option linter.all false
set_option maxRecDepth 100000
set_option maxHeartbeats 4000000
set_option autoImplicit false
namespace GR
open PySem PySem.Spec L2
open Evl (Ex)
local macro_rules | `(tactic| walk_at "go") => `(tactic| (repeat (first
  | with_reducible refine i_seq ?_
  | ((with_reducible apply i_var); focus rfl)
  | with_reducible refine i_c ?_
  | with_reducible refine i_cons ?_
  | with_reducible refine i_nil ?_
  | with_reducible refine i_asg ?_
  | with_reducible refine i_name ?_
  | with_reducible refine i_op ?_
  | with_reducible refine i_cb ?_
  | with_reducible refine i_fn ?_
  | with_reducible refine i_ret ?_
  | with_reducible refine i_retN ?_
  | with_reducible refine i_drop ?_
  | with_reducible refine i_next ?_
  | with_reducible refine i_cont ?_
  | with_reducible refine i_break ?_
  | with_reducible refine i_if ?_
  | with_reducible refine br_t ?_
  | with_reducible refine br_f ?_
  | with_reducible refine br_nt ?_
  | with_reducible refine io_t ?_
  | with_reducible refine io_f ?_
  | with_reducible refine io_nt ?_
  | with_reducible refine io_nf ?_
  | with_reducible refine br_nf ?_
  | with_reducible refine o_ip ?_
  | with_reducible refine i_test ?_
  | with_reducible refine i_tB ?_
  | with_reducible refine i_not ?_
  | with_reducible refine i_notV ?_
  | with_reducible refine i_andV ?_
  | with_reducible refine i_orV ?_
  | with_reducible refine i_and ?_
  | with_reducible refine i_or ?_
  | with_reducible refine i_dput ?_
  | with_reducible refine i_dget ?_
  | with_reducible refine i_din ?_
  | with_reducible refine i_dnotin ?_
  | with_reducible refine i_dnewK ?_
  | with_reducible refine i_dnewT ?_
  | with_reducible refine i_fld ?_
  | with_reducible refine i_sfld ?_
  | with_reducible refine i_bm0 ?_
  | with_reducible refine i_bm ?_
  | with_reducible refine i_sl ?_
  | with_reducible refine i_noPart ?_
  | with_reducible refine i_part ?_
  | with_reducible refine i_chain ?_
  | with_reducible refine i_methR ?_
  | with_reducible refine i_tup ?_
  | with_reducible refine i_lst ?_
  | with_reducible refine i_for ?_
  | with_reducible refine i_iList ?_
  | with_reducible refine i_iTup ?_
  | with_reducible refine i_iKeys ?_
  | with_reducible refine i_iRng1 ?_
  | with_reducible refine i_iRng2 ?_
  | with_reducible refine i_iStr ?_
  | with_reducible refine i_iEnum ?_
  | with_reducible refine i_iEnumT ?_
  | with_reducible refine i_lc ?_
  | with_reducible refine i_stD ?_
  | with_reducible refine i_iItemsT ?_
  | with_reducible refine i_dcw ?_
  | with_reducible refine i_dsetd ?_
  | with_reducible refine i_iVals ?_
  | with_reducible refine i_iItems ?_
  | with_reducible refine i_revL ?_
  | with_reducible refine i_yes ?_
  | with_reducible refine o_I0 ?_
  | with_reducible refine o_eqS ?_
  | with_reducible refine o_neS ?_
  | with_reducible refine o_eqI ?_
  | with_reducible refine o_neI ?_
  | with_reducible refine o_eqB ?_
  | with_reducible refine e_ref ?_
  | with_reducible refine e_str ?_
  | with_reducible refine e_int ?_
  | with_reducible refine e_bl ?_
  | with_reducible refine e_str1 ?_
  | with_reducible refine e_int1 ?_
  | with_reducible refine e_int2 ?_
  | with_reducible refine e_str2 ?_)))
section
variable {P : Program} {w : World} {K : PySem.W.Frag} {mg : Str → Option Value} {base : Heap} {k j : Nat}
theorem ssort_perm (xs : List Str) : (ssort xs).Perm xs := List.mergeSort_perm xs strLe
abbrev n_Book_init : List Str := ["self", "party", "leaks", "people", "index", "leak", "free_rows", "giver", "may", "taker"]
theorem sc_Book_init : FnScope n_Book_init ["self", "party", "leaks"] (defScope s_Book_init) := ⟨rfl, rfl, rfl, by decide +kernel, rfl, by decide +kernel, by decide +kernel⟩
def spBInit (K : PySem.W.Frag) : Sp := fun vs H Q _ => ∃ x dx B p l ps cl ls, vs = [.ref x, .ref p, .ref l] ∧ H = upd (upd B dx (.own x)) x (.ins (cB K) dx []) ∧ B x = none ∧ B dx = none ∧ dx ≠ x ∧ PartyAt K B p ps cl ∧ LP (LkAt B) B l ls ∧ peopleOk ps ∧ (∀ l ∈ ls, l.ok ps) ∧ ls.length ≤ 40 ∧
  ∀ H', Ex B H' → BookAt K H' x ps cl (rowOf ps cl ls) → Q .non H'
theorem c_Book_init (T : Txt K mg) (c_is_leak : Cal P w K mg base k "is_leak" spIsLeak) (c_all_let : Cal P w K mg base k "all_let" spAllLet) (c_Party_people : Mth P w K mg base k (cP K) "people" (spPeople K)) (c_Party_may : Mth P w K mg base k (cP K) "may" (spMay K)) :
    Ini P w K mg base (k + 1) (cB K) (spBInit K) := by
  refine T.a_Book_init.ok sc_Book_init (fun _ _ _ _ _ _ us hl => match us, hl with | [_, _, _], _ => rfl) (fun vs H Q E h => ?_) (fun f cdv A outer s H vs Q E hr h => ⟨_, (pss_cons (ps_if (PW.pt (pw_or (pt_not (pt_val (pe_callB crIsi (by rfl) T.f_isinstance b_isinstance (pa_cons (pv 2) (pa_cons (pe_ty T.f_list b_list) pa_nil))))) (pw_or1 (pt_cmpR op_gt (pe_callB crLen (by rfl) T.f_len b_len (pa_cons (pv 2) pa_nil)) (pe_globI T.i_MOST_LEAKS) (nomark _))))) (pss_one (ps_never)) pss_nil)
      (pss_cons (ps_set (i := 3) sc_Book_init.nd rfl (Or.inl rfl) (pe_mth0 (pv 1) T.cl_Party c_Party_people (hr.mono (by omega))))
      (pss_cons (ps_for PassesOwn.never rfl (pi_enum (by rfl) T.f_enumerate (pa_cons (pv 2) pa_nil)) (pg_tupH 2 rfl (pgs_cons (pg_name (i := 4) sc_Book_init.nd rfl (Or.inl rfl)) (pgs_cons (pg_name (i := 5) sc_Book_init.nd rfl (Or.inl rfl)) pgs_nil))) (pss_one (ps_if (pt_not (pt_val (pe_fn c_is_leak (hr.mono (by omega)) (pa_cons (pv 3) (pa_cons (pv 5) pa_nil))))) (pss_one (ps_never)) pss_nil)))
      (pss_cons (ps_set (i := 6) sc_Book_init.nd rfl (Or.inl rfl) pe_dnewK)
      (pss_cons (ps_for PassesOwn.never rfl (pi_tup (pv 3)) (pg_name (i := 7) sc_Book_init.nd rfl (Or.inr rfl)) (pss_cons (ps_set (i := 8) sc_Book_init.nd rfl (Or.inl rfl) (pe_mth (pv 1) T.cl_Party c_Party_may (hr.mono (by omega)) (pa_cons (pv 7) pa_nil)))
      (pss_one (ps_dput (hu_of hr) (pv 6) (pv 7) (pe_lc (own := [("taker", 9)]) rfl sc_Book_init.nd (pi_list (pv 8)) (blkOk_by (own := [("taker", 9)]) (N := n_Book_init) (sc := defScope s_Book_init) (by decide +kernel)) (fun _ _ _ _ _ => (pg_name (i := 9) sc_Book_init.nd rfl (Or.inl rfl))) (fun _ _ _ _ _ => pts_one (pt_val (pe_fn c_all_let (hr.mono (by omega)) (pa_cons (pv 2) (pa_cons (pv 7) (pa_cons (pv 9) pa_nil)))))) (fun _ _ _ _ _ => (pv 9))) rfl))))
      (pss_cons (ps_fld (pv 0) (pv 1) rfl)
      (pss_cons (ps_fld (pv 0) (pe_callTy crList (by rfl) T.f_list b_list (pa_cons (pv 2) pa_nil)) rfl)
      (pss_one (ps_fld (pv 0) (pv 6) rfl))))))))), ?_⟩)
  · obtain ⟨_, _, _, _, _, _, _, _, rfl, _⟩ := h; rfl
  · obtain ⟨x, dx, B, p, l, ps, cl, ls, rfl, hH, hx, hdx, ndx, hp, ⟨zs, hl, hz, rfl⟩, pok, ok, hll, q⟩ := h
    have e0 : Ex B H := by rw [hH]; exact Ex.mut (Ex.new hdx) hx
    have hx0 : H x = some (.ins (cB K) dx []) := by rw [hH]; exact upd_same
    have hlz := hll
    rw [List.length_map] at hlz
    walk_at "go"
    refine ⟨_, _, _, true, rfl, .lst (e0 _ _ hl), k_ll, ?_⟩
    walk_at "go"
    refine ⟨l, _, rfl, .inl (e0 _ _ hl), ?_⟩
    walk_at "go"
    rw [List.length_map, decide_eq_false (by omega)]
    walk_at "go"
    obtain ⟨pdx, pa, pd, hp1, hp2, hp3⟩ := (hp.mono e0).ex
    refine ⟨p, pdx, _, rfl, hp1, rfl, ?_⟩
    walk_at "go"
    refine ⟨p, ps, cl, rfl, hp.mono e0, fun a ha => ?_⟩
    walk_at "go"
    refine ⟨l, _, rfl, SqL.of (e0 _ _ hl), ?_⟩
    refine loop_of (k := (zs.map fun z => V.ref z.1).length) walk_enum (fun i σ H1 => (∃ o o2, σ = [some (.ref x), some (.ref p), some (.ref l), some (.ref a), o, o2, none, none, none, none]) ∧ Ex H H1) ⟨⟨_, _, rfl⟩, Ex.refl _⟩ (fun i σ H1 _ z => SqL.of (z.2 _ _ (e0 _ _ hl))) (fun i v σ H1 H2 hi z y => ?_) (fun σ H1 z => ?_)
    · obtain ⟨⟨o, o2, rfl⟩, e⟩ := z
      obtain ⟨T1, x1, x2, rfl, hT, rfl, hx1, hx2⟩ := y
      obtain ⟨z, hs, rfl⟩ := map_get hx2
      cases hx1
      have hm := List.mem_of_getElem? hs
      have e2 : Ex H (upd H1 T1 (.tup [.int (i : Nat), .ref z.1])) := e.trans (Ex.new hT)
      refine i_gT2 upd_same ?_
      walk_at "go"
      refine ⟨a, z.1, ps, z.2, rfl, ha.ex e2, (hz z hm).ex (e0.trans e2), ok z.2 (List.mem_map_of_mem hm), fun H3 e3 => ?_⟩
      walk_at "go"
      exact ⟨⟨_, _, rfl⟩, e2.trans e3⟩
    · obtain ⟨⟨o, o2, rfl⟩, e1⟩ := z
      walk_at "go"
      intro r hr
      walk_at "go"
      have hxr : x ≠ r := fun z => by have := e1 _ _ hx0; rw [z, hr] at this; cases this
      refine ⟨⟨_, SqT.of ((ha.ex e1).ex (Ex.new hr))⟩, ?_⟩
      refine loop_of (k := (ps.map V.str).length) walk_tup (fun i σ H3 => (∃ o7 o8 o9, σ = [some (.ref x), some (.ref p), some (.ref l), some (.ref a), o, o2, some (.ref r), o7, o8, o9]) ∧ Ex H1 H3 ∧ ∃ f, H3 r = some (sd (ps.take i) f) ∧ RowsV H3 (ps.take i) f (rowOf ps cl (zs.map Prod.snd))) ⟨⟨_, _, _, rfl⟩, Ex.new hr, fun _ => .non, upd_same, RowsV.nil⟩ (fun i σ H3 _ z => SqT.of (ha.ex (e1.trans z.2.1))) (fun i v σ H4 H3 hi z y => ?_) (fun σ H3 z => ?_)
      · obtain ⟨⟨o7, o8, o9, rfl⟩, e3, f, hf, rv⟩ := z
        obtain ⟨rfl, hv⟩ := y
        obtain ⟨g, hg, rfl⟩ := map_get hv
        have hgm := List.mem_of_getElem? hg
        have e03 := e0.trans (e1.trans e3)
        walk_at "go"
        obtain ⟨pdx, pa, pd, hp1, hp2, hp3⟩ := (hp.mono e03).ex
        refine ⟨p, pdx, _, rfl, hp1, rfl, ?_⟩
        walk_at "go"
        refine ⟨p, ps, cl, g, rfl, hp.mono e03, hgm, pok.2.1, fun m H5 e5 hm => ?_⟩
        walk_at "go"
        refine ⟨⟨_, SqL.of hm⟩, ?_⟩
        have e05 := e03.trans e5
        have hl24 : (ssort (ps.filter (mayB ps cl g))).length ≤ 24 := by
          rw [(ssort_perm _).length_eq]
          exact Nat.le_trans (List.length_filter_le _ _) pok.2.1
        have w := walk_list (K := K) (a := m) (xs := (ssort (ps.filter (mayB ps cl g))).map V.str)
        rw [List.length_map] at w
        refine lcL (ssort (ps.filter (mayB ps cl g))) V.str w (small (by omega)) (fun _ _ _ _ y => y) (allLet (zs.map Prod.snd) g) V.str (fun D acc hD => SqL.of (Ex.new hD _ _ hm)) (fun D acc t N T' hD ht k1 k2 => ?_) fun D hD => ?_
        · walk_at "go"
          refine ⟨rfl, ?_⟩
          walk_at "go"
          have ed : Ex B (upd H5 D (.lst acc)) := e05.trans (Ex.new hD)
          refine ⟨l, zs.map Prod.snd, g, t, rfl, ⟨zs, ed _ _ hl, fun z h => (hz z h).ex ed, rfl⟩, ?_⟩
          walk_at "go"
          refine io (fun h => ?_) fun h => ?_
          · walk_at "go"
            exact k2 h
          · exact k1 h
        · walk_at "go"
          have eD : Ex H3 (upd H5 D (.lst (((ssort (ps.filter (mayB ps cl g))).filter (allLet (zs.map Prod.snd) g)).map V.str))) := e5.trans (Ex.new hD)
          have hn : g ∉ ps.take i := fun hm => (nodup_snoc_iff.mp (by rw [← take_snoc hg]; exact pok.2.2.1.sublist (List.take_sublist _ _))).2 hm
          refine kd_put (eD _ _ hf) (small1000 (by rw [List.length_take]; have := pok.2.1; omega)) ?_
          refine ⟨⟨_, _, _, rfl⟩, Ex.mut (e3.trans eD) hr, setf f g (.ref D), ?_, ?_⟩
          · rw [upd_same, addk_new hn, take_snoc hg]
          · rw [take_snoc hg, ← addk_new hn]
            refine RowsV.keep (eD _ _ hf) (fun xs z => nomatch z) ?_
            refine (rv.ex eD).put ?_
            exact upd_same
      · obtain ⟨⟨o7, o8, o9, rfl⟩, e3, f, hf, rv⟩ := z
        rw [List.length_map, List.take_length] at hf rv
        have e13 := e1.trans e3
        walk_at "go"
        refine ⟨x, _, dx, _, rfl, e13 _ _ hx0, T.cl_Book, T.n_Book_party, by show 0 < 1000; decide, ?_⟩
        walk_at "go"
        have ex1 : ∀ {o : HO}, Ex B (upd H3 x o) := Ex.mut (e0.trans e13) hx
        refine ⟨l, _, rfl, .inl (ex1 _ _ hl), fun m hm => ?_⟩
        walk_at "go"
        have hxm : x ≠ m := fun z => by rw [← z, upd_same] at hm; cases hm
        refine ⟨x, _, dx, _, rfl, upd_some hxm upd_same, T.cl_Book, T.n_Book_leaks, by show 1 < 1000; decide, ?_⟩
        walk_at "go"
        refine ⟨x, _, dx, _, rfl, upd_same, T.cl_Book, T.n_Book_rows, by show 2 < 1000; decide, ?_⟩
        have hBm : B m = none := ex_none ex1 hm
        have ef : Ex B (upd (upd (upd (upd H3 x (.ins (cB K) dx (putF "_party" (.ref p) []))) m (.lst (zs.map fun z => V.ref z.1))) x (.ins (cB K) dx (putF "_leaks" (.ref m) (putF "_party" (.ref p) [])))) x (.ins (cB K) dx (putF "_rows" (.ref r) (putF "_leaks" (.ref m) (putF "_party" (.ref p) []))))) :=
          Ex.mut (Ex.mut (Ex.mut ex1 hBm) hx) hx
        refine q _ ef ⟨dx, p, .ref m, r, upd_same, hp.mono ef, f, ?_, ?_⟩
        · rw [upd_ne (Ne.symm hxr), upd_ne (Ne.symm hxr), upd_ne, upd_ne (Ne.symm hxr)]
          · exact hf
          · intro z
            rw [← z, upd_ne (Ne.symm hxr), hf] at hm
            cases hm
        · intro g hg
          obtain ⟨b, hb1, hb2⟩ := rv g hg
          have hbx : b ≠ x := fun z => by
            have := e13 _ _ hx0
            rw [← z, hb2] at this
            cases this
          have hbm : b ≠ m := fun z => by
            rw [← z, upd_ne hbx, hb2] at hm
            cases hm
          refine ⟨b, hb1, ?_⟩
          show _ = _
          rw [upd_ne hbx, upd_ne hbx, upd_ne hbm, upd_ne hbx]
          exact hb2
abbrev n_is_drawing : List Str := ["party", "thing", "used", "giver"]
theorem sc_is_drawing : FnScope n_is_drawing ["party", "thing"] (defScope s_is_drawing) := ⟨rfl, rfl, rfl, by decide +kernel, rfl, by decide +kernel, by decide +kernel⟩
theorem i_lenD {a : Addr} {H : Hp} {ks : List Str} {f : Str → V} {p : List (Key × V) → Prop} (h : H a = some (sd ks f)) (q : ∀ kvs : List (Key × V), kvs.length = ks.length → p kvs) : ∃ a' kvs, [V.ref a] = [.ref a'] ∧ H a' = some (.dK kvs) ∧ p kvs := ⟨a, _, rfl, h, q _ (kd_length ..)⟩
def spIsDrawing (K : PySem.W.Frag) : Sp := fun vs H Q _ => ∃ x a ps cl, ∃ m : Str → Str, vs = [.ref x, .ref a] ∧ PartyAt K H x ps cl ∧ H a = some (sd ps fun g => .str (m g)) ∧ ps.Nodup ∧ ps.length ≤ 24 ∧ (∀ g ∈ ps, mayB ps cl g (m g) = true) ∧ (∀ g ∈ ps, ∀ g' ∈ ps, m g = m g' → g = g') ∧ ∀ H', Ex H H' → Q (.bl true) H'
theorem c_is_drawing (T : Txt K mg) (c_Party_contains : Mth P w K mg base k (cP K) "__contains__" (spPIn K)) (c_Party_len : Mth P w K mg base k (cP K) "__len__" (spPLen K)) (c_Party_people : Mth P w K mg base k (cP K) "people" (spPeople K)) : Cal P w K mg base (k + 2) "is_drawing" (spIsDrawing K) := by
  refine T.a_is_drawing.ok sc_is_drawing (fun _ _ _ _ _ _ us hl => match us, hl with | [_, _], _ => rfl) (fun vs H Q E h => ?_) (fun f cdv A outer s H vs Q E hr h => ⟨_, (pss_cons (ps_if (PW.pt (pw_or (pt_not (pt_val (pe_callB crIsi (by rfl) T.f_isinstance b_isinstance (pa_cons (pv 1) (pa_cons (pe_ty T.f_dict b_dict) pa_nil))))) (pw_or1 (pt_cmpR op_ne (pe_callB call_lenD (by rfl) T.f_len b_len (pa_cons (pv 1) pa_nil)) (pe_callB (cr_mLen c_Party_len (hr.mono (by omega))) (by rfl) T.f_len b_len (pa_cons (pv 0) pa_nil)) (nomark _))))) (pss_one (ps_ret pe_bl)) pss_nil)
      (pss_cons (ps_set (i := 2) sc_is_drawing.nd rfl (Or.inl rfl) pe_dnewK)
      (pss_cons (ps_for PassesOwn.never rfl (pi_tup (pe_mth0 (pv 0) T.cl_Party c_Party_people (hr.mono (by omega)))) (pg_name (i := 3) sc_is_drawing.nd rfl (Or.inl rfl)) (pss_cons (ps_if (pt_cmp (pc_dnotin (hu_of hr) (pv 3) (pv 1))) (pss_one (ps_ret pe_bl)) pss_nil)
      (pss_cons (ps_if (PW.pt (pw_or (pt_cmpR (op_mNotIn c_Party_contains (hr.mono (by omega))) (pe_tup (pa_cons (pv 3) (pa_cons (pe_dget (hu_of hr) (pv 1) (pv 3) (fun _ _ => rfl)) pa_nil))) (pv 0) rfl) (pw_or1 (pt_cmp (pc_din (hu_of hr) (pe_dget (hu_of hr) (pv 1) (pv 3) (fun _ _ => rfl)) (pv 2)))))) (pss_one (ps_ret pe_bl)) pss_nil)
      (pss_one (ps_dput (hu_of hr) (pv 2) (pe_dget (hu_of hr) (pv 1) (pv 3) (fun _ _ => rfl)) pe_bl rfl)))))
      (pss_one (ps_ret pe_bl))))), ?_⟩)
  · obtain ⟨_, _, _, _, _, rfl, _⟩ := h; rfl
  · obtain ⟨x, a, ps, cl, m, rfl, hp, ha, nd, hl, may, inj, q⟩ := h
    obtain ⟨pdx, pa, pd, hp1, hp2, hp3⟩ := hp.ex
    walk_at "go"
    refine ⟨_, _, _, true, rfl, .dK ha, k_dd, ?_⟩
    walk_at "go"
    refine i_lenD ha fun kvs hkv => ?_
    rw [hkv]
    walk_at "go"
    refine ⟨x, pdx, _, rfl, hp1, x, ps, cl, rfl, hp, ?_⟩
    refine ⟨ps.length, rfl, by omega, ?_⟩
    walk_at "go"
    rw [decide_eq_true (by rfl)]
    walk_at "go"
    intro d hd
    walk_at "go"
    have e0 : Ex H (upd H d (.dK [])) := Ex.new hd
    refine ⟨x, pdx, _, rfl, e0 _ _ hp1, rfl, ?_⟩
    refine ⟨x, ps, cl, rfl, hp.mono e0, fun pl hpl => ?_⟩
    walk_at "go"
    refine ⟨⟨_, SqT.of hpl⟩, ?_⟩
    refine loop_of (k := (ps.map V.str).length) walk_tup (fun i σ H1 => (∃ o, σ = [some (.ref x), some (.ref a), some (.ref d), o]) ∧ Ex H H1 ∧ Ts H1 pl ps ∧ H1 d = some (sd ((ps.take i).map m) fun _ => .bl true)) ⟨⟨_, rfl⟩, e0, hpl, upd_same⟩ (fun i σ H1 _ z => SqT.of z.2.2.1) (fun i v σ H2 H1 hi z y => ?_) (fun σ H1 z => ?_)
    · obtain ⟨⟨o, rfl⟩, e1, hpl1, hd1⟩ := z
      obtain ⟨rfl, hv⟩ := y
      obtain ⟨g, hg, rfl⟩ := map_get hv
      have hgm := List.mem_of_getElem? hg
      walk_at "go"
      refine kd_in (.inl (e1 _ _ ha)) fun o' ho => ?_
      rw [ho, decide_eq_true hgm]
      walk_at "go"
      refine kd_get (.inl (e1 _ _ ha)) hgm ?_
      walk_at "go"
      refine ⟨by show 2 ≤ sizeLine; decide, fun p2 hp2' => ?_⟩
      have e2 : Ex H1 (upd H1 p2 (.tup [.str g, .str (m g)])) := Ex.new hp2'
      walk_at "go"
      refine ⟨x, pdx, _, rfl, (e1.trans e2) _ _ hp1, x, p2, ps, cl, g, m g, rfl, hp.mono (e1.trans e2), upd_same, fun H3 e3 => ?_⟩
      have e23 := e2.trans e3
      rw [may g hgm]
      walk_at "go"
      refine kd_get (.inl ((e1.trans e23) _ _ ha)) hgm ?_
      walk_at "go"
      have hn : m g ∉ (ps.take i).map m := fun hm => by
        obtain ⟨g', hg', e⟩ := List.mem_map.mp hm
        have := inj g' (List.mem_of_mem_take hg') g hgm e
        subst this
        exact (nodup_snoc_iff.mp (by rw [← take_snoc hg]; exact nd.sublist (List.take_sublist _ _))).2 hg'
      refine kd_in (.inl (e23 _ _ hd1)) fun o' ho => ?_
      rw [ho, decide_eq_false hn]
      walk_at "go"
      refine kd_get (.inl ((e1.trans e23) _ _ ha)) hgm ?_
      refine kd_put (e23 _ _ hd1) (small1000 (by rw [List.length_map, List.length_take]; omega)) ?_
      refine ⟨⟨_, rfl⟩, Ex.mut (e1.trans e23) hd, upd_keep (hpl1.ex e23) (e23 _ _ hd1) fun z => (nomatch z), ?_⟩
      rw [upd_same, addk_new hn, take_snoc hg, List.map_append]
      congr 3
      funext y
      unfold setf
      split <;> rfl
    · obtain ⟨⟨o, rfl⟩, e1, hpl1, hd1⟩ := z
      walk_at "go"
      exact q _ e1
end
end GR
end
section
set_option Elab.async false
set_option linter.all false
set_option maxRecDepth 100000
set_option maxHeartbeats 4000000
set_option autoImplicit false
namespace GR
open PySem PySem.Spec L2
open Evl (Ex)
local macro_rules | `(tactic| walk_at "go") => `(tactic| (repeat (first
  | with_reducible refine i_seq ?_
  | ((with_reducible apply i_var); focus rfl)
  | with_reducible refine i_c ?_
  | with_reducible refine i_cons ?_
  | with_reducible refine i_nil ?_
  | with_reducible refine i_asg ?_
  | with_reducible refine i_name ?_
  | with_reducible refine i_op ?_
  | with_reducible refine i_cb ?_
  | with_reducible refine i_fn ?_
  | with_reducible refine i_ret ?_
  | with_reducible refine i_retN ?_
  | with_reducible refine i_drop ?_
  | with_reducible refine i_next ?_
  | with_reducible refine i_cont ?_
  | with_reducible refine i_break ?_
  | with_reducible refine i_if ?_
  | with_reducible refine br_t ?_
  | with_reducible refine br_f ?_
  | with_reducible refine br_nt ?_
  | with_reducible refine io_t ?_
  | with_reducible refine io_f ?_
  | with_reducible refine io_nt ?_
  | with_reducible refine io_nf ?_
  | with_reducible refine br_nf ?_
  | with_reducible refine o_ip ?_
  | with_reducible refine i_test ?_
  | with_reducible refine i_tB ?_
  | with_reducible refine i_not ?_
  | with_reducible refine i_notV ?_
  | with_reducible refine i_andV ?_
  | with_reducible refine i_orV ?_
  | with_reducible refine i_and ?_
  | with_reducible refine i_or ?_
  | with_reducible refine i_dput ?_
  | with_reducible refine i_dget ?_
  | with_reducible refine i_din ?_
  | with_reducible refine i_dnotin ?_
  | with_reducible refine i_dnewK ?_
  | with_reducible refine i_dnewT ?_
  | with_reducible refine i_fld ?_
  | with_reducible refine i_sfld ?_
  | with_reducible refine i_bm0 ?_
  | with_reducible refine i_bm ?_
  | with_reducible refine i_sl ?_
  | with_reducible refine i_noPart ?_
  | with_reducible refine i_part ?_
  | with_reducible refine i_chain ?_
  | with_reducible refine i_methR ?_
  | with_reducible refine i_tup ?_
  | with_reducible refine i_lst ?_
  | with_reducible refine i_for ?_
  | with_reducible refine i_iList ?_
  | with_reducible refine i_iTup ?_
  | with_reducible refine i_iKeys ?_
  | with_reducible refine i_iRng1 ?_
  | with_reducible refine i_iRng2 ?_
  | with_reducible refine i_iStr ?_
  | with_reducible refine i_iEnum ?_
  | with_reducible refine i_iEnumT ?_
  | with_reducible refine i_lc ?_
  | with_reducible refine i_stD ?_
  | with_reducible refine i_iItemsT ?_
  | with_reducible refine i_dcw ?_
  | with_reducible refine i_dsetd ?_
  | with_reducible refine i_iVals ?_
  | with_reducible refine i_iItems ?_
  | with_reducible refine i_revL ?_
  | with_reducible refine i_yes ?_
  | with_reducible refine o_I0 ?_
  | with_reducible refine o_eqS ?_
  | with_reducible refine o_neS ?_
  | with_reducible refine o_eqI ?_
  | with_reducible refine o_neI ?_
  | with_reducible refine o_eqB ?_
  | with_reducible refine e_ref ?_
  | with_reducible refine e_str ?_
  | with_reducible refine e_int ?_
  | with_reducible refine e_bl ?_
  | with_reducible refine e_str1 ?_
  | with_reducible refine e_int1 ?_
  | with_reducible refine e_int2 ?_
  | with_reducible refine e_str2 ?_)))
open GM
section
variable {H H' H1 : Hp} {a b r : Addr} {h h1 : Str → Option Str} {s ps : List Str} {t g x : Str} {row : Str → List Str} {v : V} {o u : HO}
/-- everything but a and b stays -/
def Ex2 (a b : Addr) (H H' : Hp) : Prop := ∀ c o, c ≠ a → c ≠ b → H c = some o → H' c = some o
theorem Ex2.refl : Ex2 a b H H := fun _ _ _ _ h => h
theorem Ex2.trans (e : Ex2 a b H H1) (e2 : Ex2 a b H1 H') : Ex2 a b H H' := fun c o n1 n2 h => e2 c o n1 n2 (e c o n1 n2 h)
theorem Ex2.one : Ex2 a b H (upd H a o) := fun c o n1 n2 h => by rw [upd_ne n1]; exact h
theorem Ex2.two : Ex2 a b H (upd H b o) := fun c o n1 n2 h => by rw [upd_ne n2]; exact h
theorem ls_ne {l : Addr} {xs ks : List Str} {f : Str → V} (h : Ls H l xs) (ha : H a = some (sd ks f)) : l ≠ a := fun z => by
  have h : H l = _ := h
  rw [z, ha] at h
  cases h
/-- who holds whose slip -/
def HeldAt (H : Hp) (a : Addr) (h : Str → Option Str) : Prop := ∃ ks f, H a = some (sd ks f) ∧ ks.Nodup ∧ (∀ k ∈ ks, ∃ x, f k = .str x ∧ h k = some x) ∧ ∀ k, k ∉ ks → h k = none
def SeenAt (H : Hp) (a : Addr) (s : List Str) : Prop := H a = some (sd s fun _ => .bl true)
theorem HeldAt.len {ks : List Str} {f : Str → V} (nd : ks.Nodup) (hk : ∀ k ∈ ks, ∃ x, f k = .str x ∧ h k = some x) (hb : ∀ k x, h k = some x → k ∈ ps) : ks.length ≤ ps.length :=
  nd.length_le_of_subset fun k hk' => let ⟨x, _, e⟩ := hk k hk'; hb k x e
theorem held_put {p : Hp → Prop} (hh : HeldAt H a h) (hb : ∀ k x, h k = some x → k ∈ ps) (hl : ps.length ≤ 24) (q : ∀ ks f, HeldAt (upd H a (sd ks f)) a (fset h t g) → p (upd H a (sd ks f))) : ∃ a' H4, V.ref a = .ref a' ∧ DPut H a' (.str t) (.str g) H4 ∧ p H4 := by
  obtain ⟨ks, f, h1, nd, h2, h3⟩ := hh
  refine kd_put h1 (small1000 (by have := HeldAt.len nd h2 hb; omega)) (q _ _ ⟨_, _, upd_same, nd_addk nd, fun k hk => ?_, fun k hk => ?_⟩)
  · by_cases e : k = t
    · subst e
      exact ⟨g, by rw [setf_same], by rw [fset_same]⟩
    · rw [setf_ne _ _ e, fset_ne _ _ e]
      exact h2 k ((mem_addk.mp hk).resolve_right e)
  · rw [mem_addk] at hk
    rw [fset_ne _ _ fun e => hk (.inr e)]
    exact h3 k fun e => hk (.inl e)
theorem held_notin {p : Option V → Prop} (hh : HeldAt H a h) (q : ∀ o : Option V, o.isSome = (h t).isSome → p o) : ∃ a' o, V.ref a = .ref a' ∧ DGet H a' (.str t) o ∧ p o := by
  obtain ⟨ks, f, h1, nd, h2, h3⟩ := hh
  refine kd_in (.inl h1) fun o ho => q o ?_
  rw [ho]
  by_cases m : t ∈ ks
  · obtain ⟨x, _, e⟩ := h2 t m
    rw [decide_eq_true m, e]; rfl
  · rw [decide_eq_false m, h3 t m]; rfl
theorem held_get {p : V → Prop} (hh : HeldAt H a h) (ht : h t = some x) (q : p (.str x)) : ∃ a' v, V.ref a = .ref a' ∧ DGet H a' (.str t) (some v) ∧ p v := by
  obtain ⟨ks, f, h1, nd, h2, h3⟩ := hh
  have m : t ∈ ks := Classical.byContradiction fun c => by rw [h3 t c] at ht; cases ht
  obtain ⟨y, e1, e2⟩ := h2 t m
  rw [ht] at e2
  refine kd_get (.inl h1) m ?_
  rw [e1, ← Option.some.inj e2]
  exact q
theorem HeldAt.keep (hh : HeldAt H a h) (n : a ≠ b) : HeldAt (upd H b o) a h := let ⟨ks, f, h1, r⟩ := hh; ⟨ks, f, by rw [upd_ne n]; exact h1, r⟩
theorem HeldAt.at (hh : HeldAt H a h) (n : H' a = H a) : HeldAt H' a h := let ⟨ks, f, h1, r⟩ := hh; ⟨ks, f, by rw [n]; exact h1, r⟩
theorem RowsRd.ex2 (e : Ex2 a b H H') (na : r ≠ a) (nb : r ≠ b) (ha : ∃ ks f, H a = some (sd ks f)) (hb : ∃ ks f, H b = some (sd ks f)) (h : RowsRd H r ps row) : RowsRd H' r ps row := by
  obtain ⟨f, h1, h2⟩ := h
  obtain ⟨ka, fa, ha⟩ := ha
  obtain ⟨kb, fb, hb⟩ := hb
  refine ⟨f, ?_, fun k hk => ?_⟩
  · rcases h1 with z | ⟨o, z⟩
    · exact .inl (e _ _ na nb z)
    · exact .inr ⟨o, e _ _ na nb z⟩
  · obtain ⟨c, h3, h4⟩ := h2 k hk
    exact ⟨c, h3, e _ _ (ls_ne h4 ha) (ls_ne h4 hb) h4⟩
end
section
variable {P : Program} {w : World} {K : PySem.W.Frag} {mg : Str → Option Value} {base : Heap} {k j : Nat}
theorem Cal.never {x : Str} {st : Stmt} (T : At K mg x st) : Cal P w K mg base k x fun _ _ _ _ => False := by
  obtain ⟨f, fd, F, hm⟩ := T.ex
  exact ⟨f, fun A stk s H vs us Q E hr I r h => h.elim, hm, F.kp⟩
abbrev n_seek : List Str := ["rows", "giver", "held", "seen", "taker"]
theorem sc_seek : FnScope n_seek ["rows", "giver", "held", "seen"] (defScope s_seek) := ⟨rfl, rfl, rfl, by decide +kernel, rfl, by decide +kernel, by decide +kernel⟩
def spSeek : Nat → Sp := fun n vs H Q _ => ∃ r ha sa ps row h s g, vs = [.ref r, .str g, .ref ha, .ref sa] ∧ RowsRd H r ps row ∧ HeldAt H ha h ∧ SeenAt H sa s ∧ Pre ps row h s g ∧ ha ≠ sa ∧ r ≠ ha ∧ r ≠ sa ∧ ps.length ≤ s.length + n ∧ ps.length ≤ 24 ∧
  (∀ H' s', Ex2 ha sa H H' → HeldAt H' ha h → SeenAt H' sa s' → Fail ps row h s s' (row g) → Q (.bl false) H') ∧
  ∀ H' h' s', Ex2 ha sa H H' → HeldAt H' ha h' → SeenAt H' sa s' → Succ row h h' s g → (∀ t x, h' t = some x → t ∈ row x ∧ x ∈ ps) → Q (.bl true) H'
def spSeekIn : Nat → Sp
  | 0 => fun _ _ _ _ => False
  | n + 1 => spSeek n
theorem seek_step {n : Nat} (T : Txt K mg) (c_seek : Cal P w K mg base k "seek" (spSeekIn n)) : Cal P w K mg base (k + 1) "seek" (spSeek n) := by
  refine T.a_seek.ok sc_seek (fun _ _ _ _ _ _ us hl => match us, hl with | [_, _, _, _], _ => rfl) (fun vs H Q E h => ?_) (fun f cdv A outer s H vs Q E hr h => ⟨_, (pss_cons (ps_for PassesOwn.never rfl (pi_list (pe_dget (hu_of hr) (pv 0) (pv 1) (fun _ _ => rfl))) (pg_name (i := 4) sc_seek.nd rfl (Or.inl rfl)) (pss_cons (ps_if (pt_cmp (pc_din (hu_of hr) (pv 4) (pv 3))) (pss_one ps_continue) pss_nil)
      (pss_cons (ps_dput (hu_of hr) (pv 3) (pv 4) pe_bl rfl)
      (pss_one (ps_if (PW.pt (pw_or (pt_cmp (pc_dnotin (hu_of hr) (pv 4) (pv 2))) (pw_or1 (pt_val (pe_fn c_seek (hr.mono (by omega)) (pa_cons (pv 0) (pa_cons (pe_dget (hu_of hr) (pv 2) (pv 4) (fun _ _ => rfl)) (pa_cons (pv 2) (pa_cons (pv 3) pa_nil))))))))) (pss_cons (ps_dput (hu_of hr) (pv 2) (pv 4) (pv 1) rfl)
      (pss_one (ps_ret pe_bl))) pss_nil)))))
      (pss_one (ps_ret pe_bl))), ?_⟩)
  · obtain ⟨_, _, _, _, _, _, _, _, rfl, _⟩ := h; rfl
  · obtain ⟨r, ha, sa, ps, row, h, s, g, rfl, hr1, hh, hs, pre, nhs, nrh, nrs, hn, hl, q0, q1⟩ := h
    have hdict : ∀ {H1}, HeldAt H1 ha h → ∃ ks f, H1 ha = some (sd ks f) := fun z => let ⟨ks, f, z, _⟩ := z; ⟨ks, f, z⟩
    walk_at "go"
    obtain ⟨f0, hr2, hr3⟩ := hr1
    obtain ⟨l, hl1, hl2⟩ := hr3 g pre.gin
    refine kd_get hr2 pre.gin ?_
    rw [hl1]
    walk_at "go"
    have hr1 : RowsRd H r ps row := ⟨f0, hr2, hr3⟩
    have lh : l ≠ ha := let ⟨_, _, e⟩ := hdict hh; ls_ne hl2 e
    have ls : l ≠ sa := ls_ne hl2 hs
    refine forL hl2 (fun i σ H1 => (∃ o, σ = [some (.ref r), some (.str g), some (.ref ha), some (.ref sa), o]) ∧ Ex2 ha sa H H1 ∧ HeldAt H1 ha h ∧ ∃ s1, SeenAt H1 sa s1 ∧ Fail ps row h s s1 ((row g).take i)) ⟨⟨_, rfl⟩, Ex2.refl, hh, s, hs, Fail.start pre⟩ (fun i σ H1 _ z => SqL.of (z.2.1 _ _ lh ls hl2)) (fun i v σ H1 hv z => ?_) (fun σ H1 z => ?_)
    · obtain ⟨⟨o, rfl⟩, e1, hh1, s1, hs1, fl⟩ := z
      obtain ⟨t, ht, rfl⟩ := map_get hv
      have htm := List.mem_of_getElem? ht
      have htp := pre.dom g pre.gin t htm
      walk_at "go"
      refine kd_in (.inl hs1) fun o' ho => ?_
      rw [ho]
      walk_at "go"
      refine br_d (fun hm => ?_) fun hm => ?_
      · walk_at "go"
        exact ⟨⟨_, rfl⟩, e1, hh1, s1, hs1, by rw [take_snoc ht]; exact fl.seen hm⟩
      · walk_at "go"
        have hs1l : s1.length < ps.length := by
          have := (GM.nodup_snoc fl.nd hm).length_le_of_subset (l₂ := ps) fun y hy => by
            rcases GM.mem_snoc.mp hy with z | z
            · exact fl.inU y z
            · rw [z]; exact htp
          rw [List.length_append, List.length_singleton] at this
          omega
        refine kd_put hs1 (small1000 (by omega)) ?_
        rw [addk_new hm, show setf (fun _ => V.bl true) t (.bl true) = fun _ => V.bl true by funext y; unfold setf; split <;> rfl]
        have hs2 : SeenAt (upd H1 sa (sd (s1 ++ [t]) fun _ => .bl true)) sa (s1 ++ [t]) := upd_same
        have hh2 : HeldAt (upd H1 sa (sd (s1 ++ [t]) fun _ => .bl true)) ha h := hh1.keep nhs
        have e2 : Ex2 ha sa H (upd H1 sa (sd (s1 ++ [t]) fun _ => .bl true)) := e1.trans Ex2.two
        generalize upd H1 sa (sd (s1 ++ [t]) fun _ => .bl true) = H2 at hs2 hh2 e2
        walk_at "go"
        refine held_notin hh2 fun o' ho => ?_
        rw [ho]
        have hb : ∀ {h' : Str → Option Str}, (∀ t x, h' t = some x → t ∈ row x ∧ x ∈ ps) → ∀ k x, h' k = some x → k ∈ ps := fun ok k x e => pre.dom x (ok k x e).2 k (ok k x e).1
        cases hht : h t with
        | none =>
          rw [show (!(none : Option Str).isSome) = true from rfl]
          walk_at "go"
          refine held_put hh2 (hb pre.ok) hl fun ks f hh3 => ?_
          walk_at "go"
          exact q1 _ _ _ (e2.trans Ex2.one) hh3 (show upd H2 ha _ sa = _ by rw [upd_ne (Ne.symm nhs)]; exact hs2) (Succ.free pre fl hm hht) (Succ.ok_free pre htm)
        | some g' =>
          rw [show (!(some g' : Option Str).isSome) = false from rfl]
          walk_at "go"
          refine held_get hh2 hht ?_
          walk_at "go"
          cases n with
          | zero =>
            have := (pre.nd).length_le_of_subset fl.sub
            omega
          | succ n =>
            have := (pre.nd).length_le_of_subset fl.sub
            refine ⟨r, ha, sa, ps, row, h, s1 ++ [t], g', rfl, hr1.ex2 e2 nrh nrs (hdict hh) ⟨_, _, hs⟩, hh2, hs2, pre.inner fl hm hht htp, nhs, nrh, nrs, by rw [List.length_append, List.length_singleton]; omega, hl, fun H3 s3 e3 hh3 hs3 f3 => ?_, fun H3 h3 s3 e3 hh3 hs3 r3 ok3 => ?_⟩
            · walk_at "go"
              refine ⟨⟨_, rfl⟩, e2.trans e3, hh3, s3, hs3, ?_⟩
              rw [take_snoc ht]
              exact fl.inner hht f3
            · walk_at "go"
              refine held_put hh3 (hb ok3) hl fun ks f hh4 => ?_
              walk_at "go"
              exact q1 _ _ _ ((e2.trans e3).trans Ex2.one) hh4 (show upd H3 ha _ sa = _ by rw [upd_ne (Ne.symm nhs)]; exact hs3) (Succ.inner pre fl hm hht r3) (Succ.ok_inner pre htm ok3)
    · obtain ⟨⟨o, rfl⟩, e1, hh1, s1, hs1, fl⟩ := z
      rw [List.length_map, List.take_length] at fl
      walk_at "go"
      exact q0 _ _ e1 hh1 hs1 fl
theorem c_seek (T : Txt K mg) : ∀ n : Nat, Cal P w K mg base (n + 1) "seek" (spSeek n)
  | 0 => seek_step T (Cal.never T.a_seek)
  | n + 1 => seek_step T (c_seek T n)
end
end GR
end
section
set_option Elab.async false
set_option linter.all false
set_option maxRecDepth 100000
set_option maxHeartbeats 4000000
set_option autoImplicit false
namespace GR
open PySem PySem.Spec L2
open Evl (Ex)
local macro_rules | `(tactic| walk_at "go") => `(tactic| (repeat (first
  | with_reducible refine i_seq ?_
  | ((with_reducible apply i_var); focus rfl)
  | with_reducible refine i_c ?_
  | with_reducible refine i_cons ?_
  | with_reducible refine i_nil ?_
  | with_reducible refine i_asg ?_
  | with_reducible refine i_name ?_
  | with_reducible refine i_op ?_
  | with_reducible refine i_cb ?_
  | with_reducible refine i_fn ?_
  | with_reducible refine i_ret ?_
  | with_reducible refine i_retN ?_
  | with_reducible refine i_drop ?_
  | with_reducible refine i_next ?_
  | with_reducible refine i_cont ?_
  | with_reducible refine i_break ?_
  | with_reducible refine i_if ?_
  | with_reducible refine br_t ?_
  | with_reducible refine br_f ?_
  | with_reducible refine br_nt ?_
  | with_reducible refine io_t ?_
  | with_reducible refine io_f ?_
  | with_reducible refine io_nt ?_
  | with_reducible refine io_nf ?_
  | with_reducible refine br_nf ?_
  | with_reducible refine o_ip ?_
  | with_reducible refine i_test ?_
  | with_reducible refine i_tB ?_
  | with_reducible refine i_not ?_
  | with_reducible refine i_notV ?_
  | with_reducible refine i_andV ?_
  | with_reducible refine i_orV ?_
  | with_reducible refine i_and ?_
  | with_reducible refine i_or ?_
  | with_reducible refine i_dput ?_
  | with_reducible refine i_dget ?_
  | with_reducible refine i_din ?_
  | with_reducible refine i_dnotin ?_
  | with_reducible refine i_dnewK ?_
  | with_reducible refine i_dnewT ?_
  | with_reducible refine i_fld ?_
  | with_reducible refine i_sfld ?_
  | with_reducible refine i_bm0 ?_
  | with_reducible refine i_bm ?_
  | with_reducible refine i_sl ?_
  | with_reducible refine i_noPart ?_
  | with_reducible refine i_part ?_
  | with_reducible refine i_chain ?_
  | with_reducible refine i_methR ?_
  | with_reducible refine i_tup ?_
  | with_reducible refine i_lst ?_
  | with_reducible refine i_for ?_
  | with_reducible refine i_iList ?_
  | with_reducible refine i_iTup ?_
  | with_reducible refine i_iKeys ?_
  | with_reducible refine i_iRng1 ?_
  | with_reducible refine i_iRng2 ?_
  | with_reducible refine i_iStr ?_
  | with_reducible refine i_iEnum ?_
  | with_reducible refine i_iEnumT ?_
  | with_reducible refine i_lc ?_
  | with_reducible refine i_stD ?_
  | with_reducible refine i_iItemsT ?_
  | with_reducible refine i_dcw ?_
  | with_reducible refine i_dsetd ?_
  | with_reducible refine i_iVals ?_
  | with_reducible refine i_iItems ?_
  | with_reducible refine i_revL ?_
  | with_reducible refine i_yes ?_
  | with_reducible refine o_I0 ?_
  | with_reducible refine o_eqS ?_
  | with_reducible refine o_neS ?_
  | with_reducible refine o_eqI ?_
  | with_reducible refine o_neI ?_
  | with_reducible refine o_eqB ?_
  | with_reducible refine e_ref ?_
  | with_reducible refine e_str ?_
  | with_reducible refine e_int ?_
  | with_reducible refine e_bl ?_
  | with_reducible refine e_str1 ?_
  | with_reducible refine e_int1 ?_
  | with_reducible refine e_int2 ?_
  | with_reducible refine e_str2 ?_)))
section
variable {H H' H1 L B : Hp} {a b r l D : Addr} {h h1 : Str → Option Str} {s ps : List Str} {t g x : Str} {row : Str → List Str} {v : V} {o u : HO} {Q : VK} {K : PySem.W.Frag} {xs : List V}
theorem ty_l (h : H l = some (.lst xs)) : tyV K "list" (.ref l) H := .inl ⟨rfl, _, SqL.of h⟩
theorem i_app (h : H l = some (.lst xs)) (hz : xs.length < sizeLine) (q : Q .non (upd H l (.lst (xs ++ [v])))) : rAppend (.ref l) [v] H Q := ⟨l, xs, v, rfl, rfl, h, hz, q⟩
theorem i_pop (h : H l = some (.lst (xs ++ [v]))) (q : Q v (upd H l (.lst xs))) : rPop (.ref l) [] H Q := ⟨l, xs ++ [v], v, rfl, rfl, h, by simp, by rw [List.dropLast_concat]; exact q⟩
theorem i_truL {N : Bool → Prop} (h : H l = some (.lst xs)) (q : N (!xs.isEmpty)) : ∃ k, TruV K (.ref l) H k ∧ N k := ⟨_, .inl ⟨_, SqL.of h, rfl⟩, q⟩
theorem Ex2.ex (e : Ex2 a b H H1) (i : Ex L H) (ha : L a = none) (hb : L b = none) : Ex L H1 := fun c o h => e c o (fun z => by rw [z, ha] at h; cases h) (fun z => by rw [z, hb] at h; cases h) (i c o h)
/-- the dict is locked, all else stays: names -/
theorem Ls.lock {od : Obj} {ks : List Str} {f : Str → V} {c : Addr} {ys : List Str} (hr : H r = some (sd ks f)) (h : Ls H c ys) : Ls (upd H r (.frz od (sd ks f))) c ys := upd_keep h hr fun e => nomatch e
theorem RowsAt.lock {od : Obj} {f : Str → V} (hr : H r = some (sd ps f)) (hv : RowsV H ps f row) : RowsRd (upd H r (.frz od (sd ps f))) r ps row := ⟨f, .inr ⟨od, upd_same⟩, fun k hk => let ⟨c, h1, h2⟩ := hv k hk; ⟨c, h1, h2.lock hr⟩⟩
end
section
variable {P : Program} {w : World} {K : PySem.W.Frag} {mg : Str → Option Value} {base : Heap} {k j : Nat}
abbrev n_owners_of : List Str := ["pairing", "giver"]
theorem sc_owners_of : FnScope n_owners_of ["pairing"] (defScope s_owners_of) := ⟨rfl, rfl, rfl, by decide +kernel, rfl, by decide +kernel, by decide +kernel⟩
def spOwners : Sp := fun vs H Q _ => ∃ a ps, ∃ m : Str → Str, vs = [.ref a] ∧ H a = some (sd ps fun g => .str (m g)) ∧ ps.length ≤ 24 ∧ (∀ g ∈ ps, ∀ g' ∈ ps, m g = m g' → g = g') ∧
  ∀ p H' ks f, Ex H H' → H p = none → H' p = some (sd ks f) → (∀ g ∈ ps, m g ∈ ks ∧ f (m g) = .str g) → Q (.ref p) H'
theorem c_owners_of (T : Txt K mg) : Cal P w K mg base (k + 1) "owners_of" spOwners := by
  refine T.a_owners_of.ok sc_owners_of (fun _ _ _ _ _ _ us hl => match us, hl with | [_], _ => rfl) (fun vs H Q E h => ?_) (fun f cdv A outer s H vs Q E hr h => ⟨_, (pss_one (ps_ret (pe_lock (pe_dcW (own := [("giver", 1)]) (.inl rfl) rfl sc_owners_of.nd (hu_of hr) (pi_keys (pv 0)) (blkOk_by (own := [("giver", 1)]) (N := n_owners_of) (sc := defScope s_owners_of) (by decide +kernel)) (fun _ _ _ _ _ => (pg_name (i := 1) sc_owners_of.nd rfl (Or.inl rfl))) (fun _ _ _ _ _ => pts_nil) (fun _ _ _ _ _ => (pe_dget (hu_of hr) (pv 0) (pv 1) (fun _ _ => rfl))) (fun _ _ _ _ _ => (pv 1)))))), ?_⟩)
  · obtain ⟨_, _, _, rfl, _⟩ := h; rfl
  · obtain ⟨a, ps, m, rfl, ha, hl, inj, q⟩ := h
    walk_at "go"
    refine i_lockE ha trivial fun od => ?_
    walk_at "go"
    refine ⟨a, od, rfl, .inl ⟨_, upd_same, ?_⟩⟩
    refine dcX walkK (by omega) (fun D i B ks f => ∀ g ∈ ps.take i, m g ∈ ks ∧ f (m g) = .str g) (fun D hD g hg => by simp at hg) (fun D i B ks f e hB _ => ex_in e hB _ _ upd_same) (fun D i v B H2 ks f N hi e hB s y k1 k2 => ?_) fun D B ks f hD e hB s => ?_
    · obtain ⟨rfl, g, hg, rfl⟩ := y
      have hgm := List.mem_of_getElem? hg
      have ei := ex_in (o := sd ks f) e hB
      walk_at "go"
      refine ⟨rfl, ?_⟩
      walk_at "go"
      refine kd_get (.inr ⟨od, ei _ _ upd_same⟩) hgm ?_
      walk_at "go"
      refine k2 (m g) (.str g) _ (Ex.refl _) fun g' hg' => ?_
      rw [take_snoc hg] at hg'
      rcases List.mem_append.mp hg' with z | z
      · by_cases e2 : m g' = m g
        · have := inj g' (List.mem_of_mem_take z) g hgm e2
          subst this
          exact ⟨mem_addk.mpr (.inr rfl), setf_same ..⟩
        · exact ⟨mem_addk.mpr (.inl (s g' z).1), by rw [setf_ne _ _ e2]; exact (s g' z).2⟩
      · rw [List.mem_singleton.mp z]
        exact ⟨mem_addk.mpr (.inr rfl), setf_same ..⟩
    · rw [List.take_length] at s
      have ei := ex_in (o := sd ks f) e hB
      have hDa : D ≠ a := fun z => by rw [z, upd_same] at hD; cases hD
      exact ⟨ei _ _ upd_same, q D _ ks f (ex_unlock ha ei) (by rw [upd_ne hDa] at hD; exact hD) (upd_some hDa upd_same) s⟩
abbrev n_reached : List Str := ["rows", "owners", "start", "found", "waiting", "giver", "taker", "owner"]
theorem sc_reached : FnScope n_reached ["rows", "owners", "start"] (defScope s_reached) := ⟨rfl, rfl, rfl, by decide +kernel, rfl, by decide +kernel, by decide +kernel⟩
def spReached : Sp := fun vs H Q _ => ∃ r a ps row ks f, ∃ o : Str → Str, ∃ st, vs = [.ref r, .ref a, .str st] ∧ RowsRd H r ps row ∧ Rd H a (sd ks f) ∧ ps.Nodup ∧ ps.length ≤ 24 ∧ (∀ x ∈ ps, ∀ t ∈ row x, t ∈ ps) ∧ (∀ t ∈ ps, t ∈ ks ∧ f t = .str (o t) ∧ o t ∈ ps) ∧ st ∈ ps ∧
  ∀ p H' fs, Ex H H' → H p = none → H' p = some (sd fs fun _ => .bl true) → (∀ x, x ∈ fs ↔ GM.Reach row o st x) → Q (.ref p) H'
theorem c_reached (T : Txt K mg) : Cal P w K mg base (k + 1) "reached" spReached := by
  refine T.a_reached.ok sc_reached (fun _ _ _ _ _ _ us hl => match us, hl with | [_, _, _], _ => rfl) (fun vs H Q E h => ?_) (fun f cdv A outer s H vs Q E hr h => ⟨_, (pss_cons (ps_set (i := 3) sc_reached.nd rfl (Or.inl rfl) (pe_disp (pps_cons (pv 2) pe_bl pps_nil) (by rfl) (by rfl) (fun z => by cases z) (by decide)))
      (pss_cons (ps_set (i := 4) sc_reached.nd rfl (Or.inl rfl) (pe_lst (pa_cons (pv 2) pa_nil)))
      (pss_cons (ps_while PassesOwn.never (pt_truth (pv 4) (by intro _; rfl)) (pss_cons (ps_set (i := 5) sc_reached.nd rfl (Or.inl rfl) (pe_bm0 PySem.F.plainAttrs_list PySem.F.slot_list_pop PySem.F.type_list_pop mt_pop (pv 4)))
      (pss_one (ps_for PassesOwn.never rfl (pi_list (pe_dget (hu_of hr) (pv 0) (pv 5) (fun _ _ => rfl))) (pg_name (i := 6) sc_reached.nd rfl (Or.inl rfl)) (pss_cons (ps_set (i := 7) sc_reached.nd rfl (Or.inl rfl) (pe_dget (hu_of hr) (pv 1) (pv 6) (fun _ _ => rfl)))
      (pss_one (ps_if (pt_cmp (pc_dnotin (hu_of hr) (pv 7) (pv 3))) (pss_cons (ps_dput (hu_of hr) (pv 3) (pv 7) pe_bl rfl)
      (pss_one (ps_expr (pe_bm PySem.F.plainAttrs_list PySem.F.slot_list_append PySem.F.type_list_append mt_append (pv 4) (pa_cons (pv 7) pa_nil))))) pss_nil)))))))
      (pss_one (ps_ret (pv 3)))))), ?_⟩)
  · obtain ⟨_, _, _, _, _, _, _, _, rfl, _⟩ := h; rfl
  · obtain ⟨r, a, ps, row, ks, f, o, st, rfl, hr1, ha, nd, hl, dom, ho, hst, q⟩ := h
    walk_at "go"
    intro p hp
    show tPairs _ _ _ _
    refine i_var rfl ?_
    refine i_c ?_
    show (upd H p (.dK [])) p = _ ∧ _
    refine ⟨upd_same, [(.inr st, .bl true)], rfl, by show 1 ≤ 15; decide, ?_⟩
    rw [upd_upd]
    have e0 : Ex H (upd H p (sd [st] fun _ => .bl true)) := Ex.new hp
    show gName 3 _ _ (upd H p (sd [st] fun _ => .bl true)) _
    generalize hH0 : upd H p (sd [st] fun _ => .bl true) = H0 at e0
    have hp0 : H0 p = some (sd [st] fun _ => .bl true) := by rw [← hH0]; exact upd_same
    walk_at "go"
    refine ⟨by show 1 ≤ sizeLine; decide, fun l hl0 => ?_⟩
    walk_at "go"
    have hlH : H l = none := ex_none e0 hl0
    have hlp : l ≠ p := ne_new hl0 hp0
    refine i_while (fun c σ H1 => ∃ o5 o6 o7 fs ws, σ = [some (.ref r), some (.ref a), some (.str st), some (.ref p), some (.ref l), o5, o6, o7] ∧ Ex H H1 ∧ H1 p = some (sd fs fun _ => .bl true) ∧ Ls H1 l ws ∧
      fs.Nodup ∧ (∀ x ∈ fs, x ∈ ps ∧ GM.Reach row o st x) ∧ (∀ x ∈ ws, x ∈ fs) ∧ st ∈ fs ∧ (∀ x ∈ fs, x ∉ ws → ∀ t ∈ row x, o t ∈ fs) ∧ c = 2 * (ps.length - fs.length) + ws.length ∧ c ≤ 48) (2 * (ps.length - 1) + 1)
      ⟨_, _, _, [st], [st], rfl, Ex.mut e0 hlH, upd_some (Ne.symm hlp) hp0, upd_same, by simp, fun x hx => by rw [List.mem_singleton.mp hx]; exact ⟨hst, .refl⟩, fun x hx => hx, by simp, fun x hx hn => absurd hx hn, rfl, by omega⟩ ?_
    rintro c σ H1 ⟨o5, o6, o7, fs, ws, rfl, e1, hp1, hl1, ndf, hf, hw, hsf, cl, rfl, hmz⟩
    walk_at "go"
    refine i_truL hl1 ?_
    rcases List.eq_nil_or_concat ws with rfl | ⟨ws', x, rfl⟩
    · show if (!(([] : List Str).map V.str).isEmpty) = true then _ else _
      rw [if_neg (by decide)]
      walk_at "go"
      refine q p H1 fs e1 hp hp1 fun x => ⟨fun hx => (hf x hx).2, fun hx => ?_⟩
      induction hx with
      | refl => exact hsf
      | step _ ht ih => exact cl _ ih (by simp) _ ht
    · rw [List.concat_eq_append] at *
      rw [show (!((ws' ++ [x]).map V.str).isEmpty) = true by simp, if_pos rfl]
      have hl1' : H1 l = some (.lst (ws'.map V.str ++ [.str x])) := by rw [hl1, List.map_append]; rfl
      refine ⟨fun σ' H' => ∃ o5 o6 o7 fs' ws'', σ' = [some (.ref r), some (.ref a), some (.str st), some (.ref p), some (.ref l), o5, o6, o7] ∧ Ex H H' ∧ H' p = some (sd fs' fun _ => .bl true) ∧ Ls H' l ws'' ∧
        fs'.Nodup ∧ (∀ x ∈ fs', x ∈ ps ∧ GM.Reach row o st x) ∧ (∀ x ∈ ws'', x ∈ fs') ∧ st ∈ fs' ∧ (∀ x ∈ fs', x ∉ ws'' → ∀ t ∈ row x, o t ∈ fs') ∧ 2 * (ps.length - fs'.length) + ws''.length + 1 ≤ 2 * (ps.length - fs.length) + (ws' ++ [x]).length, ?_, ?_⟩
      · rintro σ' H' ⟨o5, o6, o7, fs', ws'', z1, z2, z3, z4, z5, z6, z7, z8, z9, z10⟩
        exact ⟨_, by omega, o5, o6, o7, fs', ws'', z1, z2, z3, z4, z5, z6, z7, z8, z9, rfl, by omega⟩
      walk_at "go"
      refine ⟨ty_l hl1', ?_⟩
      refine i_pop hl1' ?_
      walk_at "go"
      have hx := hf x (hw x (by simp))
      have e2 : Ex H (upd H1 l (.lst (ws'.map V.str))) := Ex.mut e1 hlH
      have hp2 : upd H1 l (.lst (ws'.map V.str)) p = some (sd fs fun _ => .bl true) := upd_some (Ne.symm hlp) hp1
      obtain ⟨f0, hr2, hr3⟩ := hr1
      obtain ⟨lx, hlx1, hlx2⟩ := hr3 x hx.1
      have hlxl : lx ≠ l := fun z => by rw [z] at hlx2; rw [show H l = _ from hlx2] at hlH; cases hlH
      refine kd_get (rd_ex e2 hr2) hx.1 ?_
      rw [hlx1]
      walk_at "go"
      refine forL (e2 _ _ hlx2) (fun i σ H3 => ∃ o6 o7 fs' ws'', σ = [some (.ref r), some (.ref a), some (.str st), some (.ref p), some (.ref l), some (.str x), o6, o7] ∧ Ex H H3 ∧ H3 p = some (sd fs' fun _ => .bl true) ∧ Ls H3 l ws'' ∧
        fs'.Nodup ∧ (∀ x ∈ fs', x ∈ ps ∧ GM.Reach row o st x) ∧ (∀ x ∈ ws'', x ∈ fs') ∧ st ∈ fs' ∧ x ∈ fs' ∧ (∀ y ∈ fs', y ∉ ws'' → y ≠ x → ∀ t ∈ row y, o t ∈ fs') ∧ (∀ t ∈ (row x).take i, o t ∈ fs') ∧ 2 * (ps.length - fs'.length) + ws''.length ≤ 2 * (ps.length - fs.length) + ws'.length)
        ⟨_, _, fs, ws', rfl, e2, hp2, upd_same, ndf, hf, fun y hy => hw y (by simp [hy]), hsf, hw x (by simp), fun y hy hn nx => cl y hy (by simp [hn, nx]), by simp, Nat.le_refl _⟩ (fun i σ H3 _ z => by obtain ⟨_, _, _, _, _, e, _⟩ := z; exact SqL.of (e _ _ hlx2)) (fun i v σ H3 hv z => ?_) (fun σ H3 z => ?_)
      · obtain ⟨o6, o7, fs', ws'', rfl, e3, hp3, hl3, nd3, hf3, hw3, hs3, hx3, cl3, pre3, meas⟩ := z
        obtain ⟨t, ht, rfl⟩ := map_get hv
        have htm := List.mem_of_getElem? ht
        have htp := dom x hx.1 t htm
        obtain ⟨h1, h2, h3⟩ := ho t htp
        walk_at "go"
        refine kd_get (rd_ex e3 ha) h1 ?_
        rw [h2]
        walk_at "go"
        refine kd_in (.inl hp3) fun o' ho' => ?_
        rw [ho']
        walk_at "go"
        refine br_nd (fun hn => ?_) fun hm => ?_
        · walk_at "go"
          have hlen : fs'.length < ps.length := by
            have := (nodup_snoc_iff.mpr ⟨nd3, hn⟩).length_le_of_subset (l₂ := ps) fun y hy => by
              rcases List.mem_append.mp hy with z | z
              · exact (hf3 y z).1
              · rw [List.mem_singleton.mp z]; exact h3
            rw [List.length_append, List.length_singleton] at this
            omega
          refine kd_put hp3 (small1000 (by omega)) ?_
          rw [addk_new hn, show setf (fun _ => V.bl true) (o t) (.bl true) = fun _ => V.bl true by funext y; unfold setf; split <;> rfl]
          walk_at "go"
          have hl4 : upd H3 p (sd (fs' ++ [o t]) fun _ => .bl true) l = some (.lst (ws''.map V.str)) := upd_some hlp hl3
          refine ⟨ty_l hl4, ?_⟩
          walk_at "go"
          have wsl : ws''.length < sizeLine := small1000 (by rw [List.length_append, List.length_singleton] at hmz; omega)
          refine i_app hl4 (by rw [List.length_map]; exact wsl) ?_
          walk_at "go"
          refine ⟨_, _, fs' ++ [o t], ws'' ++ [o t], rfl, Ex.mut (Ex.mut e3 hp) hlH, upd_some (Ne.symm hlp) upd_same, ?_, nodup_snoc_iff.mpr ⟨nd3, hn⟩, fun y hy => ?_, fun y hy => ?_, by simp [hs3], by simp [hx3], fun y hy hny nx t' ht' => ?_, fun t' ht' => ?_, ?_⟩
          · show _ = _
            rw [upd_same, List.map_append]
            rfl
          · rcases List.mem_append.mp hy with z | z
            · exact hf3 y z
            · rw [List.mem_singleton.mp z]; exact ⟨h3, .step hx.2 htm⟩
          · rcases List.mem_append.mp hy with z | z
            · exact List.mem_append_left _ (hw3 y z)
            · exact List.mem_append_right _ z
          · rcases List.mem_append.mp hy with z | z
            · exact List.mem_append_left _ (cl3 y z (fun c => hny (List.mem_append_left _ c)) nx t' ht')
            · exact absurd (List.mem_append_right _ z) hny
          · rw [take_snoc ht] at ht'
            rcases List.mem_append.mp ht' with z | z
            · exact List.mem_append_left _ (pre3 t' z)
            · rw [List.mem_singleton.mp z]; simp
          · rw [List.length_append, List.length_append, List.length_singleton]; omega
        · walk_at "go"
          refine ⟨_, _, fs', ws'', rfl, e3, hp3, hl3, nd3, hf3, hw3, hs3, hx3, cl3, fun t' ht' => ?_, meas⟩
          rw [take_snoc ht] at ht'
          rcases List.mem_append.mp ht' with z | z
          · exact pre3 t' z
          · rw [List.mem_singleton.mp z]; exact hm
      · obtain ⟨o6, o7, fs', ws'', rfl, e3, hp3, hl3, nd3, hf3, hw3, hs3, hx3, cl3, pre3, meas⟩ := z
        rw [List.length_map, List.take_length] at pre3
        refine ⟨_, _, _, fs', ws'', rfl, e3, hp3, hl3, nd3, hf3, hw3, hs3, fun y hy hn => ?_, by rw [List.length_append, List.length_singleton]; omega⟩
        by_cases e : y = x
        · rw [e]; exact pre3
        · exact cl3 y hy hn e
end
end GR
end
section
set_option Elab.async false
set_option linter.all false
set_option maxRecDepth 100000
set_option maxHeartbeats 4000000
set_option autoImplicit false
namespace GR
open PySem PySem.Spec L2
open Evl (Ex)
local macro_rules | `(tactic| walk_at "go") => `(tactic| (repeat (first
  | with_reducible refine i_seq ?_
  | ((with_reducible apply i_var); focus rfl)
  | with_reducible refine i_c ?_
  | with_reducible refine i_cons ?_
  | with_reducible refine i_nil ?_
  | with_reducible refine i_asg ?_
  | with_reducible refine i_name ?_
  | with_reducible refine i_op ?_
  | with_reducible refine i_cb ?_
  | with_reducible refine i_fn ?_
  | with_reducible refine i_ret ?_
  | with_reducible refine i_retN ?_
  | with_reducible refine i_drop ?_
  | with_reducible refine i_next ?_
  | with_reducible refine i_cont ?_
  | with_reducible refine i_break ?_
  | with_reducible refine i_if ?_
  | with_reducible refine br_t ?_
  | with_reducible refine br_f ?_
  | with_reducible refine br_nt ?_
  | with_reducible refine io_t ?_
  | with_reducible refine io_f ?_
  | with_reducible refine io_nt ?_
  | with_reducible refine io_nf ?_
  | with_reducible refine br_nf ?_
  | with_reducible refine o_ip ?_
  | with_reducible refine i_test ?_
  | with_reducible refine i_tB ?_
  | with_reducible refine i_not ?_
  | with_reducible refine i_notV ?_
  | with_reducible refine i_andV ?_
  | with_reducible refine i_orV ?_
  | with_reducible refine i_and ?_
  | with_reducible refine i_or ?_
  | with_reducible refine i_dput ?_
  | with_reducible refine i_dget ?_
  | with_reducible refine i_din ?_
  | with_reducible refine i_dnotin ?_
  | with_reducible refine i_dnewK ?_
  | with_reducible refine i_dnewT ?_
  | with_reducible refine i_fld ?_
  | with_reducible refine i_sfld ?_
  | with_reducible refine i_bm0 ?_
  | with_reducible refine i_bm ?_
  | with_reducible refine i_sl ?_
  | with_reducible refine i_noPart ?_
  | with_reducible refine i_part ?_
  | with_reducible refine i_chain ?_
  | with_reducible refine i_methR ?_
  | with_reducible refine i_tup ?_
  | with_reducible refine i_lst ?_
  | with_reducible refine i_for ?_
  | with_reducible refine i_iList ?_
  | with_reducible refine i_iTup ?_
  | with_reducible refine i_iKeys ?_
  | with_reducible refine i_iRng1 ?_
  | with_reducible refine i_iRng2 ?_
  | with_reducible refine i_iStr ?_
  | with_reducible refine i_iEnum ?_
  | with_reducible refine i_iEnumT ?_
  | with_reducible refine i_lc ?_
  | with_reducible refine i_stD ?_
  | with_reducible refine i_iItemsT ?_
  | with_reducible refine i_dcw ?_
  | with_reducible refine i_dsetd ?_
  | with_reducible refine i_iVals ?_
  | with_reducible refine i_iItems ?_
  | with_reducible refine i_revL ?_
  | with_reducible refine i_yes ?_
  | with_reducible refine o_I0 ?_
  | with_reducible refine o_eqS ?_
  | with_reducible refine o_neS ?_
  | with_reducible refine o_eqI ?_
  | with_reducible refine o_neI ?_
  | with_reducible refine o_eqB ?_
  | with_reducible refine e_ref ?_
  | with_reducible refine e_str ?_
  | with_reducible refine e_int ?_
  | with_reducible refine e_bl ?_
  | with_reducible refine e_str1 ?_
  | with_reducible refine e_int1 ?_
  | with_reducible refine e_int2 ?_
  | with_reducible refine e_str2 ?_)))
open GM
/-- some whole choice has the giver give to the taker -/
def poss (ps : List Str) (row : Str → List Str) (g t : Str) : Prop := ∃ d, IsDraw ps row d ∧ d g = t
open Classical in
noncomputable def tbl (ps : List Str) (row : Str → List Str) (g : Str) : List Str := (row g).filter fun t => decide (poss ps row g t)
theorem upd_comm {H : Hp} {a b : Addr} {o u : HO} (n : a ≠ b) : upd (upd H a o) b u = upd (upd H b u) a o := by
  funext c
  unfold upd
  by_cases e1 : c = a <;> by_cases e2 : c = b <;> simp [e1, e2]
  all_goals (first | (subst e1; simp [n]) | (subst e2; simp [Ne.symm n]) | skip)
  all_goals (first | exact fun z => absurd z n | exact fun z => absurd z (Ne.symm n) | skip)
theorem ex_lock {L H : Hp} {r : Addr} {u w : HO} (hr : H r = some u) (e : Ex (upd H r w) L) : L r = some w := e _ _ upd_same
section
variable {P : Program} {w : World} {K : PySem.W.Frag} {mg : Str → Option Value} {base : Heap} {k j : Nat}
abbrev n_paired : List Str := ["rows", "held", "giver", "takers", "taker"]
theorem sc_paired : FnScope n_paired ["rows"] (defScope s_paired) := ⟨rfl, rfl, rfl, by decide +kernel, rfl, by decide +kernel, by decide +kernel⟩
def spPaired : Sp := fun vs H Q _ => ∃ r ps row, vs = [.ref r] ∧ RowsAt H r ps row ∧ ps.Nodup ∧ ps.length ≤ 7 ∧ (∀ x ∈ ps, ∀ t ∈ row x, t ∈ ps) ∧ (∀ H', Ex H H' → (∀ d, ¬ IsDraw ps row d) → Q .non H') ∧
  ∀ p H', ∀ m : Str → Str, Ex H H' → H' p = some (sd ps fun g => .str (m g)) → IsDraw ps row m → Q (.ref p) H'
theorem c_paired (T : Txt K mg) (c_seek : Cal P w K mg base k "seek" (spSeek 7)) : Cal P w K mg base (k + 1) "paired" spPaired := by
  refine T.a_paired.ok sc_paired (fun _ _ _ _ _ _ us hl => match us, hl with | [_], _ => rfl) (fun vs H Q E h => ?_) (fun f cdv A outer s H vs Q E hr h => ⟨_, (pss_cons (ps_set (i := 1) sc_paired.nd rfl (Or.inr rfl) pe_dnewK)
      (pss_cons (ps_lock (ps_for PassesOwn.never rfl (pi_keys (pv 0)) (pg_name (i := 2) sc_paired.nd rfl (Or.inl rfl)) (pss_one (ps_if (pt_not (pt_val (pe_fn c_seek (hr.mono (by omega)) (pa_cons (pv 0) (pa_cons (pv 2) (pa_cons (pv 1) (pa_cons pe_dnewK pa_nil))))))) (pss_one (ps_ret pe_non)) pss_nil))))
      (pss_cons (ps_set (i := 3) sc_paired.nd rfl (Or.inr rfl) (pe_lock (pe_dcW (own := [("taker", 4)]) (.inl rfl) rfl sc_paired.nd (hu_of hr) (pi_keys (pv 1)) (blkOk_by (own := [("taker", 4)]) (N := n_paired) (sc := defScope s_paired) (by decide +kernel)) (fun _ _ _ _ _ => (pg_name (i := 4) sc_paired.nd rfl (Or.inl rfl))) (fun _ _ _ _ _ => pts_nil) (fun _ _ _ _ _ => (pe_dget (hu_of hr) (pv 1) (pv 4) (fun _ _ => rfl))) (fun _ _ _ _ _ => (pv 4)))))
      (pss_one (ps_ret (pe_lock (pe_dcW (own := [("giver", 2)]) (.inl rfl) rfl sc_paired.nd (hu_of hr) (pi_keys (pv 0)) (blkOk_by (own := [("giver", 2)]) (N := n_paired) (sc := defScope s_paired) (by decide +kernel)) (fun _ _ _ _ _ => (pg_name (i := 2) sc_paired.nd rfl (Or.inl rfl))) (fun _ _ _ _ _ => pts_nil) (fun _ _ _ _ _ => (pv 2)) (fun _ _ _ _ _ => (pe_dget (hu_of hr) (pv 3) (pv 2) (fun _ _ => rfl)))))))))), ?_⟩)
  · obtain ⟨_, _, _, rfl, _⟩ := h; rfl
  · obtain ⟨r, ps, row, rfl, ⟨fr, hr1, hr2⟩, nd, hl, dom, q0, q1⟩ := h
    walk_at "go"
    intro d hd
    walk_at "go"
    have hrd : r ≠ d := fun z => by rw [z, hd] at hr1; cases hr1
    have hr1' : upd H d (.dK []) r = some (sd ps fr) := by rw [upd_ne hrd]; exact hr1
    refine i_lock hr1' trivial fun od => ?_
    -- the heap with the rows locked, the new dict out of sight
    have hLd : upd H r (.frz od (sd ps fr)) d = none := by rw [upd_ne (Ne.symm hrd)]; exact hd
    have e0 : Ex (upd H r (.frz od (sd ps fr))) (upd (upd H d (.dK [])) r (.frz od (sd ps fr))) := by
      rw [upd_comm (Ne.symm hrd)]
      exact Ex.new hLd
    have rr : ∀ {H1}, Ex (upd H r (.frz od (sd ps fr))) H1 → RowsRd H1 r ps row := fun e => (RowsAt.lock hr1 hr2).ex e
    walk_at "go"
    refine ⟨r, od, rfl, .inl ⟨_, upd_same, ?_⟩⟩
    refine loop_of walkK (fun i σ H1 => (∃ o, σ = [some (.ref r), some (.ref d), o, none, none]) ∧ Ex (upd H r (.frz od (sd ps fr))) H1 ∧ ∃ h, HeldAt H1 d h ∧ Held ps row h (ps.take i)) ⟨⟨_, rfl⟩, e0, fun _ => none, ⟨[], fun _ => .non, by rw [upd_ne (Ne.symm hrd), upd_same]; rfl, List.nodup_nil, (fun k hk => by cases hk), fun _ _ => rfl⟩, Held.nil⟩
      (fun i σ H1 _ z => z.2.1 _ _ upd_same) (fun i v σ H2 H1 hi z y => ?_) (fun σ H1 z => ?_)
    · obtain ⟨⟨o, rfl⟩, e1, h, hh, hd1⟩ := z
      obtain ⟨rfl, g, hg, rfl⟩ := y
      have hgm := List.mem_of_getElem? hg
      have hn : g ∉ ps.take i := fun hm => (nodup_snoc_iff.mp (by rw [← take_snoc hg]; exact nd.sublist (List.take_sublist _ _))).2 hm
      walk_at "go"
      intro sa hsa
      walk_at "go"
      have e2 : Ex H1 (upd H1 sa (.dK [])) := Ex.new hsa
      have hsd : sa ≠ d := let ⟨_, _, z, _⟩ := hh; ne_new hsa z
      have hrs : r ≠ sa := fun z => by rw [← z, e1 _ _ upd_same] at hsa; cases hsa
      refine ⟨r, d, sa, ps, row, h, [], g, rfl, rr (e1.trans e2), hh.keep (Ne.symm hsd), upd_same, hd1.ahead dom hgm hn, Ne.symm hsd, hrd, hrs, by simpa using hl, by omega, fun H3 s3 e3 hh3 hs3 f3 => ?_, fun H3 h3 s3 e3 hh3 hs3 r3 ok3 => ?_⟩
      · have e13 : Ex (upd H r (.frz od (sd ps fr))) H3 := e3.ex (e1.trans e2) hLd (ex_none e1 hsa)
        walk_at "go"
        exact ⟨e13 _ _ upd_same, q0 _ (ex_unlock hr1 e13) fun dd D => no_draw hd1 f3 hgm hn D⟩
      · have e13 : Ex (upd H r (.frz od (sd ps fr))) H3 := e3.ex (e1.trans e2) hLd (ex_none e1 hsa)
        walk_at "go"
        refine ⟨⟨_, rfl⟩, e13, h3, hh3, ?_⟩
        rw [take_snoc hg]
        exact hd1.next r3 ok3
    · obtain ⟨⟨o, rfl⟩, e1, h, hh, hd1⟩ := z
      rw [List.take_length] at hd1
      refine ⟨e1 _ _ upd_same, ?_⟩
      have eH : Ex H (upd H1 r (sd ps fr)) := ex_unlock hr1 e1
      have hh1 : HeldAt (upd H1 r (sd ps fr)) d h := hh.keep (Ne.symm hrd)
      have hr5 : upd H1 r (sd ps fr) r = some (sd ps fr) := upd_same
      generalize upd H1 r (sd ps fr) = H2 at eH hh1 hr5
      obtain ⟨ks, f, hf1, ndk, hf2, hf3⟩ := hh1
      have hksl : ks.length ≤ 7 := Nat.le_trans (HeldAt.len (ps := ps) ndk hf2 fun k x e => dom x (hd1.ok k x e).2 k (hd1.ok k x e).1) hl
      walk_at "go"
      refine i_lockE hf1 trivial fun od2 => ?_
      walk_at "go"
      refine ⟨d, od2, rfl, .inl ⟨_, upd_same, ?_⟩⟩
      refine dcX walkK (by omega) (fun D i B ks' f' => ∀ t ∈ ks.take i, ∀ g, h t = some g → g ∈ ks' ∧ f' g = .str t) (fun D hD g hg => by simp at hg) (fun D i B ks f e hB _ => ex_in e hB _ _ upd_same) (fun D i v B H3 ks' f' N hi e hB s y k1 k2 => ?_) fun D B ks' f' hD e hB s => ?_
      · obtain ⟨rfl, t, ht, rfl⟩ := y
        have htm := List.mem_of_getElem? ht
        obtain ⟨g, hg1, hg2⟩ := hf2 t htm
        have ei := ex_in (o := sd ks' f') e hB
        walk_at "go"
        refine ⟨rfl, ?_⟩
        walk_at "go"
        refine kd_get (.inr ⟨od2, ei _ _ upd_same⟩) htm ?_
        rw [hg1]
        walk_at "go"
        refine k2 g (.str t) _ (Ex.refl _) fun t' ht' g' hg' => ?_
        rw [take_snoc ht] at ht'
        rcases List.mem_append.mp ht' with z | z
        · by_cases e2 : g' = g
          · subst e2
            have := hd1.inj t' t g' hg' hg2
            subst this
            exact ⟨mem_addk.mpr (.inr rfl), setf_same ..⟩
          · exact ⟨mem_addk.mpr (.inl (s t' z g' hg').1), by rw [setf_ne _ _ e2]; exact (s t' z g' hg').2⟩
        · rw [List.mem_singleton.mp z, hg2] at hg'
          cases hg'
          rw [List.mem_singleton.mp z]
          exact ⟨mem_addk.mpr (.inr rfl), setf_same ..⟩
      · rw [List.take_length] at s
        have ei := ex_in (o := sd ks' f') e hB
        have hDd : D ≠ d := fun z => by rw [z, upd_same] at hD; cases hD
        refine ⟨ei _ _ upd_same, ?_⟩
        have e3 : Ex H2 (upd (upd B D (sd ks' f')) d (sd ks f)) := ex_unlock hf1 ei
        have hD3 : upd (upd B D (sd ks' f')) d (sd ks f) D = some (sd ks' f') := upd_some hDd upd_same
        generalize upd (upd B D (sd ks' f')) d (sd ks f) = H3 at e3 hD3
        have key : ∀ g ∈ ps, ∃ t, h t = some g ∧ g ∈ ks' ∧ f' g = .str t := fun g hg => by
          obtain ⟨t, ht⟩ := (hd1.img g).mpr hg
          have htk : t ∈ ks := Classical.byContradiction fun c => by rw [hf3 t c] at ht; cases ht
          exact ⟨t, ht, s t htk g ht⟩
        let m : Str → Str := fun g => if hg : g ∈ ps then Classical.choose (key g hg) else g
        have hm : ∀ g ∈ ps, h (m g) = some g ∧ g ∈ ks' ∧ f' g = .str (m g) := fun g hg => by
          show h (if hg : g ∈ ps then Classical.choose (key g hg) else g) = some g ∧ g ∈ ks' ∧ f' g = .str (if hg : g ∈ ps then Classical.choose (key g hg) else g)
          rw [dif_pos hg]
          exact Classical.choose_spec (key g hg)
        have dm : IsDraw ps row m := hd1.draw fun g hg => (hm g hg).1
        walk_at "go"
        refine i_lockE (e3 _ _ hr5) trivial fun od3 => ?_
        walk_at "go"
        refine ⟨r, od3, rfl, .inl ⟨_, upd_same, ?_⟩⟩
        have hDr : D ≠ r := fun z => by rw [z, e3 _ _ hr5] at hD3; injection hD3 with z2; injection z2 with z3; rw [z, upd_ne hrd, hr5] at hD; cases hD
        refine dcX walkK (by omega) (fun D2 i B2 ks2 f2 => ks2 = ps.take i ∧ ∀ g ∈ ps.take i, f2 g = .str (m g)) (fun D2 hD2 => ⟨rfl, fun g hg => by simp at hg⟩) (fun D2 i B2 ks2 f2 e hB _ => ex_in e hB _ _ upd_same) (fun D2 i v B2 H4 ks2 f2 N hi e4 hB2 s2 y k1 k2 => ?_) fun D2 B2 ks2 f2 hD2 e4 hB2 s2 => ?_
        · obtain ⟨rfl, g, hg, rfl⟩ := y
          obtain ⟨rfl, s3⟩ := s2
          have hgm := List.mem_of_getElem? hg
          have hn : g ∉ ps.take i := fun hm => (nodup_snoc_iff.mp (by rw [← take_snoc hg]; exact nd.sublist (List.take_sublist _ _))).2 hm
          have ei2 := ex_in (o := sd (ps.take i) f2) e4 hB2
          walk_at "go"
          refine ⟨rfl, ?_⟩
          walk_at "go"
          refine kd_get (.inl (ei2 _ _ (upd_some hDr hD3))) (hm g hgm).2.1 ?_
          rw [(hm g hgm).2.2]
          refine k2 g _ _ (Ex.refl _) ⟨by rw [take_snoc hg, addk_new hn], fun g' hg' => ?_⟩
          rw [take_snoc hg] at hg'
          rcases List.mem_append.mp hg' with z | z
          · rw [setf_ne _ _ fun e => hn (by rw [← e]; exact z)]; exact s3 g' z
          · rw [List.mem_singleton.mp z, setf_same]
        · rw [List.take_length] at s2
          obtain ⟨e5, s3⟩ := s2
          subst ks2
          have ei2 := ex_in (o := sd ps f2) e4 hB2
          have hD2r : D2 ≠ r := fun z => by rw [z, upd_same] at hD2; cases hD2
          refine ⟨ei2 _ _ upd_same, ?_⟩
          refine q1 D2 _ m ((eH.trans e3).trans (ex_unlock (e3 _ _ hr5) ei2)) ?_ dm
          rw [upd_ne hD2r, upd_same]
          exact congrArg (fun z => some (HO.dK z)) (kd_congr s3)
end
end GR
end
section
set_option Elab.async false
set_option linter.all false
set_option maxRecDepth 100000
set_option maxHeartbeats 4000000
set_option autoImplicit false
namespace GR
open PySem PySem.Spec L2
open Evl (Ex)
local macro_rules | `(tactic| walk_at "go") => `(tactic| (repeat (first
  | with_reducible refine i_seq ?_
  | ((with_reducible apply i_var); focus rfl)
  | with_reducible refine i_c ?_
  | with_reducible refine i_cons ?_
  | with_reducible refine i_nil ?_
  | with_reducible refine i_asg ?_
  | with_reducible refine i_name ?_
  | with_reducible refine i_op ?_
  | with_reducible refine i_cb ?_
  | with_reducible refine i_fn ?_
  | with_reducible refine i_ret ?_
  | with_reducible refine i_retN ?_
  | with_reducible refine i_drop ?_
  | with_reducible refine i_next ?_
  | with_reducible refine i_cont ?_
  | with_reducible refine i_break ?_
  | with_reducible refine i_if ?_
  | with_reducible refine br_t ?_
  | with_reducible refine br_f ?_
  | with_reducible refine br_nt ?_
  | with_reducible refine io_t ?_
  | with_reducible refine io_f ?_
  | with_reducible refine io_nt ?_
  | with_reducible refine io_nf ?_
  | with_reducible refine br_nf ?_
  | with_reducible refine o_ip ?_
  | with_reducible refine i_test ?_
  | with_reducible refine i_tB ?_
  | with_reducible refine i_not ?_
  | with_reducible refine i_notV ?_
  | with_reducible refine i_andV ?_
  | with_reducible refine i_orV ?_
  | with_reducible refine i_and ?_
  | with_reducible refine i_or ?_
  | with_reducible refine i_dput ?_
  | with_reducible refine i_dget ?_
  | with_reducible refine i_din ?_
  | with_reducible refine i_dnotin ?_
  | with_reducible refine i_dnewK ?_
  | with_reducible refine i_dnewT ?_
  | with_reducible refine i_fld ?_
  | with_reducible refine i_sfld ?_
  | with_reducible refine i_bm0 ?_
  | with_reducible refine i_bm ?_
  | with_reducible refine i_sl ?_
  | with_reducible refine i_noPart ?_
  | with_reducible refine i_part ?_
  | with_reducible refine i_chain ?_
  | with_reducible refine i_methR ?_
  | with_reducible refine i_tup ?_
  | with_reducible refine i_lst ?_
  | with_reducible refine i_for ?_
  | with_reducible refine i_iList ?_
  | with_reducible refine i_iTup ?_
  | with_reducible refine i_iKeys ?_
  | with_reducible refine i_iRng1 ?_
  | with_reducible refine i_iRng2 ?_
  | with_reducible refine i_iStr ?_
  | with_reducible refine i_iEnum ?_
  | with_reducible refine i_iEnumT ?_
  | with_reducible refine i_lc ?_
  | with_reducible refine i_stD ?_
  | with_reducible refine i_iItemsT ?_
  | with_reducible refine i_dcw ?_
  | with_reducible refine i_dsetd ?_
  | with_reducible refine i_iVals ?_
  | with_reducible refine i_iItems ?_
  | with_reducible refine i_revL ?_
  | with_reducible refine i_yes ?_
  | with_reducible refine o_I0 ?_
  | with_reducible refine o_eqS ?_
  | with_reducible refine o_neS ?_
  | with_reducible refine o_eqI ?_
  | with_reducible refine o_neI ?_
  | with_reducible refine o_eqB ?_
  | with_reducible refine e_ref ?_
  | with_reducible refine e_str ?_
  | with_reducible refine e_int ?_
  | with_reducible refine e_bl ?_
  | with_reducible refine e_str1 ?_
  | with_reducible refine e_int1 ?_
  | with_reducible refine e_int2 ?_
  | with_reducible refine e_str2 ?_)))
open GM
/-- rows as they come: nodup, of the people -/
structure RowsOk (ps : List Str) (row : Str → List Str) : Prop where
  nd : ps.Nodup
  len : ps.length ≤ 7
  dom : ∀ x ∈ ps, ∀ t ∈ row x, t ∈ ps
  rnd : ∀ x ∈ ps, (row x).Nodup
theorem RowsOk.rlen {ps : List Str} {row : Str → List Str} (R : RowsOk ps row) {x : Str} (hx : x ∈ ps) : (row x).length ≤ 7 :=
  Nat.le_trans ((R.rnd x hx).length_le_of_subset fun t ht => R.dom x hx t ht) R.len
theorem tbl_none {ps : List Str} {row : Str → List Str} (h : ∀ d, ¬ IsDraw ps row d) (g : Str) : tbl ps row g = [] := by
  classical
  unfold tbl
  refine List.filter_eq_nil_iff.mpr fun t _ => ?_
  rw [decide_eq_true_iff]
  rintro ⟨d, D, _⟩
  exact h d D
section
variable {P : Program} {w : World} {K : PySem.W.Frag} {mg : Str → Option Value} {base : Heap} {k j : Nat}
abbrev n_table_rows : List Str := ["rows", "pairing", "owners", "reach", "result", "giver", "taker"]
theorem sc_table_rows : FnScope n_table_rows ["rows"] (defScope s_table_rows) := ⟨rfl, rfl, rfl, by decide +kernel, rfl, by decide +kernel, by decide +kernel⟩
def spTable : Sp := fun vs H Q _ => ∃ r ps row, vs = [.ref r] ∧ RowsAt H r ps row ∧ RowsOk ps row ∧ ∀ p H', Ex H H' → RowsAt H' p ps (tbl ps row) → Q (.ref p) H'
theorem c_table_rows (T : Txt K mg) (c_paired : Cal P w K mg base k "paired" spPaired) (c_owners_of : Cal P w K mg base k "owners_of" spOwners) (c_reached : Cal P w K mg base k "reached" spReached) : Cal P w K mg base (k + 1) "table_rows" spTable := by
  refine T.a_table_rows.ok sc_table_rows (fun _ _ _ _ _ _ us hl => match us, hl with | [_], _ => rfl) (fun vs H Q E h => ?_) (fun f cdv A outer s H vs Q E hr h => ⟨_, (pss_cons (ps_set (i := 1) sc_table_rows.nd rfl (Or.inl rfl) (pe_fn c_paired (hr.mono (by omega)) (pa_cons (pv 0) pa_nil)))
      (pss_cons (ps_if (pt_cmpR op_isN (pv 1) pe_non (nomark _)) (pss_one (ps_ret (pe_lock (pe_dcW (own := [("giver", 5)]) (.inl rfl) rfl sc_table_rows.nd (hu_of hr) (pi_keys (pv 0)) (blkOk_by (own := [("giver", 5)]) (N := n_table_rows) (sc := defScope s_table_rows) (by decide +kernel)) (fun _ _ _ _ _ => (pg_name (i := 5) sc_table_rows.nd rfl (Or.inl rfl))) (fun _ _ _ _ _ => pts_nil) (fun _ _ _ _ _ => (pv 5)) (fun _ _ _ _ _ => (pe_lst pa_nil)))))) pss_nil)
      (pss_cons (ps_set (i := 2) sc_table_rows.nd rfl (Or.inr rfl) (pe_fn c_owners_of (hr.mono (by omega)) (pa_cons (pv 1) pa_nil)))
      (pss_cons (ps_set (i := 3) sc_table_rows.nd rfl (Or.inr rfl) (pe_lock (pe_dcW (own := [("giver", 5)]) (.inl rfl) rfl sc_table_rows.nd (hu_of hr) (pi_keys (pv 0)) (blkOk_by (own := [("giver", 5)]) (N := n_table_rows) (sc := defScope s_table_rows) (by decide +kernel)) (fun _ _ _ _ _ => (pg_name (i := 5) sc_table_rows.nd rfl (Or.inl rfl))) (fun _ _ _ _ _ => pts_nil) (fun _ _ _ _ _ => (pv 5)) (fun _ _ _ _ _ => (pe_fn c_reached (hr.mono (by omega)) (pa_cons (pv 0) (pa_cons (pv 2) (pa_cons (pv 5) pa_nil))))))))
      (pss_cons (ps_set (i := 4) sc_table_rows.nd rfl (Or.inl rfl) pe_dnewK)
      (pss_cons (ps_lock (ps_for PassesOwn.never rfl (pi_keys (pv 0)) (pg_name (i := 5) sc_table_rows.nd rfl (Or.inr rfl)) (pss_one (ps_dput (hu_of hr) (pv 4) (pv 5) (pe_lc (own := [("taker", 6)]) rfl sc_table_rows.nd (pi_list (pe_dget (hu_of hr) (pv 0) (pv 5) (fun _ _ => rfl))) (blkOk_by (own := [("taker", 6)]) (N := n_table_rows) (sc := defScope s_table_rows) (by decide +kernel)) (fun _ _ _ _ _ => (pg_name (i := 6) sc_table_rows.nd rfl (Or.inl rfl))) (fun _ _ _ _ _ => pts_one (pt_cmp (pc_din (hu_of hr) (pv 5) (pe_dget (hu_of hr) (pv 3) (pe_dget (hu_of hr) (pv 2) (pv 6) (fun _ _ => rfl)) (fun _ _ => rfl))))) (fun _ _ _ _ _ => (pv 6))) rfl))))
      (pss_one (ps_ret (pv 4))))))))), ?_⟩)
  · obtain ⟨_, _, _, rfl, _⟩ := h; rfl
  · classical
    obtain ⟨r, ps, row, rfl, ⟨fr, hr1, hr2⟩, ok, q⟩ := h
    have hl := ok.len
    walk_at "go"
    refine ⟨r, ps, row, rfl, ⟨fr, hr1, hr2⟩, ok.nd, ok.len, ok.dom, fun H1 e1 none => ?_, fun p H1 m e1 hp DR => ?_⟩
    · walk_at "go"
      refine ⟨rfl, ?_⟩
      walk_at "go"
      rw [decide_eq_true rfl]
      walk_at "go"
      refine i_lockE (e1 _ _ hr1) trivial fun od => ?_
      walk_at "go"
      refine ⟨r, od, rfl, .inl ⟨_, upd_same, ?_⟩⟩
      refine dcX walkK (by omega) (fun D i B ks f => ks = ps.take i ∧ RowsV B ks f (tbl ps row)) (fun D hD => ⟨rfl, RowsV.nil⟩) (fun D i B ks f e hB _ => ex_in e hB _ _ upd_same) (fun D i v B H2 ks f N hi e hB s y k1 k2 => ?_) fun D B ks f hD e hB s => ?_
      · obtain ⟨rfl, g, hg, rfl⟩ := y
        obtain ⟨rfl, rv⟩ := s
        have hn : g ∉ ps.take i := fun hm => (nodup_snoc_iff.mp (by rw [← take_snoc hg]; exact ok.nd.sublist (List.take_sublist _ _))).2 hm
        walk_at "go"
        refine ⟨rfl, ?_⟩
        walk_at "go"
        refine ⟨by show 0 ≤ sizeLine; decide, fun p hp => ?_⟩
        have e2 : Ex (upd B D (sd (ps.take i) f)) (upd (upd B D (sd (ps.take i) f)) p (.lst [])) := Ex.new hp
        refine k2 g (.ref p) _ e2 ⟨by rw [take_snoc hg, addk_new hn], (rv.ex (off_ex e2 hB)).put ?_⟩
        show off D _ p = _
        rw [tbl_none none]
        exact off_new upd_same (ex_same e2) fun e => nomatch e
      · rw [List.take_length] at s
        obtain ⟨e5, rv⟩ := s
        subst ks
        have ei := ex_in (o := sd ps f) e hB
        have hDr : D ≠ r := fun z => by rw [z, upd_same] at hD; cases hD
        refine ⟨ei _ _ upd_same, q D _ (e1.trans (ex_unlock (e1 _ _ hr1) ei)) ⟨f, upd_some hDr upd_same, ?_⟩⟩
        exact RowsV.keep (ei _ _ upd_same) (fun xs e => nomatch e) (rv.ex (ex_in (Ex.refl _) hB))
    · walk_at "go"
      refine ⟨rfl, ?_⟩
      walk_at "go"
      rw [decide_eq_false (fun e => nomatch e)]
      walk_at "go"
      refine ⟨p, ps, m, rfl, hp, by omega, DR.inj, fun p2 H2 ko fo e2 hp2n hp2 ho => ?_⟩
      have e12 := e1.trans e2
      walk_at "go"
      -- the owners, as a function
      have mp : ∀ x ∈ ps, m x ∈ ps := fun x hx => ok.dom x hx _ (DR.inn x hx)
      let o : Str → Str := fun t => match fo t with | .str g => g | _ => t
      have hom : ∀ g ∈ ps, o (m g) = g := fun g hg => by
        show (match fo (m g) with | .str g => g | _ => m g) = g
        rw [(ho g hg).2]
      have hoo : ∀ t ∈ ps, t ∈ ko ∧ fo t = .str (o t) ∧ o t ∈ ps := fun t ht => by
        obtain ⟨g, hg, rfl⟩ := onto ok.nd mp DR.inj t ht
        rw [hom g hg]
        exact ⟨(ho g hg).1, (ho g hg).2, hg⟩
      have hrw := e12 _ _ hr1
      refine i_lockE hrw trivial fun od => ?_
      walk_at "go"
      refine ⟨r, od, rfl, .inl ⟨_, upd_same, ?_⟩⟩
      have hp2r : p2 ≠ r := fun z => by rw [z, e1 _ _ hr1] at hp2n; cases hp2n
      refine dcX walkK (by omega) (fun D i B ks f => ks = ps.take i ∧ ∀ g ∈ ps.take i, ∃ b fs, f g = .ref b ∧ B b = some (sd fs fun _ => .bl true) ∧ ∀ x, x ∈ fs ↔ Reach row o g x) (fun D hD => ⟨rfl, fun g hg => by simp at hg⟩) (fun D i B ks f e hB _ => ex_in e hB _ _ upd_same) (fun D2 i v B H3 ks f N hi e hB s y k1 k2 => ?_) fun D2 B ks f hD e hB s => ?_
      · obtain ⟨rfl, g, hg, rfl⟩ := y
        obtain ⟨rfl, s2⟩ := s
        have hgm := List.mem_of_getElem? hg
        have hn : g ∉ ps.take i := fun hm => (nodup_snoc_iff.mp (by rw [← take_snoc hg]; exact ok.nd.sublist (List.take_sublist _ _))).2 hm
        have ei := ex_in (o := sd (ps.take i) f) e hB
        walk_at "go"
        refine ⟨rfl, ?_⟩
        walk_at "go"
        refine ⟨r, p2, ps, row, ko, fo, o, g, rfl, (RowsAt.lock hrw (hr2.ex e12)).ex ei, .inl (ei _ _ (upd_some hp2r hp2)), ok.nd, by omega, ok.dom, hoo, hgm, fun b H4 fs e4 hb4 hb hfs => ?_⟩
        have hbD : b ≠ D2 := fun z => by rw [z, upd_same] at hb4; cases hb4
        refine k2 g (.ref b) _ e4 ⟨by rw [take_snoc hg, addk_new hn], fun g' hg' => ?_⟩
        rw [take_snoc hg] at hg'
        rcases List.mem_append.mp hg' with z | z
        · obtain ⟨b', fs', h1, h2, h3⟩ := s2 g' z
          exact ⟨b', fs', by rw [setf_ne _ _ fun e => hn (by rw [← e]; exact z)]; exact h1, off_ex e4 hB _ _ h2, h3⟩
        · rw [List.mem_singleton.mp z, setf_same]
          exact ⟨b, fs, rfl, by rw [off_ne hbD]; exact hb, hfs⟩
      · rw [List.take_length] at s
        obtain ⟨e5, s2⟩ := s
        subst ks
        have ei := ex_in (o := sd ps f) e hB
        have hDr : D2 ≠ r := fun z => by rw [z, upd_same] at hD; cases hD
        refine ⟨ei _ _ upd_same, ?_⟩
        have e3 : Ex H2 (upd (upd B D2 (sd ps f)) r (sd ps fr)) := ex_unlock hrw ei
        have hD3 : upd (upd B D2 (sd ps f)) r (sd ps fr) D2 = some (sd ps f) := upd_some hDr upd_same
        have s3 : ∀ g ∈ ps, ∃ b fs, f g = .ref b ∧ b ≠ r ∧ upd (upd B D2 (sd ps f)) r (sd ps fr) b = some (sd fs fun _ => .bl true) ∧ ∀ x, x ∈ fs ↔ Reach row o g x := fun g hg => by
          obtain ⟨b, fs, h1, h2, h3⟩ := s2 g hg
          have hbr : b ≠ r := fun z => by rw [z, e _ _ upd_same] at h2; cases h2
          exact ⟨b, fs, h1, hbr, upd_some hbr (ex_in (Ex.refl _) hB _ _ h2), h3⟩
        generalize upd (upd B D2 (sd ps f)) r (sd ps fr) = H3 at e3 hD3 s3
        walk_at "go"
        intro res hres
        walk_at "go"
        have hrr : r ≠ res := fun z => by have := (e12.trans e3) _ _ hr1; rw [z, hres] at this; cases this
        have hr4 : upd H3 res (.dK []) r = some (sd ps fr) := upd_some hrr ((e12.trans e3) _ _ hr1)
        refine i_lock hr4 trivial fun od2 => ?_
        have hL : upd H3 r (.frz od2 (sd ps fr)) res = none := by rw [upd_ne (Ne.symm hrr)]; exact hres
        have e0 : Ex (upd H3 r (.frz od2 (sd ps fr))) (upd (upd H3 res (.dK [])) r (.frz od2 (sd ps fr))) := by
          rw [upd_comm (Ne.symm hrr)]
          exact Ex.new hL
        have hr3 := (e12.trans e3) _ _ hr1
        have hDr3 : D2 ≠ r := hDr
        have hp3 : ∀ {H4}, Ex (upd H3 r (.frz od2 (sd ps fr))) H4 → H4 p2 = some (sd ko fo) := fun e => e _ _ (upd_some hp2r (e3 _ _ hp2))
        walk_at "go"
        refine ⟨r, od2, rfl, .inl ⟨_, upd_same, ?_⟩⟩
        refine loop_of walkK (fun i σ H4 => (∃ o5, σ = [some (.ref r), some (.ref p), some (.ref p2), some (.ref D2), some (.ref res), o5, none]) ∧ Ex (upd H3 r (.frz od2 (sd ps fr))) H4 ∧ ∃ fz, H4 res = some (sd (ps.take i) fz) ∧ RowsV H4 (ps.take i) fz (tbl ps row)) ⟨⟨_, rfl⟩, e0, fun _ => .non, by rw [upd_ne (Ne.symm hrr), upd_same]; rfl, RowsV.nil⟩
          (fun i σ H1 _ z => z.2.1 _ _ upd_same) (fun i v σ H5 H4 hi z y => ?_) (fun σ H4 z => ?_)
        · obtain ⟨⟨o5, rfl⟩, e4, fz, hz1, hz2⟩ := z
          obtain ⟨rfl, g, hg, rfl⟩ := y
          have hgm := List.mem_of_getElem? hg
          have hn : g ∉ ps.take i := fun hm => (nodup_snoc_iff.mp (by rw [← take_snoc hg]; exact ok.nd.sublist (List.take_sublist _ _))).2 hm
          obtain ⟨lg, hlg1, hlg2⟩ := ((hr2.ex (e12.trans e3))) g hgm
          have hlg4 : Ls H4 lg (row g) := (hlg2.lock hr3).ex e4
          walk_at "go"
          refine kd_get (.inr ⟨od2, e4 _ _ upd_same⟩) hgm ?_
          rw [hlg1]
          walk_at "go"
          refine ⟨⟨_, SqL.of hlg4⟩, ?_⟩
          have wl := walk_list (K := K) (a := lg) (xs := (row g).map V.str)
          rw [List.length_map] at wl
          refine lcL (row g) V.str wl (small (by have := ok.rlen hgm; omega)) (fun _ _ _ _ y => y) (fun t => decide (Reach row o (o t) g)) V.str (fun D acc hD => SqL.of (Ex.new hD _ _ hlg4)) (fun D acc t N T' hD ht k1 k2 => ?_) fun D hD => ?_
          · have eD : Ex H4 (upd H4 D (.lst acc)) := Ex.new hD
            have htp := ok.dom g hgm t ht
            obtain ⟨h1, h2, h3⟩ := hoo t htp
            obtain ⟨b, fs, h4, hbr, h5, h6⟩ := s3 (o t) h3
            walk_at "go"
            refine ⟨rfl, ?_⟩
            walk_at "go"
            refine kd_get (.inl (eD _ _ (hp3 e4))) h1 ?_
            rw [h2]
            walk_at "go"
            refine kd_get (.inl (eD _ _ (e4 _ _ (upd_some hDr hD3)))) h3 ?_
            rw [h4]
            walk_at "go"
            refine kd_in (.inl (eD _ _ (e4 _ _ (upd_some hbr h5)))) fun o' ho' => ?_
            rw [ho']
            walk_at "go"
            refine io_d (fun hm => ?_) fun hm => ?_
            · walk_at "go"
              exact k2 (decide_eq_true ((h6 g).mp hm))
            · exact k1 (decide_eq_false fun z => hm ((h6 g).mpr z))
          · walk_at "go"
            have ef : (row g).filter (fun t => decide (Reach row o (o t) g)) = tbl ps row g := by
              unfold tbl
              refine List.filter_congr fun t ht => ?_
              exact decide_eq_decide.mpr (poss_iff ok.nd ok.dom DR hom hgm ht).symm
            rw [ef]
            have eD : Ex H4 (upd H4 D (.lst ((tbl ps row g).map V.str))) := Ex.new hD
            refine kd_put (eD _ _ hz1) (small1000 (by rw [List.length_take]; omega)) ?_
            have hres0 : (upd H3 r (.frz od2 (sd ps fr))) res = none := hL
            refine ⟨⟨_, rfl⟩, Ex.mut (e4.trans eD) hres0, setf fz g (.ref D), ?_, ?_⟩
            · rw [upd_same, addk_new hn, take_snoc hg]
            · rw [take_snoc hg, ← addk_new hn]
              refine RowsV.keep (eD _ _ hz1) (fun xs e => nomatch e) ((hz2.ex eD).put ?_)
              exact upd_same
        · obtain ⟨⟨o5, rfl⟩, e4, fz, hz1, hz2⟩ := z
          rw [List.take_length] at hz1 hz2
          refine ⟨e4 _ _ upd_same, ?_⟩
          walk_at "go"
          refine q res _ ((e12.trans e3).trans (ex_unlock hr3 e4)) ⟨fz, upd_some (Ne.symm hrr) hz1, ?_⟩
          exact RowsV.keep (e4 _ _ upd_same) (fun xs e => nomatch e) hz2
end
end GR
end
section
set_option Elab.async false
set_option linter.all false
set_option maxRecDepth 100000
set_option maxHeartbeats 4000000
set_option autoImplicit false
namespace GR
open PySem PySem.Spec L2
open Evl (Ex)
local macro_rules | `(tactic| walk_at "go") => `(tactic| (repeat (first
  | with_reducible refine i_seq ?_
  | ((with_reducible apply i_var); focus rfl)
  | with_reducible refine i_c ?_
  | with_reducible refine i_cons ?_
  | with_reducible refine i_nil ?_
  | with_reducible refine i_asg ?_
  | with_reducible refine i_name ?_
  | with_reducible refine i_op ?_
  | with_reducible refine i_cb ?_
  | with_reducible refine i_fn ?_
  | with_reducible refine i_ret ?_
  | with_reducible refine i_retN ?_
  | with_reducible refine i_drop ?_
  | with_reducible refine i_next ?_
  | with_reducible refine i_cont ?_
  | with_reducible refine i_break ?_
  | with_reducible refine i_if ?_
  | with_reducible refine br_t ?_
  | with_reducible refine br_f ?_
  | with_reducible refine br_nt ?_
  | with_reducible refine io_t ?_
  | with_reducible refine io_f ?_
  | with_reducible refine io_nt ?_
  | with_reducible refine io_nf ?_
  | with_reducible refine br_nf ?_
  | with_reducible refine o_ip ?_
  | with_reducible refine i_test ?_
  | with_reducible refine i_tB ?_
  | with_reducible refine i_not ?_
  | with_reducible refine i_notV ?_
  | with_reducible refine i_andV ?_
  | with_reducible refine i_orV ?_
  | with_reducible refine i_and ?_
  | with_reducible refine i_or ?_
  | with_reducible refine i_dput ?_
  | with_reducible refine i_dget ?_
  | with_reducible refine i_din ?_
  | with_reducible refine i_dnotin ?_
  | with_reducible refine i_dnewK ?_
  | with_reducible refine i_dnewT ?_
  | with_reducible refine i_fld ?_
  | with_reducible refine i_sfld ?_
  | with_reducible refine i_bm0 ?_
  | with_reducible refine i_bm ?_
  | with_reducible refine i_sl ?_
  | with_reducible refine i_noPart ?_
  | with_reducible refine i_part ?_
  | with_reducible refine i_chain ?_
  | with_reducible refine i_methR ?_
  | with_reducible refine i_tup ?_
  | with_reducible refine i_lst ?_
  | with_reducible refine i_for ?_
  | with_reducible refine i_iList ?_
  | with_reducible refine i_iTup ?_
  | with_reducible refine i_iKeys ?_
  | with_reducible refine i_iRng1 ?_
  | with_reducible refine i_iRng2 ?_
  | with_reducible refine i_iStr ?_
  | with_reducible refine i_iEnum ?_
  | with_reducible refine i_iEnumT ?_
  | with_reducible refine i_lc ?_
  | with_reducible refine i_stD ?_
  | with_reducible refine i_iItemsT ?_
  | with_reducible refine i_dcw ?_
  | with_reducible refine i_dsetd ?_
  | with_reducible refine i_iVals ?_
  | with_reducible refine i_iItems ?_
  | with_reducible refine i_revL ?_
  | with_reducible refine i_yes ?_
  | with_reducible refine o_I0 ?_
  | with_reducible refine o_eqS ?_
  | with_reducible refine o_neS ?_
  | with_reducible refine o_eqI ?_
  | with_reducible refine o_neI ?_
  | with_reducible refine o_eqB ?_
  | with_reducible refine e_ref ?_
  | with_reducible refine e_str ?_
  | with_reducible refine e_int ?_
  | with_reducible refine e_bl ?_
  | with_reducible refine e_str1 ?_
  | with_reducible refine e_int1 ?_
  | with_reducible refine e_int2 ?_
  | with_reducible refine e_str2 ?_)))
/-- linked by pairs of the rows, either way -/
inductive Lnk (ps : List Str) (row : Str → List Str) (a : Str) : Str → Prop
  | refl : Lnk ps row a a
  | fwd {g t : Str} : Lnk ps row a g → g ∈ ps → t ∈ row g → Lnk ps row a t
  | bwd {g t : Str} : Lnk ps row a t → g ∈ ps → t ∈ row g → Lnk ps row a g
/-- a block: givers and takers, all linked with one -/
def BlockAt (ps : List Str) (row : Str → List Str) (H : Hp) (p : Addr) (b : List Str × List Str) : Prop := ∃ ga ta st, H p = some (.tup [.ref ga, .ref ta]) ∧ Ts H ga b.1 ∧ Ts H ta b.2 ∧ (∀ x ∈ b.1, x ∈ ps ∧ Lnk ps row st x) ∧ (∀ x ∈ b.2, x ∈ ps ∧ Lnk ps row st x) ∧ b.1.length ≤ ps.length ∧ b.2.length ≤ ps.length
theorem BlockAt.ex {ps : List Str} {row : Str → List Str} {H H' : Hp} {p : Addr} {b : List Str × List Str} (e : Ex H H') (h : BlockAt ps row H p b) : BlockAt ps row H' p b := by
  obtain ⟨ga, ta, st, h1, h2, h3, h4⟩ := h
  exact ⟨ga, ta, st, e _ _ h1, h2.ex e, h3.ex e, h4⟩
theorem set_true (t : Str) : setf (fun _ => V.bl true) t (.bl true) = fun _ => V.bl true := by funext y; unfold setf; split <;> rfl
/-- how part_from goes on -/
structure PfI (H : Hp) (ps : List Str) (row : Str → List Str) (st : Str) (p q l : Addr) (fs ts ws : List Str) (H1 : Hp) : Prop where
  ex : Ex H H1
  hp : H1 p = some (sd fs fun _ => .bl true)
  hq : H1 q = some (sd ts fun _ => .bl true)
  hl : Ls H1 l ws
  fnd : fs.Nodup
  tnd : ts.Nodup
  fin : ∀ x ∈ fs, x ∈ ps ∧ Lnk ps row st x
  tin : ∀ x ∈ ts, x ∈ ps ∧ Lnk ps row st x
  win : ∀ x ∈ ws, x ∈ fs
section
variable {H H1 : Hp} {ps fs ts ws : List Str} {row : Str → List Str} {st : Str} {p q l : Addr} {n : Sl → Hp → Prop} {σ : Sl} {x : Str}
theorem PfI.taker (I : PfI H ps row st p q l fs ts ws H1) (nq : H q = none) (npq : p ≠ q) (nlq : l ≠ q) (hx : x ∈ ps) (hn : x ∉ ts) (lk : Lnk ps row st x) : PfI H ps row st p q l fs (ts ++ [x]) ws (upd H1 q (sd (addk ts x) (setf (fun _ => .bl true) x (.bl true)))) := by
  refine ⟨Ex.mut I.ex nq, upd_some npq I.hp, ?_, upd_some nlq I.hl, I.fnd, nodup_snoc_iff.mpr ⟨I.tnd, hn⟩, I.fin, fun y hy => ?_, I.win⟩
  · rw [upd_same, addk_new hn, set_true]
  · rcases List.mem_append.mp hy with z | z
    · exact I.tin y z
    · rw [List.mem_singleton.mp z]; exact ⟨hx, lk⟩
theorem PfI.giver (I : PfI H ps row st p q l fs ts ws H1) (np : H p = none) (nl : H l = none) (npq : p ≠ q) (nlq : l ≠ q) (nlp : l ≠ p) (hx : x ∈ ps) (hn : x ∉ fs) (lk : Lnk ps row st x) : PfI H ps row st p q l (fs ++ [x]) ts (ws ++ [x]) (upd (upd H1 p (sd (addk fs x) (setf (fun _ => .bl true) x (.bl true)))) l (.lst (ws.map V.str ++ [.str x]))) := by
  refine ⟨Ex.mut (Ex.mut I.ex np) nl, ?_, upd_some (Ne.symm nlq) (upd_some (Ne.symm npq) I.hq), ?_, nodup_snoc_iff.mpr ⟨I.fnd, hn⟩, I.tnd, fun y hy => ?_, I.tin, fun y hy => ?_⟩
  · refine upd_some (Ne.symm nlp) ?_
    rw [upd_same, addk_new hn, set_true]
  · show _ = _
    rw [upd_same, List.map_append]; rfl
  · rcases List.mem_append.mp hy with z | z
    · exact I.fin y z
    · rw [List.mem_singleton.mp z]; exact ⟨hx, lk⟩
  · rcases List.mem_append.mp hy with z | z
    · exact List.mem_append_left _ (I.win y z)
    · exact List.mem_append_right _ z
theorem sub_lt {fs ps : List Str} {x : Str} (nd : fs.Nodup) (hs : ∀ y ∈ fs, y ∈ ps) (hx : x ∈ ps) (hn : x ∉ fs) : fs.length < ps.length := by
  have := (nodup_snoc_iff.mpr ⟨nd, hn⟩).length_le_of_subset (l₂ := ps) fun y hy => by
    rcases List.mem_append.mp hy with z | z
    · exact hs y z
    · rw [List.mem_singleton.mp z]; exact hx
  rw [List.length_append, List.length_singleton] at this
  omega
end
section
variable {P : Program} {w : World} {K : PySem.W.Frag} {mg : Str → Option Value} {base : Heap} {k j : Nat}
abbrev n_part_from : List Str := ["rows", "sharing", "start", "givers", "takers", "waiting", "giver", "taker", "other"]
theorem sc_part_from : FnScope n_part_from ["rows", "sharing", "start"] (defScope s_part_from) := ⟨rfl, rfl, rfl, by decide +kernel, rfl, by decide +kernel, by decide +kernel⟩
def spPartFrom : Sp := fun vs H Q _ => ∃ r sh ps row ks sf st, vs = [.ref r, .ref sh, .str st] ∧ RowsRd H r ps row ∧ Rd H sh (sd ks sf) ∧ (∀ g ∈ ps, ∀ t ∈ row g, t ∈ ks) ∧ (∀ t ∈ ks, ∃ b gs, sf t = .ref b ∧ Ls H b gs ∧ ∀ g ∈ gs, g ∈ ps ∧ t ∈ row g) ∧ st ∈ ps ∧ RowsOk ps row ∧
  ∀ p H' b, Ex H H' → BlockAt ps row H' p b → Q (.ref p) H'
theorem c_part_from (T : Txt K mg) : Cal P w K mg base (k + 1) "part_from" spPartFrom := by
  refine T.a_part_from.ok sc_part_from (fun _ _ _ _ _ _ us hl => match us, hl with | [_, _, _], _ => rfl) (fun vs H Q E h => ?_) (fun f cdv A outer s H vs Q E hr h => ⟨_, (pss_cons (ps_set (i := 3) sc_part_from.nd rfl (Or.inl rfl) (pe_disp (pps_cons (pv 2) pe_bl pps_nil) (by rfl) (by rfl) (fun z => by cases z) (by decide)))
      (pss_cons (ps_set (i := 4) sc_part_from.nd rfl (Or.inl rfl) pe_dnewK)
      (pss_cons (ps_set (i := 5) sc_part_from.nd rfl (Or.inl rfl) (pe_lst (pa_cons (pv 2) pa_nil)))
      (pss_cons (ps_while PassesOwn.never (pt_truth (pv 5) (by intro _; rfl)) (pss_cons (ps_set (i := 6) sc_part_from.nd rfl (Or.inl rfl) (pe_bm0 PySem.F.plainAttrs_list PySem.F.slot_list_pop PySem.F.type_list_pop mt_pop (pv 5)))
      (pss_one (ps_for PassesOwn.never rfl (pi_list (pe_dget (hu_of hr) (pv 0) (pv 6) (fun _ _ => rfl))) (pg_name (i := 7) sc_part_from.nd rfl (Or.inl rfl)) (pss_cons (ps_if (pt_cmp (pc_din (hu_of hr) (pv 7) (pv 4))) (pss_one ps_continue) pss_nil)
      (pss_cons (ps_dput (hu_of hr) (pv 4) (pv 7) pe_bl rfl)
      (pss_one (ps_for PassesOwn.never rfl (pi_list (pe_dget (hu_of hr) (pv 1) (pv 7) (fun _ _ => rfl))) (pg_name (i := 8) sc_part_from.nd rfl (Or.inl rfl)) (pss_one (ps_if (pt_cmp (pc_dnotin (hu_of hr) (pv 8) (pv 3))) (pss_cons (ps_dput (hu_of hr) (pv 3) (pv 8) pe_bl rfl)
      (pss_one (ps_expr (pe_bm PySem.F.plainAttrs_list PySem.F.slot_list_append PySem.F.type_list_append mt_append (pv 5) (pa_cons (pv 8) pa_nil))))) pss_nil))))))))))
      (pss_one (ps_ret (pe_tup (pa_cons (pe_callTy crTuple (by rfl) T.f_tuple b_tuple (pa_cons (pe_callB (crSortS hr.units) (by rfl) T.f_sorted b_sorted (pa_cons (pe_callTy (call_listD rfl) (by rfl) T.f_list b_list (pa_cons (pv 3) pa_nil)) pa_nil)) pa_nil)) (pa_cons (pe_callTy crTuple (by rfl) T.f_tuple b_tuple (pa_cons (pe_callB (crSortS hr.units) (by rfl) T.f_sorted b_sorted (pa_cons (pe_callTy (call_listD rfl) (by rfl) T.f_list b_list (pa_cons (pv 4) pa_nil)) pa_nil)) pa_nil)) pa_nil))))))))), ?_⟩)
  · obtain ⟨_, _, _, _, _, _, _, rfl, _⟩ := h; rfl
  · obtain ⟨r, sh, ps, row, ks, sf, st, rfl, ⟨fr, hr1, hr2⟩, hs1, hs2, hs3, hst, ok, qq⟩ := h
    have hl7 := ok.len
    walk_at "go"
    intro p hp
    show tPairs _ _ _ _
    refine i_var rfl ?_
    refine i_c ?_
    show (upd H p (.dK [])) p = _ ∧ _
    refine ⟨upd_same, [(.inr st, .bl true)], rfl, by show 1 ≤ 15; decide, ?_⟩
    rw [upd_upd]
    have e0 : Ex H (upd H p (sd [st] fun _ => .bl true)) := Ex.new hp
    show gName 3 _ _ (upd H p (sd [st] fun _ => .bl true)) _
    have hp0 : upd H p (sd [st] fun _ => .bl true) p = some (sd [st] fun _ => .bl true) := upd_same
    generalize upd H p (sd [st] fun _ => .bl true) = H0 at e0 hp0
    walk_at "go"
    intro q hq0
    walk_at "go"
    refine ⟨by show 1 ≤ sizeLine; decide, fun l hl0 => ?_⟩
    walk_at "go"
    have nqp : q ≠ p := ne_new hq0 hp0
    have hq : H q = none := ex_none e0 hq0
    have e1 : Ex H (upd H0 q (.dK [])) := Ex.mut e0 hq
    have hl : H l = none := ex_none e1 hl0
    have nlp : l ≠ p := ne_new hl0 (upd_some (Ne.symm nqp) hp0)
    have nlq : l ≠ q := ne_new hl0 upd_same
    refine i_while (fun c σ H1 => ∃ o6 o7 o8 fs ts ws, σ = [some (.ref r), some (.ref sh), some (.str st), some (.ref p), some (.ref q), some (.ref l), o6, o7, o8] ∧ PfI H ps row st p q l fs ts ws H1 ∧ c = 2 * (ps.length - fs.length) + ws.length ∧ c ≤ 48) (2 * (ps.length - 1) + 1)
      ⟨_, _, _, [st], [], [st], rfl, ⟨Ex.mut e1 hl, upd_some (Ne.symm nlp) (upd_some (Ne.symm nqp) hp0), upd_some (Ne.symm nlq) upd_same, upd_same, by simp, List.nodup_nil, fun x hx => by rw [List.mem_singleton.mp hx]; exact ⟨hst, .refl⟩, fun x hx => by simp at hx, fun x hx => hx⟩, rfl, by omega⟩ ?_
    rintro c σ H1 ⟨o6, o7, o8, fs, ts, ws, rfl, I1, rfl, hmz⟩
    walk_at "go"
    refine i_truL I1.hl ?_
    rcases List.eq_nil_or_concat ws with rfl | ⟨ws', x, rfl⟩
    · show if (!(([] : List Str).map V.str).isEmpty) = true then _ else _
      rw [if_neg (by decide)]
      walk_at "go"
      refine ⟨p, _, rfl, .inl I1.hp, fun la hla => ?_⟩
      rw [show (kd jS fs fun _ => V.bl true).map (fun kv => kV kv.1) = fs.map V.str by unfold kd; rw [List.map_map]; rfl]
      walk_at "go"
      refine ⟨la, fs, rfl, upd_same, fun lb hlb => ?_⟩
      walk_at "go"
      refine ⟨lb, _, rfl, upd_same, fun lc hlc => ?_⟩
      have e2 : Ex H1 (upd (upd (upd H1 la (.lst (fs.map V.str))) lb (.lst ((ssort fs).map V.str))) lc (.tup ((ssort fs).map V.str))) := ((Ex.new hla).trans (Ex.new hlb)).trans (Ex.new hlc)
      have hlc2 : Ts (upd (upd (upd H1 la (.lst (fs.map V.str))) lb (.lst ((ssort fs).map V.str))) lc (.tup ((ssort fs).map V.str))) lc (ssort fs) := upd_same
      generalize upd (upd (upd H1 la (.lst (fs.map V.str))) lb (.lst ((ssort fs).map V.str))) lc (.tup ((ssort fs).map V.str)) = H2 at e2 hlc2
      walk_at "go"
      refine ⟨q, _, rfl, .inl (e2 _ _ I1.hq), fun ld hld => ?_⟩
      rw [show (kd jS ts fun _ => V.bl true).map (fun kv => kV kv.1) = ts.map V.str by unfold kd; rw [List.map_map]; rfl]
      walk_at "go"
      refine ⟨ld, ts, rfl, upd_same, fun le hle => ?_⟩
      walk_at "go"
      refine ⟨le, _, rfl, upd_same, fun lf hlf => ?_⟩
      have e3 : Ex H2 (upd (upd (upd H2 ld (.lst (ts.map V.str))) le (.lst ((ssort ts).map V.str))) lf (.tup ((ssort ts).map V.str))) := ((Ex.new hld).trans (Ex.new hle)).trans (Ex.new hlf)
      have hlf2 : Ts (upd (upd (upd H2 ld (.lst (ts.map V.str))) le (.lst ((ssort ts).map V.str))) lf (.tup ((ssort ts).map V.str))) lf (ssort ts) := upd_same
      generalize upd (upd (upd H2 ld (.lst (ts.map V.str))) le (.lst ((ssort ts).map V.str))) lf (.tup ((ssort ts).map V.str)) = H3 at e3 hlf2
      walk_at "go"
      refine ⟨by show 2 ≤ sizeLine; decide, fun z hz => ?_⟩
      have e4 : Ex H3 (upd H3 z (.tup [.ref lc, .ref lf])) := Ex.new hz
      exact qq z _ (ssort fs, ssort ts) (((I1.ex.trans e2).trans e3).trans e4) ⟨lc, lf, st, upd_same, (hlc2.ex e3).ex e4, hlf2.ex e4, fun x hx => I1.fin x ((ssort_perm fs).mem_iff.mp hx), fun x hx => I1.tin x ((ssort_perm ts).mem_iff.mp hx), by rw [(ssort_perm fs).length_eq]; exact I1.fnd.length_le_of_subset fun x hx => (I1.fin x hx).1, by rw [(ssort_perm ts).length_eq]; exact I1.tnd.length_le_of_subset fun x hx => (I1.tin x hx).1⟩
    · rw [List.concat_eq_append] at *
      rw [show (!((ws' ++ [x]).map V.str).isEmpty) = true by simp, if_pos rfl]
      have hl1' : H1 l = some (.lst (ws'.map V.str ++ [.str x])) := by rw [I1.hl, List.map_append]; rfl
      refine ⟨fun σ' H' => ∃ o6 o7 o8 fs' ts' ws'', σ' = [some (.ref r), some (.ref sh), some (.str st), some (.ref p), some (.ref q), some (.ref l), o6, o7, o8] ∧ PfI H ps row st p q l fs' ts' ws'' H' ∧ 2 * (ps.length - fs'.length) + ws''.length + 1 ≤ 2 * (ps.length - fs.length) + (ws' ++ [x]).length, ?_, ?_⟩
      · rintro σ' H' ⟨o6, o7, o8, fs', ts', ws'', z1, z2, z3⟩
        exact ⟨_, by omega, o6, o7, o8, fs', ts', ws'', z1, z2, rfl, by omega⟩
      have hmz2 : 2 * (ps.length - fs.length) + ws'.length ≤ 47 := by rw [List.length_append, List.length_singleton] at hmz; omega
      walk_at "go"
      refine ⟨ty_l hl1', ?_⟩
      refine i_pop hl1' ?_
      walk_at "go"
      have hx := I1.fin x (I1.win x (by simp))
      have I2 : PfI H ps row st p q l fs ts ws' (upd H1 l (.lst (ws'.map V.str))) :=
        ⟨Ex.mut I1.ex hl, upd_some (Ne.symm nlp) I1.hp, upd_some (Ne.symm nlq) I1.hq, upd_same, I1.fnd, I1.tnd, I1.fin, I1.tin, fun y hy => I1.win y (by simp [hy])⟩
      generalize upd H1 l (.lst (ws'.map V.str)) = H2 at I2
      obtain ⟨lx, hlx1, hlx2⟩ := hr2 x hx.1
      refine kd_get (rd_ex I2.ex hr1) hx.1 ?_
      rw [hlx1]
      walk_at "go"
      refine forL (I2.ex _ _ hlx2) (fun i σ H3 => ∃ o7 o8 fs' ts' ws'', σ = [some (.ref r), some (.ref sh), some (.str st), some (.ref p), some (.ref q), some (.ref l), some (.str x), o7, o8] ∧ PfI H ps row st p q l fs' ts' ws'' H3 ∧ 2 * (ps.length - fs'.length) + ws''.length ≤ 2 * (ps.length - fs.length) + ws'.length)
        ⟨_, _, fs, ts, ws', rfl, I2, Nat.le_refl _⟩ (fun i σ H3 _ z => by obtain ⟨_, _, _, _, _, _, I, _⟩ := z; exact SqL.of (I.ex _ _ hlx2)) (fun i v σ H3 hv z => ?_) (fun σ H3 z => ?_)
      · obtain ⟨o7, o8, fs', ts', ws'', rfl, I3, m3⟩ := z
        obtain ⟨t, ht, rfl⟩ := map_get hv
        have htm := List.mem_of_getElem? ht
        have htp := ok.dom x hx.1 t htm
        have htk := hs2 x hx.1 t htm
        walk_at "go"
        refine kd_in (.inl I3.hq) fun o' ho' => ?_
        rw [ho']
        walk_at "go"
        refine br_d (fun hm => ?_) fun hn => ?_
        · walk_at "go"
          exact ⟨_, _, fs', ts', ws'', rfl, I3, m3⟩
        · walk_at "go"
          have htl : ts'.length < ps.length := sub_lt I3.tnd (fun y hy => (I3.tin y hy).1) htp hn
          have lkt : Lnk ps row st t := .fwd hx.2 hx.1 htm
          refine kd_put I3.hq (small1000 (by omega)) ?_
          have I4 := I3.taker hq (Ne.symm nqp) nlq htp hn lkt
          generalize upd H3 q (sd (addk ts' t) (setf (fun _ => .bl true) t (.bl true))) = H4 at I4
          walk_at "go"
          obtain ⟨b, gs, hb1, hb2, hb3⟩ := hs3 t htk
          refine kd_get (rd_ex I4.ex hs1) htk ?_
          rw [hb1]
          walk_at "go"
          refine forL (I4.ex _ _ hb2) (fun i σ H5 => ∃ o8 fs' ws'', σ = [some (.ref r), some (.ref sh), some (.str st), some (.ref p), some (.ref q), some (.ref l), some (.str x), some (.str t), o8] ∧ PfI H ps row st p q l fs' (ts' ++ [t]) ws'' H5 ∧ 2 * (ps.length - fs'.length) + ws''.length ≤ 2 * (ps.length - fs.length) + ws'.length)
            ⟨_, fs', ws'', rfl, I4, m3⟩ (fun i σ H3 _ z => by obtain ⟨_, _, _, _, I, _⟩ := z; exact SqL.of (I.ex _ _ hb2)) (fun i v σ H5 hv z => ?_) (fun σ H5 z => ?_)
          · obtain ⟨o8, fs5, ws5, rfl, I5, m5⟩ := z
            obtain ⟨g, hg, rfl⟩ := map_get hv
            obtain ⟨hgp, hgt⟩ := hb3 g (List.mem_of_getElem? hg)
            walk_at "go"
            refine kd_in (.inl I5.hp) fun o' ho' => ?_
            rw [ho']
            walk_at "go"
            refine br_nd (fun hn5 => ?_) fun hm => ?_
            · walk_at "go"
              have hfl := sub_lt I5.fnd (fun y hy => (I5.fin y hy).1) hgp hn5
              refine kd_put I5.hp (small1000 (by omega)) ?_
              have lkg : Lnk ps row st g := .bwd lkt hgp hgt
              have I6 := I5.giver hp hl (Ne.symm nqp) nlq nlp hgp hn5 lkg
              have hl6 : upd H5 p (sd (addk fs5 g) (setf (fun _ => .bl true) g (.bl true))) l = some (.lst (ws5.map V.str)) := upd_some nlp I5.hl
              walk_at "go"
              refine ⟨ty_l hl6, ?_⟩
              walk_at "go"
              refine i_app hl6 (by rw [List.length_map]; exact small1000 (by omega)) ?_
              walk_at "go"
              exact ⟨_, fs5 ++ [g], ws5 ++ [g], rfl, I6, by rw [List.length_append, List.length_append, List.length_singleton]; omega⟩
            · walk_at "go"
              exact ⟨_, fs5, ws5, rfl, I5, m5⟩
          · obtain ⟨o8, fs5, ws5, rfl, I5, m5⟩ := z
            exact ⟨_, _, fs5, ts' ++ [t], ws5, rfl, I5, m5⟩
      · obtain ⟨o7, o8, fs', ts', ws'', rfl, I3, m3⟩ := z
        exact ⟨_, _, _, fs', ts', ws'', rfl, I3, by rw [List.length_append, List.length_singleton]; omega⟩
end
end GR
end
section
set_option Elab.async false
set_option linter.all false
set_option maxRecDepth 100000
set_option maxHeartbeats 4000000
set_option autoImplicit false
namespace GR
open PySem PySem.Spec L2
open Evl (Ex)
local macro_rules | `(tactic| walk_at "go") => `(tactic| (repeat (first
  | with_reducible refine i_seq ?_
  | ((with_reducible apply i_var); focus rfl)
  | with_reducible refine i_c ?_
  | with_reducible refine i_cons ?_
  | with_reducible refine i_nil ?_
  | with_reducible refine i_asg ?_
  | with_reducible refine i_name ?_
  | with_reducible refine i_op ?_
  | with_reducible refine i_cb ?_
  | with_reducible refine i_fn ?_
  | with_reducible refine i_ret ?_
  | with_reducible refine i_retN ?_
  | with_reducible refine i_drop ?_
  | with_reducible refine i_next ?_
  | with_reducible refine i_cont ?_
  | with_reducible refine i_break ?_
  | with_reducible refine i_if ?_
  | with_reducible refine br_t ?_
  | with_reducible refine br_f ?_
  | with_reducible refine br_nt ?_
  | with_reducible refine io_t ?_
  | with_reducible refine io_f ?_
  | with_reducible refine io_nt ?_
  | with_reducible refine io_nf ?_
  | with_reducible refine br_nf ?_
  | with_reducible refine o_ip ?_
  | with_reducible refine i_test ?_
  | with_reducible refine i_tB ?_
  | with_reducible refine i_not ?_
  | with_reducible refine i_notV ?_
  | with_reducible refine i_andV ?_
  | with_reducible refine i_orV ?_
  | with_reducible refine i_and ?_
  | with_reducible refine i_or ?_
  | with_reducible refine i_dput ?_
  | with_reducible refine i_dget ?_
  | with_reducible refine i_din ?_
  | with_reducible refine i_dnotin ?_
  | with_reducible refine i_dnewK ?_
  | with_reducible refine i_dnewT ?_
  | with_reducible refine i_fld ?_
  | with_reducible refine i_sfld ?_
  | with_reducible refine i_bm0 ?_
  | with_reducible refine i_bm ?_
  | with_reducible refine i_sl ?_
  | with_reducible refine i_noPart ?_
  | with_reducible refine i_part ?_
  | with_reducible refine i_chain ?_
  | with_reducible refine i_methR ?_
  | with_reducible refine i_tup ?_
  | with_reducible refine i_lst ?_
  | with_reducible refine i_for ?_
  | with_reducible refine i_iList ?_
  | with_reducible refine i_iTup ?_
  | with_reducible refine i_iKeys ?_
  | with_reducible refine i_iRng1 ?_
  | with_reducible refine i_iRng2 ?_
  | with_reducible refine i_iStr ?_
  | with_reducible refine i_iEnum ?_
  | with_reducible refine i_iEnumT ?_
  | with_reducible refine i_lc ?_
  | with_reducible refine i_stD ?_
  | with_reducible refine i_iItemsT ?_
  | with_reducible refine i_dcw ?_
  | with_reducible refine i_dsetd ?_
  | with_reducible refine i_iVals ?_
  | with_reducible refine i_iItems ?_
  | with_reducible refine i_revL ?_
  | with_reducible refine i_yes ?_
  | with_reducible refine o_I0 ?_
  | with_reducible refine o_eqS ?_
  | with_reducible refine o_neS ?_
  | with_reducible refine o_eqI ?_
  | with_reducible refine o_neI ?_
  | with_reducible refine o_eqB ?_
  | with_reducible refine e_ref ?_
  | with_reducible refine e_str ?_
  | with_reducible refine e_int ?_
  | with_reducible refine e_bl ?_
  | with_reducible refine e_str1 ?_
  | with_reducible refine e_int1 ?_
  | with_reducible refine e_int2 ?_
  | with_reducible refine e_str2 ?_)))
open PySem.W (EachIs AllAlike Sortable dataLe)
/-! ### sorted lists of objects -/
theorem i_sortLP {β : Type} {H : Hp} {a : Addr} {Q : VK} (zs : List (Addr × β)) (dat : β → PyData) (ha : H a = some (.lst (zs.map fun z => V.ref z.1))) (hd : ∀ z ∈ zs, Dh H (.ref z.1) (dat z.2)) (hal : ∀ x y, PySem.W.alike (dat x) (dat y) = true) (hs : ∀ z ∈ zs, ∃ y r, dat z.2 = .tuple (y :: r)) (hdep : ∀ x, (dat x).depth ≤ 30)
    (q : ∀ p, H p = none → Q (.ref p) (upd H p (.lst ((zs.mergeSort fun x y => dataLe false dat x.2 y.2).map fun z => V.ref z.1)))) : cSortD [.ref a] H Q := by
  have em : (zs.map fun z => (V.ref z.1, dat z.2)).map Prod.fst = zs.map fun z => V.ref z.1 := by rw [List.map_map]; rfl
  have em2 : (zs.map fun z => (V.ref z.1, dat z.2)).map Prod.snd = (zs.map Prod.snd).map dat := by rw [List.map_map, List.map_map]; rfl
  refine ⟨a, zs.map fun z => (V.ref z.1, dat z.2), rfl, by rw [em]; exact ha, fun x hx => ?_, by rw [em2]; exact AllAlike.of hal, by rw [em2]; exact .inl (fun d hd => by obtain ⟨b, hb, rfl⟩ := List.mem_map.mp hd; obtain ⟨z, hz, rfl⟩ := List.mem_map.mp hb; exact hs z hz), fun x hx => ?_, fun p hp => ?_⟩
  · obtain ⟨z, hz, rfl⟩ := List.mem_map.mp hx
    exact hd z hz
  · obtain ⟨z, hz, rfl⟩ := List.mem_map.mp hx
    exact hdep z.2
  · have e : (zs.map fun z => (V.ref z.1, dat z.2)).mergeSort (dataLe false Prod.snd) = (zs.mergeSort fun x y => dataLe false dat x.2 y.2).map fun z => (V.ref z.1, dat z.2) :=
      (PySem.W.sort_maps (r := fun x y : Addr × β => dataLe false dat x.2 y.2) (fun z => (V.ref z.1, dat z.2)) fun a _ b _ => rfl).symm
    rw [e, List.map_map]
    exact q p hp
theorem alike_strs : ∀ xs ys : List Str, PySem.W.alikeAll (xs.map PyData.str) (ys.map PyData.str) = true
  | [], _ => by simp [PySem.W.alikeAll]
  | _ :: _, [] => by simp [PySem.W.alikeAll]
  | x :: xs, y :: ys => by
    show PySem.W.alikeAll (PyData.str x :: xs.map PyData.str) (PyData.str y :: ys.map PyData.str) = true
    rw [PySem.W.alikeAll, alike_strs xs ys]
    simp [PySem.W.alike]
/-- a tuple of names as data -/
def dT (xs : List Str) : PyData := .tuple (xs.map PyData.str)
theorem dT_alike (x y : List Str) : PySem.W.alike (dT x) (dT y) = true := by unfold dT; rw [PySem.W.alike]; exact alike_strs x y
theorem dT_depth (x : List Str) : (dT x).depth = 1 := by unfold dT; rw [PyData.depth, depth_strs]
def dB (b : List Str × List Str) : PyData := .tuple [dT b.1, dT b.2]
theorem dB_alike (x y : List Str × List Str) : PySem.W.alike (dB x) (dB y) = true := by
  unfold dB
  rw [PySem.W.alike, PySem.W.alikeAll, PySem.W.alikeAll, dT_alike, dT_alike]
  simp [PySem.W.alikeAll]
theorem dB_depth (x : List Str × List Str) : (dB x).depth ≤ 30 := by
  unfold dB
  rw [PyData.depth, PyData.depthAll, PyData.depthAll, PyData.depthAll, dT_depth, dT_depth]
  decide
/-- how parts_of gathers who may give to whom -/
structure ShI (L : Hp) (ps : List Str) (row : Str → List Str) (sh : Addr) (c : Nat) (ks : List Str) (f : Str → V) (H1 : Hp) : Prop where
  ex : Ex L H1
  hs : H1 sh = some (sd ks f)
  nd : ks.Nodup
  kin : ∀ t ∈ ks, t ∈ ps
  at' : ∀ t ∈ ks, ∃ b gs, f t = .ref b ∧ Ls H1 b gs ∧ L b = none ∧ gs.length ≤ c ∧ ∀ g ∈ gs, g ∈ ps ∧ t ∈ row g
  inj : ∀ t ∈ ks, ∀ t' ∈ ks, f t = f t' → t = t'
section
variable {L H1 : Hp} {ps ks : List Str} {row : Str → List Str} {sh b : Addr} {c : Nat} {f : Str → V} {t g : Str} {xs : List V}
/-- a giver is put to a taker's list -/
theorem ShI.app {gs : List Str} (I : ShI L ps row sh c ks f H1) (ht : t ∈ ks) (hb : f t = .ref b) (hl : Ls H1 b gs) (hLb : L b = none) (hgl : gs.length ≤ c) (hgs : ∀ g ∈ gs, g ∈ ps ∧ t ∈ row g) (hg : g ∈ ps) (hgt : t ∈ row g) : ShI L ps row sh (c + 1) ks f (upd H1 b (.lst (gs.map V.str ++ [.str g]))) := by
  have hbs : sh ≠ b := fun e => by have h := I.hs; rw [e, show H1 b = _ from hl] at h; cases h
  refine ⟨Ex.mut I.ex hLb, upd_some hbs I.hs, I.nd, I.kin, fun t' ht' => ?_, I.inj⟩
  by_cases e : t' = t
  · subst e
    refine ⟨b, gs ++ [g], hb, by show _ = _; rw [upd_same, List.map_append]; rfl, hLb, by rw [List.length_append, List.length_singleton]; omega, fun x hx => ?_⟩
    rcases List.mem_append.mp hx with z | z
    · exact hgs x z
    · rw [List.mem_singleton.mp z]; exact ⟨hg, hgt⟩
  · obtain ⟨b', gs', h1, h2, h3, h4, h5⟩ := I.at' t' ht'
    have nb : b' ≠ b := fun e2 => e (I.inj t' ht' t ht (by rw [h1, hb, e2]))
    exact ⟨b', gs', h1, upd_some nb h2, h3, Nat.le_succ_of_le h4, h5⟩
/-- a new taker -/
theorem ShI.new (I : ShI L ps row sh c ks f H1) (hp : H1 b = some (.lst [])) (hLb : L b = none) (hLs : L sh = none) (htp : t ∈ ps) (hn : t ∉ ks) (hf : ∀ t' ∈ ks, f t' ≠ .ref b) : ShI L ps row sh c (addk ks t) (setf f t (.ref b)) (upd H1 sh (sd (addk ks t) (setf f t (.ref b)))) := by
  have keep : ∀ {b' : Addr} {gs : List Str}, Ls H1 b' gs → Ls (upd H1 sh (sd (addk ks t) (setf f t (.ref b)))) b' gs := fun h => upd_keep h I.hs fun e => nomatch e
  refine ⟨Ex.mut I.ex hLs, upd_same, nd_addk I.nd, fun x hx => ?_, fun t' ht' => ?_, fun t1 h1 t2 h2 e => ?_⟩
  · rcases mem_addk.mp hx with z | z
    · exact I.kin x z
    · rw [z]; exact htp
  · by_cases e : t' = t
    · subst e
      exact ⟨b, [], setf_same .., keep hp, hLb, Nat.zero_le _, fun x hx => by cases hx⟩
    · obtain ⟨b', gs', h1, h2, h3, h4, h5⟩ := I.at' t' ((mem_addk.mp ht').resolve_right e)
      exact ⟨b', gs', by rw [setf_ne _ _ e]; exact h1, keep h2, h3, h4, h5⟩
  · by_cases e1 : t1 = t
    · by_cases e2 : t2 = t
      · rw [e1, e2]
      · rw [e1, setf_same, setf_ne _ _ e2] at e
        exact absurd e.symm (hf t2 ((mem_addk.mp h2).resolve_right e2))
    · by_cases e2 : t2 = t
      · rw [e2, setf_same, setf_ne _ _ e1] at e
        exact absurd e (hf t1 ((mem_addk.mp h1).resolve_right e1))
      · rw [setf_ne _ _ e1, setf_ne _ _ e2] at e
        exact I.inj t1 ((mem_addk.mp h1).resolve_right e1) t2 ((mem_addk.mp h2).resolve_right e2) e
theorem ShI.grow {H2 : Hp} (I : ShI L ps row sh c ks f H1) (e : Ex H1 H2) : ShI L ps row sh c ks f H2 := ⟨I.ex.trans e, e _ _ I.hs, I.nd, I.kin, fun t ht => let ⟨b, gs, h1, h2, h3⟩ := I.at' t ht; ⟨b, gs, h1, h2.ex e, h3⟩, I.inj⟩
theorem ShI.le {c2 : Nat} (I : ShI L ps row sh c ks f H1) (h : c ≤ c2) : ShI L ps row sh c2 ks f H1 := ⟨I.ex, I.hs, I.nd, I.kin, fun t ht => let ⟨b, gs, h1, h2, h3, h4, h5⟩ := I.at' t ht; ⟨b, gs, h1, h2, h3, Nat.le_trans h4 h, h5⟩, I.inj⟩
theorem ShI.len (I : ShI L ps row sh c ks f H1) : ks.length ≤ ps.length := I.nd.length_le_of_subset I.kin
end
section
variable {P : Program} {w : World} {K : PySem.W.Frag} {mg : Str → Option Value} {base : Heap} {k j : Nat}
abbrev n_parts_of : List Str := ["rows", "sharing", "giver", "taker", "known", "parts", "placed", "part", "other"]
theorem sc_parts_of : FnScope n_parts_of ["rows"] (defScope s_parts_of) := ⟨rfl, rfl, rfl, by decide +kernel, rfl, by decide +kernel, by decide +kernel⟩
def spPartsOf : Sp := fun vs H Q _ => ∃ r ps row, vs = [.ref r] ∧ RowsAt H r ps row ∧ RowsOk ps row ∧ ∀ p H' bs, Ex H H' → LP (BlockAt ps row H') H' p bs → Q (.ref p) H'
theorem c_parts_of (T : Txt K mg) (c_part_from : Cal P w K mg base k "part_from" spPartFrom) : Cal P w K mg base (k + 1) "parts_of" spPartsOf := by
  refine T.a_parts_of.ok sc_parts_of (fun _ _ _ _ _ _ us hl => match us, hl with | [_], _ => rfl) (fun vs H Q E h => ?_) (fun f cdv A outer s H vs Q E hr h => ⟨_, (pss_cons (ps_set (i := 1) sc_parts_of.nd rfl (Or.inl rfl) pe_dnewK)
      (pss_cons (ps_lock (ps_for PassesOwn.never rfl (pi_keys (pv 0)) (pg_name (i := 2) sc_parts_of.nd rfl (Or.inl rfl)) (pss_one (ps_for PassesOwn.never rfl (pi_list (pe_dget (hu_of hr) (pv 0) (pv 2) (fun _ _ => rfl))) (pg_name (i := 3) sc_parts_of.nd rfl (Or.inl rfl)) (pss_cons (ps_set (i := 4) sc_parts_of.nd rfl (Or.inl rfl) (pe_dsetd (pv 1) (pv 3) (pe_lst pa_nil) ⟨rfl, rfl, rfl, rfl⟩))
      (pss_one (ps_expr (pe_bm PySem.F.plainAttrs_list PySem.F.slot_list_append PySem.F.type_list_append mt_append (pv 4) (pa_cons (pv 2) pa_nil)))))))))
      (pss_cons (ps_set (i := 5) sc_parts_of.nd rfl (Or.inl rfl) (pe_lst pa_nil))
      (pss_cons (ps_set (i := 6) sc_parts_of.nd rfl (Or.inl rfl) pe_dnewK)
      (pss_cons (ps_lock (ps_for PassesOwn.never rfl (pi_keys (pv 0)) (pg_name (i := 2) sc_parts_of.nd rfl (Or.inl rfl)) (pss_cons (ps_if (PW.pt (pw_or (pt_cmp (pc_din (hu_of hr) (pv 2) (pv 6))) (pw_or1 (pt_not (pt_truth (pe_dget (hu_of hr) (pv 0) (pv 2) (fun _ _ => rfl)) (by intro _; rfl)))))) (pss_one ps_continue) pss_nil)
      (pss_cons (ps_set (i := 7) sc_parts_of.nd rfl (Or.inl rfl) (pe_fn c_part_from (hr.mono (by omega)) (pa_cons (pv 0) (pa_cons (pv 1) (pa_cons (pv 2) pa_nil)))))
      (pss_cons (ps_for PassesOwn.never rfl (pi_tup (pe_ix ixT (pv 7) pe_int (fun _ _ => rfl))) (pg_name (i := 8) sc_parts_of.nd rfl (Or.inl rfl)) (pss_one (ps_dput (hu_of hr) (pv 6) (pv 8) pe_bl rfl)))
      (pss_one (ps_expr (pe_bm PySem.F.plainAttrs_list PySem.F.slot_list_append PySem.F.type_list_append mt_append (pv 5) (pa_cons (pv 7) pa_nil)))))))))
      (pss_one (ps_ret (pe_callB (crSortD hr.units) (by rfl) T.f_sorted b_sorted (pa_cons (pv 5) pa_nil))))))))), ?_⟩)
  · obtain ⟨_, _, _, rfl, _⟩ := h; rfl
  · obtain ⟨r, ps, row, rfl, ⟨fr, hr1, hr2⟩, ok, q⟩ := h
    have hl7 := ok.len
    walk_at "go"
    intro sh hsh
    walk_at "go"
    have nrs : r ≠ sh := fun z => by rw [z, hsh] at hr1; cases hr1
    have hr1' : upd H sh (.dK []) r = some (sd ps fr) := by rw [upd_ne nrs]; exact hr1
    refine i_lock hr1' trivial fun od => ?_
    have hLs : upd H r (.frz od (sd ps fr)) sh = none := by rw [upd_ne (Ne.symm nrs)]; exact hsh
    have e0 : Ex (upd H r (.frz od (sd ps fr))) (upd (upd H sh (.dK [])) r (.frz od (sd ps fr))) := by
      rw [upd_comm (Ne.symm nrs)]
      exact Ex.new hLs
    have lk : RowsRd (upd H r (.frz od (sd ps fr))) r ps row := RowsAt.lock hr1 hr2
    walk_at "go"
    refine ⟨r, od, rfl, .inl ⟨_, upd_same, ?_⟩⟩
    refine loop_of walkK (fun i σ H1 => (∃ o2 o3 o4, σ = [some (.ref r), some (.ref sh), o2, o3, o4, none, none, none, none]) ∧ ∃ ks f, ShI (upd H r (.frz od (sd ps fr))) ps row sh (7 * i) ks f H1 ∧ ∀ g ∈ ps.take i, ∀ t ∈ row g, t ∈ ks)
      ⟨⟨_, _, _, rfl⟩, [], fun _ => .non, ⟨e0, by rw [upd_ne (Ne.symm nrs), upd_same]; rfl, List.nodup_nil, (fun t ht => by cases ht), (fun t ht => by cases ht), (fun t ht => by cases ht)⟩, by simp⟩
      (fun i σ H1 _ z => by obtain ⟨_, _, _, I, _⟩ := z; exact I.ex _ _ upd_same) (fun i v σ H2 H1 hi z y => ?_) (fun σ H1 z => ?_)
    · obtain ⟨⟨o2, o3, o4, rfl⟩, ks, f, I, cov⟩ := z
      obtain ⟨rfl, g, hg, rfl⟩ := y
      have hgm := List.mem_of_getElem? hg
      have lk1 := lk.ex I.ex
      obtain ⟨f9, hr9, hr10⟩ := lk
      obtain ⟨lg, hlg1, hlg2⟩ := hr10 g hgm
      walk_at "go"
      refine kd_get (rd_ex I.ex hr9) hgm ?_
      rw [hlg1]
      walk_at "go"
      refine forL (I.ex _ _ hlg2) (fun j σ H3 => (∃ o3 o4, σ = [some (.ref r), some (.ref sh), some (.str g), o3, o4, none, none, none, none]) ∧ ∃ ks f, ShI (upd H r (.frz od (sd ps fr))) ps row sh (7 * i + j) ks f H3 ∧ (∀ g ∈ ps.take i, ∀ t ∈ row g, t ∈ ks) ∧ ∀ t ∈ (row g).take j, t ∈ ks)
        ⟨⟨_, _, rfl⟩, ks, f, I, cov, by simp⟩ (fun j σ H3 _ z => by obtain ⟨_, _, _, I, _⟩ := z; exact SqL.of (I.ex _ _ hlg2)) (fun j v σ H3 hv z => ?_) (fun σ H3 z => ?_)
      · obtain ⟨⟨o3, o4, rfl⟩, ks3, f3, I3, cov3, cov4⟩ := z
        obtain ⟨t, ht, rfl⟩ := map_get hv
        have htm := List.mem_of_getElem? ht
        have htp := ok.dom g hgm t htm
        have hjl : j < 7 := by
          have h1 := (List.getElem?_eq_some_iff.mp ht).1
          have h2 := ok.rlen hgm
          omega
        have hil : i < 7 := by omega
        walk_at "go"
        refine ⟨.inl ⟨_, .inl I3.hs⟩, ?_⟩
        walk_at "go"
        refine ⟨by show 0 ≤ sizeLine; decide, fun pn hpn => ?_⟩
        have e4 : Ex H3 (upd H3 pn (.lst [])) := Ex.new hpn
        have I4 := I3.grow e4
        have hLp : upd H r (.frz od (sd ps fr)) pn = none := ex_none I3.ex hpn
        have fin : ∀ {ks5 : List Str} {f5 : Str → V} {H5 : Hp} {b : Addr} {gs : List Str} {n bk ct : Sl → Hp → Prop} {rt : VK}, ShI (upd H r (.frz od (sd ps fr))) ps row sh (7 * i + j) ks5 f5 H5 → t ∈ ks5 → f5 t = .ref b → Ls H5 b gs → upd H r (.frz od (sd ps fr)) b = none → gs.length ≤ 7 * i + j → (∀ g ∈ gs, g ∈ ps ∧ t ∈ row g) →
            (∀ H6, ShI (upd H r (.frz od (sd ps fr))) ps row sh (7 * i + j + 1) ks5 f5 H6 → n [some (.ref r), some (.ref sh), some (.str g), some (.str t), some (.ref b), none, none, none, none] H6) →
            tDrop (tBM K "list" rAppend (tVar 4) (tCons (tVar 2) tNil)) ⟨n, rt, bk, ct⟩ [some (.ref r), some (.ref sh), some (.str g), some (.str t), some (.ref b), none, none, none, none] H5 := fun {ks5 f5 H5 b gs n bk ct rt} I5 h1 h2 h3 h4 h5 h6 h7 => by
          walk_at "go"
          refine ⟨ty_l h3, ?_⟩
          walk_at "go"
          refine i_app h3 (by rw [List.length_map]; exact small1000 (by omega)) ?_
          exact h7 _ (I5.app h1 h2 h3 h4 h5 h6 hgm htm)
        have done : ∀ {ks5 : List Str}, t ∈ ks5 → (∀ x ∈ ks3, x ∈ ks5) → (∀ g ∈ ps.take i, ∀ t ∈ row g, t ∈ ks5) ∧ ∀ t ∈ (row g).take (j + 1), t ∈ ks5 := fun {ks5} h1 h7 => ⟨fun g' hg' t' ht' => h7 _ (cov3 g' hg' t' ht'), fun t' ht' => by
          rw [take_snoc ht] at ht'
          rcases List.mem_append.mp ht' with z | z
          · exact h7 _ (cov4 t' z)
          · rw [List.mem_singleton.mp z]; exact h1⟩
        refine ⟨kd jS ks3 f3, .inr t, I4.hs, rfl, by rw [kd_length]; exact small1000 (by have := I3.len; omega), fun v hv => ?_, fun hv => ?_⟩
        · rw [valV_kd inrS] at hv
          split at hv
          · rename_i hm
            cases hv
            obtain ⟨b, gs, h1, h2, h3, h4, h5⟩ := I4.at' t hm
            rw [h1]
            exact fin I4 hm h1 h2 h3 h4 h5 fun H6 I6 => ⟨⟨_, _, rfl⟩, ks3, f3, I6, done hm fun x hx => hx⟩
          · cases hv
        · rw [valV_kd inrS] at hv
          split at hv
          · cases hv
          · rename_i hm
            have I5 := I4.new (t := t) (b := pn) upd_same hLp hLs htp hm fun t' ht' e => by
              obtain ⟨b, gs, h1, h2, _⟩ := I3.at' t' ht'
              rw [h1] at e
              injection e with e
              have h2 : H3 b = _ := h2
              rw [e, hpn] at h2
              cases h2
            rw [show (Sum.inr t : Key) = jS t from rfl, putK_kd inrS]
            obtain ⟨b, gs, h1, h2, h3, h4, h5⟩ := I5.at' t (mem_addk.mpr (.inr rfl))
            have hb : b = pn := by rw [setf_same] at h1; injection h1 with h1; exact h1.symm
            subst hb
            exact fin I5 (mem_addk.mpr (.inr rfl)) h1 h2 h3 h4 h5 fun H6 I6 => ⟨⟨_, _, rfl⟩, _, _, I6, done (mem_addk.mpr (.inr rfl)) fun x hx => mem_addk.mpr (.inl hx)⟩
      · obtain ⟨⟨o3, o4, rfl⟩, ks3, f3, I3, cov3, cov4⟩ := z
        rw [List.length_map] at I3 cov4
        rw [List.take_length] at cov4
        refine ⟨⟨_, _, _, rfl⟩, ks3, f3, I3.le (by have := ok.rlen hgm; omega), fun g' hg' t' ht' => ?_⟩
        rw [take_snoc hg] at hg'
        rcases List.mem_append.mp hg' with z | z
        · exact cov3 g' z t' ht'
        · rw [List.mem_singleton.mp z] at ht'; exact cov4 t' ht'
    · obtain ⟨⟨o2, o3, o4, rfl⟩, ks, f, I, cov⟩ := z
      rw [List.take_length] at cov
      refine ⟨I.ex _ _ upd_same, ?_⟩
      have eH : Ex H (upd H1 r (sd ps fr)) := ex_unlock hr1 I.ex
      have hr5 : upd H1 r (sd ps fr) r = some (sd ps fr) := upd_same
      have hs5 : upd H1 r (sd ps fr) sh = some (sd ks f) := upd_some (Ne.symm nrs) I.hs
      have hrd1 := I.ex _ _ (upd_same (a := r) (H := H) (o := .frz od (sd ps fr)))
      have at5 : ∀ t ∈ ks, ∃ b gs, f t = .ref b ∧ Ls (upd H1 r (sd ps fr)) b gs ∧ ∀ g ∈ gs, g ∈ ps ∧ t ∈ row g := fun t ht => by
        obtain ⟨b, gs, h1, h2, h3, h4, h5⟩ := I.at' t ht
        exact ⟨b, gs, h1, upd_keep h2 hrd1 (fun e => nomatch e), h5⟩
      generalize upd H1 r (sd ps fr) = H2 at eH hr5 hs5 at5
      walk_at "go"
      refine ⟨by show 0 ≤ sizeLine; decide, fun pl hpl => ?_⟩
      walk_at "go"
      intro pd hpd
      walk_at "go"
      have npl : pl ≠ pd := fun e => by rw [← e, upd_same] at hpd; cases hpd
      have e3 : Ex H2 (upd (upd H2 pl (.lst [])) pd (.dK [])) := (Ex.new hpl).trans (Ex.new hpd)
      have hpd2 : H2 pd = none := ex_none (Ex.new hpl) hpd
      have hpl3 : upd (upd H2 pl (.lst [])) pd (.dK []) pl = some (.lst []) := upd_some npl upd_same
      have hpd3 : upd (upd H2 pl (.lst [])) pd (.dK []) pd = some (.dK []) := upd_same
      generalize upd (upd H2 pl (.lst [])) pd (.dK []) = H3 at e3 hpl3 hpd3
      have hr3 := e3 _ _ hr5
      refine i_lock hr3 trivial fun od2 => ?_
      have nrl : pl ≠ r := fun e => by rw [e, hr3] at hpl3; cases hpl3
      have nrd : pd ≠ r := fun e => by rw [e, hr5] at hpd2; cases hpd2
      have nsr : sh ≠ r := Ne.symm nrs
      -- the heap that stays: rows locked
      have e4 : Ex (upd H2 r (.frz od2 (sd ps fr))) (upd H3 r (.frz od2 (sd ps fr))) := fun c o h => by
        by_cases e : c = r
        · subst e; rw [upd_same] at h ⊢; exact h
        · rw [upd_ne e] at h ⊢; exact e3 _ _ h
      have lk2 : RowsRd (upd H2 r (.frz od2 (sd ps fr))) r ps row := RowsAt.lock hr5 (hr2.ex eH)
      have hpl0 : upd H2 r (.frz od2 (sd ps fr)) pl = none := by rw [upd_ne nrl]; exact hpl
      have hpd0 : upd H2 r (.frz od2 (sd ps fr)) pd = none := by rw [upd_ne nrd]; exact hpd2
      have hs6 : upd H2 r (.frz od2 (sd ps fr)) sh = some (sd ks f) := upd_some nsr hs5
      have at6 : ∀ t ∈ ks, ∃ b gs, f t = .ref b ∧ Ls (upd H2 r (.frz od2 (sd ps fr))) b gs ∧ ∀ g ∈ gs, g ∈ ps ∧ t ∈ row g := fun t ht => by
        obtain ⟨b, gs, h1, h2, h3⟩ := at5 t ht
        exact ⟨b, gs, h1, h2.lock hr5, h3⟩
      have hL0r : upd H2 r (.frz od2 (sd ps fr)) r = some (.frz od2 (sd ps fr)) := upd_same
      walk_at "go"
      refine ⟨r, od2, rfl, .inl ⟨_, upd_same, ?_⟩⟩
      generalize hM : upd H2 r (.frz od2 (sd ps fr)) = M at e4 lk2 hpl0 hpd0 hs6 at6 hL0r
      refine loop_of walkK (fun i σ H4 => (∃ o2 o7 o8, σ = [some (.ref r), some (.ref sh), o2, o3, o4, some (.ref pl), some (.ref pd), o7, o8]) ∧ Ex M H4 ∧ ∃ zs pk, H4 pl = some (.lst (zs.map fun z : Addr × (List Str × List Str) => V.ref z.1)) ∧ (∀ z ∈ zs, BlockAt ps row (off pl H4) z.1 z.2) ∧ zs.length ≤ i ∧ H4 pd = some (sd pk fun _ => .bl true) ∧ pk.Nodup ∧ ∀ x ∈ pk, x ∈ ps)
        ⟨⟨_, _, _, rfl⟩, e4, [], [], upd_some nrl hpl3, (fun z hz => by cases hz), Nat.le_refl _, by rw [upd_ne nrd]; exact hpd3, List.nodup_nil, fun x hx => by cases hx⟩
        (fun i σ H4 _ z => z.2.1 _ _ hL0r) (fun i v σ H5 H4 hi z y => ?_) (fun σ H4 z => ?_)
      · obtain ⟨⟨o2, o7, o8, rfl⟩, e5, zs, pk, hz1, hz2, hz3, hk1, hk2, hk3⟩ := z
        obtain ⟨rfl, g, hg, rfl⟩ := y
        have hgm := List.mem_of_getElem? hg
        obtain ⟨f9, hr9, hr10⟩ := lk2
        obtain ⟨lg, hlg1, hlg2⟩ := hr10 g hgm
        have stay : ∀ {o2 o7 o8 : Option V}, (∃ p2 p7 p8, [some (V.ref r), some (V.ref sh), o2, o3, o4, some (V.ref pl), some (V.ref pd), o7, o8] = [some (.ref r), some (.ref sh), p2, o3, o4, some (.ref pl), some (.ref pd), p7, p8]) := ⟨_, _, _, rfl⟩
        walk_at "go"
        refine kd_in (.inl hk1) fun o' ho' => ?_
        rw [ho']
        walk_at "go"
        refine io_d (fun hm => ?_) fun hn => ?_
        · walk_at "go"
          exact ⟨⟨_, _, _, rfl⟩, e5, zs, pk, hz1, hz2, Nat.le_succ_of_le hz3, hk1, hk2, hk3⟩
        · walk_at "go"
          refine kd_get (rd_ex e5 hr9) hgm ?_
          rw [hlg1]
          walk_at "go"
          refine i_truL (e5 _ _ hlg2) ?_
          cases hrow : row g with
          | nil =>
            rw [show (!(([] : List Str).map V.str).isEmpty) = false from rfl]
            walk_at "go"
            exact ⟨⟨_, _, _, rfl⟩, e5, zs, pk, hz1, hz2, Nat.le_succ_of_le hz3, hk1, hk2, hk3⟩
          | cons t0 tr =>
            rw [show (!((t0 :: tr).map V.str).isEmpty) = true from rfl]
            walk_at "go"
            refine ⟨r, sh, ps, row, ks, f, g, rfl, ⟨f9, rd_ex e5 hr9, fun k hk => let ⟨b, h1, h2⟩ := hr10 k hk; ⟨b, h1, h2.ex e5⟩⟩, .inl (e5 _ _ hs6), cov, fun t ht => let ⟨b, gs, h1, h2, h3⟩ := at6 t ht; ⟨b, gs, h1, h2.ex e5, h3⟩, hgm, ok, fun p H6 b e6 hb => ?_⟩
            have e56 := e5.trans e6
            walk_at "go"
            obtain ⟨ga, ta, st, hb1, hb2, hb3, hb4, hb5⟩ := id hb
            refine i_ixT hb1 rfl ?_
            walk_at "go"
            refine ⟨⟨_, SqT.of hb2⟩, ?_⟩
            have ngp : ga ≠ pd := fun e => by
              have h2 : H6 ga = _ := hb2
              rw [e, e6 _ _ hk1] at h2
              cases h2
            refine loop_of (k := (b.1.map V.str).length) walk_tup (fun i σ H7 => (∃ o8, σ = [some (.ref r), some (.ref sh), some (.str g), o3, o4, some (.ref pl), some (.ref pd), some (.ref p), o8]) ∧ Exo pd H6 H7 ∧ ∃ pk, H7 pd = some (sd pk fun _ => .bl true) ∧ pk.Nodup ∧ ∀ x ∈ pk, x ∈ ps)
              ⟨⟨_, rfl⟩, (fun c o _ h => h), pk, e6 _ _ hk1, hk2, hk3⟩ (fun i σ H7 _ z => SqT.of (z.2.1 _ _ ngp hb2)) (fun i v σ H8 H7 hi z y => ?_) (fun σ H7 z => ?_)
            · obtain ⟨⟨o8, rfl⟩, e7, pk7, h1, h2, h3⟩ := z
              obtain ⟨rfl, hv⟩ := y
              obtain ⟨x, hx, rfl⟩ := map_get hv
              have hxp := (hb4 x (List.mem_of_getElem? hx)).1
              walk_at "go"
              have hlk := h2.length_le_of_subset h3
              refine kd_put h1 (small1000 (by omega)) ?_
              refine ⟨⟨_, rfl⟩, fun c o hc h => by rw [upd_ne hc]; exact e7 c o hc h, addk pk7 x, by rw [upd_same, set_true], nd_addk h2, fun y hy => ?_⟩
              rcases mem_addk.mp hy with z | z
              · exact h3 y z
              · rw [z]; exact hxp
            · obtain ⟨⟨o8, rfl⟩, e7, pk7, h1, h2, h3⟩ := z
              have hpl7 : H7 pl = some (.lst (zs.map fun z => V.ref z.1)) := e7 _ _ npl (e6 _ _ hz1)
              walk_at "go"
              refine ⟨ty_l hpl7, ?_⟩
              walk_at "go"
              refine i_app hpl7 (by rw [List.length_map]; exact small1000 (by omega)) ?_
              have e47 : Ex M H7 := fun c o h => e7 c o (fun e => by rw [e, hpd0] at h; cases h) (e56 c o h)
              have e8 : Ex M (upd H7 pl (.lst (zs.map (fun z => V.ref z.1) ++ [.ref p]))) := Ex.mut e47 hpl0
              have lift : ∀ {H9 : Hp} {z : Addr × (List Str × List Str)}, H9 pd = some (sd pk fun _ => .bl true) → H9 pl = some (.lst (zs.map fun z => V.ref z.1)) → Ex H9 H6 → BlockAt ps row (off pl H9) z.1 z.2 → BlockAt ps row (off pl (upd H7 pl (.lst (zs.map (fun z => V.ref z.1) ++ [.ref p])))) z.1 z.2 := fun {H9 z} hd9 hl9 e9 hz => by
                obtain ⟨ga, ta, st, h1, h2, h3, h4, h5⟩ := hz
                have tup : ∀ {c : Addr} {ys : List V}, off pl H9 c = some (.tup ys) → off pl (upd H7 pl (.lst (zs.map (fun z => V.ref z.1) ++ [.ref p]))) c = some (.tup ys) := fun {c ys} h => by
                  have hc : c ≠ pl := fun e => by rw [e, off_D] at h; cases h
                  rw [off_ne hc] at h
                  rw [off_upd, off_ne hc]
                  exact e7 _ _ (fun e => by rw [e, hd9] at h; cases h) (e9 _ _ h)
                exact ⟨ga, ta, st, tup h1, tup h2, tup h3, h4, h5⟩
              refine ⟨⟨_, _, _, rfl⟩, e8, zs ++ [(p, b)], pk7, by rw [upd_same, List.map_append]; rfl, fun z hz => ?_, by rw [List.length_append, List.length_singleton]; omega, upd_some (Ne.symm npl) h1, h2, h3⟩
              rcases List.mem_append.mp hz with c | c
              · exact lift hk1 hz1 e6 (hz2 z c)
              · rw [List.mem_singleton.mp c]
                refine lift (H9 := H6) (e6 _ _ hk1) (e6 _ _ hz1) (Ex.refl _) ?_
                have tup : ∀ {c : Addr} {ys : List V}, H6 c = some (.tup ys) → off pl H6 c = some (.tup ys) := fun h => off_new h (e6 _ _ hz1) fun e => nomatch e
                exact ⟨ga, ta, st, tup hb1, tup hb2, tup hb3, hb4, hb5⟩
      · obtain ⟨⟨o2, o7, o8, rfl⟩, e5, zs, pk, hz1, hz2, hz3, hk1, hk2, hk3⟩ := z
        refine ⟨e5 _ _ hL0r, ?_⟩
        subst hM
        have eF : Ex H2 (upd H4 r (sd ps fr)) := ex_unlock hr5 e5
        have hplF : upd H4 r (sd ps fr) pl = some (.lst (zs.map fun z => V.ref z.1)) := upd_some nrl hz1
        have hzF : ∀ z ∈ zs, BlockAt ps row (upd H4 r (sd ps fr)) z.1 z.2 := fun z hz => by
          obtain ⟨ga, ta, st, h1, h2, h3, h4, h5⟩ := hz2 z hz
          have tup : ∀ {c : Addr} {ys : List V}, off pl H4 c = some (.tup ys) → upd H4 r (sd ps fr) c = some (.tup ys) := fun {c ys} h => upd_keep (off_le _ _ h) (e5 _ _ hL0r) fun e => nomatch e
          exact ⟨ga, ta, st, tup h1, tup h2, tup h3, h4, h5⟩
        generalize upd H4 r (sd ps fr) = H5 at eF hplF hzF
        walk_at "go"
        refine i_sortLP zs dB hplF (fun z hz => ?_) dB_alike (fun z _ => ⟨_, _, rfl⟩) dB_depth fun p hp => ?_
        · obtain ⟨ga, ta, st, h1, h2, h3, h4, h5⟩ := hzF z hz
          exact dh_tup2 h1 (dh_tupS h2) (dh_tupS h3)
        · refine q p _ ((zs.mergeSort fun x y => dataLe false dB x.2 y.2).map Prod.snd) ((eH.trans eF).trans (Ex.new hp)) ⟨_, upd_same, fun z hz => ?_, rfl⟩
          exact (hzF z ((List.mergeSort_perm zs _).mem_iff.mp hz)).ex (Ex.new hp)
abbrev n_blocks : List Str := ["book"]
theorem sc_blocks : FnScope n_blocks ["book"] (defScope s_blocks) := ⟨rfl, rfl, rfl, by decide +kernel, rfl, by decide +kernel, by decide +kernel⟩
def spBlocks (K : PySem.W.Frag) : Sp := fun vs H Q _ => ∃ x ps cl row, vs = [.ref x] ∧ BookAt K H x ps cl row ∧ RowsOk ps row ∧ ∀ p H' bs, Ex H H' → LP (BlockAt ps (tbl ps row) H') H' p bs → Q (.ref p) H'
theorem tbl_ok {ps : List Str} {row : Str → List Str} (ok : RowsOk ps row) : RowsOk ps (tbl ps row) :=
  ⟨ok.nd, ok.len, fun x hx t ht => ok.dom x hx t (List.mem_filter.mp ht).1, fun x hx => (ok.rnd x hx).sublist List.filter_sublist⟩
theorem c_blocks (T : Txt K mg) (c_Book_rows : Mth P w K mg base k (cB K) "rows" (spBRows K)) (c_table_rows : Cal P w K mg base k "table_rows" spTable) (c_parts_of : Cal P w K mg base k "parts_of" spPartsOf) : Cal P w K mg base (k + 1) "blocks" (spBlocks K) := by
  refine T.a_blocks.ok sc_blocks (fun _ _ _ _ _ _ us hl => match us, hl with | [_], _ => rfl) (fun vs H Q E h => ?_) (fun f cdv A outer s H vs Q E hr h => ⟨_, (pss_one (ps_ret (pe_fn c_parts_of (hr.mono (by omega)) (pa_cons (pe_fn c_table_rows (hr.mono (by omega)) (pa_cons (pe_mth0 (pv 0) T.cl_Book c_Book_rows (hr.mono (by omega))) pa_nil)) pa_nil)))), ?_⟩)
  · obtain ⟨_, _, _, _, rfl, _⟩ := h; rfl
  · obtain ⟨x, ps, cl, row, rfl, hb, ok, q⟩ := h
    obtain ⟨dx, p, l, r, hx, hp, hr1⟩ := hb.ex
    walk_at "go"
    refine ⟨x, dx, _, rfl, hx, rfl, ?_⟩
    walk_at "go"
    refine ⟨x, ps, cl, row, rfl, hb, ok.nd, by have := ok.len; omega, fun r1 H1 e1 hn1 hr1 => ?_⟩
    walk_at "go"
    refine ⟨r1, ps, row, rfl, hr1, ok, fun r2 H2 e2 hr2 => ?_⟩
    walk_at "go"
    exact ⟨r2, ps, _, rfl, hr2, tbl_ok ok, fun p H3 bs e3 hbs => q p H3 bs ((e1.trans e2).trans e3) hbs⟩
end
end GR
end
section
set_option Elab.async false
set_option linter.all false
set_option maxRecDepth 100000
set_option maxHeartbeats 4000000
set_option autoImplicit false
namespace GR
open PySem PySem.Spec L2
open Evl (Ex)
local macro_rules | `(tactic| walk_at "go") => `(tactic| (repeat (first
  | with_reducible refine i_seq ?_
  | ((with_reducible apply i_var); focus rfl)
  | with_reducible refine i_c ?_
  | with_reducible refine i_cons ?_
  | with_reducible refine i_nil ?_
  | with_reducible refine i_asg ?_
  | with_reducible refine i_name ?_
  | with_reducible refine i_op ?_
  | with_reducible refine i_cb ?_
  | with_reducible refine i_fn ?_
  | with_reducible refine i_ret ?_
  | with_reducible refine i_retN ?_
  | with_reducible refine i_drop ?_
  | with_reducible refine i_next ?_
  | with_reducible refine i_cont ?_
  | with_reducible refine i_break ?_
  | with_reducible refine i_if ?_
  | with_reducible refine br_t ?_
  | with_reducible refine br_f ?_
  | with_reducible refine br_nt ?_
  | with_reducible refine io_t ?_
  | with_reducible refine io_f ?_
  | with_reducible refine io_nt ?_
  | with_reducible refine io_nf ?_
  | with_reducible refine br_nf ?_
  | with_reducible refine o_ip ?_
  | with_reducible refine i_test ?_
  | with_reducible refine i_tB ?_
  | with_reducible refine i_not ?_
  | with_reducible refine i_notV ?_
  | with_reducible refine i_andV ?_
  | with_reducible refine i_orV ?_
  | with_reducible refine i_and ?_
  | with_reducible refine i_or ?_
  | with_reducible refine i_dput ?_
  | with_reducible refine i_dget ?_
  | with_reducible refine i_din ?_
  | with_reducible refine i_dnotin ?_
  | with_reducible refine i_dnewK ?_
  | with_reducible refine i_dnewT ?_
  | with_reducible refine i_fld ?_
  | with_reducible refine i_sfld ?_
  | with_reducible refine i_bm0 ?_
  | with_reducible refine i_bm ?_
  | with_reducible refine i_sl ?_
  | with_reducible refine i_noPart ?_
  | with_reducible refine i_part ?_
  | with_reducible refine i_chain ?_
  | with_reducible refine i_methR ?_
  | with_reducible refine i_tup ?_
  | with_reducible refine i_lst ?_
  | with_reducible refine i_for ?_
  | with_reducible refine i_iList ?_
  | with_reducible refine i_iTup ?_
  | with_reducible refine i_iKeys ?_
  | with_reducible refine i_iRng1 ?_
  | with_reducible refine i_iRng2 ?_
  | with_reducible refine i_iStr ?_
  | with_reducible refine i_iEnum ?_
  | with_reducible refine i_iEnumT ?_
  | with_reducible refine i_lc ?_
  | with_reducible refine i_stD ?_
  | with_reducible refine i_iItemsT ?_
  | with_reducible refine i_dcw ?_
  | with_reducible refine i_dsetd ?_
  | with_reducible refine i_iVals ?_
  | with_reducible refine i_iItems ?_
  | with_reducible refine i_revL ?_
  | with_reducible refine i_yes ?_
  | with_reducible refine o_I0 ?_
  | with_reducible refine o_eqS ?_
  | with_reducible refine o_neS ?_
  | with_reducible refine o_eqI ?_
  | with_reducible refine o_neI ?_
  | with_reducible refine o_eqB ?_
  | with_reducible refine e_ref ?_
  | with_reducible refine e_str ?_
  | with_reducible refine e_int ?_
  | with_reducible refine e_bl ?_
  | with_reducible refine e_str1 ?_
  | with_reducible refine e_int1 ?_
  | with_reducible refine e_int2 ?_
  | with_reducible refine e_str2 ?_)))
open PySem.W (EachIs AllAlike Sortable dataLe)
section
variable {H : Hp} {a x : Addr} {xs : List Str} {o w : HO}
theorem Ts.keep (h : Ts H a xs) (hx : H x = some w) (n : ∀ ys, w ≠ .tup ys) : Ts (upd H x o) a xs := upd_keep h hx fun e => n _ e.symm
theorem ts_ne (h : Ts H a xs) (hx : H x = some w) (n : ∀ ys, w ≠ .tup ys) : a ≠ x := fun e => by
  have h : H a = _ := h
  rw [e, hx] at h
  injection h with h
  exact n _ h
end
section
variable {P : Program} {w : World} {K : PySem.W.Frag} {mg : Str → Option Value} {base : Heap} {k j : Nat}
abbrev n_cycles_of : List Str := ["steps", "found", "seen", "begin", "ring", "here"]
theorem sc_cycles_of : FnScope n_cycles_of ["steps"] (defScope s_cycles_of) := ⟨rfl, rfl, rfl, by decide +kernel, rfl, by decide +kernel, by decide +kernel⟩
def orb (m : Str → Str) (ps : List Str) (rs : List Str) : Prop := rs ≠ [] ∧ ∃ b ∈ ps, ∀ x ∈ rs, ∃ k, x = GM.iter m k b
def orb7 (m : Str → Str) (ps : List Str) (rs : List Str) : Prop := orb m ps rs ∧ rs.length ≤ 7
def spCycles : Sp := fun vs H Q _ => ∃ a ps, ∃ m : Str → Str, vs = [.ref a] ∧ H a = some (sd ps fun g => .str (m g)) ∧ ps.Nodup ∧ ps.length ≤ 7 ∧ (∀ g ∈ ps, m g ∈ ps) ∧ ∀ p H' rings, Ex H H' → LP (Ts H') H' p rings → (∀ rs ∈ rings, orb7 m ps rs) → Q (.ref p) H'
theorem c_cycles_of (T : Txt K mg) : Cal P w K mg base (k + 1) "cycles_of" spCycles := by
  refine T.a_cycles_of.ok sc_cycles_of (fun _ _ _ _ _ _ us hl => match us, hl with | [_], _ => rfl) (fun vs H Q E h => ?_) (fun f cdv A outer s H vs Q E hr h => ⟨_, (pss_cons (ps_set (i := 1) sc_cycles_of.nd rfl (Or.inl rfl) (pe_lst pa_nil))
      (pss_cons (ps_set (i := 2) sc_cycles_of.nd rfl (Or.inl rfl) pe_dnewK)
      (pss_cons (ps_for PassesOwn.never rfl (pi_list (pe_callB (crSortS hr.units) (by rfl) T.f_sorted b_sorted (pa_cons (pe_callTy (crListK rfl) (by rfl) T.f_list b_list (pa_cons (pe_bm0 PySem.F.plainAttrs_dict PySem.F.slot_dict_keys PySem.F.type_dict_keys mt_keysK (pv 0)) pa_nil)) pa_nil))) (pg_name (i := 3) sc_cycles_of.nd rfl (Or.inl rfl)) (pss_cons (ps_set (i := 4) sc_cycles_of.nd rfl (Or.inl rfl) (pe_lst pa_nil))
      (pss_cons (ps_set (i := 5) sc_cycles_of.nd rfl (Or.inl rfl) (pv 3))
      (pss_cons (ps_while PassesOwn.never (pt_cmp (pc_dnotin (hu_of hr) (pv 5) (pv 2))) (pss_cons (ps_dput (hu_of hr) (pv 2) (pv 5) pe_bl rfl)
      (pss_cons (ps_expr (pe_bm PySem.F.plainAttrs_list PySem.F.slot_list_append PySem.F.type_list_append mt_append (pv 4) (pa_cons (pv 5) pa_nil)))
      (pss_one (ps_set (i := 5) sc_cycles_of.nd rfl (Or.inl rfl) (pe_dget (hu_of hr) (pv 0) (pv 5) (fun _ _ => rfl)))))))
      (pss_one (ps_if (pt_cmpR op_gt (pe_callB crLen (by rfl) T.f_len b_len (pa_cons (pv 4) pa_nil)) pe_int (nomark _)) (pss_one (ps_expr (pe_bm PySem.F.plainAttrs_list PySem.F.slot_list_append PySem.F.type_list_append mt_append (pv 1) (pa_cons (pe_callTy crTuple (by rfl) T.f_tuple b_tuple (pa_cons (pv 4) pa_nil)) pa_nil)))) pss_nil))))))
      (pss_one (ps_ret (pe_callB (crSortD hr.units) (by rfl) T.f_sorted b_sorted (pa_cons (pv 1) pa_nil))))))), ?_⟩)
  · obtain ⟨_, _, _, rfl, _⟩ := h; rfl
  · obtain ⟨a, ps, m, rfl, ha, nd, hl7, mp, q⟩ := h
    walk_at "go"
    refine ⟨by show 0 ≤ sizeLine; decide, fun fd hfd => ?_⟩
    walk_at "go"
    intro sn hsn
    walk_at "go"
    have nfs : fd ≠ sn := fun e => by rw [← e, upd_same] at hsn; cases hsn
    have e1 : Ex H (upd (upd H fd (.lst [])) sn (.dK [])) := (Ex.new hfd).trans (Ex.new hsn)
    have hsnH : H sn = none := ex_none (Ex.new hfd) hsn
    have hf1 : upd (upd H fd (.lst [])) sn (.dK []) fd = some (.lst []) := upd_some nfs upd_same
    have hs1 : upd (upd H fd (.lst [])) sn (.dK []) sn = some (.dK []) := upd_same
    generalize upd (upd H fd (.lst [])) sn (.dK []) = H1 at e1 hf1 hs1
    refine ⟨.inr (.inr (.inl ⟨rfl, .inl ⟨_, e1 _ _ ha⟩⟩)), ?_⟩
    refine ⟨a, _, rfl, rfl, e1 _ _ ha, fun kv hkv => ?_⟩
    walk_at "go"
    refine ⟨kv, a, _, rfl, upd_same, Ex.new hkv _ _ (e1 _ _ ha), fun l hl => ?_⟩
    rw [show (kd jS ps fun g => V.str (m g)).map (fun kv => kV kv.1) = ps.map V.str by unfold kd; rw [List.map_map]; rfl]
    walk_at "go"
    refine ⟨l, ps, rfl, upd_same, fun l2 hl2 => ?_⟩
    have e2 : Ex H1 (upd (upd (upd H1 kv (keysO kv a)) l (.lst (ps.map V.str))) l2 (.lst ((ssort ps).map V.str))) := ((Ex.new hkv).trans (Ex.new hl)).trans (Ex.new hl2)
    have hl3 : Ls (upd (upd (upd H1 kv (keysO kv a)) l (.lst (ps.map V.str))) l2 (.lst ((ssort ps).map V.str))) l2 (ssort ps) := upd_same
    have nlf : l2 ≠ fd := ne_new hl2 (Ex.new hl _ _ (Ex.new hkv _ _ hf1))
    have nls : l2 ≠ sn := ne_new hl2 (Ex.new hl _ _ (Ex.new hkv _ _ hs1))
    generalize upd (upd (upd H1 kv (keysO kv a)) l (.lst (ps.map V.str))) l2 (.lst ((ssort ps).map V.str)) = H2 at e2 hl3
    walk_at "go"
    refine forL hl3 (fun i σ H3 => (∃ o3 o4 o5, σ = [some (.ref a), some (.ref fd), some (.ref sn), o3, o4, o5]) ∧ Ex H H3 ∧ Ls H3 l2 (ssort ps) ∧ ∃ zs ss, H3 fd = some (.lst (zs.map fun z : Addr × List Str => V.ref z.1)) ∧ (∀ z ∈ zs, Ts H3 z.1 z.2 ∧ orb7 m ps z.2) ∧ zs.length ≤ i ∧ H3 sn = some (sd ss fun _ => .bl true) ∧ ss.Nodup ∧ ∀ x ∈ ss, x ∈ ps)
      ⟨⟨_, _, _, rfl⟩, e1.trans e2, hl3, [], [], e2 _ _ hf1, (fun z hz => by cases hz), Nat.le_refl _, e2 _ _ hs1, List.nodup_nil, fun x hx => by cases hx⟩ (fun i σ H3 _ z => SqL.of z.2.2.1) (fun i v σ H3 hv z => ?_) (fun σ H3 z => ?_)
    · obtain ⟨⟨o3, o4, o5, rfl⟩, e3, hl4, zs, ss, hz1, hz2, hz3, hs4, hs5, hs6⟩ := z
      obtain ⟨b, hb, rfl⟩ := map_get hv
      have hbp : b ∈ ps := (ssort_perm ps).mem_iff.mp (List.mem_of_getElem? hb)
      walk_at "go"
      refine ⟨by show 0 ≤ sizeLine; decide, fun rg hrg => ?_⟩
      walk_at "go"
      have hi7 : i < 7 := by
        have h1 := (List.getElem?_eq_some_iff.mp hb).1
        rw [(ssort_perm ps).length_eq] at h1
        omega
      have nrf : rg ≠ fd := ne_new hrg hz1
      have nrs : rg ≠ sn := ne_new hrg hs4
      have nrl : rg ≠ l2 := ne_new hrg hl4
      have hrgH : H rg = none := ex_none e3 hrg
      refine i_while (fun c σ H4 => ∃ here rs ss4 n, σ = [some (.ref a), some (.ref fd), some (.ref sn), some (.str b), some (.ref rg), some (.str here)] ∧ Ex H H4 ∧ Ls H4 l2 (ssort ps) ∧ H4 fd = some (.lst (zs.map fun z => V.ref z.1)) ∧ (∀ z ∈ zs, Ts H4 z.1 z.2) ∧ H4 sn = some (sd ss4 fun _ => .bl true) ∧ ss4.Nodup ∧ (∀ x ∈ ss4, x ∈ ps) ∧ Ls H4 rg rs ∧ (∀ x ∈ rs, ∃ k, x = GM.iter m k b) ∧ here = GM.iter m n b ∧ here ∈ ps ∧ rs.length ≤ ss4.length ∧ c + ss4.length = ps.length) (ps.length - ss.length)
        ⟨b, [], ss, 0, rfl, e3.trans (Ex.new hrg), Ex.new hrg _ _ hl4, Ex.new hrg _ _ hz1, fun z hz => (hz2 z hz).1.ex (Ex.new hrg), Ex.new hrg _ _ hs4, hs5, hs6, upd_same, (fun x hx => by cases hx), rfl, hbp, Nat.zero_le _, by have := hs5.length_le_of_subset hs6; omega⟩ ?_
      rintro c σ H4 ⟨here, rs, ss4, n, rfl, e4, hl5, hf5, hz5, hs7, hs8, hs9, hr5, hr6, rfl, hhp, hrl, hc⟩
      walk_at "go"
      refine kd_in (.inl hs7) fun o' ho' => ?_
      rw [ho']
      walk_at "go"
      by_cases hm : GM.iter m n b ∈ ss4
      · rw [decide_eq_true hm]
        show if (!true) = true then _ else _
        rw [if_neg (by decide)]
        walk_at "go"
        refine i_lenL hr5 ?_
        walk_at "go"
        have hsl := hs8.length_le_of_subset hs9
        refine br_d (fun h1 => ?_) fun h1 => ?_
        · walk_at "go"
          refine ⟨ty_l hf5, ?_⟩
          walk_at "go"
          refine ⟨rg, _, rfl, hr5, fun tp htp => ?_⟩
          have e6 : Ex H4 (upd H4 tp (.tup (rs.map V.str))) := Ex.new htp
          walk_at "go"
          refine i_app (e6 _ _ hf5) (by rw [List.length_map]; exact small1000 (by omega)) ?_
          walk_at "go"
          have e7 : Ex H (upd (upd H4 tp (.tup (rs.map V.str))) fd (.lst (zs.map (fun z => V.ref z.1) ++ [.ref tp]))) := Ex.mut (e4.trans e6) hfd
          refine ⟨⟨_, _, _, rfl⟩, e7, upd_some nlf (hl5.ex e6), zs ++ [(tp, rs)], ss4, by rw [upd_same, List.map_append]; rfl, fun z hz => ?_, by rw [List.length_append, List.length_singleton]; omega, upd_some (Ne.symm nfs) (e6 _ _ hs7), hs8, hs9⟩
          rcases List.mem_append.mp hz with c | c
          · exact ⟨((hz5 z c).ex e6).keep (e6 _ _ hf5) fun ys e => (nomatch e), (hz2 z c).2⟩
          · rw [List.mem_singleton.mp c]
            refine ⟨Ts.keep (show Ts _ tp rs from upd_same) (e6 _ _ hf5) fun ys e => (nomatch e), ⟨?_, b, hbp, hr6⟩, by show rs.length ≤ 7; omega⟩
            intro e
            have e : rs = [] := e
            rw [e] at h1
            exact absurd h1 (by decide)
        · walk_at "go"
          exact ⟨⟨_, _, _, rfl⟩, e4, hl5, zs, ss4, hf5, fun z hz => ⟨hz5 z hz, (hz2 z hz).2⟩, Nat.le_succ_of_le hz3, hs7, hs8, hs9⟩
      · rw [decide_eq_false hm]
        show if (!false) = true then _ else _
        rw [if_pos (by decide)]
        have hsl := sub_lt hs8 hs9 hhp hm
        refine ⟨fun σ H4 => ∃ here rs ss4 n, σ = [some (.ref a), some (.ref fd), some (.ref sn), some (.str b), some (.ref rg), some (.str here)] ∧ Ex H H4 ∧ Ls H4 l2 (ssort ps) ∧ H4 fd = some (.lst (zs.map fun z => V.ref z.1)) ∧ (∀ z ∈ zs, Ts H4 z.1 z.2) ∧ H4 sn = some (sd ss4 fun _ => .bl true) ∧ ss4.Nodup ∧ (∀ x ∈ ss4, x ∈ ps) ∧ Ls H4 rg rs ∧ (∀ x ∈ rs, ∃ k, x = GM.iter m k b) ∧ here = GM.iter m n b ∧ here ∈ ps ∧ rs.length ≤ ss4.length ∧ (c - 1) + ss4.length = ps.length, fun σ' H' z => ⟨c - 1, by omega, z⟩, ?_⟩
        walk_at "go"
        refine kd_put hs7 (small1000 (by omega)) ?_
        rw [addk_new hm, set_true]
        have hl6 : Ls (upd H4 sn (sd (ss4 ++ [GM.iter m n b]) fun _ => .bl true)) l2 (ssort ps) := upd_some nls hl5
        have hf6 : upd H4 sn (sd (ss4 ++ [GM.iter m n b]) fun _ => .bl true) fd = some (.lst (zs.map fun z => V.ref z.1)) := upd_some nfs hf5
        have hz6 : ∀ z ∈ zs, Ts (upd H4 sn (sd (ss4 ++ [GM.iter m n b]) fun _ => .bl true)) z.1 z.2 := fun z hz => (hz5 z hz).keep hs7 fun ys e => (nomatch e)
        have hr7 : Ls (upd H4 sn (sd (ss4 ++ [GM.iter m n b]) fun _ => .bl true)) rg rs := upd_some nrs hr5
        have e6 : Ex H (upd H4 sn (sd (ss4 ++ [GM.iter m n b]) fun _ => .bl true)) := Ex.mut e4 hsnH
        have hs10 : upd H4 sn (sd (ss4 ++ [GM.iter m n b]) fun _ => .bl true) sn = some (sd (ss4 ++ [GM.iter m n b]) fun _ => .bl true) := upd_same
        generalize upd H4 sn (sd (ss4 ++ [GM.iter m n b]) fun _ => .bl true) = H5 at hl6 hf6 hz6 hr7 e6 hs10
        walk_at "go"
        refine ⟨ty_l hr7, ?_⟩
        walk_at "go"
        refine i_app hr7 (by rw [List.length_map]; exact small1000 (by omega)) ?_
        have e8 : Ex H (upd H5 rg (.lst (rs.map V.str ++ [.str (GM.iter m n b)]))) := Ex.mut e6 hrgH
        walk_at "go"
        refine kd_get (.inl (e8 _ _ ha)) hhp ?_
        walk_at "go"
        refine ⟨_, rs ++ [GM.iter m n b], ss4 ++ [GM.iter m n b], n + 1, rfl, e8, upd_some (Ne.symm nrl) hl6, upd_some (Ne.symm nrf) hf6, fun z hz => (hz6 z hz).keep hr7 fun ys e => (nomatch e), upd_some (Ne.symm nrs) hs10, nodup_snoc_iff.mpr ⟨hs8, hm⟩, fun x hx => ?_, by show _ = _; rw [upd_same, List.map_append]; rfl, fun x hx => ?_, rfl, mp _ hhp, by rw [List.length_append, List.length_append, List.length_singleton]; omega, by rw [List.length_append, List.length_singleton]; omega⟩
        · rcases List.mem_append.mp hx with z | z
          · exact hs9 x z
          · rw [List.mem_singleton.mp z]; exact hhp
        · rcases List.mem_append.mp hx with z | z
          · exact hr6 x z
          · exact ⟨n, List.mem_singleton.mp z⟩
    · obtain ⟨⟨o3, o4, o5, rfl⟩, e3, hl4, zs, ss, hz1, hz2, hz3, hs4, hs5, hs6⟩ := z
      walk_at "go"
      refine i_sortLP zs GR.dT hz1 (fun z hz => dh_tupS (hz2 z hz).1) dT_alike (fun z hz => ?_) (fun x => by rw [dT_depth]; decide) fun p hp => ?_
      · obtain ⟨x, r, e⟩ := List.exists_cons_of_ne_nil (hz2 z hz).2.1.1
        exact ⟨.str x, r.map .str, by unfold GR.dT; rw [e]; rfl⟩
      · have pm := List.mergeSort_perm zs fun x y => dataLe false GR.dT x.2 y.2
        refine q p _ ((zs.mergeSort fun x y => dataLe false GR.dT x.2 y.2).map Prod.snd) (e3.trans (Ex.new hp)) ⟨_, upd_same, fun z hz => ((hz2 z (pm.mem_iff.mp hz)).1).ex (Ex.new hp), rfl⟩ fun rs hrs => ?_
        obtain ⟨z, hz, rfl⟩ := List.mem_map.mp hrs
        exact (hz2 z (pm.mem_iff.mp hz)).2
abbrev n_giving_rings : List Str := ["party", "drawing"]
theorem sc_giving_rings : FnScope n_giving_rings ["party", "drawing"] (defScope s_giving_rings) := ⟨rfl, rfl, rfl, by decide +kernel, rfl, by decide +kernel, by decide +kernel⟩
def spGiving (K : PySem.W.Frag) : Sp := fun vs H Q _ => ∃ x a ps cl, ∃ m : Str → Str, vs = [.ref x, .ref a] ∧ PartyAt K H x ps cl ∧ H a = some (sd ps fun g => .str (m g)) ∧ ps.Nodup ∧ ps.length ≤ 7 ∧ (∀ g ∈ ps, mayB ps cl g (m g) = true ∧ m g ∈ ps) ∧ (∀ g ∈ ps, ∀ g' ∈ ps, m g = m g' → g = g') ∧ ∀ p H' rings, Ex H H' → LP (Ts H') H' p rings → (∀ rs ∈ rings, orb7 m ps rs) → Q (.ref p) H'
theorem c_giving_rings (T : Txt K mg) (c_is_drawing : Cal P w K mg base k "is_drawing" (spIsDrawing K)) (c_cycles_of : Cal P w K mg base k "cycles_of" spCycles) : Cal P w K mg base (k + 1) "giving_rings" (spGiving K) := by
  refine T.a_giving_rings.ok sc_giving_rings (fun _ _ _ _ _ _ us hl => match us, hl with | [_, _], _ => rfl) (fun vs H Q E h => ?_) (fun f cdv A outer s H vs Q E hr h => ⟨_, (pss_cons (ps_if (pt_not (pt_val (pe_fn c_is_drawing (hr.mono (by omega)) (pa_cons (pv 0) (pa_cons (pv 1) pa_nil))))) (pss_one (ps_never)) pss_nil)
      (pss_one (ps_ret (pe_fn c_cycles_of (hr.mono (by omega)) (pa_cons (pv 1) pa_nil))))), ?_⟩)
  · obtain ⟨_, _, _, _, _, rfl, _⟩ := h; rfl
  · obtain ⟨x, a, ps, cl, m, rfl, hp, ha, nd, hl, may, inj, q⟩ := h
    walk_at "go"
    refine ⟨x, a, ps, cl, m, rfl, hp, ha, nd, by omega, fun g hg => (may g hg).1, inj, fun H1 e1 => ?_⟩
    walk_at "go"
    exact ⟨a, ps, m, rfl, e1 _ _ ha, nd, hl, fun g hg => (may g hg).2, fun p H2 rings e2 h1 h2 => q p H2 rings (e1.trans e2) h1 h2⟩
end
end GR
end
section
set_option Elab.async false
set_option linter.all false
set_option maxRecDepth 100000
set_option maxHeartbeats 4000000
set_option autoImplicit false
namespace GR
open PySem PySem.Spec L2
open Evl (Ex)
local macro_rules | `(tactic| walk_at "go") => `(tactic| (repeat (first
  | with_reducible refine i_seq ?_
  | ((with_reducible apply i_var); focus rfl)
  | with_reducible refine i_c ?_
  | with_reducible refine i_cons ?_
  | with_reducible refine i_nil ?_
  | with_reducible refine i_asg ?_
  | with_reducible refine i_name ?_
  | with_reducible refine i_op ?_
  | with_reducible refine i_cb ?_
  | with_reducible refine i_fn ?_
  | with_reducible refine i_ret ?_
  | with_reducible refine i_retN ?_
  | with_reducible refine i_drop ?_
  | with_reducible refine i_next ?_
  | with_reducible refine i_cont ?_
  | with_reducible refine i_break ?_
  | with_reducible refine i_if ?_
  | with_reducible refine br_t ?_
  | with_reducible refine br_f ?_
  | with_reducible refine br_nt ?_
  | with_reducible refine io_t ?_
  | with_reducible refine io_f ?_
  | with_reducible refine io_nt ?_
  | with_reducible refine io_nf ?_
  | with_reducible refine br_nf ?_
  | with_reducible refine o_ip ?_
  | with_reducible refine i_test ?_
  | with_reducible refine i_tB ?_
  | with_reducible refine i_not ?_
  | with_reducible refine i_notV ?_
  | with_reducible refine i_andV ?_
  | with_reducible refine i_orV ?_
  | with_reducible refine i_and ?_
  | with_reducible refine i_or ?_
  | with_reducible refine i_dput ?_
  | with_reducible refine i_dget ?_
  | with_reducible refine i_din ?_
  | with_reducible refine i_dnotin ?_
  | with_reducible refine i_dnewK ?_
  | with_reducible refine i_dnewT ?_
  | with_reducible refine i_fld ?_
  | with_reducible refine i_sfld ?_
  | with_reducible refine i_bm0 ?_
  | with_reducible refine i_bm ?_
  | with_reducible refine i_sl ?_
  | with_reducible refine i_noPart ?_
  | with_reducible refine i_part ?_
  | with_reducible refine i_chain ?_
  | with_reducible refine i_methR ?_
  | with_reducible refine i_tup ?_
  | with_reducible refine i_lst ?_
  | with_reducible refine i_for ?_
  | with_reducible refine i_iList ?_
  | with_reducible refine i_iTup ?_
  | with_reducible refine i_iKeys ?_
  | with_reducible refine i_iRng1 ?_
  | with_reducible refine i_iRng2 ?_
  | with_reducible refine i_iStr ?_
  | with_reducible refine i_iEnum ?_
  | with_reducible refine i_iEnumT ?_
  | with_reducible refine i_lc ?_
  | with_reducible refine i_stD ?_
  | with_reducible refine i_iItemsT ?_
  | with_reducible refine i_dcw ?_
  | with_reducible refine i_dsetd ?_
  | with_reducible refine i_iVals ?_
  | with_reducible refine i_iItems ?_
  | with_reducible refine i_revL ?_
  | with_reducible refine i_yes ?_
  | with_reducible refine o_I0 ?_
  | with_reducible refine o_eqS ?_
  | with_reducible refine o_neS ?_
  | with_reducible refine o_eqI ?_
  | with_reducible refine o_neI ?_
  | with_reducible refine o_eqB ?_
  | with_reducible refine e_ref ?_
  | with_reducible refine e_str ?_
  | with_reducible refine e_int ?_
  | with_reducible refine e_bl ?_
  | with_reducible refine e_str1 ?_
  | with_reducible refine e_int1 ?_
  | with_reducible refine e_int2 ?_
  | with_reducible refine e_str2 ?_)))
section
variable {P : Program} {w : World} {K : PySem.W.Frag} {mg : Str → Option Value} {base : Heap} {k j : Nat}
abbrev n_check_size : List Str := ["book"]
theorem sc_check_size : FnScope n_check_size ["book"] (defScope s_check_size) := ⟨rfl, rfl, rfl, by decide +kernel, rfl, by decide +kernel, by decide +kernel⟩
def spCheckSize (K : PySem.W.Frag) : Sp := fun vs H Q _ => ∃ x ps cl row, vs = [.ref x] ∧ BookAt K H x ps cl row ∧ ps.length ≤ 10 ∧ Q .non H
theorem c_check_size (T : Txt K mg) (c_Party_len : Mth P w K mg base k (cP K) "__len__" (spPLen K)) (c_Book_party : Mth P w K mg base k (cB K) "party" (spBParty K)) : Cal P w K mg base (k + 2) "check_size" (spCheckSize K) := by
  refine T.a_check_size.ok sc_check_size (fun _ _ _ _ _ _ us hl => match us, hl with | [_], _ => rfl) (fun vs H Q E h => ?_) (fun f cdv A outer s H vs Q E hr h => ⟨_, (pss_one (ps_if (pt_cmpR op_gt (pe_callB (cr_mLen c_Party_len (hr.mono (by omega))) (by rfl) T.f_len b_len (pa_cons (pe_mth0 (pv 0) T.cl_Book c_Book_party (hr.mono (by omega))) pa_nil)) (pe_globI T.i_MOST_PEOPLE_circles) (nomark _)) (pss_one (ps_never)) pss_nil)), ?_⟩)
  · obtain ⟨_, _, _, _, rfl, _⟩ := h; rfl
  · obtain ⟨x, ps, cl, row, rfl, hb, hl, q⟩ := h
    obtain ⟨dx, p, l, r, hx, hp, hr1⟩ := hb.ex
    walk_at "go"
    refine ⟨x, dx, _, rfl, hx, rfl, ?_⟩
    walk_at "go"
    refine ⟨x, ps, cl, row, rfl, hb, fun p hp => ?_⟩
    walk_at "go"
    obtain ⟨pdx, pa, pd, hp1, hp2, hp3⟩ := hp.ex
    refine ⟨p, pdx, _, rfl, hp1, p, ps, cl, rfl, hp, ps.length, rfl, by omega, ?_⟩
    walk_at "go"
    rw [decide_eq_false (by omega)]
    walk_at "go"
    exact q
abbrev n_better : List Str := ["one", "other", "sign"]
theorem sc_better : FnScope n_better ["one", "other", "sign"] (defScope s_better) := ⟨rfl, rfl, rfl, by decide +kernel, rfl, by decide +kernel, by decide +kernel⟩
def spBetter : Sp := fun vs H Q _ => (∃ a n s, ∃ xs : List V, vs = [.ref a, .non, .int s] ∧ H a = some (.lst xs) ∧ xs.length = n ∧ Q (.bl true) H) ∨
  ∃ a b s, ∃ xs ys : List V, vs = [.ref a, .ref b, .int s] ∧ H a = some (.lst xs) ∧ H b = some (.lst ys) ∧ -2 < s ∧ s < 2 ∧ Q (.bl (decide (s * ys.length < s * xs.length))) H
theorem c_better (T : Txt K mg) : Cal P w K mg base (k + 1) "better" spBetter := by
  refine T.a_better.ok sc_better (fun _ _ _ _ _ _ us hl => match us, hl with | [_, _, _], _ => rfl) (fun vs H Q E h => ?_) (fun f cdv A outer s H vs Q E hr h => ⟨_, (pss_one (ps_ret (pe_or (pe_cmpR op_isN (pv 1) pe_non (nomark _)) (pe_one (pe_cmpR op_gt (pe_op op_mul (pv 2) (pe_callB crLen (by rfl) T.f_len b_len (pa_cons (pv 0) pa_nil))) (pe_op op_mul (pv 2) (pe_callB crLen (by rfl) T.f_len b_len (pa_cons (pv 1) pa_nil))) (nomark _)))))), ?_⟩)
  · rcases h with ⟨_, _, _, _, rfl, _⟩ | ⟨_, _, _, _, _, rfl, _⟩ <;> rfl
  · rcases h with ⟨a, n, s, xs, rfl, ha, hn, q⟩ | ⟨a, b, s, xs, ys, rfl, ha, hb, h1, h2, q⟩
    · walk_at "go"
      refine ⟨rfl, ?_⟩
      walk_at "go"
      rw [decide_eq_true rfl]
      walk_at "go"
      exact q
    · walk_at "go"
      refine ⟨rfl, ?_⟩
      walk_at "go"
      rw [decide_eq_false (fun e => nomatch e)]
      walk_at "go"
      refine ⟨a, xs, rfl, .inl ha, ?_⟩
      walk_at "go"
      refine o_I (.inl ⟨by omega, by omega⟩) ?_
      walk_at "go"
      refine ⟨b, ys, rfl, .inl hb, ?_⟩
      refine o_I (.inl ⟨by omega, by omega⟩) ?_
      walk_at "go"
      exact q
abbrev n_in_party_order : List Str := ["party", "drawing", "person"]
theorem sc_in_party_order : FnScope n_in_party_order ["party", "drawing"] (defScope s_in_party_order) := ⟨rfl, rfl, rfl, by decide +kernel, rfl, by decide +kernel, by decide +kernel⟩
def spInOrder (K : PySem.W.Frag) : Sp := fun vs H Q _ => ∃ x a ps cl ks f, vs = [.ref x, .ref a] ∧ PartyAt K H x ps cl ∧ H a = some (sd ks f) ∧ (∀ y ∈ ps, y ∈ ks) ∧ ps.length ≤ 24 ∧ ∀ p H', Ex H H' → Q (.ref p) H'
theorem c_in_party_order (T : Txt K mg) (c_Party_people : Mth P w K mg base k (cP K) "people" (spPeople K)) : Cal P w K mg base (k + 1) "in_party_order" (spInOrder K) := by
  refine T.a_in_party_order.ok sc_in_party_order (fun _ _ _ _ _ _ us hl => match us, hl with | [_, _], _ => rfl) (fun vs H Q E h => ?_) (fun f cdv A outer s H vs Q E hr h => ⟨_, (pss_one (ps_ret (pe_dcW (own := [("person", 2)]) (.inl rfl) rfl sc_in_party_order.nd (hu_of hr) (pi_tup (pe_mth0 (pv 0) T.cl_Party c_Party_people (hr.mono (by omega)))) (blkOk_by (own := [("person", 2)]) (N := n_in_party_order) (sc := defScope s_in_party_order) (by decide +kernel)) (fun _ _ _ _ _ => (pg_name (i := 2) sc_in_party_order.nd rfl (Or.inl rfl))) (fun _ _ _ _ _ => pts_nil) (fun _ _ _ _ _ => (pv 2)) (fun _ _ _ _ _ => (pe_dget (hu_of hr) (pv 1) (pv 2) (fun _ _ => rfl)))))), ?_⟩)
  · obtain ⟨_, _, _, _, _, _, rfl, _⟩ := h; rfl
  · obtain ⟨x, a, ps, cl, ks, f, rfl, hp, ha, hk, hl, q⟩ := h
    obtain ⟨pdx, pa, pd, hp1, hp2, hp3⟩ := hp.ex
    walk_at "go"
    refine ⟨x, pdx, _, rfl, hp1, rfl, ?_⟩
    walk_at "go"
    refine ⟨x, ps, cl, rfl, hp, fun t ht => ?_⟩
    walk_at "go"
    refine ⟨⟨_, SqT.of ht⟩, ?_⟩
    have wl := walk_tup (K := K) (a := t) (xs := ps.map V.str)
    rw [List.length_map] at wl
    refine dcX wl (by omega) (fun D i B ks f => True) (fun D hD => trivial) (fun D i B ks f e hB _ => SqT.of (ex_in e hB _ _ ht)) (fun D i v B H2 ks2 f2 N hi e hB s y k1 k2 => ?_) fun D B ks f hD e hB s => q D _ (ex_in e hB)
    obtain ⟨rfl, hv⟩ := y
    obtain ⟨y, hy, rfl⟩ := map_get hv
    walk_at "go"
    refine ⟨rfl, ?_⟩
    walk_at "go"
    refine kd_get (.inl (ex_in e hB _ _ ha)) (hk y (List.mem_of_getElem? hy)) ?_
    exact k2 y _ _ (Ex.refl _) trivial
abbrev n_drawn_by : List Str := ["rings", "drawing", "ring", "at", "person"]
theorem sc_drawn_by : FnScope n_drawn_by ["rings"] (defScope s_drawn_by) := ⟨rfl, rfl, rfl, by decide +kernel, rfl, by decide +kernel, by decide +kernel⟩
def spDrawnBy : Sp := fun vs H Q _ => ∃ a rss, vs = [.ref a] ∧ LP (Ts H) H a rss ∧ rss.length ≤ 128 ∧ (∀ rs ∈ rss, rs.length ≤ 7) ∧ ∀ p H' ks f, Ex H H' → H' p = some (sd ks f) → (∀ rs ∈ rss, ∀ y ∈ rs, y ∈ ks) → Q (.ref p) H'
theorem c_drawn_by (T : Txt K mg) : Cal P w K mg base (k + 1) "drawn_by" spDrawnBy := by
  refine T.a_drawn_by.ok sc_drawn_by (fun _ _ _ _ _ _ us hl => match us, hl with | [_], _ => rfl) (fun vs H Q E h => ?_) (fun f cdv A outer s H vs Q E hr h => ⟨_, (pss_cons (ps_set (i := 1) sc_drawn_by.nd rfl (Or.inl rfl) pe_dnewK)
      (pss_cons (ps_for PassesOwn.never rfl (pi_list (pv 0)) (pg_name (i := 2) sc_drawn_by.nd rfl (Or.inl rfl)) (pss_one (ps_for PassesOwn.never rfl (pi_enumT (by rfl) T.f_enumerate (pa_cons (pv 2) pa_nil)) (pg_tupH 2 rfl (pgs_cons (pg_name (i := 3) sc_drawn_by.nd rfl (Or.inl rfl)) (pgs_cons (pg_name (i := 4) sc_drawn_by.nd rfl (Or.inl rfl)) pgs_nil))) (pss_one (ps_dput (hu_of hr) (pv 1) (pv 4) (pe_ix ixT (pv 2) (pe_op op_mod (pe_op op_add (pv 3) pe_int) (pe_callB crLen (by rfl) T.f_len b_len (pa_cons (pv 2) pa_nil))) (fun _ _ => rfl)) rfl)))))
      (pss_one (ps_ret (pv 1))))), ?_⟩)
  · obtain ⟨_, _, rfl, _⟩ := h; rfl
  · obtain ⟨a, rss, rfl, ⟨zs, ha, hz, rfl⟩, hl, hr7, q⟩ := h
    rw [List.length_map] at hl
    walk_at "go"
    intro d hd
    walk_at "go"
    have nad : a ≠ d := fun e => by rw [e, hd] at ha; cases ha
    refine forL (Ex.new hd _ _ ha) (fun i σ H1 => (∃ o2 o3 o4, σ = [some (.ref a), some (.ref d), o2, o3, o4]) ∧ Ex H H1 ∧ ∃ ks f, H1 d = some (sd ks f) ∧ ks.length ≤ 7 * i ∧ ∀ z ∈ zs.take i, ∀ y ∈ z.2, y ∈ ks) ⟨⟨_, _, _, rfl⟩, Ex.new hd, [], fun _ => .non, upd_same, Nat.zero_le _, by simp⟩ (fun i σ H1 _ z => SqL.of (z.2.1 _ _ ha)) (fun i v σ H1 hv z => ?_) (fun σ H1 z => ?_)
    · obtain ⟨⟨o2, o3, o4, rfl⟩, e1, ks, f, hk1, hk2, hk3⟩ := z
      obtain ⟨z, hz1, rfl⟩ := map_get hv
      have hzm := List.mem_of_getElem? hz1
      have hi : i < 128 := by have := (List.getElem?_eq_some_iff.mp hz1).1; omega
      have ht := (hz z hzm).ex e1
      have h7 := hr7 z.2 (List.mem_map_of_mem hzm)
      walk_at "go"
      refine ⟨z.1, _, rfl, ht, ?_⟩
      refine loop_of (k := (z.2.map V.str).length) walk_enumT (fun j σ H2 => (∃ o3 o4, σ = [some (.ref a), some (.ref d), some (.ref z.1), o3, o4]) ∧ Ex H H2 ∧ ∃ ks f, H2 d = some (sd ks f) ∧ ks.length ≤ 7 * i + j ∧ (∀ z ∈ zs.take i, ∀ y ∈ z.2, y ∈ ks) ∧ ∀ y ∈ z.2.take j, y ∈ ks)
        ⟨⟨_, _, rfl⟩, e1, ks, f, hk1, hk2, hk3, by simp⟩ (fun j σ H2 _ w => w.2.1 _ _ (hz z hzm)) (fun j v σ H2 H3 hj w y => ?_) (fun σ H2 w => ?_)
      · obtain ⟨⟨o3, o4, rfl⟩, e2, ks2, f2, h1, h2, h3, h4⟩ := w
        obtain ⟨T1, x1, x2, rfl, hT, rfl, hx1, hx2⟩ := y
        obtain ⟨s, hs, rfl⟩ := map_get hx2
        cases hx1
        have e3 : Ex H2 (upd H2 T1 (.tup [.int (j : Nat), .str s])) := Ex.new hT
        rw [List.length_map] at hj
        refine i_gT2 upd_same ?_
        walk_at "go"
        refine ⟨z.1, _, rfl, .inr (((hz z hzm).ex e2).ex e3), ?_⟩
        rw [List.length_map]
        refine o_I (show (0 : Int) < _ by omega) ?_
        have hjm : (j + 1) % z.2.length < z.2.length := Nat.mod_lt _ (by omega)
        refine i_ixT (((hz z hzm).ex e2).ex e3) (v := .str z.2[(j + 1) % z.2.length]) ?_ ?_
        · rw [show ((j : Int) + 1) % (z.2.length : Int) = (((j + 1) % z.2.length : Nat) : Int) by push_cast; rfl]
          exact atI_map V.str (List.getElem?_eq_getElem hjm)
        walk_at "go"
        refine kd_put (e3 _ _ h1) (small1000 (by omega)) ?_
        refine ⟨⟨_, _, rfl⟩, Ex.mut (e2.trans e3) hd, addk ks2 s, _, upd_same, Nat.le_trans (length_addk ks2 s) (by omega), fun z hz y hy => mem_addk.mpr (.inl (h3 z hz y hy)), fun y hy => ?_⟩
        rw [take_snoc hs] at hy
        rcases List.mem_append.mp hy with c | c
        · exact mem_addk.mpr (.inl (h4 y c))
        · exact mem_addk.mpr (.inr (List.mem_singleton.mp c))
      · obtain ⟨⟨o3, o4, rfl⟩, e2, ks2, f2, h1, h2, h3, h4⟩ := w
        rw [List.length_map] at h2 h4
        rw [List.take_length] at h4
        refine ⟨⟨_, _, _, rfl⟩, e2, ks2, f2, h1, by omega, fun z' hz' y hy => ?_⟩
        rw [take_snoc hz1] at hz'
        rcases List.mem_append.mp hz' with c | c
        · exact h3 z' c y hy
        · rw [List.mem_singleton.mp c] at hy; exact h4 y hy
    · obtain ⟨⟨o2, o3, o4, rfl⟩, e1, ks, f, hk1, hk2, hk3⟩ := z
      rw [List.length_map, List.take_length] at hk3
      walk_at "go"
      refine q d H1 ks f e1 hk1 fun rs hrs y hy => ?_
      obtain ⟨z, hz1, rfl⟩ := List.mem_map.mp hrs
      exact hk3 z hz1 y hy
abbrev n_by_lowest : List Str := ["masks", "many", "groups", "mask", "_"]
theorem sc_by_lowest : FnScope n_by_lowest ["masks", "many"] (defScope s_by_lowest) := ⟨rfl, rfl, rfl, by decide +kernel, rfl, by decide +kernel, by decide +kernel⟩
def GroupsAt (H : Hp) (p : Addr) (n : Nat) (ms : List Nat) : Prop := ∃ as : List Addr, H p = some (.lst (as.map V.ref)) ∧ as.length = n ∧ as.Nodup ∧ ∀ j b, as[j]? = some b → H b = some (.lst ((ms.filter fun m => lowB m == j).map fun m : Nat => V.int m))
def spByLowest : Sp := fun vs H Q _ => ∃ a n ms, vs = [.ref a, .int (n : Nat)] ∧ H a = some (.lst (ms.map fun m : Nat => V.int m)) ∧ n ≤ 7 ∧ ms.length ≤ 128 ∧ (∀ m ∈ ms, m ≠ 0 ∧ lowB m < n) ∧ ∀ p H', Ex H H' → GroupsAt H' p n ms → Q (.ref p) H'
theorem c_by_lowest (T : Txt K mg) (c_lowest_bit : Cal P w K mg base k "lowest_bit" spLow) : Cal P w K mg base (k + 1) "by_lowest" spByLowest := by
  refine T.a_by_lowest.ok sc_by_lowest (fun _ _ _ _ _ _ us hl => match us, hl with | [_, _], _ => rfl) (fun vs H Q E h => ?_) (fun f cdv A outer s H vs Q E hr h => ⟨_, (pss_cons (ps_setLc (i := 2) (own := [("_", 4)]) rfl sc_by_lowest.nd rfl rfl (sw_true rfl rfl rfl (by decide +kernel)) (pi_range1 (by rfl) T.f_range (pa_cons (pv 1) pa_nil)) (blkOk_by (own := [("_", 4)]) (N := n_by_lowest) (sc := defScope s_by_lowest) (by decide +kernel)) (fun _ _ _ _ _ => (pg_name (i := 4) sc_by_lowest.nd rfl (Or.inl rfl))) (fun _ _ _ _ _ => pts_nil) (fun _ _ _ _ _ => (pe_lst pa_nil)) )
      (pss_cons (ps_for PassesOwn.never rfl (pi_list (pv 0)) (pg_name (i := 3) sc_by_lowest.nd rfl (Or.inl rfl)) (pss_one (ps_expr (pe_bm PySem.F.plainAttrs_list PySem.F.slot_list_append PySem.F.type_list_append mt_append (pe_ix ixL (pv 2) (pe_fn c_lowest_bit (hr.mono (by omega)) (pa_cons (pv 3) pa_nil)) (fun _ _ => rfl)) (pa_cons (pv 3) pa_nil)))))
      (pss_one (ps_ret (pv 2))))), ?_⟩)
  · obtain ⟨_, _, _, rfl, _⟩ := h; rfl
  · obtain ⟨a, n, ms, rfl, ha, hn, hml, hm, q⟩ := h
    walk_at "go"
    refine ⟨n, rfl, by omega, by omega, ?_⟩
    rw [Int.toNat_natCast]
    refine lcX (walk_range (lo := 0) (n := n)) (small (by omega)) (fun D i B acc => ∃ as : List Addr, acc = as.map V.ref ∧ as.length = i ∧ as.Nodup ∧ ∀ b ∈ as, B b = some (.lst []) ∧ H b = none) (fun D hD => ⟨[], rfl, rfl, List.nodup_nil, fun b hb => by cases hb⟩) (fun _ _ _ _ _ _ _ => trivial) (fun D i v B H2 acc N T' hi e hB s y k1 k2 => ?_) fun D B acc hD e hB s => ?_
    · obtain ⟨rfl, rfl⟩ := y
      obtain ⟨as, rfl, h2, h3, h4⟩ := s
      walk_at "go"
      refine ⟨rfl, ?_⟩
      walk_at "go"
      refine ⟨by show 0 ≤ sizeLine; decide, fun p hp => ?_⟩
      have npD : p ≠ D := ne_new hp upd_same
      have hpB : B p = none := by rw [upd_ne npD] at hp; exact hp
      refine k2 (.ref p) _ (Ex.new hp) ⟨as ++ [p], by rw [List.map_append]; rfl, by rw [List.length_append, List.length_singleton, h2], GM.nodup_snoc h3 (fun hm => by rw [(h4 p hm).1] at hpB; cases hpB), fun b hb => ?_⟩
      rcases List.mem_append.mp hb with z | z
      · obtain ⟨h5, h6⟩ := h4 b z
        have nbD : b ≠ D := fun e2 => by rw [e2, hB] at h5; cases h5
        have nbp : b ≠ p := fun e2 => by rw [e2, hpB] at h5; cases h5
        exact ⟨by rw [off_ne nbD, upd_ne nbp, upd_ne nbD]; exact h5, h6⟩
      · rw [List.mem_singleton.mp z]
        exact ⟨by rw [off_ne npD]; exact upd_same, ex_none e hpB⟩
    · obtain ⟨as, rfl, h2, h3, h4⟩ := s
      walk_at "go"
      have eD := ex_in (o := .lst (as.map V.ref)) e hB
      have h5 : ∀ b ∈ as, b ≠ D ∧ upd B D (.lst (as.map V.ref)) b = some (.lst []) ∧ H b = none := fun b hb => by
        obtain ⟨h5, h6⟩ := h4 b hb
        have nbD : b ≠ D := fun e2 => by rw [e2, hB] at h5; cases h5
        exact ⟨nbD, by rw [upd_ne nbD]; exact h5, h6⟩
      refine forL (eD _ _ ha) (fun i σ H1 => (∃ o3, σ = [some (.ref a), some (.int (n : Nat)), some (.ref D), o3, none]) ∧ Ex H H1 ∧ H1 D = some (.lst (as.map V.ref)) ∧ ∀ j b, as[j]? = some b → H1 b = some (.lst (((ms.take i).filter fun m => lowB m == j).map fun m : Nat => V.int m)))
        ⟨⟨_, rfl⟩, eD, upd_same, fun j b hb => (h5 b (List.mem_of_getElem? hb)).2.1⟩ (fun i σ H1 _ z => SqL.of (z.2.1 _ _ ha)) (fun i v σ H1 hv z => ?_) (fun σ H1 z => ?_)
      · obtain ⟨⟨o3, rfl⟩, e1, hD1, hg⟩ := z
        obtain ⟨m, hm1, rfl⟩ := map_get hv
        obtain ⟨m0, mlt⟩ := hm m (List.mem_of_getElem? hm1)
        obtain ⟨b, hb⟩ : ∃ b, as[lowB m]? = some b := ⟨as[lowB m]'(by omega), List.getElem?_eq_getElem (by omega)⟩
        have hbm := List.mem_of_getElem? hb
        walk_at "go"
        refine ⟨m, rfl, m0, ?_⟩
        refine i_ixL hD1 (atI_map V.ref hb) ?_
        refine ⟨ty_l (hg _ _ hb), ?_⟩
        walk_at "go"
        refine i_app (hg _ _ hb) (by rw [List.length_map]; exact small1000 (Nat.le_trans (List.length_filter_le _ _) (by rw [List.length_take]; omega))) ?_
        walk_at "go"
        refine ⟨⟨_, rfl⟩, Ex.mut e1 (h5 b hbm).2.2, upd_some (Ne.symm (h5 b hbm).1) hD1, fun j b' hb' => ?_⟩
        rw [take_snoc hm1, List.filter_append, List.map_append]
        by_cases ej : j = lowB m
        · subst ej
          rw [hb] at hb'
          cases hb'
          rw [upd_same]
          simp
        · have nb : b' ≠ b := fun e2 => by
            subst e2
            have l1 := (List.getElem?_eq_some_iff.mp hb').1
            have l2 := (List.getElem?_eq_some_iff.mp hb).1
            exact ej ((List.getElem_inj h3).mp (by rw [(List.getElem?_eq_some_iff.mp hb').2, (List.getElem?_eq_some_iff.mp hb).2]))
          rw [upd_ne nb, hg j b' hb']
          have : ¬ lowB m = j := fun e => ej e.symm
          simp [this]
      · obtain ⟨⟨o3, rfl⟩, e1, hD1, hg⟩ := z
        rw [List.length_map, List.take_length] at hg
        walk_at "go"
        exact q D H1 e1 ⟨as, hD1, h2, h3, hg⟩
end
end GR
end
section
set_option Elab.async false
set_option linter.all false
set_option maxRecDepth 100000
set_option maxHeartbeats 4000000
set_option autoImplicit false
namespace GR
open PySem PySem.Spec L2
open Evl (Ex)
open GM
/-! ### masks, in plain numbers -/
theorem xor_and_or (a b : Nat) : (a ^^^ b) + (a &&& b) = a ||| b := by
  induction a using Nat.strongRecOn generalizing b with
  | ind a ih =>
    by_cases h : a = 0
    · subst h; simp
    · have i := ih (a / 2) (by omega) (b / 2)
      have e1 : (a ^^^ b) / 2 = a / 2 ^^^ b / 2 := Nat.xor_div_two
      have e2 : (a &&& b) / 2 = a / 2 &&& b / 2 := Nat.and_div_two
      have e3 : (a ||| b) / 2 = a / 2 ||| b / 2 := Nat.or_div_two
      rw [← e1, ← e2, ← e3] at i
      have m1 : (a ^^^ b) % 2 = 1 ↔ ¬(a % 2 = 1 ↔ b % 2 = 1) := Nat.xor_mod_two_eq_one
      have m2 : (a &&& b) % 2 = 1 ↔ a % 2 = 1 ∧ b % 2 = 1 := Nat.and_mod_two_eq_one
      have m3 : (a ||| b) % 2 = 1 ↔ a % 2 = 1 ∨ b % 2 = 1 := Nat.or_mod_two_eq_one
      have p1 := Nat.mod_two_eq_zero_or_one (a ^^^ b)
      have p2 := Nat.mod_two_eq_zero_or_one (a &&& b)
      have p3 := Nat.mod_two_eq_zero_or_one (a ||| b)
      have p4 := Nat.mod_two_eq_zero_or_one a
      have p5 := Nat.mod_two_eq_zero_or_one b
      clear e1 e2 e3 ih
      generalize a ^^^ b = X at *
      generalize a &&& b = Y at *
      generalize a ||| b = Z at *
      rcases p4 with h4 | h4 <;> rcases p5 with h5 | h5 <;> simp [h4, h5] at m1 m2 m3 <;> omega
theorem int_or (a b : Nat) : Builtin.bitOr (a : Int) (b : Int) = ((a ||| b : Nat) : Int) := by
  have e : ∀ n : Nat, Builtin.bitNot (n : Int) = -(n : Int) - 1 := fun n => by unfold Builtin.bitNot; omega
  have e2 : ∀ x : Int, Builtin.bitNot (Builtin.bitNot x) = x := fun x => by unfold Builtin.bitNot; omega
  unfold Builtin.bitOr Builtin.bitAnd
  rw [show decide (0 ≤ Builtin.bitNot (a : Int)) = false from decide_eq_false (by rw [e]; omega), show decide (0 ≤ Builtin.bitNot (b : Int)) = false from decide_eq_false (by rw [e]; omega)]
  show Builtin.bitNot (Builtin.bitNot _) = _
  rw [e2, e2, e2]
  simp
theorem int_xor (a b : Nat) : Builtin.bitXor (a : Int) (b : Int) = ((a ^^^ b : Nat) : Int) := by
  unfold Builtin.bitXor
  rw [int_or, PySem.W.os_band, ← xor_and_or]
  omega
theorem bits_pos {m : Nat} (h : m ≠ 0) : 1 ≤ bits m := by
  induction m using Nat.strongRecOn with
  | ind m ih =>
    rw [bits, if_neg h]
    by_cases h2 : m / 2 = 0
    · omega
    · have := ih (m / 2) (by omega) h2
      omega
theorem bits_two {m : Nat} : ∀ {i j : Nat}, i < j → m.testBit i = true → m.testBit j = true → 2 ≤ bits m := by
  induction m using Nat.strongRecOn with
  | ind m ih =>
    intro i j h hi hj
    have h0 : m ≠ 0 := fun e => by rw [e] at hi; simp at hi
    rw [bits, if_neg h0]
    obtain ⟨j', rfl⟩ : ∃ j', j = j' + 1 := ⟨j - 1, by omega⟩
    rw [Nat.testBit_succ] at hj
    cases i with
    | zero =>
      rw [Nat.testBit_zero] at hi
      have h1 : m % 2 = 1 := of_decide_eq_true hi
      have h2 : m / 2 ≠ 0 := fun e => by rw [e] at hj; simp at hj
      have := bits_pos h2
      omega
    | succ i' =>
      rw [Nat.testBit_succ] at hi
      have := ih (m / 2) (by omega) (show i' < j' by omega) hi hj
      omega
/-- the mask of a path -/
def maskP (gs p : List Str) : Nat := p.foldl (fun m x => m ||| 2 ^ gs.idxOf x) 0
section
variable {gs p : List Str} {row : Str → List Str} {s : Nat} {l o x : Str} {d : Str → Str}
theorem fold_tb (j : Nat) : ∀ (p : List Str) (m : Nat), (p.foldl (fun m x => m ||| 2 ^ gs.idxOf x) m).testBit j = (m.testBit j || p.any fun x => gs.idxOf x == j)
  | [], m => by simp
  | y :: r, m => by
    rw [List.foldl_cons, fold_tb j r, Nat.testBit_or, Nat.testBit_two_pow, List.any_cons]
    by_cases h : gs.idxOf y = j
    · simp [h]
    · have h2 : (gs.idxOf y == j) = false := beq_eq_false_iff_ne.mpr h
      rw [h2, decide_eq_false h]
      simp
theorem tb_mask (j : Nat) : (maskP gs p).testBit j = p.any fun x => gs.idxOf x == j := by
  unfold maskP
  rw [fold_tb]
  simp
theorem mask_snoc : maskP gs (p ++ [o]) = maskP gs p ||| 2 ^ gs.idxOf o := by unfold maskP; rw [List.foldl_append]; rfl
theorem tb_mem (nd : gs.Nodup) (hp : ∀ y ∈ p, y ∈ gs) (hx : x ∈ gs) : (maskP gs p).testBit (gs.idxOf x) = decide (x ∈ p) := by
  rw [tb_mask]
  by_cases h : x ∈ p
  · rw [decide_eq_true h]
    exact List.any_eq_true.mpr ⟨x, h, by simp⟩
  · rw [decide_eq_false h]
    refine List.any_eq_false.mpr fun y hy => ?_
    intro e
    have e := beq_iff_eq.mp e
    have h1 := List.idxOf_lt_length_of_mem hx
    have : x = y := by
      have a1 := List.getElem_idxOf (List.idxOf_lt_length_of_mem hx)
      have a2 := List.getElem_idxOf (List.idxOf_lt_length_of_mem (hp y hy))
      rw [← a1, ← a2]
      simp only [e]
    exact h (this ▸ hy)
theorem mask_lt (hp : ∀ y ∈ p, y ∈ gs) : maskP gs p < 2 ^ gs.length := by
  refine Nat.lt_pow_two_of_testBit _ fun j hj => ?_
  rw [tb_mask]
  refine List.any_eq_false.mpr fun y hy e => ?_
  have := List.idxOf_lt_length_of_mem (hp y hy)
  rw [beq_iff_eq.mp e] at this
  omega
/-- paths from the s-th, the others behind it; with the last -/
inductive Pth (gs : List Str) (row : Str → List Str) (s : Nat) : List Str → Str → Prop
  | one {x : Str} : gs[s]? = some x → Pth gs row s [x] x
  | more {p : List Str} {l o : Str} : Pth gs row s p l → o ∈ row l → o ∈ gs → s < gs.idxOf o → o ∉ p → Pth gs row s (p ++ [o]) o
theorem Pth.last (h : Pth gs row s p l) : l ∈ p := by cases h <;> simp
theorem Pth.nd (h : Pth gs row s p l) : p.Nodup := by
  induction h with
  | one _ => simp
  | more _ _ _ _ hn ih => exact GM.nodup_snoc ih hn
theorem Pth.mem (h : Pth gs row s p l) : ∀ y ∈ p, y ∈ gs := by
  induction h with
  | one e => intro y hy; rw [List.mem_singleton.mp hy]; exact List.mem_of_getElem? e
  | more _ _ hg _ _ ih => intro y hy; rcases List.mem_append.mp hy with z | z; exact ih y z; rw [List.mem_singleton.mp z]; exact hg
theorem Pth.head (h : Pth gs row s p l) : ∃ x r, gs[s]? = some x ∧ p = x :: r := by
  induction h with
  | one e => exact ⟨_, [], e, rfl⟩
  | more _ _ _ _ _ ih => obtain ⟨x, r, e, q⟩ := ih; exact ⟨x, r ++ [_], e, by rw [q]; rfl⟩
theorem Pth.len (h : Pth gs row s p l) : p.length ≤ gs.length := h.nd.length_le_of_subset h.mem
theorem Pth.next (h : Pth gs row s p l) : ∀ i y z, p[i]? = some y → p[i + 1]? = some z → z ∈ row y := by
  induction h with
  | one e => intro i y z _ h2; simp at h2
  | @more p l o hp ho hg hs hn ih =>
    intro i y z h1 h2
    by_cases e : i + 1 < p.length
    · rw [List.getElem?_append_left e] at h2
      rw [List.getElem?_append_left (by omega)] at h1
      exact ih i y z h1 h2
    · have hi : i + 1 < (p ++ [o]).length := (List.getElem?_eq_some_iff.mp h2).1
      rw [List.length_append, List.length_singleton] at hi
      have e2 : i + 1 = p.length := by omega
      rw [List.getElem?_append_right (by omega)] at h2
      rw [List.getElem?_append_left (by omega)] at h1
      have hz : z = o := by
        rw [e2] at h2
        simpa using h2.symm
      have hy : y = l := by
        cases hp with
        | one q => simp at e2 h1; subst e2; simpa using h1.symm
        | @more p' l' _ hp' _ _ _ _ =>
          rw [List.length_append, List.length_singleton] at e2
          have : i = p'.length := by omega
          rw [this] at h1
          simpa using h1.symm
      rw [hz, hy]
      exact ho
/-- a ring: a path that closes -/
def Ring (gs : List Str) (row : Str → List Str) (p : List Str) : Prop := ∃ s l x, Pth gs row s p l ∧ gs[s]? = some x ∧ x ∈ row l
theorem Pth.lastAt (h : Pth gs row s p l) : p[p.length - 1]? = some l := by
  cases h with
  | one e => rfl
  | more _ _ _ _ _ => simp
/-- passing on along a ring is by the rows -/
theorem Ring.turn (h : Ring gs row p) : ∀ y ∈ p, turnOf p y ∈ row y := by
  obtain ⟨s, l, x0, hp, hx0, hl⟩ := h
  intro y hy
  obtain ⟨i, hi⟩ := List.getElem?_of_mem hy
  have il := (List.getElem?_eq_some_iff.mp hi).1
  rw [turn_at hp.nd hi]
  by_cases e : i + 1 < p.length
  · rw [Nat.mod_eq_of_lt e, List.getElem?_eq_getElem e]
    exact hp.next i y _ hi (List.getElem?_eq_getElem e)
  · have e2 : i + 1 = p.length := by omega
    rw [e2, Nat.mod_self]
    obtain ⟨x1, r, hx1, hpr⟩ := hp.head
    rw [hx0] at hx1
    cases hx1
    have : p[0]? = some x0 := by rw [hpr]; rfl
    rw [this]
    have hl2 := hp.lastAt
    rw [show p.length - 1 = i by omega, hi] at hl2
    cases hl2
    exact hl
theorem Ring.orb {ps : List Str} (h : Ring gs row p) (hd : ∀ y ∈ p, d y = turnOf p y) (hps : ∀ y ∈ p, y ∈ ps) : orb d ps p := by
  obtain ⟨s, l, x0, hp, hx0, hl⟩ := h
  obtain ⟨x1, r, hx1, hpr⟩ := hp.head
  refine ⟨by rw [hpr]; simp, x1, hps x1 (by rw [hpr]; simp), fun y hy => ?_⟩
  obtain ⟨i, hi⟩ := List.getElem?_of_mem hy
  refine ⟨i, ?_⟩
  have key : ∀ i y, p[i]? = some y → y = iter d i x1 := by
    intro i
    induction i with
    | zero => intro y hi; rw [hpr] at hi; exact (Option.some.inj hi).symm
    | succ i ih =>
      intro y hi
      have il := (List.getElem?_eq_some_iff.mp hi).1
      have h1 : p[i]? = some p[i] := List.getElem?_eq_getElem (by omega)
      show y = d (iter d i x1)
      rw [← ih _ h1, hd _ (List.getElem_mem _), turn_at hp.nd h1, Nat.mod_eq_of_lt il, hi]
      rfl
  exact key i y hi
end
/-- a set of rings with disjoint masks, together m -/
inductive Part (gs : List Str) (row : Str → List Str) : Nat → List (List Str) → Prop
  | nil : Part gs row 0 []
  | more {m r : Nat} {rss : List (List Str)} {p : List Str} : Part gs row m rss → Ring gs row p → maskP gs p = r → m &&& r = 0 → Part gs row (m ||| r) (rss ++ [p])
theorem Part.draw {gs : List Str} {row : Str → List Str} {m : Nat} {rss : List (List Str)} (nd : gs.Nodup) (h : Part gs row m rss) :
    ∃ d : Str → Str, (∀ x ∈ gs, m.testBit (gs.idxOf x) = true → d x ∈ row x ∧ d x ∈ gs ∧ m.testBit (gs.idxOf (d x)) = true) ∧ (∀ x ∈ gs, ∀ y ∈ gs, m.testBit (gs.idxOf x) = true → m.testBit (gs.idxOf y) = true → d x = d y → x = y) ∧ (∀ x ∈ gs, m.testBit (gs.idxOf x) = true → ∃ rs ∈ rss, x ∈ rs) ∧ ∀ rs ∈ rss, Ring gs row rs ∧ (∀ y ∈ rs, y ∈ gs ∧ m.testBit (gs.idxOf y) = true) ∧ ∀ y ∈ rs, d y = turnOf rs y := by
  induction h with
  | nil => exact ⟨id, fun x _ h => by simp at h, fun x _ y _ h => by simp at h, fun x _ h => by simp at h, fun rs h => by cases h⟩
  | @more m r rss p _ hr hm dis ih =>
    obtain ⟨d, h1, h2, h3, h4⟩ := ih
    have hr0 := hr
    obtain ⟨s, l, x0, hp, hx0, hl⟩ := hr0
    have pin := hp.mem
    have bp : ∀ x ∈ gs, r.testBit (gs.idxOf x) = decide (x ∈ p) := fun x hx => by rw [← hm]; exact tb_mem nd pin hx
    have no : ∀ x ∈ gs, m.testBit (gs.idxOf x) = true → x ∉ p := fun x hx hb hxp => by
      have := congrArg (fun z => Nat.testBit z (gs.idxOf x)) dis
      simp only [Nat.testBit_and, Nat.zero_testBit, hb, bp x hx, decide_eq_true hxp] at this
      cases this
    have ob : ∀ x ∈ gs, (m ||| r).testBit (gs.idxOf x) = true → x ∈ p ∨ m.testBit (gs.idxOf x) = true := fun x hx h => by
      rw [Nat.testBit_or, Bool.or_eq_true] at h
      rcases h with h | h
      · exact .inr h
      · rw [bp x hx] at h; exact .inl (of_decide_eq_true h)
    have bo1 : ∀ x ∈ gs, x ∈ p → (m ||| r).testBit (gs.idxOf x) = true := fun x hx h => by rw [Nat.testBit_or, bp x hx, decide_eq_true h]; simp
    have bo2 : ∀ x, m.testBit (gs.idxOf x) = true → (m ||| r).testBit (gs.idxOf x) = true := fun x h => by rw [Nat.testBit_or, h]; rfl
    refine ⟨fun x => if x ∈ p then turnOf p x else d x, fun x hx hb => ?_, fun x hx y hy hbx hby e => ?_, fun x hx hb => ?_, fun rs hrs => ?_⟩
    · by_cases hxp : x ∈ p
      · simp only [if_pos hxp]
        have := turn_mem hxp
        exact ⟨hr.turn x hxp, pin _ this, bo1 _ (pin _ this) this⟩
      · simp only [if_neg hxp]
        obtain ⟨a, b, c⟩ := h1 x hx ((ob x hx hb).resolve_left hxp)
        exact ⟨a, b, bo2 _ c⟩
    · by_cases hxp : x ∈ p
      · by_cases hyp : y ∈ p
        · simp only [if_pos hxp, if_pos hyp] at e
          exact turn_inj hp.nd e
        · simp only [if_pos hxp, if_neg hyp] at e
          obtain ⟨a, b, c⟩ := h1 y hy ((ob y hy hby).resolve_left hyp)
          rw [← e] at b c
          exact absurd (turn_mem hxp) (no _ b c)
      · by_cases hyp : y ∈ p
        · simp only [if_neg hxp, if_pos hyp] at e
          obtain ⟨a, b, c⟩ := h1 x hx ((ob x hx hbx).resolve_left hxp)
          rw [e] at b c
          exact absurd (turn_mem hyp) (no _ b c)
        · simp only [if_neg hxp, if_neg hyp] at e
          exact h2 x hx y hy ((ob x hx hbx).resolve_left hxp) ((ob y hy hby).resolve_left hyp) e
    · rcases ob x hx hb with h | h
      · exact ⟨p, by simp, h⟩
      · obtain ⟨rs, h5, h6⟩ := h3 x hx h
        exact ⟨rs, by simp [h5], h6⟩
    · rcases List.mem_append.mp hrs with h | h
      · obtain ⟨h5, h6, h7⟩ := h4 rs h
        exact ⟨h5, fun y hy => ⟨(h6 y hy).1, bo2 _ (h6 y hy).2⟩, fun y hy => by show (if y ∈ p then turnOf p y else d y) = _; rw [if_neg (no y (h6 y hy).1 (h6 y hy).2)]; exact h7 y hy⟩
      · rw [List.mem_singleton.mp h]
        exact ⟨hr, fun y hy => ⟨pin y hy, bo1 y (pin y hy) hy⟩, fun y hy => by show (if y ∈ p then turnOf p y else d y) = _; rw [if_pos hy]⟩
/-- what the search over masks fills: from below, by the lowest bit -/
inductive Cov (ms : List Nat) : Nat → Prop
  | zero : Cov ms 0
  | more {m r : Nat} : m ≠ 0 → r ∈ ms → lowB r = lowB m → r &&& m = r → Cov ms (m ^^^ r) → Cov ms m
/-- a whole choice keeps the set -/
structure Kept (gs : List Str) (d : Str → Str) (m : Nat) : Prop where
  lt : m < 2 ^ gs.length
  inn : ∀ x ∈ gs, m.testBit (gs.idxOf x) = true → m.testBit (gs.idxOf (d x)) = true
theorem Kept.bit {gs : List Str} {d : Str → Str} {m j : Nat} (h : Kept gs d m) (hj : m.testBit j = true) : j < gs.length := by
  refine Nat.lt_of_not_le fun c => ?_
  have : m.testBit j = false := Nat.testBit_lt_two_pow (Nat.lt_of_lt_of_le h.lt (Nat.pow_le_pow_right (by decide) c))
  rw [hj] at this
  cases this
section
variable {gs : List Str} {row : Str → List Str} {d : Str → Str} {m : Nat}
/-- the orbit of the lowest, as a path -/
theorem orbit_path (nd : gs.Nodup) (hin : ∀ x ∈ gs, d x ∈ gs) (hrow : ∀ x ∈ gs, d x ∈ row x) (inj : ∀ x ∈ gs, ∀ y ∈ gs, d x = d y → x = y) (hk : Kept gs d m) (h0 : m ≠ 0) :
    ∃ p l x0, Pth gs row (lowB m) p l ∧ gs[lowB m]? = some x0 ∧ d l = x0 ∧ (∀ y ∈ p, m.testBit (gs.idxOf y) = true) ∧ ∀ y ∈ p, d y ∈ p := by
  obtain ⟨t1, t2, _⟩ := low_spec h0
  have hb := hk.bit t1
  let x0 := gs[lowB m]
  have hx0 : x0 ∈ gs := List.getElem_mem hb
  have ix0 : gs.idxOf x0 = lowB m := by
    have h1 := List.idxOf_lt_length_of_mem hx0
    exact (List.getElem_inj nd).mp (List.getElem_idxOf h1)
  have itin : ∀ k, iter d k x0 ∈ gs ∧ m.testBit (gs.idxOf (iter d k x0)) = true := fun k => by
    induction k with
    | zero => exact ⟨hx0, by show m.testBit (gs.idxOf x0) = true; rw [ix0]; exact t1⟩
    | succ k ih => exact ⟨hin _ ih.1, hk.inn _ ih.1 ih.2⟩
  obtain ⟨K, hK⟩ := comes_back hin inj hx0
  -- the first return
  have : ∃ k, iter d (k + 1) x0 = x0 ∧ ∀ j, j < k → iter d (j + 1) x0 ≠ x0 := by
    have key : ∀ n, ∀ k, k ≤ n → iter d (k + 1) x0 = x0 → ∃ k, iter d (k + 1) x0 = x0 ∧ ∀ j, j < k → iter d (j + 1) x0 ≠ x0 := by
      intro n
      induction n with
      | zero => intro k hk h; exact ⟨k, h, fun j hj => by omega⟩
      | succ n ih =>
        intro k hk h
        by_cases c : ∃ j, j < k ∧ iter d (j + 1) x0 = x0
        · obtain ⟨j, hj, e⟩ := c
          exact ih j (by omega) e
        · exact ⟨k, h, fun j hj e => c ⟨j, hj, e⟩⟩
    exact key K K (Nat.le_refl _) hK
  obtain ⟨k, hk1, hk2⟩ := this
  -- cancel
  have canc : ∀ a b, iter d (a + b) x0 = iter d a x0 → iter d b x0 = x0 := fun a => by
    induction a with
    | zero => intro b h; rw [Nat.zero_add] at h; exact h
    | succ a ih =>
      intro b h
      rw [show a + 1 + b = (a + b) + 1 by omega] at h
      exact ih b (inj _ (itin _).1 _ (itin _).1 h)
  have path : ∀ j, j ≤ k → Pth gs row (lowB m) ((List.range (j + 1)).map fun i => iter d i x0) (iter d j x0) := by
    intro j
    induction j with
    | zero => intro _; exact .one (List.getElem?_eq_getElem hb)
    | succ j ih =>
      intro hj
      rw [List.range_succ, List.map_append]
      have ne0 : iter d (j + 1) x0 ≠ x0 := hk2 j (by omega)
      refine .more (ih (by omega)) (hrow _ (itin j).1) (itin (j + 1)).1 ?_ fun hm => ?_
      · have hge : lowB m ≤ gs.idxOf (iter d (j + 1) x0) := Nat.le_of_not_lt fun c => by have := (itin (j + 1)).2; rw [t2 _ c] at this; cases this
        refine Nat.lt_of_le_of_ne hge fun e => ne0 ?_
        have h1 := List.getElem_idxOf (List.idxOf_lt_length_of_mem (itin (j + 1)).1)
        rw [← h1]
        show gs[gs.idxOf (iter d (j + 1) x0)] = gs[lowB m]
        simp only [← e]
      · obtain ⟨i, hi, e⟩ := List.mem_map.mp hm
        have hi := List.mem_range.mp hi
        have := canc i (j + 1 - i) (by rw [show i + (j + 1 - i) = j + 1 by omega]; exact e.symm)
        obtain ⟨c, hc⟩ : ∃ c, j + 1 - i = c + 1 := ⟨j - i, by omega⟩
        rw [hc] at this
        by_cases hi0 : i = 0
        · subst hi0; exact ne0 e.symm
        · exact hk2 c (by omega) this
  refine ⟨_, _, x0, path k (Nat.le_refl _), List.getElem?_eq_getElem hb, hk1, fun y hy => ?_, fun y hy => ?_⟩
  · obtain ⟨i, _, rfl⟩ := List.mem_map.mp hy
    exact (itin i).2
  · obtain ⟨i, hi, rfl⟩ := List.mem_map.mp hy
    have hi := List.mem_range.mp hi
    by_cases e : i = k
    · subst e
      exact List.mem_map.mpr ⟨0, List.mem_range.mpr (by omega), hk1.symm⟩
    · exact List.mem_map.mpr ⟨i + 1, List.mem_range.mpr (by omega), rfl⟩
/-- where a whole choice is, every kept set is covered -/
theorem cov_of {ms : List Nat} (nd : gs.Nodup) (hin : ∀ x ∈ gs, d x ∈ gs) (hrow : ∀ x ∈ gs, d x ∈ row x) (inj : ∀ x ∈ gs, ∀ y ∈ gs, d x = d y → x = y) (nofix : ∀ x ∈ gs, d x ≠ x)
    (hms : ∀ p, Ring gs row p → 2 ≤ bits (maskP gs p) → maskP gs p ∈ ms) : ∀ m, Kept gs d m → Cov ms m := by
  intro m
  induction m using Nat.strongRecOn with
  | ind m ih =>
    intro hk
    by_cases h0 : m = 0
    · subst h0; exact .zero
    · obtain ⟨p, l, x0, hp, hx0, hl, hpm, hpd⟩ := orbit_path nd hin hrow inj hk h0
      obtain ⟨t1, t2, _⟩ := low_spec h0
      have pin := hp.mem
      have hlg := pin l hp.last
      have bp : ∀ x ∈ gs, (maskP gs p).testBit (gs.idxOf x) = decide (x ∈ p) := fun x hx => tb_mem nd pin hx
      have x0p : x0 ∈ p := by rw [← hl]; exact hpd l hp.last
      have x0g := pin x0 x0p
      have ix0 : gs.idxOf x0 = lowB m := by
        have h1 := List.idxOf_lt_length_of_mem x0g
        obtain ⟨h2, h3⟩ := List.getElem?_eq_some_iff.mp hx0
        exact (List.getElem_inj nd).mp ((List.getElem_idxOf h1).trans h3.symm)
      have sub : ∀ j, (maskP gs p).testBit j = true → m.testBit j = true := fun j hj => by
        rw [tb_mask] at hj
        obtain ⟨y, hy, e⟩ := List.any_eq_true.mp hj
        rw [← beq_iff_eq.mp e]
        exact hpm y hy
      have rm : maskP gs p &&& m = maskP gs p := Nat.eq_of_testBit_eq fun j => by
        rw [Nat.testBit_and]
        cases e : (maskP gs p).testBit j with
        | false => rfl
        | true => rw [sub j e]; rfl
      have r0 : maskP gs p ≠ 0 := fun e => by
        have := bp x0 x0g
        rw [e, decide_eq_true x0p] at this
        simp at this
      have two : 2 ≤ bits (maskP gs p) := by
        have b1 : (maskP gs p).testBit (gs.idxOf x0) = true := by rw [bp x0 x0g, decide_eq_true x0p]
        have hd0 := hpd x0 x0p
        have b2 : (maskP gs p).testBit (gs.idxOf (d x0)) = true := by rw [bp _ (pin _ hd0), decide_eq_true hd0]
        have ne : gs.idxOf x0 ≠ gs.idxOf (d x0) := fun e => nofix x0 x0g (by
          have h1 := List.getElem_idxOf (List.idxOf_lt_length_of_mem x0g)
          have h2 := List.getElem_idxOf (List.idxOf_lt_length_of_mem (pin _ hd0))
          have h3 : gs[gs.idxOf (d x0)]'(List.idxOf_lt_length_of_mem (pin _ hd0)) = gs[gs.idxOf x0]'(List.idxOf_lt_length_of_mem x0g) := by simp only [e]
          rw [h1, h2] at h3
          exact h3)
        rcases Nat.lt_or_gt_of_ne ne with h | h
        · exact bits_two h b1 b2
        · exact bits_two h b2 b1
      have lowr : lowB (maskP gs p) = lowB m := by
        obtain ⟨s1, s2, _⟩ := low_spec r0
        have b1 : (maskP gs p).testBit (lowB m) = true := by rw [← ix0, bp x0 x0g, decide_eq_true x0p]
        have h1 : ¬ lowB m < lowB (maskP gs p) := fun c => by rw [s2 _ c] at b1; cases b1
        have h2 : ¬ lowB (maskP gs p) < lowB m := fun c => by have := sub _ s1; rw [t2 _ c] at this; cases this
        omega
      have hr : Ring gs row p := ⟨lowB m, l, x0, hp, hx0, by rw [← hl]; exact hrow l hlg⟩
      refine .more h0 (hms p hr two) lowr rm (ih _ ?_ ⟨?_, fun x hx hb => ?_⟩)
      · have h1 := xor_and_or m (maskP gs p)
        have h2 : m ||| maskP gs p = m := Nat.eq_of_testBit_eq fun j => by
          rw [Nat.testBit_or]
          cases e : (maskP gs p).testBit j with
          | false => simp
          | true => rw [sub j e]; rfl
        have h3 : m &&& maskP gs p = maskP gs p := by rw [Nat.and_comm]; exact rm
        rw [h2, h3] at h1
        have := Nat.pos_of_ne_zero r0
        omega
      · exact Nat.xor_lt_two_pow hk.lt (mask_lt pin)
      · rw [Nat.testBit_xor, bp x hx] at hb
        rw [Nat.testBit_xor, bp (d x) (hin x hx)]
        by_cases hxp : x ∈ p
        · rw [decide_eq_true hxp, hpm x hxp] at hb
          cases hb
        · rw [decide_eq_false hxp] at hb
          have hbm : m.testBit (gs.idxOf x) = true := by simpa using hb
          have hdn : d x ∉ p := fun hm => by
            -- d is onto the path
            have := onto (people := p) hp.nd hpd (fun a ha b hb e => inj a (pin a ha) b (pin b hb) e) (d x) hm
            obtain ⟨y, hy, e⟩ := this
            exact hxp (inj y (pin y hy) x hx e ▸ hy)
          rw [decide_eq_false hdn, hk.inn x hx hbm]
          rfl
theorem kept_all (hin : ∀ x ∈ gs, d x ∈ gs) : Kept gs d (2 ^ gs.length - 1) := by
  refine ⟨by have := Nat.two_pow_pos gs.length; omega, fun x hx _ => ?_⟩
  rw [Nat.testBit_two_pow_sub_one]
  exact decide_eq_true (List.idxOf_lt_length_of_mem (hin x hx))
end
end GR
end
section
set_option Elab.async false
set_option linter.all false
set_option maxRecDepth 100000
set_option maxHeartbeats 4000000
set_option autoImplicit false
namespace GR
open PySem PySem.Spec L2
open Evl (Ex)
local macro_rules | `(tactic| walk_at "go") => `(tactic| (repeat (first
  | with_reducible refine i_seq ?_
  | ((with_reducible apply i_var); focus rfl)
  | with_reducible refine i_c ?_
  | with_reducible refine i_cons ?_
  | with_reducible refine i_nil ?_
  | with_reducible refine i_asg ?_
  | with_reducible refine i_name ?_
  | with_reducible refine i_op ?_
  | with_reducible refine i_cb ?_
  | with_reducible refine i_fn ?_
  | with_reducible refine i_ret ?_
  | with_reducible refine i_retN ?_
  | with_reducible refine i_drop ?_
  | with_reducible refine i_next ?_
  | with_reducible refine i_cont ?_
  | with_reducible refine i_break ?_
  | with_reducible refine i_if ?_
  | with_reducible refine br_t ?_
  | with_reducible refine br_f ?_
  | with_reducible refine br_nt ?_
  | with_reducible refine io_t ?_
  | with_reducible refine io_f ?_
  | with_reducible refine io_nt ?_
  | with_reducible refine io_nf ?_
  | with_reducible refine br_nf ?_
  | with_reducible refine o_ip ?_
  | with_reducible refine i_test ?_
  | with_reducible refine i_tB ?_
  | with_reducible refine i_not ?_
  | with_reducible refine i_notV ?_
  | with_reducible refine i_andV ?_
  | with_reducible refine i_orV ?_
  | with_reducible refine i_and ?_
  | with_reducible refine i_or ?_
  | with_reducible refine i_dput ?_
  | with_reducible refine i_dget ?_
  | with_reducible refine i_din ?_
  | with_reducible refine i_dnotin ?_
  | with_reducible refine i_dnewK ?_
  | with_reducible refine i_dnewT ?_
  | with_reducible refine i_fld ?_
  | with_reducible refine i_sfld ?_
  | with_reducible refine i_bm0 ?_
  | with_reducible refine i_bm ?_
  | with_reducible refine i_sl ?_
  | with_reducible refine i_noPart ?_
  | with_reducible refine i_part ?_
  | with_reducible refine i_chain ?_
  | with_reducible refine i_methR ?_
  | with_reducible refine i_tup ?_
  | with_reducible refine i_lst ?_
  | with_reducible refine i_for ?_
  | with_reducible refine i_iList ?_
  | with_reducible refine i_iTup ?_
  | with_reducible refine i_iKeys ?_
  | with_reducible refine i_iRng1 ?_
  | with_reducible refine i_iRng2 ?_
  | with_reducible refine i_iStr ?_
  | with_reducible refine i_iEnum ?_
  | with_reducible refine i_iEnumT ?_
  | with_reducible refine i_lc ?_
  | with_reducible refine i_stD ?_
  | with_reducible refine i_iItemsT ?_
  | with_reducible refine i_dcw ?_
  | with_reducible refine i_dsetd ?_
  | with_reducible refine i_iVals ?_
  | with_reducible refine i_iItems ?_
  | with_reducible refine i_revL ?_
  | with_reducible refine i_yes ?_
  | with_reducible refine o_I0 ?_
  | with_reducible refine o_eqS ?_
  | with_reducible refine o_neS ?_
  | with_reducible refine o_eqI ?_
  | with_reducible refine o_neI ?_
  | with_reducible refine o_eqB ?_
  | with_reducible refine e_ref ?_
  | with_reducible refine e_str ?_
  | with_reducible refine e_int ?_
  | with_reducible refine e_bl ?_
  | with_reducible refine e_str1 ?_
  | with_reducible refine e_int1 ?_
  | with_reducible refine e_int2 ?_
  | with_reducible refine e_str2 ?_)))
open GM
def jNN : Nat × Nat → List Key := fun ma => [.inl (ma.1 : Int), .inl (ma.2 : Int)]
theorem jNN_inj (a b : Nat × Nat) (h : jNN a = jNN b) : a = b := by
  obtain ⟨a1, a2⟩ := a
  obtain ⟨b1, b2⟩ := b
  unfold jNN at h
  injection h with h1 h2
  injection h2 with h2 _
  have e1 := Sum.inl.inj h1
  have e2 := Sum.inl.inj h2
  simp only at e1 e2
  congr <;> omega
def TsUp (H H' : Hp) : Prop := ∀ b xs, Ts H b xs → Ts H' b xs
section
variable {H H' H1 : Hp} {a b r l D kb : Addr} {v : V} {o u : HO} {m n : Nat} {ks : List (Nat × Nat)} {f : Nat × Nat → V} {gs : List Str} {row : Str → List Str} {ms : List Nat} {F : Nat → V} {s k : Nat}
theorem TsUp.ex (e : Ex H H') : TsUp H H' := fun b xs h => e _ _ h
theorem TsUp.upd (h : H a = some u) (n : ∀ ys, u ≠ .tup ys) : TsUp H (upd H a o) := fun b xs hb => hb.keep h n
theorem TsUp.trans (e : TsUp H H1) (e2 : TsUp H1 H') : TsUp H H' := fun b xs h => e2 b xs (e b xs h)
theorem dt_in {p : Option V → Prop} (h : H a = some (.dT (kd jNN ks f))) (hk : H kb = some (.tup [.int (m : Nat), .int (n : Nat)])) (q : ∀ o : Option V, o.isSome = decide ((m, n) ∈ ks) → p o) : ∃ a' o, V.ref a = .ref a' ∧ DGet H a' (.ref kb) o ∧ p o :=
  ⟨a, _, rfl, .inr ⟨_, jNN (m, n), kb, .inl h, rfl, hk, rfl⟩, q _ (by
    rw [valV_kd jNN_inj]
    by_cases c : (m, n) ∈ ks
    · rw [if_pos c, decide_eq_true c]; rfl
    · rw [if_neg c, decide_eq_false c]; rfl)⟩
theorem dt_put {p : Hp → Prop} (h : H a = some (.dT (kd jNN ks f))) (hk : H kb = some (.tup [.int (m : Nat), .int (n : Nat)])) (hl : ks.length < sizeLine) (q : p (upd H a (.dT (kd jNN (addk ks (m, n)) (setf f (m, n) v))))) : ∃ a' H4, V.ref a = .ref a' ∧ DPut H a' (.ref kb) v H4 ∧ p H4 :=
  ⟨a, _, rfl, .inr ⟨_, jNN (m, n), kb, h, rfl, hk, by rw [kd_length]; exact hl, rfl⟩, by rw [putK_kd jNN_inj]; exact q⟩
theorem dn_in {p : Option V → Prop} (h : H a = some (.dK (kd jN ms F))) (q : ∀ o : Option V, o.isSome = decide (m ∈ ms) → p o) : ∃ a' o, V.ref a = .ref a' ∧ DGet H a' (.int (m : Nat)) o ∧ p o :=
  ⟨a, _, rfl, .inl ⟨_, .inl (m : Int), .inl h, rfl, rfl⟩, q _ (by
    rw [show (Sum.inl (m : Int) : Key) = jN m from rfl, valV_kd jN_inj]
    by_cases c : m ∈ ms
    · rw [if_pos c, decide_eq_true c]; rfl
    · rw [if_neg c, decide_eq_false c]; rfl)⟩
theorem dn_get {p : V → Prop} (h : Rd H a (.dK (kd jN ms F))) (hm : m ∈ ms) (q : p (F m)) : ∃ a' v, V.ref a = .ref a' ∧ DGet H a' (.int (m : Nat)) (some v) ∧ p v :=
  ⟨a, F m, rfl, .inl ⟨_, .inl (m : Int), h, rfl, by rw [show (Sum.inl (m : Int) : Key) = jN m from rfl, valV_kd jN_inj, if_pos hm]⟩, q⟩
theorem dn_put {p : Hp → Prop} (h : H a = some (.dK (kd jN ms F))) (hl : ms.length < sizeLine) (q : p (upd H a (.dK (kd jN (addk ms m) (setf F m v))))) : ∃ a' H4, V.ref a = .ref a' ∧ DPut H a' (.int (m : Nat)) v H4 ∧ p H4 :=
  ⟨a, _, rfl, .inl ⟨_, .inl (m : Int), h, rfl, by rw [kd_length]; exact hl, rfl⟩, by rw [show (Sum.inl (m : Int) : Key) = jN m from rfl, putK_kd jN_inj]; exact q⟩
theorem i_gTT {T q : Addr} {x y : V} {i j c : Nat} {σ : Sl} {N : Sl → Hp → Prop} (h : H T = some (.tup [.ref q, v])) (h2 : H q = some (.tup [x, y])) (hn : N (((σ.set i (some x)).set j (some y)).set c (some v)) H) : gT 2 (gCons (gT 2 (gCons (gName i) (gCons (gName j) gNil))) (gCons (gName c) gNil)) (.ref T) σ H N :=
  ⟨T, [.ref q, v], rfl, h, rfl, .ref q, [v], rfl, q, [x, y], rfl, h2, rfl, x, [y], rfl, y, [], rfl, rfl, v, [], rfl, rfl, hn⟩
theorem nodup_lt {l : List Nat} {n : Nat} (nd : l.Nodup) (h : ∀ x ∈ l, x < n) : l.length ≤ n := by
  have := nd.length_le_of_subset (l₂ := List.range n) fun x hx => List.mem_range.mpr (h x hx)
  rwa [List.length_range] at this
/-- the rings found -/
structure FndS (gs : List Str) (row : Str → List Str) (ms : List Nat) (F : Nat → V) (H : Hp) : Prop where
  nd : ms.Nodup
  at' : ∀ m ∈ ms, ∃ b q, F m = .ref b ∧ Ts H b q ∧ Ring gs row q ∧ maskP gs q = m
def LevS (gs : List Str) (row : Str → List Str) (s k : Nat) (ks : List (Nat × Nat)) (f : Nat × Nat → V) (H : Hp) : Prop := ∀ ma ∈ ks, ∃ b q l, f ma = .ref b ∧ Ts H b q ∧ Pth gs row s q l ∧ q.length = k ∧ maskP gs q = ma.1 ∧ gs.idxOf l = ma.2
theorem FndS.up (e : TsUp H H') (h : FndS gs row ms F H) : FndS gs row ms F H' := ⟨h.nd, fun m hm => let ⟨b, q, h1, h2, h3⟩ := h.at' m hm; ⟨b, q, h1, e _ _ h2, h3⟩⟩
theorem LevS.up (e : TsUp H H') (h : LevS gs row s k ks f H) : LevS gs row s k ks f H' := fun ma hm => let ⟨b, q, l, h1, h2, h3⟩ := h ma hm; ⟨b, q, l, h1, e _ _ h2, h3⟩
theorem FndS.len (h : FndS gs row ms F H) (hg : gs.length ≤ 7) : ms.length ≤ 128 := by
  refine nodup_lt h.nd fun m hm => ?_
  obtain ⟨b, q, _, _, ⟨s, l, x, hp, _⟩, rfl⟩ := h.at' m hm
  exact Nat.lt_of_lt_of_le (mask_lt hp.mem) (Nat.pow_le_pow_right (by decide) hg)
theorem FndS.put {q : List Str} (h : FndS gs row ms F H) (hb : Ts H b q) (hr : Ring gs row q) (hm : maskP gs q = m) : FndS gs row (addk ms m) (setf F m (.ref b)) H := by
  refine ⟨nd_addk h.nd, fun m' hm' => ?_⟩
  by_cases e : m' = m
  · rw [e]
    exact ⟨b, q, setf_same .., hb, hr, hm⟩
  · obtain ⟨b', q', h1, h2⟩ := h.at' m' ((mem_addk.mp hm').resolve_right e)
    exact ⟨b', q', by rw [setf_ne _ _ e]; exact h1, h2⟩
theorem LevS.put {q : List Str} {x : Str} {ma : Nat × Nat} (h : LevS gs row s k ks f H) (hb : Ts H b q) (hp : Pth gs row s q x) (hl : q.length = k) (h1 : maskP gs q = ma.1) (h2 : gs.idxOf x = ma.2) : LevS gs row s k (addk ks ma) (setf f ma (.ref b)) H := fun ma' hm' => by
  by_cases e : ma' = ma
  · rw [e]
    exact ⟨b, q, x, setf_same .., hb, hp, hl, h1, h2⟩
  · obtain ⟨b', q', l', h3⟩ := h ma' ((mem_addk.mp hm').resolve_right e)
    exact ⟨b', q', l', by rw [setf_ne _ _ e]; exact h3.1, h3.2⟩
theorem Pth.pre {q : List Str} {x : Str} (h : Pth gs row s q x) {k : Nat} (hk : 1 ≤ k) (hl : k ≤ q.length) : ∃ q' x', Pth gs row s q' x' ∧ q'.length = k := by
  induction h with
  | one e => exact ⟨_, _, .one e, by simp at hl ⊢; omega⟩
  | @more p l o hp h1 h2 h3 h4 ih =>
    by_cases c : k = (p ++ [o]).length
    · exact ⟨_, _, .more hp h1 h2 h3 h4, c.symm⟩
    · rw [List.length_append, List.length_singleton] at hl c
      exact ih (by omega)
theorem get_idx (nd : gs.Nodup) {x : Str} (hx : x ∈ gs) : gs[gs.idxOf x]? = some x := by
  rw [List.getElem?_eq_getElem (List.idxOf_lt_length_of_mem hx)]
  rw [List.getElem_idxOf]
theorem idx_get (nd : gs.Nodup) {i : Nat} {x : Str} (h : gs[i]? = some x) : gs.idxOf x = i := by
  obtain ⟨h1, h2⟩ := List.getElem?_eq_some_iff.mp h
  have h3 := List.idxOf_lt_length_of_mem (List.mem_of_getElem? h)
  exact (List.getElem_inj nd).mp ((List.getElem_idxOf h3).trans h2.symm)
end
section
variable {P : Program} {w : World} {K : PySem.W.Frag} {mg : Str → Option Value} {base : Heap} {k j : Nat}
abbrev n_ring_masks : List Str := ["near", "givers", "place", "found", "start", "level", "grown", "mask", "last", "path", "other", "at", "key", "giver"]
theorem sc_ring_masks : FnScope n_ring_masks ["near", "givers"] (defScope s_ring_masks) := ⟨rfl, rfl, rfl, by decide +kernel, rfl, by decide +kernel, by decide +kernel⟩
def spRingMasks : Sp := fun vs H Q _ => ∃ r g ps gs row, vs = [.ref r, .ref g] ∧ RowsAt H r ps row ∧ Ls H g gs ∧ RowsOk gs row ∧ (∀ x ∈ gs, x ∈ ps) ∧
  ∀ p H' ms F, Ex H H' → H' p = some (.dK (kd jN ms F)) → FndS gs row ms F H' → (∀ q, Ring gs row q → maskP gs q ∈ ms) → Q (.ref p) H'
theorem c_ring_masks (T : Txt K mg) : Cal P w K mg base (k + 1) "ring_masks" spRingMasks := by
  refine T.a_ring_masks.ok sc_ring_masks (fun _ _ _ _ _ _ us hl => match us, hl with | [_, _], _ => rfl) (fun vs H Q E h => ?_) (fun f cdv A outer s H vs Q E hr h => ⟨_, (pss_cons (ps_setDcW (i := 2) (own := [("at", 11), ("giver", 13)]) rfl sc_ring_masks.nd rfl rfl (sw_trueD rfl rfl rfl (by decide +kernel)) (pi_enum (by rfl) T.f_enumerate (pa_cons (pv 1) pa_nil)) (blkOk_by (own := [("at", 11), ("giver", 13)]) (N := n_ring_masks) (sc := defScope s_ring_masks) (by decide +kernel)) (fun _ _ _ _ _ => (pg_tupH 2 rfl (pgs_cons (pg_name (i := 11) sc_ring_masks.nd rfl (Or.inl rfl)) (pgs_cons (pg_name (i := 13) sc_ring_masks.nd rfl (Or.inl rfl)) pgs_nil)))) (fun _ _ _ _ _ => pts_nil) (fun _ _ _ _ _ => (pv 13)) (fun _ _ _ _ _ => (pv 11)) (hu_of hr) )
      (pss_cons (ps_set (i := 3) sc_ring_masks.nd rfl (Or.inl rfl) pe_dnewK)
      (pss_cons (ps_for PassesOwn.never rfl (pi_range1 (by rfl) T.f_range (pa_cons (pe_callB crLen (by rfl) T.f_len b_len (pa_cons (pv 1) pa_nil)) pa_nil)) (pg_name (i := 4) sc_ring_masks.nd rfl (Or.inl rfl)) (pss_cons (ps_set (i := 5) sc_ring_masks.nd rfl (Or.inl rfl) (pe_disp1T (hu_of hr) (pe_tup (pa_cons (pe_op op_shl pe_int (pv 4)) (pa_cons (pv 4) pa_nil))) (pe_tup (pa_cons (pe_ix ixL (pv 1) (pv 4) (fun _ _ => rfl)) pa_nil))))
      (pss_one (ps_while PassesOwn.never (pt_truthR (pv 5) truT (by intro _; rfl)) (pss_cons (ps_set (i := 6) sc_ring_masks.nd rfl (Or.inl rfl) pe_dnewT)
      (pss_cons (ps_lock (ps_for PassesOwn.never rfl (pi_itemsT (pv 5)) (pg_tupH 2 rfl (pgs_cons (pg_tupH 2 rfl (pgs_cons (pg_name (i := 7) sc_ring_masks.nd rfl (Or.inl rfl)) (pgs_cons (pg_name (i := 8) sc_ring_masks.nd rfl (Or.inl rfl)) pgs_nil))) (pgs_cons (pg_name (i := 9) sc_ring_masks.nd rfl (Or.inl rfl)) pgs_nil))) (pss_one (ps_for PassesOwn.never rfl (pi_list (pe_dget (hu_of hr) (pv 0) (pe_ix ixL (pv 1) (pv 8) (fun _ _ => rfl)) (fun _ _ => rfl))) (pg_name (i := 10) sc_ring_masks.nd rfl (Or.inl rfl)) (pss_cons (ps_set (i := 11) sc_ring_masks.nd rfl (Or.inl rfl) (pe_dget (hu_of hr) (pv 2) (pv 10) (fun _ _ => rfl)))
      (pss_one (ps_if (pt_cmpR op_eq (pv 11) (pv 4) (nomark _)) (pss_one (ps_if (pt_cmp (pc_dnotin (hu_of hr) (pv 7) (pv 3))) (pss_one (ps_dput (hu_of hr) (pv 3) (pv 7) (pv 9) rfl)) pss_nil)) (pss_one (ps_if (PW.pt (pw_and (pt_cmpR op_gt (pv 11) (pv 4) (nomark _)) (pw_and1 (pt_cmpR op_eq (pe_op op_and (pe_op op_shr (pv 7) (pv 11)) pe_int) pe_int (nomark _))))) (pss_cons (ps_set (i := 12) sc_ring_masks.nd rfl (Or.inl rfl) (pe_tup (pa_cons (pe_op op_or (pv 7) (pe_op op_shl pe_int (pv 11))) (pa_cons (pv 11) pa_nil))))
      (pss_one (ps_if (pt_cmp (pc_dnotin (hu_of hr) (pv 12) (pv 6))) (pss_one (ps_dput (hu_of hr) (pv 6) (pv 12) (pe_op opCatT (pv 9) (pe_tup (pa_cons (pv 10) pa_nil))) rfl)) pss_nil))) pss_nil)))))))))
      (pss_one (ps_set (i := 5) sc_ring_masks.nd rfl (Or.inl rfl) (pv 6)))))))))
      (pss_one (ps_ret (pv 3)))))), ?_⟩)
  · obtain ⟨_, _, _, _, _, rfl, _⟩ := h; rfl
  · obtain ⟨r, g, ps, gs, row, rfl, ⟨fr, hr1, hr2⟩, hg, ok, gps, qq⟩ := h
    have hl7 := ok.len
    have nd := ok.nd
    walk_at "go"
    refine ⟨g, _, rfl, SqL.of hg, ?_⟩
    have wl := walk_enum (K := K) (a := g) (xs := gs.map V.str)
    rw [List.length_map] at wl
    refine dcX wl (by omega) (fun D i B ks f => ∀ x ∈ gs.take i, x ∈ ks ∧ f x = .int (gs.idxOf x : Nat)) (fun D hD x hx => by simp at hx) (fun D i B ks f e hB _ => SqL.of (ex_in e hB _ _ hg)) (fun D i v B H2 ks f N hi e hB s y k1 k2 => ?_) fun pl B kp fp hpl e hB s => ?_
    · obtain ⟨T1, x1, x2, rfl, hT, rfl, hx1, hx2⟩ := y
      obtain ⟨x, hx, rfl⟩ := map_get hx2
      cases hx1
      refine i_gT2 upd_same ?_
      refine ⟨rfl, ?_⟩
      walk_at "go"
      refine k2 x (.int (i : Nat)) _ (Ex.new hT) fun y hy => ?_
      rw [take_snoc hx] at hy
      rcases List.mem_append.mp hy with z | z
      · by_cases e2 : y = x
        · subst e2
          rw [setf_same, idx_get nd hx]
          exact ⟨mem_addk.mpr (.inr rfl), rfl⟩
        · exact ⟨mem_addk.mpr (.inl (s y z).1), by rw [setf_ne _ _ e2]; exact (s y z).2⟩
      · rw [List.mem_singleton.mp z, setf_same, idx_get nd hx]
        exact ⟨mem_addk.mpr (.inr rfl), rfl⟩
    · rw [List.take_length] at s
      have eb := ex_in (o := sd kp fp) e hB
      have hplb : upd B pl (sd kp fp) pl = some (sd kp fp) := upd_same
      generalize upd B pl (sd kp fp) = Hb at eb hplb
      have plc : ∀ {Hc : Hp} {x : Str} {p : V → Prop}, Ex Hb Hc → x ∈ gs → p (.int (gs.idxOf x : Nat)) → ∃ a' v, V.ref pl = .ref a' ∧ DGet Hc a' (.str x) (some v) ∧ p v := fun e hx q => kd_get (.inl (e _ _ hplb)) (s _ hx).1 (by rw [(s _ hx).2]; exact q)
      walk_at "go"
      intro fd hfd
      walk_at "go"
      refine ⟨g, _, rfl, .inl (Ex.new hfd _ _ (eb _ _ hg)), ?_⟩
      rw [List.length_map]
      refine forR (by omega) (fun i σ Hc => (∃ o4 o5 o6 o7 o8 o9 o10 o11 o12, σ = [some (.ref r), some (.ref g), some (.ref pl), some (.ref fd), o4, o5, o6, o7, o8, o9, o10, o11, o12, none]) ∧ Ex Hb Hc ∧ ∃ ms F, Hc fd = some (.dK (kd jN ms F)) ∧ FndS gs row ms F Hc ∧ ∀ s, s < i → ∀ q l x0, Pth gs row s q l → gs[s]? = some x0 → x0 ∈ row l → maskP gs q ∈ ms)
        ⟨⟨_, _, _, _, _, _, _, _, _, rfl⟩, Ex.new hfd, [], fun _ => .non, upd_same, ⟨List.nodup_nil, fun m hm => by cases hm⟩, fun s hs => by omega⟩ (fun st σ Hc hst z => ?_) (fun σ Hc z => ?_)
      · obtain ⟨⟨o4, o5, o6, o7, o8, o9, o10, o11, o12, rfl⟩, ec, ms, F, hf1, hf2, hf3⟩ := z
        have hx0 : gs[st]? = some gs[st] := List.getElem?_eq_getElem hst
        generalize gs[st] = x0 at hx0
        have hx0m := List.mem_of_getElem? hx0
        have hg4 := fun {Hc} (e : Ex Hb Hc) => e _ _ (eb _ _ hg)
        walk_at "go"
        intro lv hlv
        walk_at "go"
        refine o_I ⟨by omega, by omega, by decide⟩ ?_
        walk_at "go"
        refine ⟨by show 2 ≤ sizeLine; decide, fun kt hkt => ?_⟩
        walk_at "go"
        have nkl : kt ≠ lv := ne_new hkt upd_same
        have e1 : Ex Hc (upd Hc lv (.dT [])) := Ex.new hlv
        refine i_ixL ((e1.trans (Ex.new hkt)) _ _ (hg4 ec)) (atI_map V.str hx0) ?_
        refine ⟨by show 1 ≤ sizeLine; decide, fun pt hpt => ?_⟩
        have npl : pt ≠ lv := ne_new hpt (Ex.new hkt _ _ upd_same)
        have npk : pt ≠ kt := ne_new hpt upd_same
        rw [show (1 : Int) * 2 ^ ((st : Int)).toNat = ((2 ^ st : Nat) : Int) by rw [Int.toNat_natCast]; push_cast; omega] at *
        refine ⟨kt, jNN (2 ^ st, st), rfl, upd_some (Ne.symm npk) upd_same, upd_some (Ne.symm npl) (upd_some (Ne.symm nkl) upd_same), ?_⟩
        have hlvb : Hb lv = none := ex_none ec hlv
        have e2 : Ex Hb (upd (upd (upd (upd Hc lv (.dT [])) kt (.tup [.int ((2 ^ st : Nat) : Int), .int (st : Nat)])) pt (.tup [.str x0])) lv (.dT [(jNN (2 ^ st, st), .ref pt)])) := Ex.mut ((ec.trans e1).trans ((Ex.new hkt).trans (Ex.new hpt))) hlvb
        have up : TsUp Hc (upd (upd (upd (upd Hc lv (.dT [])) kt (.tup [.int ((2 ^ st : Nat) : Int), .int (st : Nat)])) pt (.tup [.str x0])) lv (.dT [(jNN (2 ^ st, st), .ref pt)])) :=
          (TsUp.ex (e1.trans ((Ex.new hkt).trans (Ex.new hpt)))).trans (TsUp.upd (upd_some (Ne.symm npl) (upd_some (Ne.symm nkl) upd_same)) fun ys e => nomatch e)
        have hpt2 : Ts (upd (upd (upd (upd Hc lv (.dT [])) kt (.tup [.int ((2 ^ st : Nat) : Int), .int (st : Nat)])) pt (.tup [.str x0])) lv (.dT [(jNN (2 ^ st, st), .ref pt)])) pt [x0] := upd_some npl upd_same
        have hlv2 : upd (upd (upd (upd Hc lv (.dT [])) kt (.tup [.int ((2 ^ st : Nat) : Int), .int (st : Nat)])) pt (.tup [.str x0])) lv (.dT [(jNN (2 ^ st, st), .ref pt)]) lv = some (.dT (kd jNN [(2 ^ st, st)] fun _ => .ref pt)) := upd_same
        have nfl : fd ≠ lv := fun e => by rw [e, hlv] at hf1; cases hf1
        have hf4 : upd (upd (upd (upd Hc lv (.dT [])) kt (.tup [.int ((2 ^ st : Nat) : Int), .int (st : Nat)])) pt (.tup [.str x0])) lv (.dT [(jNN (2 ^ st, st), .ref pt)]) fd = some (.dK (kd jN ms F)) := upd_some nfl ((e1.trans ((Ex.new hkt).trans (Ex.new hpt))) _ _ hf1)
        generalize upd (upd (upd (upd Hc lv (.dT [])) kt (.tup [.int ((2 ^ st : Nat) : Int), .int (st : Nat)])) pt (.tup [.str x0])) lv (.dT [(jNN (2 ^ st, st), .ref pt)]) = Hd at e2 up hpt2 hlv2 hf4
        walk_at "go"
        have ix0 := idx_get nd hx0
        have fine : ∀ {o : Str}, o ∈ gs → gs.idxOf o = st → o = x0 := fun {o} ho e => by
          have := get_idx nd ho
          rw [e, hx0] at this
          exact (Option.some.inj this).symm
        refine i_while (fun c σ Hc => ∃ k lv o6 o7 o8 o9 o10 o11 o12 ks f ms F, σ = [some (.ref r), some (.ref g), some (.ref pl), some (.ref fd), some (.int (st : Nat)), some (.ref lv), o6, o7, o8, o9, o10, o11, o12, none] ∧ Ex Hb Hc ∧ Hc fd = some (.dK (kd jN ms F)) ∧ FndS gs row ms F Hc ∧ (∀ s, s < st → ∀ q l x0, Pth gs row s q l → gs[s]? = some x0 → x0 ∈ row l → maskP gs q ∈ ms) ∧
          Hc lv = some (.dT (kd jNN ks f)) ∧ Hb lv = none ∧ LevS gs row st k ks f Hc ∧ (∀ q l, Pth gs row st q l → q.length = k → (maskP gs q, gs.idxOf l) ∈ ks) ∧ ks.length ≤ 7 ^ k ∧ (∀ q l, Pth gs row st q l → q.length < k → x0 ∈ row l → maskP gs q ∈ ms) ∧ 1 ≤ k ∧ k ≤ 8 ∧ c = 9 - k) 8
          ⟨1, lv, _, _, _, _, _, _, _, [(2 ^ st, st)], fun _ => .ref pt, ms, F, rfl, e2, hf4, hf2.up up, hf3, hlv2, hlvb, fun ma hma => ?_, fun q l hp hq => ?_, by show 1 ≤ 7 ^ 1; decide, fun q l hp hq => ?_, by omega, by omega, by omega⟩ ?_
        · rw [List.mem_singleton.mp hma]
          refine ⟨pt, [x0], x0, rfl, hpt2, .one hx0, rfl, ?_, ix0⟩
          unfold maskP
          rw [List.foldl_cons, List.foldl_nil, ix0, Nat.zero_or]
        · cases hp with
          | one e =>
            rw [hx0] at e
            cases e
            unfold maskP
            rw [List.foldl_cons, List.foldl_nil, ix0, Nat.zero_or]
            simp
          | more hp _ _ _ _ =>
            have := List.length_pos_of_mem hp.last
            rw [List.length_append, List.length_singleton] at hq
            omega
        · have := List.length_pos_of_mem hp.last
          omega
        clear hlv2 hpt2 up hf4 e2 hlvb
        rintro c σ H1 ⟨k, lv, o6, o7, o8, o9, o10, o11, o12, ks, f, ms, F, rfl, e1, hf1, hf2, hf3, hl1, hl2, hl3, hl4, hl5, hl6, hk1, hk2, rfl⟩
        walk_at "go"
        refine ⟨lv, _, rfl, hl1, ?_⟩
        rw [kd_length]
        by_cases hks : ks = []
        · subst hks
          show if decide (0 < ([] : List (Nat × Nat)).length) = true then _ else _
          rw [if_neg (by decide)]
          refine ⟨⟨_, _, _, _, _, _, _, _, _, rfl⟩, e1, ms, F, hf1, hf2, fun s hs q l y hp hy hyl => ?_⟩
          by_cases es : s = st
          · subst es
            rw [hx0] at hy
            cases hy
            by_cases hq : q.length < k
            · exact hl6 q l hp hq hyl
            · obtain ⟨q', l', hp', hq'⟩ := hp.pre hk1 (by omega)
              have := hl4 q' l' hp' hq'
              cases this
          · exact hf3 s (by omega) q l y hp hy hyl
        · have hpos : 0 < ks.length := List.length_pos_iff.mpr hks
          rw [decide_eq_true hpos]
          show if true = true then _ else _
          rw [if_pos rfl]
          have hk7 : k ≤ 7 := by
            obtain ⟨ma, hma⟩ := List.exists_mem_of_ne_nil ks hks
            obtain ⟨b, q, l, _, _, hp, hq, _⟩ := hl3 ma hma
            have := hp.len
            omega
          have hksz : ks.length ≤ 823543 := Nat.le_trans hl5 (Nat.pow_le_pow_right (n := 7) (by decide) hk7)
          refine ⟨fun σ' H' => ∃ lv o6 o7 o8 o9 o10 o11 o12 ks f ms F, σ' = [some (.ref r), some (.ref g), some (.ref pl), some (.ref fd), some (.int (st : Nat)), some (.ref lv), o6, o7, o8, o9, o10, o11, o12, none] ∧ Ex Hb H' ∧ H' fd = some (.dK (kd jN ms F)) ∧ FndS gs row ms F H' ∧ (∀ s, s < st → ∀ q l x0, Pth gs row s q l → gs[s]? = some x0 → x0 ∈ row l → maskP gs q ∈ ms) ∧
            H' lv = some (.dT (kd jNN ks f)) ∧ Hb lv = none ∧ LevS gs row st (k + 1) ks f H' ∧ (∀ q l, Pth gs row st q l → q.length = k + 1 → (maskP gs q, gs.idxOf l) ∈ ks) ∧ ks.length ≤ 7 ^ (k + 1) ∧ (∀ q l, Pth gs row st q l → q.length < k + 1 → x0 ∈ row l → maskP gs q ∈ ms), ?_, ?_⟩
          · rintro σ' H' ⟨lv, o6, o7, o8, o9, o10, o11, o12, ks, f, ms, F, z1, z2, z3, z4, z5, z6, z7, z8, z9, z10, z11⟩
            exact ⟨9 - (k + 1), by omega, k + 1, lv, o6, o7, o8, o9, o10, o11, o12, ks, f, ms, F, z1, z2, z3, z4, z5, z6, z7, z8, z9, z10, z11, by omega, by omega, rfl⟩
          walk_at "go"
          intro gr hgr
          walk_at "go"
          have ngl : gr ≠ lv := ne_new hgr hl1
          have ngf : gr ≠ fd := ne_new hgr hf1
          have nfl : fd ≠ lv := fun e => by rw [e, hl1] at hf1; cases hf1
          have hgb : Hb gr = none := ex_none e1 hgr
          have hl1' : upd H1 gr (.dT []) lv = some (.dT (kd jNN ks f)) := upd_some (Ne.symm ngl) hl1
          refine i_lock hl1' trivial fun od => ?_
          walk_at "go"
          refine ⟨lv, od, _, rfl, upd_same, ?_⟩
          have up1 : TsUp H1 (upd (upd H1 gr (.dT [])) lv (.frz od (.dT (kd jNN ks f)))) := (TsUp.ex (Ex.new hgr)).trans (TsUp.upd hl1' fun ys e => nomatch e)
          refine loop_of (k := (kd jNN ks f).length) walk_itemsT (fun i σ H2 => ∃ o7 o8 o9 o10 o11 o12 kg fg ms F, σ = [some (.ref r), some (.ref g), some (.ref pl), some (.ref fd), some (.int (st : Nat)), some (.ref lv), some (.ref gr), o7, o8, o9, o10, o11, o12, none] ∧ Ex Hb H2 ∧ H2 fd = some (.dK (kd jN ms F)) ∧ FndS gs row ms F H2 ∧ (∀ s, s < st → ∀ q l x0, Pth gs row s q l → gs[s]? = some x0 → x0 ∈ row l → maskP gs q ∈ ms) ∧
            H2 lv = some (.frz od (.dT (kd jNN ks f))) ∧ LevS gs row st k ks f H2 ∧ H2 gr = some (.dT (kd jNN kg fg)) ∧ LevS gs row st (k + 1) kg fg H2 ∧ kg.length ≤ 7 * i ∧ (∀ q l, Pth gs row st q l → q.length < k → x0 ∈ row l → maskP gs q ∈ ms) ∧
            ∀ ma ∈ ks.take i, ∀ x, gs[ma.2]? = some x → (x0 ∈ row x → ma.1 ∈ ms) ∧ ∀ o ∈ row x, st < gs.idxOf o → ma.1.testBit (gs.idxOf o) = false → (ma.1 ||| 2 ^ gs.idxOf o, gs.idxOf o) ∈ kg)
            ⟨_, _, _, _, _, _, [], fun _ => .non, ms, F, rfl, Ex.mut (Ex.mut e1 hgb) hl2, upd_some nfl (upd_some (Ne.symm ngf) hf1), hf2.up up1, hf3, upd_same, hl3.up up1, upd_some ngl upd_same, (fun ma hma => by cases hma), Nat.zero_le _, hl6, by simp⟩
            (fun i σ H2 _ z => by obtain ⟨_, _, _, _, _, _, _, _, _, _, _, _, _, _, _, z, _⟩ := z; exact z) (fun i v σ H2 H3 hi z y => ?_) (fun σ H2 z => ?_)
          · obtain ⟨o7, o8, o9, o10, o11, o12, kg, fg, ms, F, rfl, e2, hf1, hf2, hf3, hv1, hv2, hv3, hv4, hv5, hv6, hv7⟩ := z
            obtain ⟨T1, kq, kx, vx, hkv, rfl, hkq, hT1, rfl⟩ := y
            unfold kd at hkv
            obtain ⟨ma, hma, hkv2⟩ := map_get hkv
            injection hkv2 with hk3 hk4
            subst hk3 hk4
            obtain ⟨m, a⟩ := ma
            obtain ⟨b, q, l, hb1, hb2, hp, hq, hmq, hal⟩ := hv2 _ (List.mem_of_getElem? hma)
            have hal : gs.idxOf l = a := hal
            have hmq : maskP gs q = m := hmq
            have hlg := hp.mem l hp.last
            have hal2 : gs[a]? = some l := by rw [← hal]; exact get_idx nd hlg
            have e3 : Ex H2 (upd H2 T1 (.tup [.ref kq, f (m, a)])) := Ex.new hT1
            refine i_gTT upd_same (e3 _ _ hkq) ?_
            rw [hb1]
            have up3 := TsUp.ex e3
            rw [hb1] at e3 up3
            have f1 := e3 _ _ hf1
            have f2 := hf2.up up3
            have f3 := hf3
            have g1 := e3 _ _ hv1
            have g2 := hv2.up up3
            have g3 := e3 _ _ hv3
            have g4 := hv4.up up3
            have e4 := e2.trans e3
            have hb3 := up3 _ _ hb2
            rw [kd_length] at hi
            generalize upd H2 T1 (.tup [.ref kq, .ref b]) = H4 at f1 f2 g1 g2 g3 g4 e4 hb3
            obtain ⟨lr, hlr1, hlr2⟩ := hr2 l (gps l hlg)
            have hrl : ∀ {Hc}, Ex Hb Hc → Hc r = some (sd ps fr) := fun e => e _ _ (eb _ _ hr1)
            have hlrl : ∀ {Hc}, Ex Hb Hc → Ls Hc lr (row l) := fun e => (hlr2.ex eb).ex e
            walk_at "go"
            refine i_ixL ((hg4 e4)) (atI_map V.str hal2) ?_
            refine kd_get (.inl (hrl e4)) (gps l hlg) ?_
            rw [hlr1]
            walk_at "go"
            refine forL (hlrl e4) (fun j σ H5 => ∃ o10 o11 o12 kg fg ms F, σ = [some (.ref r), some (.ref g), some (.ref pl), some (.ref fd), some (.int (st : Nat)), some (.ref lv), some (.ref gr), some (.int (m : Nat)), some (.int (a : Nat)), some (.ref b), o10, o11, o12, none] ∧ Ex Hb H5 ∧ H5 fd = some (.dK (kd jN ms F)) ∧ FndS gs row ms F H5 ∧ (∀ s, s < st → ∀ q l x0, Pth gs row s q l → gs[s]? = some x0 → x0 ∈ row l → maskP gs q ∈ ms) ∧
              H5 lv = some (.frz od (.dT (kd jNN ks f))) ∧ LevS gs row st k ks f H5 ∧ H5 gr = some (.dT (kd jNN kg fg)) ∧ LevS gs row st (k + 1) kg fg H5 ∧ kg.length ≤ 7 * i + j ∧ (∀ q l, Pth gs row st q l → q.length < k → x0 ∈ row l → maskP gs q ∈ ms) ∧ Ts H5 b q ∧
              (∀ ma ∈ ks.take i, ∀ x, gs[ma.2]? = some x → (x0 ∈ row x → ma.1 ∈ ms) ∧ ∀ o ∈ row x, st < gs.idxOf o → ma.1.testBit (gs.idxOf o) = false → (ma.1 ||| 2 ^ gs.idxOf o, gs.idxOf o) ∈ kg) ∧
              (x0 ∈ (row l).take j → m ∈ ms) ∧ ∀ o ∈ (row l).take j, st < gs.idxOf o → m.testBit (gs.idxOf o) = false → (m ||| 2 ^ gs.idxOf o, gs.idxOf o) ∈ kg)
              ⟨_, _, _, kg, fg, ms, F, rfl, e4, f1, f2, f3, g1, g2, g3, g4, hv5, hv6, hb3, hv7, by simp, by simp⟩ (fun j σ H5 _ z => by obtain ⟨_, _, _, _, _, _, _, _, e, _⟩ := z; exact SqL.of (hlrl e)) (fun j v σ H5 hv z => ?_) (fun σ H5 z => ?_)
            · obtain ⟨o10, o11, o12, kg, fg, ms, F, rfl, e5, hf1, hf2, hf3, hv1, hv2, hv3, hv4, hv5, hv6, hb3, hv7, hv8, hv9⟩ := z
              obtain ⟨o, ho, rfl⟩ := map_get hv
              have hom := List.mem_of_getElem? ho
              have hog := ok.dom l hlg o hom
              have hj7 : j < 7 := by
                have h1 := (List.getElem?_eq_some_iff.mp ho).1
                have h2 := ok.rlen hlg
                omega
              walk_at "go"
              refine plc e5 hog ?_
              walk_at "go"
              by_cases eo : gs.idxOf o = st
              · rw [decide_eq_true (by omega)]
                have hox := fine hog eo
                walk_at "go"
                have ring : Ring gs row q := ⟨st, l, x0, hp, hx0, by rw [← hox]; exact hom⟩
                refine dn_in hf1 fun o' ho' => ?_
                rw [ho']
                walk_at "go"
                refine br_nd (fun hn => ?_) fun hm => ?_
                · walk_at "go"
                  have msl := hf2.len hl7
                  refine dn_put hf1 (small1000 (by omega)) ?_
                  have up6 : TsUp H5 (upd H5 fd (.dK (kd jN (addk ms m) (setf F m (.ref b))))) := TsUp.upd hf1 fun ys e => nomatch e
                  have sub : ∀ x ∈ ms, x ∈ addk ms m := fun x hx => mem_addk.mpr (.inl hx)
                  refine ⟨_, _, _, kg, fg, addk ms m, setf F m (.ref b), rfl, Ex.mut e5 (ex_none (Ex.refl _) hfd), upd_same, (hf2.put hb3 ring hmq).up up6, fun s hs q l x0 h1 h2 h3 => sub _ (hf3 s hs q l x0 h1 h2 h3), upd_some (Ne.symm nfl) hv1, hv2.up up6, upd_some ngf hv3, hv4.up up6, by omega, fun q l h1 h2 h3 => sub _ (hv6 q l h1 h2 h3), up6 _ _ hb3, fun ma hma x hx => ⟨fun h => sub _ ((hv7 ma hma x hx).1 h), (hv7 ma hma x hx).2⟩, fun _ => mem_addk.mpr (.inr rfl), fun o2 ho2 h1 h2 => ?_⟩
                  rw [take_snoc ho] at ho2
                  rcases List.mem_append.mp ho2 with z | z
                  · exact hv9 o2 z h1 h2
                  · rw [List.mem_singleton.mp z] at h1; omega
                · walk_at "go"
                  refine ⟨_, _, _, kg, fg, ms, F, rfl, e5, hf1, hf2, hf3, hv1, hv2, hv3, hv4, by omega, hv6, hb3, hv7, fun _ => hm, fun o2 ho2 h1 h2 => ?_⟩
                  rw [take_snoc ho] at ho2
                  rcases List.mem_append.mp ho2 with z | z
                  · exact hv9 o2 z h1 h2
                  · rw [List.mem_singleton.mp z] at h1; omega
              · rw [decide_eq_false (by omega)]
                walk_at "go"
                have keep8 : x0 ∈ (row l).take (j + 1) → m ∈ ms := fun h => by
                  rw [take_snoc ho] at h
                  rcases List.mem_append.mp h with z | z
                  · exact hv8 z
                  · exact absurd (by rw [← List.mem_singleton.mp z]; exact ix0) eo
                by_cases gt : st < gs.idxOf o
                · rw [decide_eq_true (by omega)]
                  walk_at "go"
                  refine o_I (show (0 : Int) ≤ _ by omega) ?_
                  walk_at "go"
                  rw [and_one]
                  cases tb : m.testBit (gs.idxOf o) with
                  | true =>
                    rw [if_pos rfl, decide_eq_false (by decide)]
                    walk_at "go"
                    refine ⟨_, _, _, kg, fg, ms, F, rfl, e5, hf1, hf2, hf3, hv1, hv2, hv3, hv4, by omega, hv6, hb3, hv7, keep8, fun o2 ho2 h1 h2 => ?_⟩
                    rw [take_snoc ho] at ho2
                    rcases List.mem_append.mp ho2 with z | z
                    · exact hv9 o2 z h1 h2
                    · rw [List.mem_singleton.mp z, tb] at h2; cases h2
                  | false =>
                    rw [if_neg Bool.false_ne_true, decide_eq_true rfl]
                    walk_at "go"
                    have ho7 := List.idxOf_lt_length_of_mem hog
                    refine o_I ⟨by omega, by omega, by decide⟩ ?_
                    walk_at "go"
                    rw [show (1 : Int) * 2 ^ ((gs.idxOf o : Int)).toNat = ((2 ^ gs.idxOf o : Nat) : Int) by rw [Int.toNat_natCast]; push_cast; omega, int_or]
                    refine ⟨by show 2 ≤ sizeLine; decide, fun kt hkt => ?_⟩
                    walk_at "go"
                    have e6 : Ex H5 (upd H5 kt (.tup [.int ((m ||| 2 ^ gs.idxOf o : Nat) : Int), .int (gs.idxOf o : Nat)])) := Ex.new hkt
                    have hkt6 : upd H5 kt (.tup [.int ((m ||| 2 ^ gs.idxOf o : Nat) : Int), .int (gs.idxOf o : Nat)]) kt = some (.tup [.int ((m ||| 2 ^ gs.idxOf o : Nat) : Int), .int (gs.idxOf o : Nat)]) := upd_same
                    generalize upd H5 kt (.tup [.int ((m ||| 2 ^ gs.idxOf o : Nat) : Int), .int (gs.idxOf o : Nat)]) = H6 at e6 hkt6
                    have up6 := TsUp.ex e6
                    have hno : o ∉ q := fun hm => by
                      have := tb_mem nd hp.mem hog
                      rw [hmq, tb, decide_eq_true hm] at this
                      cases this
                    have hp2 : Pth gs row st (q ++ [o]) o := .more hp hom hog gt hno
                    have hm2 : maskP gs (q ++ [o]) = m ||| 2 ^ gs.idxOf o := by rw [mask_snoc, hmq]
                    have keep9 : ∀ {kg' : List (Nat × Nat)}, (∀ x ∈ kg, x ∈ kg') → (m ||| 2 ^ gs.idxOf o, gs.idxOf o) ∈ kg' → ∀ o2 ∈ (row l).take (j + 1), st < gs.idxOf o2 → m.testBit (gs.idxOf o2) = false → (m ||| 2 ^ gs.idxOf o2, gs.idxOf o2) ∈ kg' := fun {kg'} sub h o2 ho2 h1 h2 => by
                      rw [take_snoc ho] at ho2
                      rcases List.mem_append.mp ho2 with z | z
                      · exact sub _ (hv9 o2 z h1 h2)
                      · rw [List.mem_singleton.mp z]; exact h
                    refine dt_in (e6 _ _ hv3) hkt6 fun o' ho' => ?_
                    rw [ho']
                    walk_at "go"
                    refine br_nd (fun hn => ?_) fun hmem => ?_
                    · walk_at "go"
                      refine ⟨by show 1 ≤ sizeLine; decide, fun ot hot => ?_⟩
                      have e7 : Ex H6 (upd H6 ot (.tup [.str o])) := Ex.new hot
                      have hqn : q.map V.str ≠ [] := fun e => by
                        have := List.map_eq_nil_iff.mp e
                        have hl := hp.last
                        rw [this] at hl
                        cases hl
                      refine ⟨b, ot, q.map V.str, [.str o], rfl, rfl, (hb3.ex e6).ex e7, upd_same, by rw [List.length_map]; have := hp.len; exact small (by show _ + 1 ≤ 1000; omega), fun e => absurd e hqn, fun _ e => (by cases e), fun _ _ pn hpn => ?_⟩
                      have e8 : Ex (upd H6 ot (.tup [.str o])) (upd (upd H6 ot (.tup [.str o])) pn (.tup (q.map V.str ++ [.str o]))) := Ex.new hpn
                      have hpn8 : Ts (upd (upd H6 ot (.tup [.str o])) pn (.tup (q.map V.str ++ [.str o]))) pn (q ++ [o]) := by show _ = _; rw [upd_same, List.map_append]; rfl
                      generalize upd (upd H6 ot (.tup [.str o])) pn (.tup (q.map V.str ++ [.str o])) = H8 at e8 hpn8
                      have e58 := e6.trans (e7.trans e8)
                      have up8 := TsUp.ex e58
                      walk_at "go"
                      have kgl : kg.length < sizeLine := by rw [sizeLine_eq]; omega
                      refine dt_put (e58 _ _ hv3) ((e7.trans e8) _ _ hkt6) kgl ?_
                      have up9 : TsUp H8 (upd H8 gr (.dT (kd jNN (addk kg (m ||| 2 ^ gs.idxOf o, gs.idxOf o)) (setf fg (m ||| 2 ^ gs.idxOf o, gs.idxOf o) (.ref pn))))) := TsUp.upd (e58 _ _ hv3) fun ys e => nomatch e
                      have sub : ∀ x ∈ kg, x ∈ addk kg (m ||| 2 ^ gs.idxOf o, gs.idxOf o) := fun x hx => mem_addk.mpr (.inl hx)
                      refine ⟨_, _, _, addk kg (m ||| 2 ^ gs.idxOf o, gs.idxOf o), setf fg (m ||| 2 ^ gs.idxOf o, gs.idxOf o) (.ref pn), ms, F, rfl, Ex.mut (e5.trans e58) hgb, upd_some (Ne.symm ngf) (e58 _ _ hf1), (hf2.up up8).up up9, hf3, upd_some (Ne.symm ngl) (e58 _ _ hv1), (hv2.up up8).up up9, upd_same, ((hv4.up up8).put hpn8 hp2 (by rw [List.length_append, hq]; rfl) hm2 rfl).up up9, Nat.le_trans (length_addk _ _) (by omega), hv6, up9 _ _ (up8 _ _ hb3), fun ma hma x hx => ⟨(hv7 ma hma x hx).1, fun o2 h1 h2 h3 => sub _ ((hv7 ma hma x hx).2 o2 h1 h2 h3)⟩, keep8, keep9 sub (mem_addk.mpr (.inr rfl))⟩
                    · walk_at "go"
                      exact ⟨_, _, _, kg, fg, ms, F, rfl, e5.trans e6, e6 _ _ hf1, hf2.up up6, hf3, e6 _ _ hv1, hv2.up up6, e6 _ _ hv3, hv4.up up6, by omega, hv6, up6 _ _ hb3, hv7, keep8, keep9 (fun x hx => hx) hmem⟩
                · rw [decide_eq_false (by omega)]
                  walk_at "go"
                  refine ⟨_, _, _, kg, fg, ms, F, rfl, e5, hf1, hf2, hf3, hv1, hv2, hv3, hv4, by omega, hv6, hb3, hv7, keep8, fun o2 ho2 h1 h2 => ?_⟩
                  rw [take_snoc ho] at ho2
                  rcases List.mem_append.mp ho2 with z | z
                  · exact hv9 o2 z h1 h2
                  · rw [List.mem_singleton.mp z] at h1; omega
            · obtain ⟨o10, o11, o12, kg, fg, ms, F, rfl, e5, hf1, hf2, hf3, hv1, hv2, hv3, hv4, hv5, hv6, hb3, hv7, hv8, hv9⟩ := z
              rw [List.length_map] at hv5 hv8 hv9
              rw [List.take_length] at hv8 hv9
              refine ⟨_, _, _, _, _, _, kg, fg, ms, F, rfl, e5, hf1, hf2, hf3, hv1, hv2, hv3, hv4, by have := ok.rlen hlg; omega, hv6, fun ma2 hma2 x hx => ?_⟩
              rw [take_snoc hma] at hma2
              rcases List.mem_append.mp hma2 with z | z
              · exact hv7 ma2 z x hx
              · rw [List.mem_singleton.mp z] at hx ⊢
                rw [hal2] at hx
                cases hx
                exact ⟨hv8, hv9⟩
          · obtain ⟨o7, o8, o9, o10, o11, o12, kg, fg, ms, F, rfl, e2, hf1, hf2, hf3, hv1, hv2, hv3, hv4, hv5, hv6, hv7⟩ := z
            rw [kd_length] at hv5 hv7
            rw [List.take_length] at hv7
            refine ⟨hv1, ?_⟩
            walk_at "go"
            have up9 : TsUp H2 (upd H2 lv (.dT (kd jNN ks f))) := TsUp.upd hv1 fun ys e => nomatch e
            refine ⟨gr, _, _, _, _, _, _, _, kg, fg, ms, F, rfl, Ex.mut e2 hl2, upd_some nfl hf1, hf2.up up9, hf3, upd_some ngl hv3, hgb, hv4.up up9, fun q l hp hq => ?_, ?_, fun q l hp hq hx => ?_⟩
            · cases hp with
              | one e => simp at hq; omega
              | @more p' l' _ hp' h1 h2 h3 h4 =>
                rw [List.length_append, List.length_singleton] at hq
                have hm := hl4 p' l' hp' (by omega)
                have := (hv7 _ hm l' (get_idx nd (hp'.mem l' hp'.last))).2 l h1 h3 (by
                  rw [show ((maskP gs p', gs.idxOf l') : Nat × Nat).1 = maskP gs p' from rfl, tb_mem nd hp'.mem h2, decide_eq_false h4])
                rw [mask_snoc]
                exact this
            · rw [Nat.pow_succ]
              omega
            · by_cases c : q.length < k
              · exact hv6 q l hp c hx
              · have hm := hl4 q l hp (by omega)
                exact (hv7 _ hm l (get_idx nd (hp.mem l hp.last))).1 hx
      · obtain ⟨⟨o4, o5, o6, o7, o8, o9, o10, o11, o12, rfl⟩, ec, ms, F, hf1, hf2, hf3⟩ := z
        walk_at "go"
        refine qq fd Hc ms F (eb.trans ec) hf1 hf2 fun q hq => ?_
        obtain ⟨s, l, x0, hp, hx0, hl⟩ := hq
        exact hf3 s (List.getElem?_eq_some_iff.mp hx0).1 q l x0 hp hx0 hl
end
end GR
end
section
set_option Elab.async false
set_option linter.all false
set_option maxRecDepth 100000
set_option maxHeartbeats 4000000
set_option autoImplicit false
namespace GR
open PySem PySem.Spec L2
open Evl (Ex)
local macro_rules | `(tactic| walk_at "go") => `(tactic| (repeat (first
  | with_reducible refine i_seq ?_
  | ((with_reducible apply i_var); focus rfl)
  | with_reducible refine i_c ?_
  | with_reducible refine i_cons ?_
  | with_reducible refine i_nil ?_
  | with_reducible refine i_asg ?_
  | with_reducible refine i_name ?_
  | with_reducible refine i_op ?_
  | with_reducible refine i_cb ?_
  | with_reducible refine i_fn ?_
  | with_reducible refine i_ret ?_
  | with_reducible refine i_retN ?_
  | with_reducible refine i_drop ?_
  | with_reducible refine i_next ?_
  | with_reducible refine i_cont ?_
  | with_reducible refine i_break ?_
  | with_reducible refine i_if ?_
  | with_reducible refine br_t ?_
  | with_reducible refine br_f ?_
  | with_reducible refine br_nt ?_
  | with_reducible refine io_t ?_
  | with_reducible refine io_f ?_
  | with_reducible refine io_nt ?_
  | with_reducible refine io_nf ?_
  | with_reducible refine br_nf ?_
  | with_reducible refine o_ip ?_
  | with_reducible refine i_test ?_
  | with_reducible refine i_tB ?_
  | with_reducible refine i_not ?_
  | with_reducible refine i_notV ?_
  | with_reducible refine i_andV ?_
  | with_reducible refine i_orV ?_
  | with_reducible refine i_and ?_
  | with_reducible refine i_or ?_
  | with_reducible refine i_dput ?_
  | with_reducible refine i_dget ?_
  | with_reducible refine i_din ?_
  | with_reducible refine i_dnotin ?_
  | with_reducible refine i_dnewK ?_
  | with_reducible refine i_dnewT ?_
  | with_reducible refine i_fld ?_
  | with_reducible refine i_sfld ?_
  | with_reducible refine i_bm0 ?_
  | with_reducible refine i_bm ?_
  | with_reducible refine i_sl ?_
  | with_reducible refine i_noPart ?_
  | with_reducible refine i_part ?_
  | with_reducible refine i_chain ?_
  | with_reducible refine i_methR ?_
  | with_reducible refine i_tup ?_
  | with_reducible refine i_lst ?_
  | with_reducible refine i_for ?_
  | with_reducible refine i_iList ?_
  | with_reducible refine i_iTup ?_
  | with_reducible refine i_iKeys ?_
  | with_reducible refine i_iRng1 ?_
  | with_reducible refine i_iRng2 ?_
  | with_reducible refine i_iStr ?_
  | with_reducible refine i_iEnum ?_
  | with_reducible refine i_iEnumT ?_
  | with_reducible refine i_lc ?_
  | with_reducible refine i_stD ?_
  | with_reducible refine i_iItemsT ?_
  | with_reducible refine i_dcw ?_
  | with_reducible refine i_dsetd ?_
  | with_reducible refine i_iVals ?_
  | with_reducible refine i_iItems ?_
  | with_reducible refine i_revL ?_
  | with_reducible refine i_yes ?_
  | with_reducible refine o_I0 ?_
  | with_reducible refine o_eqS ?_
  | with_reducible refine o_neS ?_
  | with_reducible refine o_eqI ?_
  | with_reducible refine o_neI ?_
  | with_reducible refine o_eqB ?_
  | with_reducible refine e_ref ?_
  | with_reducible refine e_str ?_
  | with_reducible refine e_int ?_
  | with_reducible refine e_bl ?_
  | with_reducible refine e_str1 ?_
  | with_reducible refine e_int1 ?_
  | with_reducible refine e_int2 ?_
  | with_reducible refine e_str2 ?_)))
open GM
theorem xor_sum (m r : Nat) : (m ^^^ r) + 2 * (m &&& r) = m + r := by
  have h := PyProof.Rows.bitXor_and (m : Int) (r : Int)
  rw [int_xor, PySem.W.os_band] at h
  omega
section
variable {gs : List Str} {row : Str → List Str} {m r : Nat} {rss : List (List Str)} {p : List Str}
theorem ring_ne (nd : gs.Nodup) (hr : Ring gs row p) : maskP gs p ≠ 0 := fun e => by
  obtain ⟨s, l, x, hp, _⟩ := hr
  have := tb_mem nd hp.mem (hp.mem l hp.last)
  rw [e, decide_eq_true hp.last] at this
  simp at this
theorem ring_lt (hr : Ring gs row p) : maskP gs p < 2 ^ gs.length := by
  obtain ⟨s, l, x, hp, _⟩ := hr
  exact mask_lt hp.mem
theorem Part.len (nd : gs.Nodup) (h : Part gs row m rss) : rss.length ≤ m := by
  induction h with
  | nil => exact Nat.le_refl _
  | @more m r rss p hp hr hm dis ih =>
    have h1 := xor_and_or m r
    have h2 := ring_ne nd hr
    have h3 := xor_sum m r
    rw [List.length_append, List.length_singleton]
    omega
theorem sub_facts (h : r &&& m = r) : (m ^^^ r) &&& r = 0 ∧ (m ^^^ r) ||| r = m ∧ (m ^^^ r) + r = m := by
  have tb : ∀ j, r.testBit j = true → m.testBit j = true := fun j hj => by
    have := congrArg (fun z => Nat.testBit z j) h
    simp only [Nat.testBit_and, hj, Bool.true_and] at this
    exact this
  refine ⟨Nat.eq_of_testBit_eq fun j => ?_, Nat.eq_of_testBit_eq fun j => ?_, ?_⟩
  · rw [Nat.testBit_and, Nat.testBit_xor, Nat.zero_testBit]
    cases e : r.testBit j with
    | false => simp
    | true => rw [tb j e]; rfl
  · rw [Nat.testBit_or, Nat.testBit_xor]
    cases e : r.testBit j with
    | false => simp
    | true => rw [tb j e]; rfl
  · have := xor_sum m r
    rw [Nat.and_comm, h] at this
    omega
end
/-- what stands in the table for the set m -/
def BV (gs : List Str) (row : Str → List Str) (ms : List Nat) (m : Nat) (v : V) (B : Hp) : Prop := (v = .non ∧ ¬ Cov ms m) ∨ ∃ b rss, v = .ref b ∧ LP (Ts B) B b rss ∧ Part gs row m rss
theorem BV.ex {gs : List Str} {row : Str → List Str} {ms : List Nat} {m : Nat} {v : V} {B B' : Hp} (e : Ex B B') (h : BV gs row ms m v B) : BV gs row ms m v B' := by
  rcases h with h | ⟨b, rss, h1, h2, h3⟩
  · exact .inl h
  · exact .inr ⟨b, rss, h1, h2.ex e fun a b h => h.ex e, h3⟩
theorem walkN {d : Addr} {o : Obj} {ks : List Nat} {f : Nat → V} : Walk (Itk d o (kd jN ks f)) ks.length (fun H => H d = some (.frz o (.dK (kd jN ks f)))) (fun i H x H' => H' = H ∧ (ks.map fun m : Nat => V.int m)[i]? = some x) := by
  have w := walk_keys (d := d) (o := o) (kvs := kd jN ks f)
  rw [kd_length] at w
  refine w.mono (fun H h => h) fun i H x H' hi g y => ?_
  obtain ⟨e, kx, vx, hk, rfl⟩ := y
  obtain ⟨s, hs, h2⟩ := map_get hk
  injection h2 with h3 h4
  exact ⟨e, by rw [List.getElem?_map, hs, h3]; rfl⟩
section
variable {P : Program} {w : World} {K : PySem.W.Frag} {mg : Str → Option Value} {base : Heap} {k j : Nat}
abbrev n_best_rings : List Str := ["book", "least", "sign", "rows", "people", "found", "groups", "best", "mask", "chosen", "ring"]
theorem sc_best_rings : FnScope n_best_rings ["book", "least", "sign"] (defScope s_best_rings) := ⟨rfl, rfl, rfl, by decide +kernel, rfl, by decide +kernel, by decide +kernel⟩
def spBest (K : PySem.W.Frag) : Sp := fun vs H Q _ => ∃ x ps cl row, vs = [.ref x, .int 2, .int (-1)] ∧ BookAt K H x ps cl row ∧ RowsOk ps row ∧ (∃ d, IsDraw ps row d ∧ ∀ x ∈ ps, d x ≠ x) ∧
  ∀ p H' rss gs, Ex H H' → LP (Ts H') H' p rss → Part gs row (2 ^ gs.length - 1) rss → gs.Perm ps → Q (.ref p) H'
theorem c_best_rings (T : Txt K mg) (c_Book_rows : Mth P w K mg base k (cB K) "rows" (spBRows K)) (c_ring_masks : Cal P w K mg base k "ring_masks" spRingMasks) (c_by_lowest : Cal P w K mg base k "by_lowest" spByLowest) (c_bin_count : Cal P w K mg base k "bin_count" spBits)
    (c_lowest_bit : Cal P w K mg base k "lowest_bit" spLow) (c_better : Cal P w K mg base k "better" spBetter) : Cal P w K mg base (k + 1) "best_rings" (spBest K) := by
  refine T.a_best_rings.ok sc_best_rings (fun _ _ _ _ _ _ us hl => match us, hl with | [_, _, _], _ => rfl) (fun vs H Q E h => ?_) (fun f cdv A outer s H vs Q E hr h => ⟨_, (pss_cons (ps_set (i := 3) sc_best_rings.nd rfl (Or.inl rfl) (pe_mth0 (pv 0) T.cl_Book c_Book_rows (hr.mono (by omega))))
      (pss_cons (ps_set (i := 4) sc_best_rings.nd rfl (Or.inl rfl) (pe_callB (crSortS hr.units) (by rfl) T.f_sorted b_sorted (pa_cons (pe_callTy (crListK rfl) (by rfl) T.f_list b_list (pa_cons (pe_bm0 PySem.F.plainAttrs_dict PySem.F.slot_dict_keys PySem.F.type_dict_keys mt_keysK (pv 3)) pa_nil)) pa_nil)))
      (pss_cons (ps_set (i := 5) sc_best_rings.nd rfl (Or.inl rfl) (pe_fn c_ring_masks (hr.mono (by omega)) (pa_cons (pv 3) (pa_cons (pv 4) pa_nil))))
      (pss_cons (ps_set (i := 6) sc_best_rings.nd rfl (Or.inl rfl) (pe_fn c_by_lowest (hr.mono (by omega)) (pa_cons (pe_lock (pe_lc (own := [("mask", 8)]) rfl sc_best_rings.nd (pi_keys (pv 5)) (blkOk_by (own := [("mask", 8)]) (N := n_best_rings) (sc := defScope s_best_rings) (by decide +kernel)) (fun _ _ _ _ _ => (pg_name (i := 8) sc_best_rings.nd rfl (Or.inl rfl))) (fun _ _ _ _ _ => pts_one (pt_cmpR op_ge (pe_fn c_bin_count (hr.mono (by omega)) (pa_cons (pv 8) pa_nil)) (pv 1) (nomark _))) (fun _ _ _ _ _ => (pv 8)))) (pa_cons (pe_callB crLen (by rfl) T.f_len b_len (pa_cons (pv 4) pa_nil)) pa_nil))))
      (pss_cons (ps_set (i := 7) sc_best_rings.nd rfl (Or.inl rfl) (pe_lst (pa_cons (pe_lst pa_nil) pa_nil)))
      (pss_cons (ps_for PassesOwn.never rfl (pi_range2 (by rfl) T.f_range (pa_cons pe_int (pa_cons (pe_op op_shl pe_int (pe_callB crLen (by rfl) T.f_len b_len (pa_cons (pv 4) pa_nil))) pa_nil))) (pg_name (i := 8) sc_best_rings.nd rfl (Or.inl rfl)) (pss_cons (ps_set (i := 9) sc_best_rings.nd rfl (Or.inl rfl) pe_non)
      (pss_cons (ps_for PassesOwn.never rfl (pi_list (pe_ix ixL (pv 6) (pe_fn c_lowest_bit (hr.mono (by omega)) (pa_cons (pv 8) pa_nil)) (fun _ _ => rfl))) (pg_name (i := 10) sc_best_rings.nd rfl (Or.inl rfl)) (pss_one (ps_if (PW.pt (pw_and (pt_cmpR op_eq (pe_op op_and (pv 10) (pv 8)) (pv 10) (nomark _)) (pw_and1 (pt_cmpR op_notN (pe_ix ixL (pv 7) (pe_op op_xor (pv 8) (pv 10)) (fun _ _ => rfl)) pe_non (nomark _))))) (pss_one (ps_if (pt_val (pe_fn c_better (hr.mono (by omega)) (pa_cons (pe_op op_cat (pe_ix ixL (pv 7) (pe_op op_xor (pv 8) (pv 10)) (fun _ _ => rfl)) (pe_lst (pa_cons (pe_dget (hu_of hr) (pv 5) (pv 10) (fun _ _ => rfl)) pa_nil))) (pa_cons (pv 9) (pa_cons (pv 2) pa_nil))))) (pss_one (ps_set (i := 9) sc_best_rings.nd rfl (Or.inl rfl) (pe_op op_cat (pe_ix ixL (pv 7) (pe_op op_xor (pv 8) (pv 10)) (fun _ _ => rfl)) (pe_lst (pa_cons (pe_dget (hu_of hr) (pv 5) (pv 10) (fun _ _ => rfl)) pa_nil))))) pss_nil)) pss_nil)))
      (pss_one (ps_expr (pe_bm PySem.F.plainAttrs_list PySem.F.slot_list_append PySem.F.type_list_append mt_append (pv 7) (pa_cons (pv 9) pa_nil)))))))
      (pss_one (ps_ret (pe_ix ixL (pv 7) (pe_un un_neg pe_int) (fun _ _ => rfl)))))))))), ?_⟩)
  · obtain ⟨_, _, _, _, rfl, _⟩ := h; rfl
  · obtain ⟨x, ps, cl, row, rfl, hb, ok, ⟨d, DR, nofix⟩, q⟩ := h
    obtain ⟨dx, p, l, rr, hx, hp, hr1⟩ := hb.ex
    have hl7 := ok.len
    walk_at "go"
    refine ⟨x, dx, _, rfl, hx, rfl, ?_⟩
    walk_at "go"
    refine ⟨x, ps, cl, row, rfl, hb, ok.nd, by omega, fun r1 H1 e1 hn1 hr1 => ?_⟩
    walk_at "go"
    obtain ⟨fr, hr2, hr3⟩ := id hr1
    refine ⟨.inr (.inr (.inl ⟨rfl, .inl ⟨_, hr2⟩⟩)), ?_⟩
    refine ⟨r1, _, rfl, rfl, hr2, fun kv hkv => ?_⟩
    walk_at "go"
    refine ⟨kv, r1, _, rfl, upd_same, Ex.new hkv _ _ hr2, fun la hla => ?_⟩
    rw [show (kd jS ps fr).map (fun kv => kV kv.1) = ps.map V.str by unfold kd; rw [List.map_map]; rfl]
    walk_at "go"
    refine ⟨la, ps, rfl, upd_same, fun g hg => ?_⟩
    have e2 : Ex H1 (upd (upd (upd H1 kv (keysO kv r1)) la (.lst (ps.map V.str))) g (.lst ((ssort ps).map V.str))) := ((Ex.new hkv).trans (Ex.new hla)).trans (Ex.new hg)
    have hg2 : Ls (upd (upd (upd H1 kv (keysO kv r1)) la (.lst (ps.map V.str))) g (.lst ((ssort ps).map V.str))) g (ssort ps) := upd_same
    generalize upd (upd (upd H1 kv (keysO kv r1)) la (.lst (ps.map V.str))) g (.lst ((ssort ps).map V.str)) = H2 at e2 hg2
    have pm := ssort_perm ps
    have mem : ∀ {x}, x ∈ ssort ps ↔ x ∈ ps := fun {x} => pm.mem_iff
    have ok2 : RowsOk (ssort ps) row := ⟨pm.nodup_iff.mpr ok.nd, by rw [pm.length_eq]; exact ok.len, fun x hx t ht => mem.mpr (ok.dom x (mem.mp hx) t ht), fun x hx => ok.rnd x (mem.mp hx)⟩
    generalize hgs : ssort ps = gs at hg2 ok2 pm mem
    have gl7 := ok2.len
    have nd := ok2.nd
    walk_at "go"
    refine ⟨r1, g, ps, gs, row, rfl, hr1.ex e2, hg2, ok2, fun x hx => mem.mp hx, fun fd H3 ms F e3 hf1 hf2 hf3 => ?_⟩
    have msl := hf2.len gl7
    walk_at "go"
    refine i_lockE hf1 trivial fun od => ?_
    walk_at "go"
    refine ⟨fd, od, rfl, .inl ⟨_, upd_same, ?_⟩⟩
    refine lcL ms (fun m : Nat => V.int m) walkN (small (by omega)) (fun _ _ _ _ y => y) (fun m => decide (2 ≤ bits m)) (fun m : Nat => V.int m) (fun D acc hD => Ex.new hD _ _ upd_same) (fun D acc m N T' hD hm k1 k2 => ?_) fun D hD => ?_
    · walk_at "go"
      refine ⟨rfl, ?_⟩
      walk_at "go"
      refine ⟨m, rfl, ?_⟩
      walk_at "go"
      by_cases c : 2 ≤ bits m
      · rw [decide_eq_true (by omega)]
        walk_at "go"
        exact k2 (decide_eq_true c)
      · rw [decide_eq_false (by omega)]
        exact k1 (decide_eq_false c)
    · have hDf : D ≠ fd := fun e => by rw [e, upd_same] at hD; cases hD
      refine ⟨upd_some (Ne.symm hDf) upd_same, ?_⟩
      generalize hms2 : ms.filter (fun m => decide (2 ≤ bits m)) = ms2
      have e4 : Ex H3 (upd (upd (upd H3 fd (.frz od (.dK (kd jN ms F)))) D (.lst (ms2.map fun m : Nat => V.int m))) fd (.dK (kd jN ms F))) := ex_unlock hf1 (Ex.new hD)
      have hD4 : upd (upd (upd H3 fd (.frz od (.dK (kd jN ms F)))) D (.lst (ms2.map fun m : Nat => V.int m))) fd (.dK (kd jN ms F)) D = some (.lst (ms2.map fun m : Nat => V.int m)) := upd_some hDf upd_same
      generalize upd (upd (upd H3 fd (.frz od (.dK (kd jN ms F)))) D (.lst (ms2.map fun m : Nat => V.int m))) fd (.dK (kd jN ms F)) = H4 at e4 hD4
      have in2 : ∀ {m}, m ∈ ms2 ↔ m ∈ ms ∧ 2 ≤ bits m := fun {m} => by rw [← hms2, List.mem_filter, decide_eq_true_eq]
      have ms2l : ms2.length ≤ 128 := by rw [← hms2]; exact Nat.le_trans (List.length_filter_le _ _) msl
      walk_at "go"
      refine ⟨g, _, rfl, .inl ((e3.trans e4) _ _ hg2), ?_⟩
      rw [List.length_map]
      walk_at "go"
      refine ⟨D, gs.length, ms2, rfl, hD4, gl7, ms2l, fun m hm => ?_, fun gp H5 e5 hgp => ?_⟩
      · obtain ⟨hm1, hm2⟩ := in2.mp hm
        obtain ⟨b, qq, _, _, hring, hmq⟩ := hf2.at' m hm1
        have m0 : m ≠ 0 := by rw [← hmq]; exact ring_ne nd hring
        refine ⟨m0, ?_⟩
        have hlt : m < 2 ^ gs.length := by rw [← hmq]; exact ring_lt hring
        refine Nat.lt_of_not_le fun c => ?_
        have := (low_spec m0).1
        rw [Nat.testBit_lt_two_pow (Nat.lt_of_lt_of_le hlt (Nat.pow_le_pow_right (by decide) c))] at this
        cases this
      · obtain ⟨as, hga, hgl, hgn, hgj⟩ := hgp
        have e35 := e4.trans e5
        walk_at "go"
        refine ⟨by show 0 ≤ sizeLine; decide, fun b0 hb0 => ?_⟩
        walk_at "go"
        refine ⟨by show 1 ≤ sizeLine; decide, fun bl hbl => ?_⟩
        have nb0 : b0 ≠ bl := fun e => by rw [← e, upd_same] at hbl; cases hbl
        have hblH : H5 bl = none := ex_none (Ex.new hb0) hbl
        walk_at "go"
        refine ⟨g, _, rfl, .inl (((e3.trans e35).trans ((Ex.new hb0).trans (Ex.new hbl))) _ _ hg2), ?_⟩
        rw [List.length_map]
        refine o_I ⟨by omega, by omega, by decide⟩ ?_
        walk_at "go"
        rw [show (1 : Int) * 2 ^ ((gs.length : Int)).toNat = ((2 ^ gs.length : Nat) : Int) by rw [Int.toNat_natCast]; push_cast; omega]
        have p2l : 2 ^ gs.length ≤ 128 := Nat.pow_le_pow_right (n := 2) (by decide) gl7
        have p2p := Nat.two_pow_pos gs.length
        refine ⟨1, _, rfl, ⟨by omega, by omega, by omega, by omega⟩, ?_⟩
        rw [show (((2 ^ gs.length : Nat) : Int) - 1).toNat = 2 ^ gs.length - 1 by omega]
        -- the heap under the table
        have eB0 : Ex H5 (upd H5 b0 (.lst [])) := Ex.new hb0
        have hb00 : upd H5 b0 (.lst []) b0 = some (.lst []) := upd_same
        have hbl0 : upd H5 b0 (.lst []) bl = none := hbl
        generalize upd H5 b0 (.lst []) = HB at eB0 hb00 hbl0
        have hga2 : ∀ {B}, Ex HB B → B gp = some (.lst (as.map V.ref)) := fun e => e _ _ (eB0 _ _ hga)
        have hgj2 : ∀ {B} (j b), Ex HB B → as[j]? = some b → B b = some (.lst ((ms2.filter fun m => lowB m == j).map fun m : Nat => V.int m)) := fun j b e h => e _ _ (eB0 _ _ (hgj j b h))
        have hfd2 : ∀ {B}, Ex HB B → B fd = some (.dK (kd jN ms F)) := fun e => e _ _ (eB0 _ _ (e35 _ _ hf1))
        have hf22 : ∀ {B}, Ex HB B → FndS gs row ms F B := fun e => hf2.up (TsUp.ex ((e35.trans eB0).trans e))
        refine loop_of walk_range (fun i σ Hc => ∃ o8 o9 o10 B vs, σ = [some (.ref x), some (.int 2), some (.int (-1)), some (.ref r1), some (.ref g), some (.ref fd), some (.ref gp), some (.ref bl), o8, o9, o10] ∧ Hc = upd B bl (.lst vs) ∧ B bl = none ∧ Ex HB B ∧ vs.length = i + 1 ∧ ∀ m v, vs[m]? = some v → BV gs row ms2 m v B)
          ⟨_, _, _, HB, [.ref b0], rfl, rfl, hbl0, Ex.refl _, rfl, fun m v hv => ?_⟩ (fun _ _ _ _ _ => trivial) (fun i v σ Hc H6 hi z y => ?_) (fun σ Hc z => ?_)
        · cases m with
          | zero =>
            cases hv
            exact .inr ⟨b0, [], rfl, ⟨[], hb00, (fun z hz => by cases hz), rfl⟩, .nil⟩
          | succ m => simp at hv
        · obtain ⟨o8, o9, o10, B, vs, rfl, rfl, hB, eB, hvl, hvs⟩ := z
          obtain ⟨rfl, rfl⟩ := y
          obtain ⟨m, hm⟩ : ∃ m, m = i + 1 := ⟨_, rfl⟩
          show gName 8 (.int (1 + (i : Int))) _ _ _
          rw [show (1 : Int) + (i : Int) = ((m : Nat) : Int) by omega]
          have m0 : m ≠ 0 := by omega
          have hlow : lowB m < gs.length := by
            refine Nat.lt_of_not_le fun c => ?_
            have h1 := (low_spec m0).1
            rw [Nat.testBit_lt_two_pow (Nat.lt_of_lt_of_le (show m < 2 ^ gs.length by omega) (Nat.pow_le_pow_right (by decide) c))] at h1
            cases h1
          obtain ⟨gb, hgb⟩ : ∃ gb, as[lowB m]? = some gb := ⟨as[lowB m]'(by omega), List.getElem?_eq_getElem (by omega)⟩
          have ei := fun {B} (eB : Ex HB B) (hB : B bl = none) => ex_in (o := .lst vs) eB hB
          walk_at "go"
          refine ⟨m, rfl, m0, ?_⟩
          refine i_ixL (hga2 (ei eB hB)) (atI_map V.ref hgb) ?_
          walk_at "go"
          refine forL (hgj2 _ _ (ei eB hB) hgb) (fun j σ Hc => ∃ o10 B c, σ = [some (.ref x), some (.int 2), some (.int (-1)), some (.ref r1), some (.ref g), some (.ref fd), some (.ref gp), some (.ref bl), some (.int (m : Nat)), some c, o10] ∧ Hc = upd B bl (.lst vs) ∧ B bl = none ∧ Ex HB B ∧ (∀ m v, vs[m]? = some v → BV gs row ms2 m v B) ∧
            ((c = .non ∧ ∀ r ∈ (ms2.filter fun r => lowB r == lowB m).take j, r &&& m = r → ¬ Cov ms2 (m ^^^ r)) ∨ ∃ b rss, c = .ref b ∧ LP (Ts B) B b rss ∧ Part gs row m rss))
            ⟨_, B, .non, rfl, rfl, hB, eB, hvs, .inl ⟨rfl, by simp⟩⟩ (fun j σ Hc _ z => by obtain ⟨_, B, _, _, rfl, h1, h2, _⟩ := z; exact SqL.of (hgj2 _ _ (ei h2 h1) hgb)) (fun j v σ Hc hv z => ?_) (fun σ Hc z => ?_)
          · obtain ⟨o10, B, c, rfl, rfl, hB, eB, hvs, hc⟩ := z
            obtain ⟨r, hr, rfl⟩ := map_get hv
            have hrf := List.mem_filter.mp (List.mem_of_getElem? hr)
            have hr2 := hrf.1
            have hrl : lowB r = lowB m := beq_iff_eq.mp hrf.2
            obtain ⟨hrm, hrb⟩ := in2.mp hr2
            walk_at "go"
            rw [PySem.W.os_band]
            have stay : ∀ {o : Option V}, (r &&& m = r → ¬ Cov ms2 (m ^^^ r)) → (c = .non ∧ ∀ r ∈ (ms2.filter fun r => lowB r == lowB m).take (j + 1), r &&& m = r → ¬ Cov ms2 (m ^^^ r)) ∨ ∃ b rss, c = .ref b ∧ LP (Ts B) B b rss ∧ Part gs row m rss := fun {o} hno => by
              rcases hc with ⟨rfl, h⟩ | h
              · refine .inl ⟨rfl, fun r' hr' => ?_⟩
                rw [take_snoc hr] at hr'
                rcases List.mem_append.mp hr' with z | z
                · exact h r' z
                · rw [List.mem_singleton.mp z]; exact hno
              · exact .inr h
            by_cases c1 : r &&& m = r
            · rw [decide_eq_true (by omega)]
              walk_at "go"
              obtain ⟨sf1, sf2, sf3⟩ := sub_facts c1
              obtain ⟨bq, qq, hbq1, hbq2, hring, hmq⟩ := (hf22 eB).at' r hrm
              have r0 : r ≠ 0 := by rw [← hmq]; exact ring_ne nd hring
              have hlt : m ^^^ r < vs.length := by omega
              obtain ⟨v, hv⟩ : ∃ v, vs[m ^^^ r]? = some v := ⟨_, List.getElem?_eq_getElem hlt⟩
              rw [int_xor]
              refine i_ixL upd_same (atI_nat hv) ?_
              walk_at "go"
              refine ⟨rfl, ?_⟩
              walk_at "go"
              rcases hvs _ _ hv with ⟨rfl, hno⟩ | ⟨b, rss, rfl, hlp, hpart⟩
              · rw [decide_eq_true rfl]
                walk_at "go"
                exact ⟨_, B, c, rfl, rfl, hB, eB, hvs, stay (o := none) fun _ => hno⟩
              · rw [decide_eq_false (fun e => nomatch e)]
                walk_at "go"
                -- best[mask ^ ring] + [found[ring]]
                have cat : ∀ {B' : Hp} {N : VK} {c : V}, Ex B B' → B' bl = none → (∀ p B2, Ex B' B2 → B2 bl = none → LP (Ts B2) B2 p (rss ++ [qq]) → N (.ref p) (upd B2 bl (.lst vs))) →
                    oIxL (.ref bl) (.int (Builtin.bitXor (m : Nat) (r : Nat))) (upd B' bl (.lst vs)) fun x1 H1 => tLst (tCons (tDGet (tVar 5) (tVar 10)) tNil) [some (.ref x), some (.int 2), some (.int (-1)), some (.ref r1), some (.ref g), some (.ref fd), some (.ref gp), some (.ref bl), some (.int (m : Nat)), some c, some (.int (r : Nat))] H1 fun y H2 => rCat x1 y H2 N := fun {B' N c} e' hB' hN => by
                  rw [int_xor]
                  refine i_ixL upd_same (atI_nat hv) ?_
                  walk_at "go"
                  have ei' := ei (eB.trans e') hB'
                  refine dn_get (.inl (hfd2 ei')) hrm ?_
                  walk_at "go"
                  refine ⟨by show 1 ≤ sizeLine; decide, fun p1 hp1 => ?_⟩
                  obtain ⟨zs, hz1, hz2, hz3⟩ := hlp
                  have hrl7 : rss.length ≤ 128 := by have := hpart.len nd; omega
                  have e1' : Ex B' (upd B' bl (.lst vs)) := ex_in (Ex.refl _) hB'
                  have e2' : Ex (upd B' bl (.lst vs)) (upd (upd B' bl (.lst vs)) p1 (.lst [F r])) := Ex.new hp1
                  refine ⟨b, p1, _, _, rfl, rfl, ((e'.trans e1').trans e2') _ _ hz1, upd_same, ?_, fun p2 hp2 => ?_⟩
                  · rw [← hz3, List.length_map] at hrl7
                    rw [List.length_map]
                    exact small (by show _ + 1 ≤ 1000; omega)
                  · have e3' : Ex (upd B' bl (.lst vs)) (upd (upd (upd B' bl (.lst vs)) p1 (.lst [F r])) p2 (.lst (zs.map (fun z => V.ref z.1) ++ [F r]))) := e2'.trans (Ex.new hp2)
                    have hbl3 := e3' _ _ (upd_same (a := bl) (H := B') (o := .lst vs))
                    have np2 : p2 ≠ bl := ne_new hp2 (e2' _ _ upd_same)
                    have := hN p2 (off bl (upd (upd (upd B' bl (.lst vs)) p1 (.lst [F r])) p2 (.lst (zs.map (fun z => V.ref z.1) ++ [F r])))) (off_ex e3' hB') off_D ⟨zs ++ [(bq, qq)], ?_, fun z hz => ?_, ?_⟩
                    · rw [off_back hbl3] at this
                      exact this
                    · rw [off_ne np2, upd_same, List.map_append, hbq1]
                      rfl
                    · rcases List.mem_append.mp hz with w | w
                      · exact ((hz2 z w).ex e').ex (off_ex e3' hB')
                      · rw [List.mem_singleton.mp w]
                        exact (hbq2.ex e').ex (off_ex e3' hB')
                    · rw [List.map_append, hz3]
                      rfl
                have hpm : Part gs row m (rss ++ [qq]) := by
                  have := Part.more hpart hring hmq sf1
                  rwa [sf2] at this
                refine cat (Ex.refl _) hB fun p B2 e2' hB2 hlp2 => ?_
                walk_at "go"
                obtain ⟨zs2, hz4, _⟩ := id hlp2
                have fin : ∀ {bb : Bool} {n2 bk2 ct2 : Sl → Hp → Prop} {rt2 : VK}, (∀ σ Hc, (∃ o10 B c, σ = [some (.ref x), some (.int 2), some (.int (-1)), some (.ref r1), some (.ref g), some (.ref fd), some (.ref gp), some (.ref bl), some (.int (m : Nat)), some c, o10] ∧ Hc = upd B bl (.lst vs) ∧ B bl = none ∧ Ex HB B ∧ (∀ m v, vs[m]? = some v → BV gs row ms2 m v B) ∧
                      ((c = .non ∧ ∀ r ∈ (ms2.filter fun r => lowB r == lowB m).take (j + 1), r &&& m = r → ¬ Cov ms2 (m ^^^ r)) ∨ ∃ b rss, c = .ref b ∧ LP (Ts B) B b rss ∧ Part gs row m rss)) → n2 σ Hc) → (bb = false → ∃ b rss, c = .ref b ∧ LP (Ts B) B b rss ∧ Part gs row m rss) →
                    Br bb (tAsg (tOp rCat (tOp oIxL (tVar 7) (tOp (rI0 fun i j => .int (Builtin.bitXor i j)) (tVar 8) (tVar 10))) (tLst (tCons (tDGet (tVar 5) (tVar 10)) tNil))) (gName 9)) tNext ⟨n2, rt2, bk2, ct2⟩ [some (.ref x), some (.int 2), some (.int (-1)), some (.ref r1), some (.ref g), some (.ref fd), some (.ref gp), some (.ref bl), some (.int (m : Nat)), some c, some (.int (r : Nat))] (upd B2 bl (.lst vs)) := fun {bb n2 bk2 ct2 rt2} hn hbb => by
                  cases bb with
                  | true =>
                    walk_at "go"
                    refine cat e2' hB2 fun p B4 e4 hB4 hlp4 => ?_
                    walk_at "go"
                    exact hn _ _ ⟨_, B4, .ref p, rfl, rfl, hB4, (eB.trans e2').trans e4, fun m v h => (hvs m v h).ex (e2'.trans e4), .inr ⟨p, _, rfl, hlp4, hpm⟩⟩
                  | false =>
                    walk_at "go"
                    obtain ⟨b5, rss5, h5, h6, h7⟩ := hbb rfl
                    exact hn _ _ ⟨_, B2, c, rfl, rfl, hB2, eB.trans e2', fun m v h => (hvs m v h).ex e2', .inr ⟨b5, rss5, h5, h6.ex e2' (fun a b h => h.ex e2'), h7⟩⟩
                rcases hc with ⟨rfl, hcn⟩ | ⟨b5, rss5, rfl, hlp5, hp5⟩
                · refine .inl ⟨p, _, -1, _, rfl, ex_in (Ex.refl _) hB2 _ _ hz4, rfl, ?_⟩
                  walk_at "go"
                  refine cat e2' hB2 fun p B4 e4 hB4 hlp4 => ?_
                  walk_at "go"
                  exact ⟨_, B4, .ref p, rfl, rfl, hB4, (eB.trans e2').trans e4, fun m v h => (hvs m v h).ex (e2'.trans e4), .inr ⟨p, _, rfl, hlp4, hpm⟩⟩
                · obtain ⟨zs5, hz5, hz6, hz7⟩ := id hlp5
                  refine .inr ⟨p, b5, -1, _, _, rfl, ex_in (Ex.refl _) hB2 _ _ hz4, ex_in (Ex.refl _) hB2 _ _ (e2' _ _ hz5), by omega, by omega, ?_⟩
                  walk_at "go"
                  exact fin (fun σ Hc h => h) fun _ => ⟨b5, rss5, rfl, hlp5, hp5⟩
            · rw [decide_eq_false (by omega)]
              walk_at "go"
              exact ⟨_, B, c, rfl, rfl, hB, eB, hvs, stay (o := none) fun h => absurd h c1⟩
          · obtain ⟨o10, B, c, rfl, rfl, hB, eB, hvs, hc⟩ := z
            rw [List.length_map, List.take_length] at hc
            walk_at "go"
            refine ⟨ty_l upd_same, ?_⟩
            walk_at "go"
            refine i_app upd_same (by exact small1000 (by omega)) ?_
            walk_at "go"
            rw [upd_upd]
            refine ⟨_, _, _, B, vs ++ [c], rfl, rfl, hB, eB, by rw [List.length_append, List.length_singleton]; omega, fun m' v hv => ?_⟩
            by_cases e : m' < vs.length
            · rw [List.getElem?_append_left e] at hv
              exact hvs m' v hv
            · have hl2 := (List.getElem?_eq_some_iff.mp hv).1
              rw [List.length_append, List.length_singleton] at hl2
              have e2 : m' = vs.length := by omega
              rw [e2, List.getElem?_append_right (Nat.le_refl _), Nat.sub_self] at hv
              cases hv
              have e3 : m' = m := by omega
              rw [e3]
              rcases hc with ⟨rfl, h⟩ | h
              · refine .inl ⟨rfl, fun cov => ?_⟩
                cases cov with
                | zero => exact m0 rfl
                | more _ h1 h2 h3 h4 => exact h _ (List.mem_filter.mpr ⟨h1, beq_iff_eq.mpr h2⟩) h3 h4
              · exact .inr h
        · obtain ⟨o8, o9, o10, B, vs, rfl, rfl, hB, eB, hvl, hvs⟩ := z
          walk_at "go"
          refine ⟨1, rfl, ?_⟩
          obtain ⟨v, hv⟩ : ∃ v, vs[2 ^ gs.length - 1]? = some v := ⟨_, List.getElem?_eq_getElem (by omega)⟩
          have hat : atI vs (-1) = some v := by
            unfold atI ixN
            rw [if_neg (by decide), if_pos (by omega)]
            show vs[((-1 : Int) + vs.length).toNat]? = some v
            rw [show ((-1 : Int) + vs.length).toNat = 2 ^ gs.length - 1 by omega]
            exact hv
          refine i_ixL upd_same hat ?_
          have cov : Cov ms2 (2 ^ gs.length - 1) := by
            refine cov_of (row := row) (d := d) nd (fun y hy => mem.mpr (ok.dom y (mem.mp hy) _ (DR.inn y (mem.mp hy)))) (fun y hy => DR.inn y (mem.mp hy)) (fun y hy z hz e => DR.inj y (mem.mp hy) z (mem.mp hz) e) (fun y hy => nofix y (mem.mp hy)) (fun pp hpp h2 => in2.mpr ⟨hf3 pp hpp, h2⟩) _ ?_
            exact kept_all fun y hy => mem.mpr (ok.dom y (mem.mp hy) _ (DR.inn y (mem.mp hy)))
          rcases hvs _ _ hv with ⟨rfl, hno⟩ | ⟨b, rss, rfl, hlp, hpart⟩
          · exact absurd cov hno
          · have eF : Ex B (upd B bl (.lst vs)) := ex_in (Ex.refl _) hB
            exact q b _ rss gs ((e1.trans e2).trans ((e3.trans e35).trans ((eB0.trans eB).trans eF))) (hlp.ex eF fun a b h => h.ex eF) hpart pm
end
end GR
end
section
set_option Elab.async false
set_option linter.all false
set_option maxRecDepth 100000
set_option maxHeartbeats 4000000
set_option autoImplicit false
namespace GR
open PySem PySem.Spec L2
open Evl (Ex)
local macro_rules | `(tactic| walk_at "go") => `(tactic| (repeat (first
  | with_reducible refine i_seq ?_
  | ((with_reducible apply i_var); focus rfl)
  | with_reducible refine i_c ?_
  | with_reducible refine i_cons ?_
  | with_reducible refine i_nil ?_
  | with_reducible refine i_asg ?_
  | with_reducible refine i_name ?_
  | with_reducible refine i_op ?_
  | with_reducible refine i_cb ?_
  | with_reducible refine i_fn ?_
  | with_reducible refine i_ret ?_
  | with_reducible refine i_retN ?_
  | with_reducible refine i_drop ?_
  | with_reducible refine i_next ?_
  | with_reducible refine i_cont ?_
  | with_reducible refine i_break ?_
  | with_reducible refine i_if ?_
  | with_reducible refine br_t ?_
  | with_reducible refine br_f ?_
  | with_reducible refine br_nt ?_
  | with_reducible refine io_t ?_
  | with_reducible refine io_f ?_
  | with_reducible refine io_nt ?_
  | with_reducible refine io_nf ?_
  | with_reducible refine br_nf ?_
  | with_reducible refine o_ip ?_
  | with_reducible refine i_test ?_
  | with_reducible refine i_tB ?_
  | with_reducible refine i_not ?_
  | with_reducible refine i_notV ?_
  | with_reducible refine i_andV ?_
  | with_reducible refine i_orV ?_
  | with_reducible refine i_and ?_
  | with_reducible refine i_or ?_
  | with_reducible refine i_dput ?_
  | with_reducible refine i_dget ?_
  | with_reducible refine i_din ?_
  | with_reducible refine i_dnotin ?_
  | with_reducible refine i_dnewK ?_
  | with_reducible refine i_dnewT ?_
  | with_reducible refine i_fld ?_
  | with_reducible refine i_sfld ?_
  | with_reducible refine i_bm0 ?_
  | with_reducible refine i_bm ?_
  | with_reducible refine i_sl ?_
  | with_reducible refine i_noPart ?_
  | with_reducible refine i_part ?_
  | with_reducible refine i_chain ?_
  | with_reducible refine i_methR ?_
  | with_reducible refine i_tup ?_
  | with_reducible refine i_lst ?_
  | with_reducible refine i_for ?_
  | with_reducible refine i_iList ?_
  | with_reducible refine i_iTup ?_
  | with_reducible refine i_iKeys ?_
  | with_reducible refine i_iRng1 ?_
  | with_reducible refine i_iRng2 ?_
  | with_reducible refine i_iStr ?_
  | with_reducible refine i_iEnum ?_
  | with_reducible refine i_iEnumT ?_
  | with_reducible refine i_lc ?_
  | with_reducible refine i_stD ?_
  | with_reducible refine i_iItemsT ?_
  | with_reducible refine i_dcw ?_
  | with_reducible refine i_dsetd ?_
  | with_reducible refine i_iVals ?_
  | with_reducible refine i_iItems ?_
  | with_reducible refine i_revL ?_
  | with_reducible refine i_yes ?_
  | with_reducible refine o_I0 ?_
  | with_reducible refine o_eqS ?_
  | with_reducible refine o_neS ?_
  | with_reducible refine o_eqI ?_
  | with_reducible refine o_neI ?_
  | with_reducible refine o_eqB ?_
  | with_reducible refine e_ref ?_
  | with_reducible refine e_str ?_
  | with_reducible refine e_int ?_
  | with_reducible refine e_bl ?_
  | with_reducible refine e_str1 ?_
  | with_reducible refine e_int1 ?_
  | with_reducible refine e_int2 ?_
  | with_reducible refine e_str2 ?_)))
open GM
/-- rings of one whole choice, over all people -/
def RingsOf (ps : List Str) (row : Str → List Str) (n : Nat) : Prop := ∃ (d : Str → Str) (rss : List (List Str)), IsDraw ps row d ∧ rss.length = n ∧ (∀ x ∈ ps, ∃ rs ∈ rss, x ∈ rs) ∧ ∀ rs ∈ rss, orb d ps rs
theorem rings_of {ps gs : List Str} {row : Str → List Str} {rss : List (List Str)} (nd : gs.Nodup) (pm : gs.Perm ps) (h : Part gs row (2 ^ gs.length - 1) rss) : RingsOf ps row rss.length := by
  obtain ⟨d, h1, h2, h3, h4⟩ := h.draw nd
  have full : ∀ x ∈ gs, (2 ^ gs.length - 1).testBit (gs.idxOf x) = true := fun x hx => by
    rw [Nat.testBit_two_pow_sub_one]
    exact decide_eq_true (List.idxOf_lt_length_of_mem hx)
  have mem : ∀ {x}, x ∈ ps ↔ x ∈ gs := fun {x} => pm.mem_iff.symm
  refine ⟨d, rss, ⟨fun g hg => (h1 g (mem.mp hg) (full g (mem.mp hg))).1, fun g hg k hk e => h2 g (mem.mp hg) k (mem.mp hk) (full g (mem.mp hg)) (full k (mem.mp hk)) e⟩, rfl, fun x hx => h3 x (mem.mp hx) (full x (mem.mp hx)), fun rs hrs => ?_⟩
  obtain ⟨h5, h6, h7⟩ := h4 rs hrs
  exact h5.orb h7 fun y hy => mem.mpr (h6 y hy).1
section
variable {P : Program} {w : World} {K : PySem.W.Frag} {mg : Str → Option Value} {base : Heap} {k j : Nat}
abbrev n_numbered : List Str := ["book", "sign", "rings"]
theorem sc_numbered : FnScope n_numbered ["book", "sign"] (defScope s_numbered) := ⟨rfl, rfl, rfl, by decide +kernel, rfl, by decide +kernel, by decide +kernel⟩
def spNumbered (K : PySem.W.Frag) : Sp := fun vs H Q _ => ∃ x ps cl row, vs = [.ref x, .int (-1)] ∧ BookAt K H x ps cl row ∧ RowsOk ps row ∧ (∃ d, IsDraw ps row d ∧ ∀ x ∈ ps, d x ≠ x) ∧
  ∀ p H' n v, Ex H H' → H' p = some (.tup [.int (n : Nat), v]) → RingsOf ps row n → Q (.ref p) H'
theorem c_numbered (T : Txt K mg) (c_check_size : Cal P w K mg base k "check_size" (spCheckSize K)) (c_best_rings : Cal P w K mg base k "best_rings" (spBest K)) (c_Book_party : Mth P w K mg base k (cB K) "party" (spBParty K)) (c_drawn_by : Cal P w K mg base k "drawn_by" spDrawnBy) (c_in_party_order : Cal P w K mg base k "in_party_order" (spInOrder K)) : Cal P w K mg base (k + 1) "numbered" (spNumbered K) := by
  refine T.a_numbered.ok sc_numbered (fun _ _ _ _ _ _ us hl => match us, hl with | [_, _], _ => rfl) (fun vs H Q E h => ?_) (fun f cdv A outer s H vs Q E hr h => ⟨_, (pss_cons (ps_expr (pe_fn c_check_size (hr.mono (by omega)) (pa_cons (pv 0) pa_nil)))
      (pss_cons (ps_set (i := 2) sc_numbered.nd rfl (Or.inl rfl) (pe_fn c_best_rings (hr.mono (by omega)) (pa_cons (pv 0) (pa_cons pe_int (pa_cons (pv 1) pa_nil)))))
      (pss_cons (ps_if (pt_cmpR op_isN (pv 2) pe_non (nomark _)) (pss_one (ps_never)) pss_nil)
      (pss_one (ps_ret (pe_tup (pa_cons (pe_callB crLen (by rfl) T.f_len b_len (pa_cons (pv 2) pa_nil)) (pa_cons (pe_fn c_in_party_order (hr.mono (by omega)) (pa_cons (pe_mth0 (pv 0) T.cl_Book c_Book_party (hr.mono (by omega))) (pa_cons (pe_fn c_drawn_by (hr.mono (by omega)) (pa_cons (pv 2) pa_nil)) pa_nil))) pa_nil)))))))), ?_⟩)
  · obtain ⟨_, _, _, _, rfl, _⟩ := h; rfl
  · obtain ⟨x, ps, cl, row, rfl, hb, ok, dr, q⟩ := h
    have hl7 := ok.len
    walk_at "go"
    refine ⟨x, ps, cl, row, rfl, hb, by omega, ?_⟩
    walk_at "go"
    refine ⟨x, ps, cl, row, rfl, hb, ok, dr, fun p H1 rss gs e1 hlp hpart pm => ?_⟩
    have nd : gs.Nodup := pm.nodup_iff.mpr ok.nd
    have gl : gs.length ≤ 7 := by rw [pm.length_eq]; exact ok.len
    obtain ⟨d, rss2, hd1, hd2, hd3, hd4⟩ := id (rings_of nd pm hpart)
    obtain ⟨dd, hd5, hd6, hd7, hd8⟩ := hpart.draw nd
    have rl : rss.length ≤ 127 := by
      have h1 := hpart.len nd
      have h2 : 2 ^ gs.length ≤ 128 := Nat.pow_le_pow_right (n := 2) (by decide) gl
      omega
    obtain ⟨zs, hz1, hz2, hz3⟩ := id hlp
    walk_at "go"
    refine ⟨rfl, ?_⟩
    walk_at "go"
    rw [decide_eq_false (fun e => nomatch e)]
    walk_at "go"
    refine ⟨p, _, rfl, .inl hz1, ?_⟩
    rw [List.length_map]
    walk_at "go"
    obtain ⟨dx, pa, l, rr, hx, hp, hr1⟩ := (hb.mono e1).ex
    refine ⟨x, dx, _, rfl, hx, rfl, ?_⟩
    walk_at "go"
    refine ⟨x, ps, cl, row, rfl, hb.mono e1, fun pp hpp => ?_⟩
    walk_at "go"
    refine ⟨p, rss, rfl, hlp, by omega, fun rs hrs => ?_, fun a H2 ks f e2 ha hks => ?_⟩
    · obtain ⟨h5, h6, h7⟩ := hd8 rs hrs
      obtain ⟨s, l, x0, hpth, _⟩ := h5
      exact Nat.le_trans hpth.len gl
    walk_at "go"
    refine ⟨pp, a, ps, cl, ks, f, rfl, hpp.mono e2, ha, fun y hy => ?_, by omega, fun b H3 e3 => ?_⟩
    · obtain ⟨rs, h1, h2⟩ := hd7 y (pm.mem_iff.mpr hy) (by rw [Nat.testBit_two_pow_sub_one]; exact decide_eq_true (List.idxOf_lt_length_of_mem (pm.mem_iff.mpr hy)))
      exact hks rs h1 y h2
    walk_at "go"
    refine ⟨by show 2 ≤ sizeLine; decide, fun z hz => ?_⟩
    have hzl : zs.length = rss.length := by rw [← hz3, List.length_map]
    refine q z _ zs.length (.ref b) (((e1.trans e2).trans e3).trans (Ex.new hz)) upd_same ?_
    rw [hzl]
    exact rings_of nd pm hpart
abbrev n_fewest_rings : List Str := ["book"]
theorem sc_fewest_rings : FnScope n_fewest_rings ["book"] (defScope s_fewest_rings) := ⟨rfl, rfl, rfl, by decide +kernel, rfl, by decide +kernel, by decide +kernel⟩
def spFewest (K : PySem.W.Frag) : Sp := fun vs H Q _ => ∃ x ps cl row, vs = [.ref x] ∧ BookAt K H x ps cl row ∧ RowsOk ps row ∧ (∃ d, IsDraw ps row d ∧ ∀ x ∈ ps, d x ≠ x) ∧
  ∀ p H' n v, Ex H H' → H' p = some (.tup [.int (n : Nat), v]) → RingsOf ps row n → Q (.ref p) H'
theorem c_fewest_rings (T : Txt K mg) (c_numbered : Cal P w K mg base k "numbered" (spNumbered K)) : Cal P w K mg base (k + 1) "fewest_rings" (spFewest K) := by
  refine T.a_fewest_rings.ok sc_fewest_rings (fun _ _ _ _ _ _ us hl => match us, hl with | [_], _ => rfl) (fun vs H Q E h => ?_) (fun f cdv A outer s H vs Q E hr h => ⟨_, (pss_one (ps_ret (pe_fn c_numbered (hr.mono (by omega)) (pa_cons (pv 0) (pa_cons (pe_un un_neg pe_int) pa_nil))))), ?_⟩)
  · obtain ⟨_, _, _, _, rfl, _⟩ := h; rfl
  · obtain ⟨x, ps, cl, row, rfl, hb, ok, dr, q⟩ := h
    walk_at "go"
    refine ⟨1, rfl, ?_⟩
    walk_at "go"
    exact ⟨x, ps, cl, row, rfl, hb, ok, dr, q⟩
end
end GR
end
section
set_option Elab.async false
set_option linter.all false
set_option maxRecDepth 100000
set_option maxHeartbeats 4000000
set_option autoImplicit false
/-! Groups by merging: plain lists. -/
namespace GR
open PySem
/-- the group of each person after two groups are joined -/
def join (c : Str → List Str) (a b : Str) : Str → List Str := fun x => if x ∈ c a ++ c b then c a ++ c b else c x
def mrg1 (c : Str → List Str) (a b : Str) : Str → List Str := if b ∈ c a then c else join c a b
def mrgR (c : Str → List Str) (a : Str) (ts : List Str) : Str → List Str := ts.foldl (fun c b => mrg1 c a b) c
def mrgA (T : Str → List Str) (c : Str → List Str) (as : List Str) : Str → List Str := as.foldl (fun c a => mrgR c a (T a)) c
def grp (ps : List Str) (T : Str → List Str) : Str → List Str := mrgA T (fun x => [x]) ps
structure GrpOk (ps : List Str) (c : Str → List Str) : Prop where
  self : ∀ x ∈ ps, x ∈ c x
  same : ∀ x ∈ ps, ∀ y ∈ c x, y ∈ ps ∧ c y = c x
  nd : ∀ x ∈ ps, (c x).Nodup
section
variable {ps : List Str} {c : Str → List Str} {a b x y : Str} {T : Str → List Str}
theorem grp0 : GrpOk ps fun x => [x] := ⟨fun x _ => List.mem_singleton.mpr rfl, fun x hx y hy => by rw [List.mem_singleton.mp hy]; exact ⟨hx, rfl⟩, fun x _ => List.nodup_cons.mpr ⟨fun h => (nomatch h), List.nodup_nil⟩⟩
theorem GrpOk.apart (G : GrpOk ps c) (ha : a ∈ ps) (hb : b ∈ ps) (h : b ∉ c a) (hx : x ∈ c a) (hy : x ∈ c b) : False := by
  have h1 := (G.same a ha x hx).2
  have h2 := (G.same b hb x hy).2
  rw [← h1, h2] at h
  exact h (G.self b hb)
theorem join_in (h : x ∈ c a ++ c b) : join c a b x = c a ++ c b := if_pos h
theorem join_out (h : x ∉ c a ++ c b) : join c a b x = c x := if_neg h
theorem GrpOk.join (G : GrpOk ps c) (ha : a ∈ ps) (hb : b ∈ ps) (h : b ∉ c a) : GrpOk ps (join c a b) := by
  have mem : ∀ y ∈ c a ++ c b, y ∈ ps := fun y hy => (List.mem_append.mp hy).elim (fun z => (G.same a ha y z).1) fun z => (G.same b hb y z).1
  have out : ∀ {x y : Str}, x ∈ ps → x ∉ c a ++ c b → y ∈ c x → y ∉ c a ++ c b := fun {x y} hx hn hy hm => by
    have e := (G.same x hx y hy).2
    refine hn ?_
    rcases List.mem_append.mp hm with z | z
    · exact List.mem_append_left _ (by rw [← (G.same a ha y z).2, e]; exact G.self x hx)
    · exact List.mem_append_right _ (by rw [← (G.same b hb y z).2, e]; exact G.self x hx)
  refine ⟨fun x hx => ?_, fun x hx y hy => ?_, fun x hx => ?_⟩
  · by_cases hm : x ∈ c a ++ c b
    · rw [join_in hm]; exact hm
    · rw [join_out hm]; exact G.self x hx
  · by_cases hm : x ∈ c a ++ c b
    · rw [join_in hm] at hy ⊢
      exact ⟨mem y hy, join_in hy⟩
    · rw [join_out hm] at hy ⊢
      obtain ⟨h1, h2⟩ := G.same x hx y hy
      exact ⟨h1, by rw [join_out (out hx hm hy)]; exact h2⟩
  · by_cases hm : x ∈ c a ++ c b
    · rw [join_in hm]
      refine List.nodup_append.mpr ⟨G.nd a ha, G.nd b hb, fun y hy z hz e => ?_⟩
      subst e
      exact G.apart ha hb h hy hz
    · rw [join_out hm]; exact G.nd x hx
/-- what was together stays together -/
def Fin (ps : List Str) (c c' : Str → List Str) : Prop := ∀ x ∈ ps, ∀ y ∈ c x, y ∈ c' x
theorem Fin.rfl' : Fin ps c c := fun _ _ _ h => h
theorem GrpOk.fin (G : GrpOk ps c) (ha : a ∈ ps) (hb : b ∈ ps) : Fin ps c (GR.join c a b) := fun x hx y hy => by
  by_cases hm : x ∈ c a ++ c b
  · rw [join_in hm]
    rcases List.mem_append.mp hm with z | z
    · exact List.mem_append_left _ (by rw [← (G.same a ha x z).2]; exact hy)
    · exact List.mem_append_right _ (by rw [← (G.same b hb x z).2]; exact hy)
  · rw [join_out hm]; exact hy
theorem GrpOk.mrg1 (G : GrpOk ps c) (ha : a ∈ ps) (hb : b ∈ ps) : GrpOk ps (mrg1 c a b) ∧ Fin ps c (mrg1 c a b) ∧ b ∈ GR.mrg1 c a b a := by
  unfold GR.mrg1
  by_cases h : b ∈ c a
  · rw [if_pos h]
    exact ⟨G, Fin.rfl', h⟩
  · rw [if_neg h]
    exact ⟨G.join ha hb h, G.fin ha hb, by rw [join_in (List.mem_append_left _ (G.self a ha))]; exact List.mem_append_right _ (G.self b hb)⟩
theorem Fin.trans {c1 c2 : Str → List Str} (h : Fin ps c c1) (h2 : Fin ps c1 c2) : Fin ps c c2 := fun x hx y hy => h2 x hx y (h x hx y hy)
theorem GrpOk.mrgR (ha : a ∈ ps) : ∀ {ts : List Str} {c : Str → List Str}, GrpOk ps c → (∀ t ∈ ts, t ∈ ps) → GrpOk ps (mrgR c a ts) ∧ Fin ps c (mrgR c a ts) ∧ ∀ t ∈ ts, t ∈ GR.mrgR c a ts a
  | [], c, G, _ => ⟨G, Fin.rfl', fun _ h => nomatch h⟩
  | t :: ts, c, G, h => by
    obtain ⟨h1, h2, h3⟩ := G.mrg1 ha (h t List.mem_cons_self)
    obtain ⟨h4, h5, h6⟩ := GrpOk.mrgR ha (ts := ts) h1 fun u hu => h u (List.mem_cons_of_mem _ hu)
    refine ⟨h4, h2.trans h5, fun u hu => ?_⟩
    rcases List.mem_cons.mp hu with e | hu
    · rw [e]; exact h5 a ha t h3
    · exact h6 u hu
theorem GrpOk.mrgA (hT : ∀ a ∈ ps, ∀ t ∈ T a, t ∈ ps) : ∀ {as : List Str} {c : Str → List Str}, GrpOk ps c → (∀ x ∈ as, x ∈ ps) → GrpOk ps (mrgA T c as) ∧ Fin ps c (mrgA T c as) ∧ ∀ x ∈ as, ∀ t ∈ T x, t ∈ GR.mrgA T c as x
  | [], c, G, _ => ⟨G, Fin.rfl', fun _ h => nomatch h⟩
  | t :: ts, c, G, h => by
    have ht := h t List.mem_cons_self
    obtain ⟨h1, h2, h3⟩ := G.mrgR ht (hT t ht)
    obtain ⟨h4, h5, h6⟩ := GrpOk.mrgA hT (as := ts) h1 fun u hu => h u (List.mem_cons_of_mem _ hu)
    refine ⟨h4, h2.trans h5, fun u hu => ?_⟩
    rcases List.mem_cons.mp hu with e | hu
    · rw [e]; exact fun v hv => h5 t ht v (h3 v hv)
    · exact h6 u hu
theorem grp_ok (hT : ∀ a ∈ ps, ∀ t ∈ T a, t ∈ ps) : GrpOk ps (grp ps T) ∧ ∀ x ∈ ps, ∀ t ∈ T x, t ∈ grp ps T x :=
  let h := GrpOk.mrgA (as := ps) hT grp0 fun _ h => h
  ⟨h.1, h.2.2⟩
theorem mrgA_nil : ∀ {as : List Str} {c : Str → List Str}, (∀ x ∈ as, T x = []) → mrgA T c as = c
  | [], _, _ => rfl
  | a :: as, c, h => by
    unfold mrgA
    rw [List.foldl_cons, h a List.mem_cons_self]
    exact mrgA_nil fun x hx => h x (List.mem_cons_of_mem _ hx)
theorem grp_nil (h : ∀ x ∈ ps, T x = []) : grp ps T = fun x => [x] := mrgA_nil h
theorem mrgA_snoc {as : List Str} {c : Str → List Str} : mrgA T c (as ++ [a]) = mrgR (mrgA T c as) a (T a) := by unfold mrgA; rw [List.foldl_append]; rfl
theorem mrgR_snoc {ts : List Str} {c : Str → List Str} : mrgR c a (ts ++ [b]) = mrg1 (mrgR c a ts) a b := by unfold mrgR; rw [List.foldl_append]; rfl
/-- the groups as they are told: a list of each group once -/
structure Told (ps : List Str) (c : Str → List Str) (gs : List (List Str)) : Prop where
  nd : gs.Nodup
  of : ∀ g ∈ gs, ∃ x ∈ ps, g = c x
  all : ∀ x ∈ ps, c x ∈ gs
theorem GrpOk.sort_inj (G : GrpOk ps c) (hx : x ∈ ps) (hy : y ∈ ps) (e : ssort (c x) = ssort (c y)) : c x = c y := by
  have h : x ∈ c y := (ssort_perm (c y)).mem_iff.mp (by rw [← e]; exact (ssort_perm (c x)).mem_iff.mpr (G.self x hx))
  exact (G.same y hy x h).2
theorem Told.sorts {gs : List (List Str)} (G : GrpOk ps c) (t : Told ps c gs) : Told ps (fun x => ssort (c x)) (gs.map ssort) := by
  refine ⟨?_, fun g hg => ?_, fun x hx => List.mem_map_of_mem (t.all x hx)⟩
  · refine List.pairwise_map.mpr (t.nd.imp_of_mem fun {g k} hg hk ne e => ?_)
    obtain ⟨x, hx, rfl⟩ := t.of g hg
    obtain ⟨y, hy, rfl⟩ := t.of k hk
    exact ne (G.sort_inj hx hy e)
  · obtain ⟨k, hk, rfl⟩ := List.mem_map.mp hg
    obtain ⟨x, hx, rfl⟩ := t.of k hk
    exact ⟨x, hx, rfl⟩
theorem Told.perm {gs ks : List (List Str)} (t : Told ps c gs) (u : Told ps c ks) : gs.Perm ks := (List.perm_ext_iff_of_nodup t.nd u.nd).mpr fun g =>
  ⟨fun h => by obtain ⟨x, hx, rfl⟩ := t.of g h; exact u.all x hx, fun h => by obtain ⟨x, hx, rfl⟩ := u.of g h; exact t.all x hx⟩
end
end GR
end
section
set_option Elab.async false
set_option linter.all false
set_option maxRecDepth 100000
set_option maxHeartbeats 4000000
set_option autoImplicit false
namespace GR
open PySem PySem.Spec L2
open Evl (Ex)
local macro_rules | `(tactic| walk_at "go") => `(tactic| (repeat (first
  | with_reducible refine i_seq ?_
  | ((with_reducible apply i_var); focus rfl)
  | with_reducible refine i_c ?_
  | with_reducible refine i_cons ?_
  | with_reducible refine i_nil ?_
  | with_reducible refine i_asg ?_
  | with_reducible refine i_name ?_
  | with_reducible refine i_op ?_
  | with_reducible refine i_cb ?_
  | with_reducible refine i_fn ?_
  | with_reducible refine i_ret ?_
  | with_reducible refine i_retN ?_
  | with_reducible refine i_drop ?_
  | with_reducible refine i_next ?_
  | with_reducible refine i_cont ?_
  | with_reducible refine i_break ?_
  | with_reducible refine i_if ?_
  | with_reducible refine br_t ?_
  | with_reducible refine br_f ?_
  | with_reducible refine br_nt ?_
  | with_reducible refine io_t ?_
  | with_reducible refine io_f ?_
  | with_reducible refine io_nt ?_
  | with_reducible refine io_nf ?_
  | with_reducible refine br_nf ?_
  | with_reducible refine o_ip ?_
  | with_reducible refine i_test ?_
  | with_reducible refine i_tB ?_
  | with_reducible refine i_not ?_
  | with_reducible refine i_notV ?_
  | with_reducible refine i_andV ?_
  | with_reducible refine i_orV ?_
  | with_reducible refine i_and ?_
  | with_reducible refine i_or ?_
  | with_reducible refine i_dput ?_
  | with_reducible refine i_dget ?_
  | with_reducible refine i_din ?_
  | with_reducible refine i_dnotin ?_
  | with_reducible refine i_dnewK ?_
  | with_reducible refine i_dnewT ?_
  | with_reducible refine i_fld ?_
  | with_reducible refine i_sfld ?_
  | with_reducible refine i_bm0 ?_
  | with_reducible refine i_bm ?_
  | with_reducible refine i_sl ?_
  | with_reducible refine i_noPart ?_
  | with_reducible refine i_part ?_
  | with_reducible refine i_chain ?_
  | with_reducible refine i_methR ?_
  | with_reducible refine i_tup ?_
  | with_reducible refine i_lst ?_
  | with_reducible refine i_for ?_
  | with_reducible refine i_iList ?_
  | with_reducible refine i_iTup ?_
  | with_reducible refine i_iKeys ?_
  | with_reducible refine i_iRng1 ?_
  | with_reducible refine i_iRng2 ?_
  | with_reducible refine i_iStr ?_
  | with_reducible refine i_iEnum ?_
  | with_reducible refine i_iEnumT ?_
  | with_reducible refine i_lc ?_
  | with_reducible refine i_stD ?_
  | with_reducible refine i_iItemsT ?_
  | with_reducible refine i_dcw ?_
  | with_reducible refine i_dsetd ?_
  | with_reducible refine i_iVals ?_
  | with_reducible refine i_iItems ?_
  | with_reducible refine i_revL ?_
  | with_reducible refine i_yes ?_
  | with_reducible refine o_I0 ?_
  | with_reducible refine o_eqS ?_
  | with_reducible refine o_neS ?_
  | with_reducible refine o_eqI ?_
  | with_reducible refine o_neI ?_
  | with_reducible refine o_eqB ?_
  | with_reducible refine e_ref ?_
  | with_reducible refine e_str ?_
  | with_reducible refine e_int ?_
  | with_reducible refine e_bl ?_
  | with_reducible refine e_str1 ?_
  | with_reducible refine e_int1 ?_
  | with_reducible refine e_int2 ?_
  | with_reducible refine e_str2 ?_)))
section
variable {P : Program} {w : World} {K : PySem.W.Frag} {mg : Str → Option Value} {base : Heap} {k j : Nat}
theorem walkIt {d : Addr} {o : Obj} {ks : List Str} {f : Str → V} : Walk (Iti d o (kd jS ks f)) ks.length (fun H => H d = some (.frz o (sd ks f))) (YPair (fun i => ks[i]?.map V.str) (fun i => ks[i]?.map f)) := by
  have w := walk_items (d := d) (o := o) (kvs := kd jS ks f)
  rw [kd_length] at w
  refine w.mono (fun H h => h) fun i H x H' hi g y => ?_
  obtain ⟨T1, x1, x2, rfl, hT, e, hx1, hx2⟩ := y
  refine ⟨T1, x1, x2, rfl, hT, e, ?_, ?_⟩
  · rw [← hx1]; unfold kd; dsimp only; rw [List.getElem?_map, Option.map_map]; rfl
  · rw [← hx2]; unfold kd; dsimp only; rw [List.getElem?_map, Option.map_map]; rfl
/-- part_of while the groups are merged -/
def PoAt (ps : List Str) (D : Addr) (H3 : Hp) (c : Str → List Str) : Prop := ∃ f, H3 D = some (sd ps f) ∧ RowsV H3 ps f c
theorem PoAt.ex {ps : List Str} {D : Addr} {H H' : Hp} {c : Str → List Str} (e : Ex H H') (h : PoAt ps D H c) : PoAt ps D H' c := let ⟨f, h1, h2⟩ := h; ⟨f, e _ _ h1, h2.ex e⟩
theorem walkV {d : Addr} {o : Obj} {ks : List Str} {f : Str → V} : Walk (Itd d o (kd jS ks f)) ks.length (fun H => H d = some (.frz o (sd ks f))) (fun i H x H' => H' = H ∧ ∃ s, ks[i]? = some s ∧ x = f s) := by
  have w := walk_values (d := d) (o := o) (kvs := kd jS ks f)
  rw [kd_length] at w
  refine w.mono (fun H h => h) fun i H x H' hi g y => ?_
  obtain ⟨e, kx, hk⟩ := y
  obtain ⟨s, hs, h2⟩ := map_get hk
  injection h2 with h3 h4
  exact ⟨e, s, hs, h4⟩
/-! ### set comprehensions -/
def ScAt (P : Program) (w : World) (g : TG) (tt : TT) (te : TE) (vs : List Nat) (σ : Sl) (J : It) (H1 : Hp) (Q : VK) : Prop := ∀ D, H1 D = none →
  ∃ W : Nat → Nat → Hp → Prop, (∃ m, W 0 m (upd H1 D (MO P w [] D))) ∧ ∀ i m H, W i m H → (J.stop i H ∧ Q (.ref D) H) ∨
    (J.go i H ∧ ∃ N : Hp → Prop, (∀ H', N H' → ∃ m', m' < m ∧ W (i + 1) m' H') ∧ ∀ x H', J.yld i H x H' → g x (wipe σ vs) H' fun σ2 H2 => wipe σ2 vs = wipe σ vs ∧ tt σ2 H2 fun b H3 => if b = true then stM P w te σ2 H3 D N else N H3)
section
variable {P : Program} {w : World} {σ : Sl} {H H1 : Hp} {Q : VK} {wi : TI} {g : TG} {tt : TT} {te : TE} {vs : List Nat} {J : It} {n : Nat} {G : Hp → Prop} {Y : Nat → Hp → V → Hp → Prop}
theorem i_sc (h : wi σ H fun J H1 => ScAt P w g tt te vs σ J H1 Q) : tScT P w wi g tt te vs σ H Q := h
theorem scX (wk : Walk J n G Y) (hn : n < 60) (S : Nat → List (Addr × List Str) → Prop) (h0 : S 0 []) (hG : ∀ D B L, Ex H1 B → B D = none → G (upd B D (MO P w L D)))
    (hs : ∀ D i x B H' L (N : Hp → Prop) (T : V → Hp → Prop), i < n → Ex H1 B → B D = none → S i L → Y i (upd B D (MO P w L D)) x H' →
      (∀ y ss H4, Ex (upd B D (MO P w L D)) H4 → Ts H4 y ss → (∀ L' : List (Addr × List Str), (ss ∈ L.map Prod.snd → L' = L) → (ss ∉ L.map Prod.snd → L'.Perm ((y, ss) :: L)) → S (i + 1) L') → T (.ref y) H4) →
      g x (wipe σ vs) H' fun σ2 H2 => wipe σ2 vs = wipe σ vs ∧ tt σ2 H2 fun b H3 => Io b (te σ2 H3 T) (N H3))
    (hd : ∀ D B L, H1 D = none → Ex H1 B → B D = none → S n L → (∀ p ∈ L, Ts B p.1 p.2) → Q (.ref D) (upd B D (MO P w L D))) : ScAt P w g tt te vs σ J H1 Q := by
  intro D hD
  refine ⟨fun i m H => m = n - i ∧ i ≤ n ∧ ∃ B L, H = upd B D (MO P w L D) ∧ Ex H1 B ∧ B D = none ∧ S i L ∧ L.length ≤ i ∧ ∀ p ∈ L, Ts B p.1 p.2, ⟨n, rfl, Nat.zero_le _, H1, [], rfl, Ex.refl _, hD, h0, Nat.le_refl _, fun p hp => nomatch hp⟩, ?_⟩
  rintro i m H ⟨rfl, hi, B, L, rfl, e, hB, s, hl, hL⟩
  have g0 := hG D B L e hB
  by_cases lt : i < n
  · refine .inr ⟨wk.goes i _ lt g0, fun H => ∃ B L, H = upd B D (MO P w L D) ∧ Ex H1 B ∧ B D = none ∧ S (i + 1) L ∧ L.length ≤ i + 1 ∧ ∀ p ∈ L, Ts B p.1 p.2, fun H' z => ⟨n - (i + 1), by omega, rfl, lt, z⟩, fun x H' y => ?_⟩
    refine hs D i x B H' L _ _ lt e hB s (wk.yields i _ x H' lt g0 y) fun y ss H4 z1 z2 z3 => ?_
    have nD : ∀ {q : Addr} {xs : List Str}, Ts H4 q xs → q ≠ D := fun {q xs} h e => by
      have h' : H4 q = some (.tup (xs.map V.str)) := h
      rw [e, ex_same z1] at h'
      exact nomatch h'
    have hL4 : ∀ p ∈ L, Ts H4 p.1 p.2 := fun p hp => by
      have h' : B p.1 = some (.tup (p.2.map V.str)) := hL p hp
      exact z1 _ _ (by rw [upd_ne fun e => by rw [e, hB] at h'; cases h']; exact h')
    refine ⟨L, y, ss, rfl, z2, ex_same z1, hL4, by omega, fun L' y1 y2 => ?_⟩
    refine ⟨off D H4, L', by rw [← off_back (ex_same z1), upd_upd, off_back (ex_same z1)], e.trans (off_ex z1 hB), off_D, z3 L' y1 y2, ?_, fun p hp => ?_⟩
    · by_cases hm : ss ∈ L.map Prod.snd
      · rw [y1 hm]; omega
      · rw [(y2 hm).length_eq, List.length_cons]; omega
    · have : Ts H4 p.1 p.2 := by
        by_cases hm : ss ∈ L.map Prod.snd
        · rw [y1 hm] at hp; exact hL4 p hp
        · rcases List.mem_cons.mp ((y2 hm).mem_iff.mp hp) with e | hp
          · rw [e]; exact z2
          · exact hL4 p hp
      show off D H4 p.1 = _
      rw [off_ne (nD this)]
      exact this
  · have e2 : i = n := by omega
    subst e2
    exact .inl ⟨wk.stops _ g0, hd D B L hD e hB s hL⟩
end
abbrev n_parts : List Str := ["book", "table", "part_of", "giver", "takers", "taker", "joined", "person", "people"]
theorem sc_parts : FnScope n_parts ["book"] (defScope s_parts) := ⟨rfl, rfl, rfl, by decide +kernel, rfl, by decide +kernel, by decide +kernel⟩
/-- what parts and the law's own groups are, told by tuples of names -/
def PartsV (ps : List Str) (c : Str → List Str) (gs : List (List Str)) : Prop := ((∀ x ∈ ps, (c x).length = 1) → gs = []) ∧ ((∀ x ∈ ps, (c x).length ≠ 1) → ∃ ks, Told ps (fun x => ssort (c x)) ks ∧ gs = tsort ks)
def spParts (K : PySem.W.Frag) : Sp := fun vs H Q _ => ∃ x ps cl row, vs = [.ref x] ∧ BookAt K H x ps cl row ∧ RowsOk ps row ∧ ps ≠ [] ∧ ∀ p H' gs, Ex H H' → LP (Ts H') H' p gs → PartsV ps (grp ps (tbl ps row)) gs → Q (.ref p) H'
theorem c_parts (T : Txt K mg) (c_Book_rows : Mth P w K mg base k (cB K) "rows" (spBRows K)) (c_table_rows : Cal P w K mg base k "table_rows" spTable) (c_Book_party : Mth P w K mg base k (cB K) "party" (spBParty K)) (c_Party_people : Mth P w K mg base k (cP K) "people" (spPeople K)) : Cal P w K mg base (k + 1) "parts" (spParts K) := by
  refine T.a_parts.ok sc_parts (fun _ _ _ _ _ _ us hl => match us, hl with | [_], _ => rfl) (fun vs H Q E h => ?_) (fun f cdv A outer s H vs Q E hr h => ⟨_, (pss_cons (ps_set (i := 1) sc_parts.nd rfl (Or.inl rfl) (pe_fn c_table_rows (hr.mono (by omega)) (pa_cons (pe_mth0 (pv 0) T.cl_Book c_Book_rows (hr.mono (by omega))) pa_nil)))
      (pss_cons (ps_lock (ps_setDcW (i := 2) (own := [("person", 7)]) rfl sc_parts.nd rfl rfl (sw_trueD rfl rfl rfl (by decide +kernel)) (pi_keys (pv 1)) (blkOk_by (own := [("person", 7)]) (N := n_parts) (sc := defScope s_parts) (by decide +kernel)) (fun _ _ _ _ _ => (pg_name (i := 7) sc_parts.nd rfl (Or.inl rfl))) (fun _ _ _ _ _ => pts_nil) (fun _ _ _ _ _ => (pv 7)) (fun _ _ _ _ _ => (pe_lst (pa_cons (pv 7) pa_nil))) (hu_of hr) ))
      (pss_cons (ps_lock (ps_for PassesOwn.never rfl (pi_items (pv 1)) (pg_tupH 2 rfl (pgs_cons (pg_name (i := 3) sc_parts.nd rfl (Or.inl rfl)) (pgs_cons (pg_name (i := 4) sc_parts.nd rfl (Or.inl rfl)) pgs_nil))) (pss_one (ps_for PassesOwn.never rfl (pi_list (pv 4)) (pg_name (i := 5) sc_parts.nd rfl (Or.inl rfl)) (pss_one (ps_if (pt_cmpR opNotIn (pv 5) (pe_dget (hu_of hr) (pv 2) (pv 3) (fun _ _ => rfl)) rfl) (pss_cons (ps_set (i := 6) sc_parts.nd rfl (Or.inl rfl) (pe_op op_cat (pe_dget (hu_of hr) (pv 2) (pv 3) (fun _ _ => rfl)) (pe_dget (hu_of hr) (pv 2) (pv 5) (fun _ _ => rfl))))
      (pss_one (ps_for PassesOwn.never rfl (pi_list (pv 6)) (pg_name (i := 7) sc_parts.nd rfl (Or.inl rfl)) (pss_one (ps_dput (hu_of hr) (pv 2) (pv 7) (pv 6) rfl))))) pss_nil))))))
      (pss_cons (ps_if (pt_cmpR op_eq (pe_callB crLen (by rfl) T.f_len b_len (pa_cons (pe_dget (hu_of hr) (pv 2) (pe_ix ixT (pe_mth0 (pe_mth0 (pv 0) T.cl_Book c_Book_party (hr.mono (by omega))) T.cl_Party c_Party_people (hr.mono (by omega))) pe_int (fun _ _ => rfl)) (fun _ _ => rfl)) pa_nil)) pe_int (nomark _)) (pss_one (ps_ret (pe_lst pa_nil))) pss_nil)
      (pss_one (ps_ret (pe_callB (crSortX hr.units rfl) (by rfl) T.f_sorted b_sorted (pa_cons (pe_lock (pe_scT (own := [("people", 8)]) rfl sc_parts.nd hr.units (pi_values (pv 2)) (blkOk_by (own := [("people", 8)]) (N := n_parts) (sc := defScope s_parts) (by decide +kernel)) (fun _ _ _ _ _ => (pg_name (i := 8) sc_parts.nd rfl (Or.inl rfl))) (fun _ _ _ _ _ => pts_nil) (fun _ _ _ _ _ => (pe_callTy crTuple (by rfl) T.f_tuple b_tuple (pa_cons (pe_callB (crSortS hr.units) (by rfl) T.f_sorted b_sorted (pa_cons (pv 8) pa_nil)) pa_nil))))) pa_nil)))))))), ?_⟩)
  · obtain ⟨_, _, _, _, rfl, _⟩ := h; rfl
  · obtain ⟨x, ps, cl, row, rfl, hb, ok, ne, q⟩ := h
    have hl := ok.len
    obtain ⟨bdx, bp, bl, br, hbx, hp0, _⟩ := hb.ex
    walk_at "go"
    refine ⟨x, bdx, _, rfl, hbx, rfl, ?_⟩
    walk_at "go"
    refine ⟨x, ps, cl, row, rfl, hb, ok.nd, by omega, fun r H1 e1 hr hrr => ?_⟩
    walk_at "go"
    refine ⟨r, ps, row, rfl, hrr, ok, fun t H2 e2 ht => ?_⟩
    walk_at "go"
    obtain ⟨ft, ht1, ht2⟩ := ht
    refine i_lockE ht1 trivial fun od => ?_
    walk_at "go"
    refine ⟨t, od, rfl, .inl ⟨_, upd_same, ?_⟩⟩
    refine dcX walkK (by omega) (fun D i B ks f => ks = ps.take i ∧ RowsV B ks f (fun x => [x])) (fun D hD => ⟨rfl, RowsV.nil⟩) (fun D i B ks f e hB _ => ex_in e hB _ _ upd_same) (fun D i v B H3 ks f N hi e hB s y k1 k2 => ?_) fun D B ks f hD e hB s => ?_
    · obtain ⟨rfl, g, hg, rfl⟩ := y
      obtain ⟨rfl, rv⟩ := s
      have hn : g ∉ ps.take i := fun hm => (nodup_snoc_iff.mp (by rw [← take_snoc hg]; exact ok.nd.sublist (List.take_sublist _ _))).2 hm
      walk_at "go"
      refine ⟨rfl, ?_⟩
      walk_at "go"
      refine ⟨by show 1 ≤ sizeLine; decide, fun p hp => ?_⟩
      have e2 : Ex (upd B D (sd (ps.take i) f)) (upd (upd B D (sd (ps.take i) f)) p (.lst [.str g])) := Ex.new hp
      refine k2 g (.ref p) _ e2 ⟨by rw [take_snoc hg, addk_new hn], (rv.ex (off_ex e2 hB)).put ?_⟩
      show off D _ p = _
      exact off_new upd_same (ex_same e2) fun e => nomatch e
    · rw [List.take_length] at s
      obtain ⟨e5, rv⟩ := s
      subst ks
      have ei := ex_in (o := sd ps f) e hB
      have hDt : D ≠ t := fun z => by rw [z, upd_same] at hD; cases hD
      refine ⟨ei _ _ upd_same, ?_⟩
      walk_at "go"

      have e3 : Ex H2 (upd (upd B D (sd ps f)) t (sd ps ft)) := ex_unlock ht1 ei
      have hD2 : H2 D = none := by rw [upd_ne hDt] at hD; exact hD
      have ht3 : upd (upd B D (sd ps f)) t (sd ps ft) t = some (sd ps ft) := upd_same
      have po3 : PoAt ps D (upd (upd B D (sd ps f)) t (sd ps ft)) (fun x => [x]) := ⟨f, upd_some hDt upd_same, RowsV.keep (ei _ _ upd_same) (fun xs e => nomatch e) (rv.ex (ex_in (Ex.refl _) hB))⟩
      generalize upd (upd B D (sd ps f)) t (sd ps ft) = H3 at e3 ht3 po3 ⊢
      clear rv ei hD e hB
      clear f B
      have hdom : ∀ a ∈ ps, ∀ b ∈ tbl ps row a, b ∈ ps := fun a ha b hb => ok.dom a ha b ((List.mem_filter.mp hb).1)
      have tl7 : ∀ a ∈ ps, (tbl ps row a).length ≤ 7 := fun a ha => Nat.le_trans (List.length_filter_le _ _) (ok.rlen ha)
      have hT3 : RowsV H3 ps ft (tbl ps row) := ht2.ex e3
      refine i_lock ht3 trivial fun od2 => ?_
      walk_at "go"
      refine ⟨t, od2, _, rfl, upd_same, ?_⟩
      have hD3 : H3 D ≠ none := by obtain ⟨f, h1, _⟩ := po3; rw [h1]; exact fun e => nomatch e
      have eL : Ex (upd H2 t (.frz od2 (sd ps ft))) (upd H3 t (.frz od2 (sd ps ft))) := fun b o h => by
        by_cases e : b = t
        · rw [e, upd_same] at h ⊢; exact h
        · rw [upd_ne e] at h ⊢; exact e3 b o h
      have hDL : upd H2 t (.frz od2 (sd ps ft)) D = none := by rw [upd_ne hDt]; exact hD2
      have hTL : RowsV (upd H2 t (.frz od2 (sd ps ft))) ps ft (tbl ps row) := RowsV.keep ht1 (fun xs e => nomatch e) ht2
      have poL : PoAt ps D (upd H3 t (.frz od2 (sd ps ft))) (fun x => [x]) := by obtain ⟨f, h1, h2⟩ := po3; exact ⟨f, upd_some hDt h1, RowsV.keep ht3 (fun xs e => nomatch e) h2⟩
      generalize upd H3 t (.frz od2 (sd ps ft)) = H4 at eL poL ⊢
      have htL : upd H2 t (.frz od2 (sd ps ft)) t = some (.frz od2 (sd ps ft)) := upd_same
      generalize hLe : upd H2 t (.frz od2 (sd ps ft)) = L at eL hDL hTL htL ⊢
      refine loop_of walkIt (fun i σ H4 => (∃ o3 o4 o5 o6 o7, σ = [some (.ref x), some (.ref t), some (.ref D), o3, o4, o5, o6, o7, none]) ∧ Ex L H4 ∧ PoAt ps D H4 (mrgA (tbl ps row) (fun x => [x]) (ps.take i)))
        ⟨⟨_, _, _, _, _, rfl⟩, eL, poL⟩ (fun i σ H4 _ z => z.2.1 _ _ htL) (fun i v σ H4 H5 hi z y => ?_) (fun σ H4 z => ?_)
      · obtain ⟨⟨o3, o4, o5, o6, o7, rfl⟩, e4, po⟩ := z
        obtain ⟨T1, x1, x2, rfl, hT, rfl, hx1, hx2⟩ := y
        obtain ⟨g, hg, rfl⟩ := Option.map_eq_some_iff.mp hx1
        have hgm := List.mem_of_getElem? hg
        dsimp only at hx2
        rw [hg] at hx2
        injection hx2 with hx2
        subst hx2
        obtain ⟨bt, hbt, hlt⟩ := hTL g hgm
        rw [hbt]
        have e5 : Ex H4 (upd H4 T1 (.tup [.str g, .ref bt])) := Ex.new hT
        refine i_gT2 upd_same ?_
        walk_at "go"
        have po5 := po.ex e5
        have e45 := e4.trans e5
        have hgt : GrpOk ps (mrgA (tbl ps row) (fun x => [x]) (ps.take i)) := (GrpOk.mrgA hdom grp0 fun x hx => List.mem_of_mem_take hx).1
        rw [take_snoc hg, mrgA_snoc]
        generalize mrgA (tbl ps row) (fun x => [x]) (ps.take i) = c at po5 hgt ⊢
        generalize upd H4 T1 (.tup [.str g, .ref bt]) = H5 at po5 e45 ⊢
        refine forL (e45 _ _ hlt) (fun j σ H6 => (∃ o5 o6 o7, σ = [some (.ref x), some (.ref t), some (.ref D), some (.str g), some (.ref bt), o5, o6, o7, none]) ∧ Ex L H6 ∧ PoAt ps D H6 (mrgR c g ((tbl ps row g).take j))) ⟨⟨_, _, _, rfl⟩, e45, po5⟩ (fun j σ H6 _ z => SqL.of (z.2.1 _ _ hlt)) (fun j v σ H6 hv z => ?_) (fun σ H6 z => ?_)
        · obtain ⟨⟨o5, o6, o7, rfl⟩, e6, po6⟩ := z
          obtain ⟨b, hb, rfl⟩ := map_get hv
          have hbm := hdom g hgm b (List.mem_of_getElem? hb)
          have hgj : GrpOk ps (mrgR c g ((tbl ps row g).take j)) := (GrpOk.mrgR hgm hgt fun x hx => hdom g hgm x (List.mem_of_mem_take hx)).1
          rw [take_snoc hb, mrgR_snoc]
          generalize mrgR c g ((tbl ps row g).take j) = c2 at po6 hgj ⊢
          obtain ⟨f6, hf6, hr6⟩ := id po6
          obtain ⟨ga, hga, hlga⟩ := hr6 g hgm
          obtain ⟨gb, hgb, hlgb⟩ := hr6 b hbm
          walk_at "go"
          refine kd_get (.inl hf6) hgm ?_
          rw [hga]
          refine i_ni (.inr hlga) ?_
          walk_at "go"
          unfold mrg1
          by_cases hba : b ∈ c2 g
          · rw [decide_eq_true hba, if_pos hba]
            walk_at "go"
            exact ⟨⟨_, _, _, rfl⟩, e6, po6⟩
          · rw [decide_eq_false hba, if_neg hba]
            walk_at "go"
            refine kd_get (.inl hf6) hgm ?_
            walk_at "go"
            refine kd_get (.inl hf6) hbm ?_
            rw [hga, hgb]
            have la7 : (c2 g).length ≤ 7 := Nat.le_trans ((hgj.nd g hgm).length_le_of_subset fun y hy => (hgj.same g hgm y hy).1) hl
            have lb7 : (c2 b).length ≤ 7 := Nat.le_trans ((hgj.nd b hbm).length_le_of_subset fun y hy => (hgj.same b hbm y hy).1) hl
            refine ⟨ga, gb, _, _, rfl, rfl, hlga, hlgb, by rw [List.length_map, List.length_map]; exact small (by omega), fun p hp => ?_⟩
            rw [← List.map_append]
            walk_at "go"
            have npD : p ≠ D := ne_new hp hf6
            have e7 : Ex L (upd H6 p (.lst ((c2 g ++ c2 b).map V.str))) := e6.trans (Ex.new hp)
            have hpL : L p = none := ex_none e6 hp
            refine forL (xs := (c2 g ++ c2 b).map V.str) upd_same (fun n σ H8 => (∃ o7, σ = [some (.ref x), some (.ref t), some (.ref D), some (.str g), some (.ref bt), some (.str b), some (.ref p), o7, none]) ∧ Ex L H8 ∧ Ls H8 p (c2 g ++ c2 b) ∧ PoAt ps D H8 (fun y => if y ∈ (c2 g ++ c2 b).take n then c2 g ++ c2 b else c2 y))
              ⟨⟨_, rfl⟩, e7, upd_same, ⟨f6, upd_some npD.symm hf6, by simpa using hr6.ex (Ex.new hp)⟩⟩ (fun n σ H8 _ z => SqL.of z.2.2.1) (fun n v σ H8 hv z => ?_) (fun σ H8 z => ?_)
            · obtain ⟨⟨o7, rfl⟩, e8, hp8, f8, hf8, hr8⟩ := z
              obtain ⟨y, hy, rfl⟩ := map_get hv
              have hyps : y ∈ ps := (List.mem_append.mp (List.mem_of_getElem? hy)).elim (fun z => (hgj.same g hgm y z).1) fun z => (hgj.same b hbm y z).1
              walk_at "go"
              refine kd_put hf8 (small1000 (by omega)) ?_
              rw [addk_in hyps]
              refine ⟨⟨_, rfl⟩, Ex.mut e8 hDL, upd_some npD hp8, _, upd_same, fun z hz => ?_⟩
              rw [take_snoc hy]
              by_cases ezy : z = y
              · subst ezy
                rw [setf_same]
                exact ⟨p, rfl, by show _ = _; dsimp only; rw [if_pos (List.mem_append_right _ (List.mem_singleton.mpr rfl))]; exact upd_some npD hp8⟩
              · rw [setf_ne _ _ ezy]
                obtain ⟨bz, h1, h2⟩ := hr8 z hz
                refine ⟨bz, h1, ?_⟩
                have em : (z ∈ (c2 g ++ c2 b).take n ++ [y]) ↔ z ∈ (c2 g ++ c2 b).take n := by simp [ezy]
                show upd H8 D _ bz = _
                rw [upd_keep h2 hf8 fun e => nomatch e]
                simp only [em]
            · obtain ⟨⟨o7, rfl⟩, e8, hp8, po8⟩ := z
              rw [List.length_map, List.take_length] at po8
              exact ⟨⟨_, _, _, rfl⟩, e8, po8⟩
        · obtain ⟨⟨o5, o6, o7, rfl⟩, e6, po6⟩ := z
          rw [List.length_map, List.take_length] at po6
          exact ⟨⟨_, _, _, _, _, rfl⟩, e6, po6⟩
      · obtain ⟨⟨o3, o4, o5, o6, o7, rfl⟩, e4, po⟩ := z
        rw [List.take_length] at po
        refine ⟨e4 _ _ htL, ?_⟩
        have e9 : Ex H2 (upd H4 t (sd ps ft)) := by rw [← hLe] at e4; exact ex_unlock ht1 e4
        have po9 : PoAt ps D (upd H4 t (sd ps ft)) (grp ps (tbl ps row)) := by obtain ⟨f, h1, h2⟩ := po; exact ⟨f, upd_some hDt h1, RowsV.keep (e4 _ _ htL) (fun xs e => nomatch e) h2⟩
        have e19 := (e1.trans e2).trans e9
        have hDH : H D = none := ex_none (e1.trans e2) hD2
        generalize upd H4 t (sd ps ft) = H9 at e9 e19 po9 ⊢
        obtain ⟨gok, gin⟩ := grp_ok hdom
        unfold grp at po9
        change PoAt ps D H9 (grp ps (tbl ps row)) at po9
        generalize grp ps (tbl ps row) = c at po9 gok gin q ⊢
        obtain ⟨f9, hf9, hr9⟩ := id po9
        obtain ⟨p0, rest, hps⟩ : ∃ p0 rest, ps = p0 :: rest := by
          cases ps with
          | nil => exact absurd rfl ne
          | cons a b => exact ⟨a, b, rfl⟩
        have hp0m : p0 ∈ ps := by rw [hps]; exact List.mem_cons_self
        obtain ⟨g0, hg0, hlg0⟩ := hr9 p0 hp0m
        have hb9 := hb.mono e19
        walk_at "go"
        refine ⟨x, bdx, _, rfl, e19 _ _ hbx, rfl, ?_⟩
        walk_at "go"
        refine ⟨x, ps, cl, row, rfl, hb9, fun pp hpp => ?_⟩
        walk_at "go"
        obtain ⟨pdx, pa, pd, hp1, hp2, hp3⟩ := hpp.ex
        refine ⟨pp, pdx, _, rfl, hp1, rfl, ?_⟩
        walk_at "go"
        refine ⟨pp, ps, cl, rfl, hpp, fun pt hpt => ?_⟩
        walk_at "go"
        refine i_ixT hpt (v := .str p0) (i := 0) (by rw [hps]; exact atI_map (i := 0) V.str rfl) ?_
        refine kd_get (.inl hf9) hp0m ?_
        rw [hg0]
        walk_at "go"
        refine ⟨g0, _, rfl, .inl hlg0, ?_⟩
        rw [List.length_map]
        walk_at "go"
        by_cases h1 : (c p0).length = 1
        · rw [decide_eq_true (by rw [h1]; rfl)]
          walk_at "go"
          refine ⟨by show 0 ≤ sizeLine; decide, fun p hp => ?_⟩
          exact q p _ [] (e19.trans (Ex.new hp)) ⟨[], upd_same, fun z hz => (nomatch hz), rfl⟩ ⟨fun _ => rfl, fun h => absurd h1 (h p0 hp0m)⟩
        · rw [decide_eq_false (by omega)]
          walk_at "go"
          refine i_lockE hf9 trivial fun od3 => ?_
          refine i_sc ?_
          walk_at "go"
          refine ⟨D, od3, _, rfl, upd_same, ?_⟩
          have hr10 : RowsV (upd H9 D (.frz od3 (sd ps f9))) ps f9 c := RowsV.keep hf9 (fun xs e => nomatch e) hr9
          refine scX (walkV (ks := ps) (f := f9)) (by omega) (fun i L => (L.map Prod.snd).Nodup ∧ (∀ k ∈ L.map Prod.snd, ∃ y ∈ ps.take i, k = ssort (c y)) ∧ ∀ y ∈ ps.take i, ssort (c y) ∈ L.map Prod.snd)
            ⟨List.nodup_nil, (fun k hk => nomatch hk), fun y hy => (by simp at hy)⟩ (fun D2 B L e hB => ex_in e hB _ _ upd_same) (fun D2 i v B H11 L N TT hi e hB s y kk => ?_) fun D2 B L hD2 e hB s hL => ?_
          · obtain ⟨rfl, y, hy, rfl⟩ := y
            have hym := List.mem_of_getElem? hy
            obtain ⟨by', hb1, hb2⟩ := hr10 y hym
            rw [hb1]
            have ei := fun o : HO => ex_in (o := o) e hB
            walk_at "go"
            refine ⟨rfl, ?_⟩
            walk_at "go"
            refine ⟨by', c y, rfl, ei _ _ _ hb2, fun l1 hl1 => ?_⟩
            walk_at "go"
            refine ⟨l1, _, rfl, upd_same, fun l2 hl2 => ?_⟩
            walk_at "go"
            refine kk l2 (ssort (c y)) _ ((Ex.new hl1).trans (Ex.new hl2)) upd_same fun L' y1 y2 => ?_
            obtain ⟨s1, s2, s3⟩ := s
            rw [take_snoc hy]
            by_cases hm : ssort (c y) ∈ L.map Prod.snd
            · rw [y1 hm]
              refine ⟨s1, fun k hk => ?_, fun z hz => ?_⟩
              · obtain ⟨z, hz, e2⟩ := s2 k hk
                exact ⟨z, List.mem_append_left _ hz, e2⟩
              · rcases List.mem_append.mp hz with h | h
                · exact s3 z h
                · rw [List.mem_singleton.mp h]; exact hm
            · have pm := (y2 hm).map Prod.snd
              refine ⟨pm.nodup_iff.mpr (List.nodup_cons.mpr ⟨hm, s1⟩), fun k hk => ?_, fun z hz => pm.mem_iff.mpr ?_⟩
              · rcases List.mem_cons.mp (pm.mem_iff.mp hk) with h | h
                · exact ⟨y, List.mem_append_right _ (List.mem_singleton.mpr rfl), h⟩
                · obtain ⟨z, hz, e2⟩ := s2 k h
                  exact ⟨z, List.mem_append_left _ hz, e2⟩
              · rcases List.mem_append.mp hz with h | h
                · exact List.mem_cons_of_mem _ (s3 z h)
                · rw [List.mem_singleton.mp h]; exact List.mem_cons_self
          · obtain ⟨s1, s2, s3⟩ := s
            rw [List.take_length] at s2 s3
            have ei := fun o : HO => ex_in (o := o) e hB
            have hD2D : D2 ≠ D := fun e2 => by rw [e2, upd_same] at hD2; exact nomatch hD2
            have hBD : B D = some (.frz od3 (sd ps f9)) := e _ _ upd_same
            have hT : ∀ p ∈ L, ∀ o : HO, upd (upd B D2 o) D (sd ps f9) p.1 = some (.tup (p.2.map V.str)) := fun p hp o => by
              have h2 : B p.1 = some (.tup (p.2.map V.str)) := hL p hp
              have n1 : p.1 ≠ D := fun e2 => by rw [e2, hBD] at h2; exact nomatch h2
              have n2 : p.1 ≠ D2 := fun e2 => by rw [e2, hB] at h2; exact nomatch h2
              rw [upd_ne n1, upd_ne n2]
              exact h2
            refine ⟨ei _ _ _ upd_same, ?_⟩
            walk_at "go"
            refine ⟨D2, L, rfl, upd_some hD2D upd_same, fun p hp => hT p hp _, fun p hp => ?_, fun L' p pm sm hp => ?_⟩
            · obtain ⟨y, hy, e2⟩ := s2 p.2 (List.mem_map_of_mem hp)
              rw [e2]
              intro e3
              have := (ssort_perm (c y)).mem_iff.mpr (gok.self y hy)
              rw [e3] at this
              exact nomatch this
            · refine q p _ (L'.map Prod.snd) (e19.trans ((ex_unlock hf9 (ei _)).trans (Ex.new hp))) ⟨L', upd_same, fun z hz => ?_, rfl⟩ ⟨fun h => absurd (h p0 hp0m) h1, fun _ => ⟨L.map Prod.snd, ⟨s1, s2, s3⟩, sm⟩⟩
              exact Ex.new hp _ _ (hT z (pm.mem_iff.mp hz) _)
end
end GR
end
section
set_option Elab.async false
set_option linter.all false
set_option maxRecDepth 100000
set_option maxHeartbeats 4000000
set_option autoImplicit false
namespace GR
open PySem PySem.Spec L2
open Evl (Ex)
local macro_rules | `(tactic| walk_at "go") => `(tactic| (repeat (first
  | with_reducible refine i_seq ?_
  | ((with_reducible apply i_var); focus rfl)
  | with_reducible refine i_c ?_
  | with_reducible refine i_cons ?_
  | with_reducible refine i_nil ?_
  | with_reducible refine i_asg ?_
  | with_reducible refine i_name ?_
  | with_reducible refine i_op ?_
  | with_reducible refine i_cb ?_
  | with_reducible refine i_fn ?_
  | with_reducible refine i_ret ?_
  | with_reducible refine i_retN ?_
  | with_reducible refine i_drop ?_
  | with_reducible refine i_next ?_
  | with_reducible refine i_cont ?_
  | with_reducible refine i_break ?_
  | with_reducible refine i_if ?_
  | with_reducible refine br_t ?_
  | with_reducible refine br_f ?_
  | with_reducible refine br_nt ?_
  | with_reducible refine io_t ?_
  | with_reducible refine io_f ?_
  | with_reducible refine io_nt ?_
  | with_reducible refine io_nf ?_
  | with_reducible refine br_nf ?_
  | with_reducible refine o_ip ?_
  | with_reducible refine i_test ?_
  | with_reducible refine i_tB ?_
  | with_reducible refine i_not ?_
  | with_reducible refine i_notV ?_
  | with_reducible refine i_andV ?_
  | with_reducible refine i_orV ?_
  | with_reducible refine i_and ?_
  | with_reducible refine i_or ?_
  | with_reducible refine i_dput ?_
  | with_reducible refine i_dget ?_
  | with_reducible refine i_din ?_
  | with_reducible refine i_dnotin ?_
  | with_reducible refine i_dnewK ?_
  | with_reducible refine i_dnewT ?_
  | with_reducible refine i_fld ?_
  | with_reducible refine i_sfld ?_
  | with_reducible refine i_bm0 ?_
  | with_reducible refine i_bm ?_
  | with_reducible refine i_sl ?_
  | with_reducible refine i_noPart ?_
  | with_reducible refine i_part ?_
  | with_reducible refine i_chain ?_
  | with_reducible refine i_methR ?_
  | with_reducible refine i_tup ?_
  | with_reducible refine i_lst ?_
  | with_reducible refine i_for ?_
  | with_reducible refine i_iList ?_
  | with_reducible refine i_iTup ?_
  | with_reducible refine i_iKeys ?_
  | with_reducible refine i_iRng1 ?_
  | with_reducible refine i_iRng2 ?_
  | with_reducible refine i_iStr ?_
  | with_reducible refine i_iEnum ?_
  | with_reducible refine i_iEnumT ?_
  | with_reducible refine i_lc ?_
  | with_reducible refine i_stD ?_
  | with_reducible refine i_iItemsT ?_
  | with_reducible refine i_dcw ?_
  | with_reducible refine i_dsetd ?_
  | with_reducible refine i_iVals ?_
  | with_reducible refine i_iItems ?_
  | with_reducible refine i_revL ?_
  | with_reducible refine i_yes ?_
  | with_reducible refine o_I0 ?_
  | with_reducible refine o_eqS ?_
  | with_reducible refine o_neS ?_
  | with_reducible refine o_eqI ?_
  | with_reducible refine o_neI ?_
  | with_reducible refine o_eqB ?_
  | with_reducible refine e_ref ?_
  | with_reducible refine e_str ?_
  | with_reducible refine e_int ?_
  | with_reducible refine e_bl ?_
  | with_reducible refine e_str1 ?_
  | with_reducible refine e_int1 ?_
  | with_reducible refine e_int2 ?_
  | with_reducible refine e_str2 ?_)))
section
variable {P : Program} {w : World} {K : PySem.W.Frag} {mg : Str → Option Value} {base : Heap} {k j : Nat}
abbrev n_law_cell : List Str := ["_law_script", "_law_k"]
theorem sc_law_cell : FnScope n_law_cell ["_law_script", "_law_k"] (defScope s_law_cell) := ⟨rfl, rfl, rfl, by decide +kernel, rfl, by decide +kernel, by decide +kernel⟩
def spCellA (K : PySem.W.Frag) : Sp := fun vs H Q _ => ∃ (l : Addr) (ns : List Int) (j : Nat), vs = [.ref l, .int (j : Nat)] ∧ SqL K H l (ns.map V.int) ∧ ∀ n : Int, Q (.int n) H
theorem c_law_cell (T : Txt K mg) : Cal P w K mg base (k + 1) "_law_cell" (spCellA K) := by
  refine T.a_law_cell.ok sc_law_cell (fun _ _ _ _ _ _ us hl => match us, hl with | [_, _], _ => rfl) (fun vs H Q E h => ?_) (fun f cdv A outer s H vs Q E hr h => ⟨_, (pss_cons (ps_if (pt_cmpR op_lt (pv 1) (pe_callB call_len_seq (by rfl) T.f_len b_len (pa_cons (pv 0) pa_nil)) (nomark _)) (pss_one (ps_ret (pe_callTy call_int1 (by rfl) T.f_int b_int (pa_cons (pe_ix ix_list (pv 0) (pv 1) (fun _ _ => rfl)) pa_nil)))) pss_nil)
      (pss_one (ps_ret (pe_op op_add (pe_op op_mul pe_int (pv 1)) (pe_callB call_len_seq (by rfl) T.f_len b_len (pa_cons (pv 0) pa_nil)))))), ?_⟩)
  · obtain ⟨_, _, _, rfl, _⟩ := h; rfl
  · obtain ⟨l, ns, j, rfl, hs, q⟩ := h
    walk_at "go"
    refine ⟨l, _, rfl, .inl hs, ?_⟩
    rw [List.length_map]
    by_cases hj : j < ns.length
    · refine o_I0 ?_
      rw [decide_eq_true (by omega)]
      walk_at "go"
      refine ⟨l, ns.map V.int, (j : Nat), .int (ns.getD j 0), rfl, rfl, hs, atI_cell hj, ?_⟩
      walk_at "go"
      exact q _
    · refine o_I0 ?_
      rw [decide_eq_false (by omega)]
      walk_at "go"
      refine o_I (.inl ⟨by omega, by omega⟩) ?_
      walk_at "go"
      refine ⟨l, _, rfl, .inl hs, ?_⟩
      rw [List.length_map]
      walk_at "go"
      exact q _
abbrev n_law_draws : List Str := ["_law_cell_here", "_law_amount", "_law_great", "_law_draws_here", "_law_k", "_law_number"]
theorem sc_law_draws : FnScope n_law_draws ["_law_cell_here", "_law_amount"] (defScope s_law_draws) := ⟨rfl, rfl, rfl, by decide +kernel, rfl, by decide +kernel, by decide +kernel⟩
def spDraws : Sp := fun vs H Q _ => ∃ (c : Int) (m : Nat), vs = [.int c, .int (m : Nat)] ∧ m ≤ 100 ∧ ∀ p H' (ds : List Nat), Ex H H' → H' p = some (.lst (ds.map fun d : Nat => V.int d)) → ds.length = m → (∀ d ∈ ds, d < 5040) → Q (.ref p) H'
theorem c_law_draws (T : Txt K mg) : Cal P w K mg base (k + 1) "_law_draws" spDraws := by
  refine T.a_law_draws.ok sc_law_draws (fun _ _ _ _ _ _ us hl => match us, hl with | [_, _], _ => rfl) (fun vs H Q E h => ?_) (fun f cdv A outer s H vs Q E hr h => ⟨_, (pss_cons (ps_set (i := 0) sc_law_draws.nd rfl (Or.inl rfl) (pe_callTy call_int1 (by rfl) T.f_int b_int (pa_cons (pv 0) pa_nil)))
      (pss_cons (ps_set (i := 2) sc_law_draws.nd rfl (Or.inl rfl) (pe_cmpR op_ge (pv 0) (pe_op op_pow pe_int pe_int) (nomark _)))
      (pss_cons (ps_set (i := 3) sc_law_draws.nd rfl (Or.inl rfl) (pe_lst pa_nil))
      (pss_cons (ps_for PassesOwn.never rfl (pi_range1 (by rfl) T.f_range (pa_cons (pv 1) pa_nil)) (pg_name (i := 4) sc_law_draws.nd rfl (Or.inl rfl)) (pss_one (ps_if (pt_val (pv 2)) (pss_cons (ps_expr (pe_bm PySem.F.plainAttrs_list PySem.F.slot_list_append PySem.F.type_list_append mt_append (pv 3) (pa_cons (pe_op op_mod (pe_callTy call_int1 (by rfl) T.f_int b_int (pa_cons (pv 0) pa_nil)) pe_int) pa_nil)))
      (pss_one (ps_set (i := 0) sc_law_draws.nd rfl (Or.inl rfl) (pe_op op_fdiv (pv 0) pe_int)))) (pss_cons (ps_set (i := 5) sc_law_draws.nd rfl (Or.inl rfl) (pe_op op_mod (pe_callTy call_int1 (by rfl) T.f_int b_int (pa_cons (pe_op op_mul (pe_op op_add (pe_op op_add (pv 0) (pe_op op_mul pe_int (pv 4))) pe_int) pe_int) pa_nil)) pe_int))
      (pss_cons (ps_set (i := 5) sc_law_draws.nd rfl (Or.inl rfl) (pe_op op_mod (pe_callTy call_int1 (by rfl) T.f_int b_int (pa_cons (pe_op op_mul (pv 5) (pe_op op_add (pe_op op_fdiv (pv 5) pe_int) pe_int)) pa_nil)) pe_int))
      (pss_cons (ps_set (i := 5) sc_law_draws.nd rfl (Or.inl rfl) (pe_op op_mod (pe_callTy call_int1 (by rfl) T.f_int b_int (pa_cons (pe_op op_mul (pv 5) (pe_op op_add (pe_op op_fdiv (pv 5) pe_int) pe_int)) pa_nil)) pe_int))
      (pss_one (ps_expr (pe_bm PySem.F.plainAttrs_list PySem.F.slot_list_append PySem.F.type_list_append mt_append (pv 3) (pa_cons (pe_op op_mod (pe_callTy call_int1 (by rfl) T.f_int b_int (pa_cons (pe_op op_fdiv (pv 5) pe_int) pa_nil)) pe_int) pa_nil))))))))))
      (pss_one (ps_ret (pv 3))))))), ?_⟩)
  · obtain ⟨_, _, rfl, _⟩ := h; rfl
  · obtain ⟨c, m, rfl, hm, q⟩ := h
    walk_at "go"
    refine o_I ⟨by omega, by omega, by decide⟩ ?_
    walk_at "go"
    refine ⟨by show 0 ≤ sizeLine; decide, fun p hp => ?_⟩
    walk_at "go"
    generalize decide ((10 : Int) ^ Int.toNat 18 ≤ c) = gr
    refine forR (by omega) (fun i σ H1 => (∃ c' o4 o5, σ = [some (.int c'), some (.int (m : Nat)), some (.bl gr), some (.ref p), o4, o5]) ∧ Ex H H1 ∧ ∃ ds : List Nat, H1 p = some (.lst (ds.map fun d : Nat => V.int d)) ∧ ds.length = i ∧ ∀ d ∈ ds, d < 5040)
      ⟨⟨_, _, _, rfl⟩, Ex.new hp, [], upd_same, rfl, fun d hd => nomatch hd⟩ (fun i σ H1 hi z => ?_) (fun σ H1 z => ?_)
    · obtain ⟨⟨c', o4, o5, rfl⟩, e1, ds, hd1, hd2, hd3⟩ := z
      have more : ∀ a : Int, ∃ n : Nat, a % 5040 = (n : Int) ∧ n < 5040 := fun a => ⟨(a % 5040).toNat, by omega, by omega⟩
      walk_at "go"
      cases gr with
      | true =>
        walk_at "go"
        refine ⟨ty_l hd1, ?_⟩
        walk_at "go"
        refine o_I (show (0 : Int) < _ by omega) ?_
        walk_at "go"
        obtain ⟨n, en, hn⟩ := more c'
        rw [en]
        refine i_app hd1 (by rw [List.length_map]; exact small1000 (by omega)) ?_
        walk_at "go"
        refine o_I ⟨by omega, by omega⟩ ?_
        walk_at "go"
        refine ⟨⟨_, _, _, rfl⟩, Ex.mut e1 hp, ds ++ [n], by rw [upd_same, List.map_append]; rfl, by rw [List.length_append, List.length_singleton, hd2], fun d hd => ?_⟩
        exact (List.mem_append.mp hd).elim (hd3 d) fun z => by rw [List.mem_singleton.mp z]; exact hn
      | false =>
        walk_at "go"
        refine o_I (.inl ⟨by omega, by omega⟩) ?_
        walk_at "go"
        refine o_I (.inr ⟨by omega, by omega⟩) ?_
        walk_at "go"
        refine o_I (show (0 : Int) < _ by omega) ?_
        walk_at "go"
        generalize hz1 : ((c' + 7919 * (i : Int) + 1) * 48271) % 2147483647 = z1
        have hz1a : 0 ≤ z1 ∧ z1 < 2147483647 := by omega
        clear hz1
        refine o_I ⟨by omega, by omega⟩ ?_
        walk_at "go"
        refine o_I (.inl ⟨by omega, by omega⟩) ?_
        walk_at "go"
        refine o_I (show (0 : Int) < _ by omega) ?_
        walk_at "go"
        generalize hz2 : z1 * (z1 / 1009 + 69621) % 2147483647 = z2
        have hz2a : 0 ≤ z2 ∧ z2 < 2147483647 := by omega
        clear hz2
        refine o_I ⟨by omega, by omega⟩ ?_
        walk_at "go"
        refine o_I (.inl ⟨by omega, by omega⟩) ?_
        walk_at "go"
        refine o_I (show (0 : Int) < _ by omega) ?_
        walk_at "go"
        refine ⟨ty_l hd1, ?_⟩
        walk_at "go"
        refine o_I ⟨by omega, by omega⟩ ?_
        walk_at "go"
        refine o_I (show (0 : Int) < _ by omega) ?_
        walk_at "go"
        generalize z2 * (z2 / 2003 + 40692) % 2147483399 / 16 = z3
        obtain ⟨n, en, hn⟩ := more z3
        rw [en]
        refine i_app hd1 (by rw [List.length_map]; exact small1000 (by omega)) ?_
        walk_at "go"
        refine ⟨⟨_, _, _, rfl⟩, Ex.mut e1 hp, ds ++ [n], by rw [upd_same, List.map_append]; rfl, by rw [List.length_append, List.length_singleton, hd2], fun d hd => ?_⟩
        exact (List.mem_append.mp hd).elim (hd3 d) fun z => by rw [List.mem_singleton.mp z]; exact hn
    · obtain ⟨⟨c', o4, o5, rfl⟩, e1, ds, hd1, hd2, hd3⟩ := z
      walk_at "go"
      exact q p H1 ds e1 hd1 hd2 hd3
end
end GR
end
section
set_option Elab.async false
set_option linter.all false
set_option maxRecDepth 100000
set_option maxHeartbeats 4000000
set_option autoImplicit false
namespace GR
open PySem PySem.Spec L2
open Evl (Ex)
local macro_rules | `(tactic| walk_at "go") => `(tactic| (repeat (first
  | with_reducible refine i_seq ?_
  | ((with_reducible apply i_var); focus rfl)
  | with_reducible refine i_c ?_
  | with_reducible refine i_cons ?_
  | with_reducible refine i_nil ?_
  | with_reducible refine i_asg ?_
  | with_reducible refine i_name ?_
  | with_reducible refine i_op ?_
  | with_reducible refine i_cb ?_
  | with_reducible refine i_fn ?_
  | with_reducible refine i_ret ?_
  | with_reducible refine i_retN ?_
  | with_reducible refine i_drop ?_
  | with_reducible refine i_next ?_
  | with_reducible refine i_cont ?_
  | with_reducible refine i_break ?_
  | with_reducible refine i_if ?_
  | with_reducible refine br_t ?_
  | with_reducible refine br_f ?_
  | with_reducible refine br_nt ?_
  | with_reducible refine io_t ?_
  | with_reducible refine io_f ?_
  | with_reducible refine io_nt ?_
  | with_reducible refine io_nf ?_
  | with_reducible refine br_nf ?_
  | with_reducible refine o_ip ?_
  | with_reducible refine i_test ?_
  | with_reducible refine i_tB ?_
  | with_reducible refine i_not ?_
  | with_reducible refine i_notV ?_
  | with_reducible refine i_andV ?_
  | with_reducible refine i_orV ?_
  | with_reducible refine i_and ?_
  | with_reducible refine i_or ?_
  | with_reducible refine i_dput ?_
  | with_reducible refine i_dget ?_
  | with_reducible refine i_din ?_
  | with_reducible refine i_dnotin ?_
  | with_reducible refine i_dnewK ?_
  | with_reducible refine i_dnewT ?_
  | with_reducible refine i_fld ?_
  | with_reducible refine i_sfld ?_
  | with_reducible refine i_bm0 ?_
  | with_reducible refine i_bm ?_
  | with_reducible refine i_sl ?_
  | with_reducible refine i_noPart ?_
  | with_reducible refine i_part ?_
  | with_reducible refine i_chain ?_
  | with_reducible refine i_methR ?_
  | with_reducible refine i_tup ?_
  | with_reducible refine i_lst ?_
  | with_reducible refine i_for ?_
  | with_reducible refine i_iList ?_
  | with_reducible refine i_iTup ?_
  | with_reducible refine i_iKeys ?_
  | with_reducible refine i_iRng1 ?_
  | with_reducible refine i_iRng2 ?_
  | with_reducible refine i_iStr ?_
  | with_reducible refine i_iEnum ?_
  | with_reducible refine i_iEnumT ?_
  | with_reducible refine i_lc ?_
  | with_reducible refine i_stD ?_
  | with_reducible refine i_iItemsT ?_
  | with_reducible refine i_dcw ?_
  | with_reducible refine i_dsetd ?_
  | with_reducible refine i_iVals ?_
  | with_reducible refine i_iItems ?_
  | with_reducible refine i_revL ?_
  | with_reducible refine i_yes ?_
  | with_reducible refine o_I0 ?_
  | with_reducible refine o_eqS ?_
  | with_reducible refine o_neS ?_
  | with_reducible refine o_eqI ?_
  | with_reducible refine o_neI ?_
  | with_reducible refine o_eqB ?_
  | with_reducible refine e_ref ?_
  | with_reducible refine e_str ?_
  | with_reducible refine e_int ?_
  | with_reducible refine e_bl ?_
  | with_reducible refine e_str1 ?_
  | with_reducible refine e_int1 ?_
  | with_reducible refine e_int2 ?_
  | with_reducible refine e_str2 ?_)))
section
variable {P : Program} {w : World} {K : PySem.W.Frag} {mg : Str → Option Value} {base : Heap} {k j : Nat}
abbrev n_law_people : List Str := ["_law_cell_here", "_law_amount", "_law_letters", "_law_draws_here", "_law_people_here", "_law_k", "_law_number", "_law_size", "_law_name", "_law_j"]
theorem sc_law_people : FnScope n_law_people ["_law_cell_here", "_law_amount"] (defScope s_law_people) := ⟨rfl, rfl, rfl, by decide +kernel, rfl, by decide +kernel, by decide +kernel⟩
def zz (j : Nat) : Str := ⟨#[122, 122, 122, 122, 122, 122, 122, 97 + j]⟩
theorem ab_at {i : Nat} (h : i < 26) : atI (Str.ofString "abcdefghijklmnopqrstuvwxyz").cps.toList (i : Nat) = some (97 + i) := by
  have e : (Str.ofString "abcdefghijklmnopqrstuvwxyz").cps.toList = (List.range 26).map fun i => 97 + i := by decide +kernel
  have hl : (List.range 26)[i]? = some i := by rw [List.getElem?_range h]
  rw [e]
  exact atI_nat (by rw [List.getElem?_map, hl]; rfl)
def spFolk : Sp := fun vs H Q _ => ∃ (c : Int) (m : Nat), vs = [.int c, .int (m : Nat)] ∧ m ≤ 7 ∧ ∀ p H' (ps : List Str), Ex H H' → Ls H' p ps → ps.length = m → ps.Nodup → (∀ s ∈ ps, Nm s) → Q (.ref p) H'
theorem c_law_people (T : Txt K mg) (c_law_draws : Cal P w K mg base k "_law_draws" spDraws) : Cal P w K mg base (k + 1) "_law_people" spFolk := by
  refine T.a_law_people.ok sc_law_people (fun _ _ _ _ _ _ us hl => match us, hl with | [_, _], _ => rfl) (fun vs H Q E h => ?_) (fun f cdv A outer s H vs Q E hr h => ⟨_, (pss_cons (ps_set (i := 2) sc_law_people.nd rfl (Or.inl rfl) pe_str)
      (pss_cons (ps_set (i := 3) sc_law_people.nd rfl (Or.inl rfl) (pe_fn c_law_draws (hr.mono (by omega)) (pa_cons (pv 0) (pa_cons (pe_op op_mul pe_int (pv 1)) pa_nil))))
      (pss_cons (ps_set (i := 4) sc_law_people.nd rfl (Or.inl rfl) (pe_lst pa_nil))
      (pss_cons (ps_for PassesOwn.never rfl (pi_range1 (by rfl) T.f_range (pa_cons (pv 1) pa_nil)) (pg_name (i := 5) sc_law_people.nd rfl (Or.inl rfl)) (pss_cons (ps_set (i := 6) sc_law_people.nd rfl (Or.inl rfl) (pe_op op_add (pe_op op_mul (pe_ix ixL (pv 3) (pe_op op_mul pe_int (pv 5)) (fun _ _ => rfl)) pe_int) (pe_ix ixL (pv 3) (pe_op op_add (pe_op op_mul pe_int (pv 5)) pe_int) (fun _ _ => rfl))))
      (pss_cons (ps_set (i := 7) sc_law_people.nd rfl (Or.inl rfl) (pe_op op_add pe_int (pe_op op_mod (pe_callTy call_int1 (by rfl) T.f_int b_int (pa_cons (pv 6) pa_nil)) pe_int)))
      (pss_cons (ps_set (i := 6) sc_law_people.nd rfl (Or.inl rfl) (pe_op op_fdiv (pv 6) pe_int))
      (pss_cons (ps_set (i := 8) sc_law_people.nd rfl (Or.inl rfl) pe_str)
      (pss_cons (ps_for PassesOwn.never rfl (pi_range1 (by rfl) T.f_range (pa_cons (pv 7) pa_nil)) (pg_name (i := 9) sc_law_people.nd rfl (Or.inl rfl)) (pss_cons (ps_set (i := 8) sc_law_people.nd rfl (Or.inl rfl) (pe_op op_add_str (pv 8) (pe_ix ixS (pv 2) (pe_op op_mod (pe_callTy call_int1 (by rfl) T.f_int b_int (pa_cons (pv 6) pa_nil)) pe_int) (fun _ _ => rfl))))
      (pss_one (ps_set (i := 6) sc_law_people.nd rfl (Or.inl rfl) (pe_op op_fdiv (pv 6) pe_int)))))
      (pss_cons (ps_if (pt_cmpR opIn (pv 8) (pv 4) rfl) (pss_one (ps_set (i := 8) sc_law_people.nd rfl (Or.inl rfl) (pe_op op_add_str pe_str (pe_ix ixS (pv 2) (pv 5) (fun _ _ => rfl))))) pss_nil)
      (pss_one (ps_expr (pe_bm PySem.F.plainAttrs_list PySem.F.slot_list_append PySem.F.type_list_append mt_append (pv 4) (pa_cons (pv 8) pa_nil)))))))))))
      (pss_one (ps_ret (pv 4))))))), ?_⟩)
  · obtain ⟨_, _, rfl, _⟩ := h; rfl
  · obtain ⟨c, m, rfl, hm, q⟩ := h
    walk_at "go"
    refine o_I (.inl ⟨by omega, by omega⟩) ?_
    walk_at "go"
    refine ⟨c, 2 * m, by first | rfl | (rw [Int.natCast_mul]; rfl), by omega, fun d H1 ds e1 hd1 hd2 hd3 => ?_⟩
    walk_at "go"
    refine ⟨by show 0 ≤ sizeLine; decide, fun p hp => ?_⟩
    walk_at "go"
    have hpH : H p = none := ex_none e1 hp
    refine forR (by omega) (fun i σ H2 => (∃ o5 o6 o7 o8 o9, σ = [some (.int c), some (.int (m : Nat)), some (.str (Str.ofString "abcdefghijklmnopqrstuvwxyz")), some (.ref d), some (.ref p), o5, o6, o7, o8, o9]) ∧ Exo p H1 H2 ∧ Ex H H2 ∧ ∃ ps, Ls H2 p ps ∧ ps.length = i ∧ ps.Nodup ∧ ∀ s ∈ ps, Nm s ∧ (s.length = 8 → s.cps.toList[5]? = some 97 ∨ ∃ j, j < i ∧ s = zz j))
      ⟨⟨_, _, _, _, _, rfl⟩, (fun b o hb h => by rw [upd_ne hb]; exact h), e1.trans (Ex.new hp), [], upd_same, rfl, List.nodup_nil, fun s hs => nomatch hs⟩ (fun i σ H2 hi z => ?_) (fun σ H2 z => ?_)
    · obtain ⟨⟨o5, o6, o7, o8, o9, rfl⟩, e2, e3, ps, h1, h2, h3, h4⟩ := z
      have hdp : d ≠ p := fun e => by rw [e, hp] at hd1; exact nomatch hd1
      have hd2' := e2 _ _ hdp hd1
      have l1 : 2 * i < ds.length := by omega
      have l2 : 2 * i + 1 < ds.length := by omega
      walk_at "go"
      refine o_I (.inl ⟨by omega, by omega⟩) ?_
      refine i_ixL hd2' (v := .int (ds[2 * i] : Nat)) (by rw [show (2 : Int) * (i : Int) = ((2 * i : Nat) : Int) by omega]; exact atI_map (fun d : Nat => V.int d) (List.getElem?_eq_getElem l1)) ?_
      have b1 := hd3 ds[2 * i] (List.getElem_mem l1)
      have b2 := hd3 ds[2 * i + 1] (List.getElem_mem l2)
      generalize ds[2 * i] = n1 at b1 ⊢
      walk_at "go"
      refine o_I (.inl ⟨by omega, by omega⟩) ?_
      walk_at "go"
      refine o_I (.inl ⟨by omega, by omega⟩) ?_
      walk_at "go"
      refine i_ixL hd2' (v := .int (ds[2 * i + 1] : Nat)) (by rw [show (2 : Int) * (i : Int) + 1 = ((2 * i + 1 : Nat) : Int) by omega]; exact atI_map (fun d : Nat => V.int d) (List.getElem?_eq_getElem l2)) ?_
      generalize ds[2 * i + 1] = n2 at b2 ⊢
      walk_at "go"
      obtain ⟨N, hN⟩ : ∃ N : Nat, N = n1 * 5040 + n2 := ⟨_, rfl⟩
      have hNl : N < 25401600 := by omega
      rw [show (n1 : Int) * 5040 + (n2 : Int) = (N : Int) by omega]
      walk_at "go"
      refine o_I (show (0 : Int) < _ by omega) ?_
      walk_at "go"
      refine o_I ⟨by omega, by omega⟩ ?_
      walk_at "go"
      obtain ⟨sz, hsz, hs8⟩ : ∃ sz : Nat, (1 : Int) + (N : Int) % 8 = (sz : Int) ∧ 1 ≤ sz ∧ sz ≤ 8 := ⟨1 + N % 8, by omega, by omega, by omega⟩
      rw [hsz]
      obtain ⟨M0, hM0⟩ : ∃ M0 : Nat, M0 = N / 8 := ⟨_, rfl⟩
      rw [show (N : Int) / 8 = (M0 : Int) by omega]
      have hM0l : M0 < 3175200 := by omega
      refine forR (by omega) (fun j σ H3 => (∃ nm M o9, σ = [some (.int c), some (.int (m : Nat)), some (.str (Str.ofString "abcdefghijklmnopqrstuvwxyz")), some (.ref d), some (.ref p), some (.int (i : Nat)), some (.int (M : Nat)), some (.int (sz : Nat)), some (.str nm), o9] ∧ nm.cps.toList.length = j ∧ (∀ x ∈ nm.cps.toList, letter x) ∧ M * 26 ^ j ≤ M0 ∧ ∀ x, nm.cps.toList[5]? = some x → x = 97) ∧ H3 = H2)
        ⟨⟨_, M0, _, rfl, rfl, (fun x hx => nomatch hx), by omega, fun x hx => nomatch hx⟩, rfl⟩ (fun j σ H3 hj z => ?_) (fun σ H3 z => ?_)
      · obtain ⟨⟨nm, M, o9', rfl, g1, g2, g3, g4⟩, rfl⟩ := z
        walk_at "go"
        refine o_I (show (0 : Int) < _ by omega) ?_
        have m26 : M % 26 < 26 := Nat.mod_lt _ (by omega)
        rw [show (M : Int) % 26 = ((M % 26 : Nat) : Int) by omega]
        refine ⟨_, ((M % 26 : Nat) : Int), 97 + M % 26, rfl, rfl, by decide, ab_at m26, ?_⟩
        walk_at "go"
        refine ⟨?_, ?_⟩
        · have hnl : nm.length = j := by rw [← g1]; exact (Array.length_toList).symm
          rw [hnl]
          show j + 1 ≤ sizeLine
          exact small (by omega)
        walk_at "go"
        refine o_I ⟨by omega, by omega⟩ ?_
        walk_at "go"
        rw [show (M : Int) / 26 = ((M / 26 : Nat) : Int) by omega]
        have ecp : (nm ++ (⟨#[97 + M % 26]⟩ : Str)).cps.toList = nm.cps.toList ++ [97 + M % 26] := Array.toList_append ..
        refine ⟨⟨_, M / 26, _, rfl, by rw [ecp, List.length_append, g1]; rfl, fun x hx => ?_, ?_, fun x hx => ?_⟩, rfl⟩
        · rw [ecp] at hx
          rcases List.mem_append.mp hx with h | h
          · exact g2 x h
          · rw [List.mem_singleton.mp h]; exact ⟨by omega, by omega⟩
        · rw [Nat.pow_succ, Nat.mul_comm (26 ^ j) 26, ← Nat.mul_assoc]
          exact Nat.le_trans (Nat.mul_le_mul_right _ (Nat.div_mul_le_self M 26)) g3
        · rw [ecp] at hx
          by_cases h5 : 5 < nm.cps.toList.length
          · rw [List.getElem?_append_left h5] at hx; exact g4 x hx
          · by_cases h6 : nm.cps.toList.length = 5
            · rw [List.getElem?_append_right (by omega), h6] at hx
              have hj5 : j = 5 := by omega
              subst hj5
              have : M = 0 := by omega
              subst this
              simpa using hx.symm
            · rw [List.getElem?_eq_none (by rw [List.length_append]; show _ + 1 ≤ 5; omega)] at hx
              exact nomatch hx
      · obtain ⟨⟨nm, M, o9', rfl, g1, g2, g3, g4⟩, rfl⟩ := z
        have hnl : nm.length = sz := by rw [← g1]; exact (Array.length_toList).symm
        walk_at "go"
        refine i_in (.inr h1) ?_
        have add : ∀ (s : Str) (o6 o7 o9 : Option V), s ∉ ps → Nm s → (s.length = 8 → s.cps.toList[5]? = some 97 ∨ ∃ j, j < i + 1 ∧ s = zz j) →
            (∃ o5 o6' o7' o8 o9', [some (.int c), some (.int (m : Nat)), some (.str (Str.ofString "abcdefghijklmnopqrstuvwxyz")), some (.ref d), some (.ref p), some (.int (i : Nat)), o6, o7, some (.str s), o9] = [some (.int c), some (.int (m : Nat)), some (.str (Str.ofString "abcdefghijklmnopqrstuvwxyz")), some (.ref d), some (.ref p), o5, o6', o7', o8, o9']) ∧ Exo p H1 (upd H3 p (.lst (ps.map V.str ++ [.str s]))) ∧ Ex H (upd H3 p (.lst (ps.map V.str ++ [.str s]))) ∧ ∃ qs, Ls (upd H3 p (.lst (ps.map V.str ++ [.str s]))) p qs ∧ qs.length = i + 1 ∧ qs.Nodup ∧ ∀ s ∈ qs, Nm s ∧ (s.length = 8 → s.cps.toList[5]? = some 97 ∨ ∃ j, j < i + 1 ∧ s = zz j) := fun s o6 o7 o9 n1 n2 n3 => by
          refine ⟨⟨_, _, _, _, _, rfl⟩, fun b o hb h => by rw [upd_ne hb]; exact e2 b o hb h, Ex.mut e3 hpH, ps ++ [s], by show _ = _; rw [upd_same, List.map_append]; rfl, by rw [List.length_append, h2]; rfl, GM.nodup_snoc h3 n1, fun y hy => ?_⟩
          rcases List.mem_append.mp hy with h | h
          · refine ⟨(h4 y h).1, fun e8 => ((h4 y h).2 e8).imp id fun ⟨j, hj, e⟩ => ⟨j, by omega, e⟩⟩
          · rw [List.mem_singleton.mp h]; exact ⟨n2, n3⟩
        by_cases hin : nm ∈ ps
        · rw [decide_eq_true hin]
          walk_at "go"
          refine ⟨_, (i : Nat), 97 + i, rfl, rfl, by decide, ab_at (by omega), ?_⟩
          walk_at "go"
          have ez : Str.ofString "zzzzzzz" ++ (⟨#[97 + i]⟩ : Str) = zz i := by
            have : Str.ofString "zzzzzzz" = ⟨#[122, 122, 122, 122, 122, 122, 122]⟩ := by decide +kernel
            rw [this]
            rfl
          refine ⟨by rw [show (Str.ofString "zzzzzzz").length = 7 by decide +kernel]; exact small (by show 7 + 1 ≤ 1000; omega), ?_⟩
          rw [ez]
          walk_at "go"
          refine ⟨ty_l h1, ?_⟩
          walk_at "go"
          refine i_app h1 (by rw [List.length_map]; exact small1000 (by omega)) ?_
          walk_at "go"
          refine add (zz i) _ _ _ (fun hm => ?_) ⟨by show 1 ≤ 8; omega, by show 8 ≤ 8; omega, fun x hx => ?_⟩ fun _ => .inr ⟨i, by omega, rfl⟩
          · rcases (h4 _ hm).2 rfl with h | ⟨j, hj, h⟩
            · have : (zz i).cps.toList[5]? = some 122 := rfl
              rw [this] at h
              exact absurd (Option.some.inj h) (by decide)
            · have e7 : (zz i).cps.toList[7]? = (zz j).cps.toList[7]? := by rw [h]
              have e8 : some (97 + i) = some (97 + j) := e7
              have := Option.some.inj e8
              omega
          · have hx' : x ∈ [122, 122, 122, 122, 122, 122, 122, 97 + i] := hx
            simp only [List.mem_cons, List.not_mem_nil, or_false] at hx'
            constructor <;> omega
        · rw [decide_eq_false hin]
          walk_at "go"
          refine ⟨ty_l h1, ?_⟩
          walk_at "go"
          refine i_app h1 (by rw [List.length_map]; exact small1000 (by omega)) ?_
          walk_at "go"
          refine add nm _ _ _ hin ⟨by omega, by omega, g2⟩ fun e8 => .inl ?_
          have hl5 : 5 < nm.cps.toList.length := by rw [Array.length_toList]; show 5 < nm.length; omega
          rw [List.getElem?_eq_getElem hl5, g4 _ (List.getElem?_eq_getElem hl5)]
    · obtain ⟨⟨o5, o6, o7, o8, o9, rfl⟩, e2, e3, ps, h1, h2, h3, h4⟩ := z
      walk_at "go"
      exact q p H2 ps e3 h1 h2 h3 fun s hs => (h4 s hs).1
end
end GR
end
section
set_option Elab.async false
set_option linter.all false
set_option maxRecDepth 100000
set_option maxHeartbeats 4000000
set_option autoImplicit false
namespace GR
open PySem PySem.Spec L2
open Evl (Ex)
local macro_rules | `(tactic| walk_at "go") => `(tactic| (repeat (first
  | with_reducible refine i_seq ?_
  | ((with_reducible apply i_var); focus rfl)
  | with_reducible refine i_c ?_
  | with_reducible refine i_cons ?_
  | with_reducible refine i_nil ?_
  | with_reducible refine i_asg ?_
  | with_reducible refine i_name ?_
  | with_reducible refine i_op ?_
  | with_reducible refine i_cb ?_
  | with_reducible refine i_fn ?_
  | with_reducible refine i_ret ?_
  | with_reducible refine i_retN ?_
  | with_reducible refine i_drop ?_
  | with_reducible refine i_next ?_
  | with_reducible refine i_cont ?_
  | with_reducible refine i_break ?_
  | with_reducible refine i_if ?_
  | with_reducible refine br_t ?_
  | with_reducible refine br_f ?_
  | with_reducible refine br_nt ?_
  | with_reducible refine io_t ?_
  | with_reducible refine io_f ?_
  | with_reducible refine io_nt ?_
  | with_reducible refine io_nf ?_
  | with_reducible refine br_nf ?_
  | with_reducible refine o_ip ?_
  | with_reducible refine i_test ?_
  | with_reducible refine i_tB ?_
  | with_reducible refine i_not ?_
  | with_reducible refine i_notV ?_
  | with_reducible refine i_andV ?_
  | with_reducible refine i_orV ?_
  | with_reducible refine i_and ?_
  | with_reducible refine i_or ?_
  | with_reducible refine i_dput ?_
  | with_reducible refine i_dget ?_
  | with_reducible refine i_din ?_
  | with_reducible refine i_dnotin ?_
  | with_reducible refine i_dnewK ?_
  | with_reducible refine i_dnewT ?_
  | with_reducible refine i_fld ?_
  | with_reducible refine i_sfld ?_
  | with_reducible refine i_bm0 ?_
  | with_reducible refine i_bm ?_
  | with_reducible refine i_sl ?_
  | with_reducible refine i_noPart ?_
  | with_reducible refine i_part ?_
  | with_reducible refine i_chain ?_
  | with_reducible refine i_methR ?_
  | with_reducible refine i_tup ?_
  | with_reducible refine i_lst ?_
  | with_reducible refine i_for ?_
  | with_reducible refine i_iList ?_
  | with_reducible refine i_iTup ?_
  | with_reducible refine i_iKeys ?_
  | with_reducible refine i_iRng1 ?_
  | with_reducible refine i_iRng2 ?_
  | with_reducible refine i_iStr ?_
  | with_reducible refine i_iEnum ?_
  | with_reducible refine i_iEnumT ?_
  | with_reducible refine i_lc ?_
  | with_reducible refine i_stD ?_
  | with_reducible refine i_iItemsT ?_
  | with_reducible refine i_dcw ?_
  | with_reducible refine i_dsetd ?_
  | with_reducible refine i_iVals ?_
  | with_reducible refine i_iItems ?_
  | with_reducible refine i_revL ?_
  | with_reducible refine i_yes ?_
  | with_reducible refine o_I0 ?_
  | with_reducible refine o_eqS ?_
  | with_reducible refine o_neS ?_
  | with_reducible refine o_eqI ?_
  | with_reducible refine o_neI ?_
  | with_reducible refine o_eqB ?_
  | with_reducible refine e_ref ?_
  | with_reducible refine e_str ?_
  | with_reducible refine e_int ?_
  | with_reducible refine e_bl ?_
  | with_reducible refine e_str1 ?_
  | with_reducible refine e_int1 ?_
  | with_reducible refine e_int2 ?_
  | with_reducible refine e_str2 ?_)))
section
variable {P : Program} {w : World} {K : PySem.W.Frag} {mg : Str → Option Value} {base : Heap} {k j : Nat}
theorem i_dsx {H : Hp} {d : Addr} {ds : List Nat} {i : Nat} {z : Int} {Q : VK} (h : H d = some (.lst (ds.map fun d : Nat => V.int d))) (e : z = (i : Nat)) (hi : i < ds.length) (q : ∀ n : Nat, n ∈ ds → Q (.int n) H) : oIxL (.ref d) (.int z) H Q := by
  subst e
  exact i_ixL h (atI_map (fun d : Nat => V.int d) (List.getElem?_eq_getElem hi)) (q _ (List.getElem_mem hi))
theorem i_lsx {H : Hp} {d : Addr} {xs : List Str} {i : Nat} {z : Int} {Q : VK} (h : Ls H d xs) (e : z = (i : Nat)) (hi : i < xs.length) (q : Q (.str xs[i]) H) : oIxL (.ref d) (.int z) H Q := by
  subst e
  exact i_ixL h (atI_map V.str (List.getElem?_eq_getElem hi)) q
theorem cut_drop {α : Type} (xs : List α) (f : α → V) {i : Nat} (h : i ≤ xs.length) : cutV (xs.map f) (some (i : Nat)) none = (xs.drop i).map f := by
  unfold cutV
  have e : HT.sIx (xs.map f).length 0 (some (i : Nat)) = i := by
    rw [List.length_map]
    rw [HT.sIx_nat, Nat.min_eq_left h]
  have e0 : HT.sIx (xs.map f).length (xs.map f).length none = (xs.map f).length := rfl
  rw [e, e0, List.take_of_length_le (by rw [List.length_drop]; exact Nat.le_refl _), List.map_drop]
theorem i_slT {H : Hp} {a : Addr} {xs : List V} {i : Nat} {z : Int} {Q : VK} (h : H a = some (.lst xs)) (e : z = (i : Nat)) (hi : i ≤ xs.length) (q : ∀ p, H p = none → Q (.ref p) (upd H p (.lst (xs.take i)))) : oSlL (.ref a) none (some z) H Q := by
  subst e
  refine ⟨a, xs, rfl, h, fun p hp => ?_⟩
  have := cut_take xs id hi
  rw [List.map_id, List.map_id] at this
  rw [this]
  exact q p hp
theorem i_slD {H : Hp} {a : Addr} {xs : List V} {i : Nat} {z : Int} {Q : VK} (h : H a = some (.lst xs)) (e : z = (i : Nat)) (hi : i ≤ xs.length) (q : ∀ p, H p = none → Q (.ref p) (upd H p (.lst (xs.drop i)))) : oSlL (.ref a) (some z) none H Q := by
  subst e
  refine ⟨a, xs, rfl, h, fun p hp => ?_⟩
  have := cut_drop xs id hi
  rw [List.map_id, List.map_id] at this
  rw [this]
  exact q p hp
abbrev n_law_barred : List Str := ["_law_cell_here", "_law_people_here", "_law_many", "_law_draws_here", "_law_weight", "_law_pairs", "_law_k", "_law_a", "_law_b"]
theorem sc_law_barred : FnScope n_law_barred ["_law_cell_here", "_law_people_here"] (defScope s_law_barred) := ⟨rfl, rfl, rfl, by decide +kernel, rfl, by decide +kernel, by decide +kernel⟩
def spBarred : Sp := fun vs H Q _ => ∃ (c : Int) (a : Addr) (ps : List Str), vs = [.int c, .ref a] ∧ Ls H a ps ∧ 2 ≤ ps.length ∧ ps.length ≤ 7 ∧ ps.Nodup ∧
  ∀ p H' prs, Ex H H' → LP (Ts H') H' p prs → (∀ xs ∈ prs, pairOk ps xs) → prs.length ≤ 49 → Q (.ref p) H'
theorem c_law_barred (T : Txt K mg) (c_law_draws : Cal P w K mg base k "_law_draws" spDraws) : Cal P w K mg base (k + 1) "_law_barred" spBarred := by
  refine T.a_law_barred.ok sc_law_barred (fun _ _ _ _ _ _ us hl => match us, hl with | [_, _], _ => rfl) (fun vs H Q E h => ?_) (fun f cdv A outer s H vs Q E hr h => ⟨_, (pss_cons (ps_set (i := 2) sc_law_barred.nd rfl (Or.inl rfl) (pe_callB crLen (by rfl) T.f_len b_len (pa_cons (pv 1) pa_nil)))
      (pss_cons (ps_set (i := 3) sc_law_barred.nd rfl (Or.inl rfl) (pe_fn c_law_draws (hr.mono (by omega)) (pa_cons (pv 0) (pa_cons (pe_op op_add (pe_op op_mul (pv 2) (pv 2)) pe_int) pa_nil))))
      (pss_cons (ps_set (i := 4) sc_law_barred.nd rfl (Or.inl rfl) (pe_ix ixL (pe_lst (pa_cons pe_int (pa_cons pe_int (pa_cons pe_int (pa_cons pe_int (pa_cons pe_int (pa_cons pe_int pa_nil))))))) (pe_op op_mod (pe_callTy call_int1 (by rfl) T.f_int b_int (pa_cons (pe_ix ixL (pv 3) pe_int (fun _ _ => rfl)) pa_nil)) pe_int) (fun _ _ => rfl)))
      (pss_cons (ps_set (i := 5) sc_law_barred.nd rfl (Or.inl rfl) (pe_lst pa_nil))
      (pss_cons (ps_for PassesOwn.never rfl (pi_range1 (by rfl) T.f_range (pa_cons (pe_op op_mul (pv 2) (pv 2)) pa_nil)) (pg_name (i := 6) sc_law_barred.nd rfl (Or.inl rfl)) (pss_cons (ps_set (i := 7) sc_law_barred.nd rfl (Or.inl rfl) (pe_ix ixL (pv 1) (pe_op op_fdiv (pv 6) (pv 2)) (fun _ _ => rfl)))
      (pss_cons (ps_set (i := 8) sc_law_barred.nd rfl (Or.inl rfl) (pe_ix ixL (pv 1) (pe_op op_mod (pe_callTy call_int1 (by rfl) T.f_int b_int (pa_cons (pv 6) pa_nil)) (pv 2)) (fun _ _ => rfl)))
      (pss_one (ps_if (PW.pt (pw_and (pt_cmpR op_ne (pv 7) (pv 8) (nomark _)) (pw_and1 (pt_cmpR op_lt (pe_op op_mod (pe_callTy call_int1 (by rfl) T.f_int b_int (pa_cons (pe_ix ixL (pv 3) (pe_op op_add (pv 6) pe_int) (fun _ _ => rfl)) pa_nil)) pe_int) (pv 4) (nomark _))))) (pss_one (ps_expr (pe_bm PySem.F.plainAttrs_list PySem.F.slot_list_append PySem.F.type_list_append mt_append (pv 5) (pa_cons (pe_tup (pa_cons (pv 7) (pa_cons (pv 8) pa_nil))) pa_nil)))) pss_nil)))))
      (pss_cons (ps_if (pt_cmpR op_eq (pe_op op_mod (pe_callTy call_int1 (by rfl) T.f_int b_int (pa_cons (pe_op op_fdiv (pe_ix ixL (pv 3) pe_int (fun _ _ => rfl)) pe_int) pa_nil)) pe_int) pe_int (nomark _)) (pss_one (ps_set (i := 5) sc_law_barred.nd rfl (Or.inl rfl) (pe_revL (pv 5)))) pss_nil)
      (pss_one (ps_ret (pv 5))))))))), ?_⟩)
  · obtain ⟨_, _, _, rfl, _⟩ := h; rfl
  · obtain ⟨c, a, ps, rfl, ha, h2, h7, nd, q⟩ := h
    have hsq : ps.length * ps.length ≤ 49 := Nat.mul_le_mul h7 h7
    walk_at "go"
    refine ⟨a, _, rfl, .inl ha, ?_⟩
    rw [List.length_map]
    walk_at "go"
    refine o_I (.inl ⟨by omega, by omega⟩) ?_
    walk_at "go"
    refine ⟨c, ps.length * ps.length + 1, rfl, by omega, fun d H1 ds e1 hd1 hd2 hd3 => ?_⟩
    walk_at "go"
    refine ⟨by show 6 ≤ sizeLine; decide, fun wl hwl => ?_⟩
    walk_at "go"
    have e2 : Ex H1 (upd H1 wl (.lst [.int 0, .int 1, .int 2, .int 3, .int 5, .int 8])) := Ex.new hwl
    have hw2 : upd H1 wl (.lst [.int 0, .int 1, .int 2, .int 3, .int 5, .int 8]) wl = some (.lst ([0, 1, 2, 3, 5, 8].map fun d : Nat => V.int d)) := upd_same
    generalize upd H1 wl (.lst [.int 0, .int 1, .int 2, .int 3, .int 5, .int 8]) = H2 at e2 hw2 ⊢
    have e12 := e1.trans e2
    refine i_dsx (i := 0) (e2 _ _ hd1) rfl (by omega) fun n0 hn0 => ?_
    walk_at "go"
    refine o_I (show (0 : Int) < _ by omega) ?_
    refine i_dsx (i := n0 % 6) hw2 (by omega) (Nat.mod_lt _ (by decide)) fun w0 hw0 => ?_
    walk_at "go"
    refine ⟨by show 0 ≤ sizeLine; decide, fun r hr => ?_⟩
    walk_at "go"
    refine o_I (.inl ⟨by omega, by omega⟩) ?_
    walk_at "go"
    have hrH : H r = none := ex_none e12 hr
    rw [show (ps.length : Int) * (ps.length : Int) = ((ps.length * ps.length : Nat) : Int) from (Int.natCast_mul _ _).symm]
    refine forR (by omega) (fun i σ H3 => (∃ o6 o7 o8, σ = [some (.int c), some (.ref a), some (.int (ps.length : Nat)), some (.ref d), some (.int (w0 : Nat)), some (.ref r), o6, o7, o8]) ∧ Ex H H3 ∧ (∃ zs : List (Addr × List Str), H3 r = some (.lst (zs.map fun z => V.ref z.1)) ∧ (∀ z ∈ zs, Ts H3 z.1 z.2 ∧ pairOk ps z.2) ∧ zs.length ≤ i) ∧ H3 d = some (.lst (ds.map fun d : Nat => V.int d)))
      ⟨⟨_, _, _, rfl⟩, e12.trans (Ex.new hr), ⟨[], upd_same, (fun z hz => nomatch hz), Nat.le_refl _⟩, Ex.new hr _ _ (e2 _ _ hd1)⟩ (fun i σ H3 hi z => ?_) (fun σ H3 z => ?_)
    · obtain ⟨⟨o6, o7, o8, rfl⟩, e3, ⟨zs, hz1, hz2, hz3⟩, hd3'⟩ := z
      have q1 : i / ps.length < ps.length := by rw [Nat.div_lt_iff_lt_mul (by omega)]; exact hi
      have q2 : i % ps.length < ps.length := Nat.mod_lt _ (by omega)
      walk_at "go"
      refine o_I ⟨by omega, by omega⟩ ?_
      refine i_lsx (i := i / ps.length) (e3 _ _ ha) (Int.natCast_ediv _ _).symm q1 ?_
      walk_at "go"
      refine o_I (show (0 : Int) < _ by omega) ?_
      refine i_lsx (i := i % ps.length) (e3 _ _ ha) (Int.natCast_emod _ _).symm q2 ?_
      have ma := List.getElem_mem q1
      have mb := List.getElem_mem q2
      generalize ps[i / ps.length] = pa at ma ⊢
      generalize ps[i % ps.length] = pb at mb ⊢
      walk_at "go"
      by_cases hab : pa = pb
      · rw [decide_eq_true hab]
        walk_at "go"
        exact ⟨⟨_, _, _, rfl⟩, e3, ⟨zs, hz1, hz2, by omega⟩, hd3'⟩
      · rw [decide_eq_false hab]
        walk_at "go"
        refine i_dsx (i := i + 1) hd3' (by omega) (by omega) fun n1 hn1 => ?_
        walk_at "go"
        refine o_I (show (0 : Int) < _ by omega) ?_
        walk_at "go"
        by_cases hlt : (n1 : Int) % 12 < (w0 : Int)
        · rw [decide_eq_true hlt]
          walk_at "go"
          refine ⟨ty_l hz1, ?_⟩
          walk_at "go"
          refine ⟨by show 2 ≤ sizeLine; decide, fun t ht => ?_⟩
          walk_at "go"
          have ntr : t ≠ r := ne_new ht hz1
          refine i_app (upd_some ntr.symm hz1) (by rw [List.length_map]; exact small1000 (by omega)) ?_
          walk_at "go"
          have htH : H t = none := ex_none e3 ht
          have ndr : d ≠ r := fun e => by rw [e, hz1] at hd3'; injection hd3' with e; injection e with e; cases zs with
            | nil => cases ds with
              | nil => exact nomatch hn0
              | cons => cases e
            | cons => cases ds with
              | nil => exact nomatch hn0
              | cons => injection e with e _; cases e
          refine ⟨⟨_, _, _, rfl⟩, Ex.mut (e3.trans (Ex.new ht)) hrH, ⟨zs ++ [(t, [pa, pb])], by rw [upd_same, List.map_append]; rfl, fun z hz => ?_, by rw [List.length_append, List.length_singleton]; omega⟩, ?_⟩
          · rcases List.mem_append.mp hz with h | h
            · have h5 : H3 z.1 = _ := (hz2 z h).1
              refine ⟨?_, (hz2 z h).2⟩
              show upd _ _ _ z.1 = _
              rw [upd_ne fun e => by rw [e, hz1] at h5; exact nomatch h5]
              exact Ex.new ht _ _ h5
            · rw [List.mem_singleton.mp h]
              exact ⟨upd_some ntr upd_same, pa, pb, rfl, hab, ma, mb⟩
          · rw [upd_ne ndr]; exact Ex.new ht _ _ hd3'
        · rw [decide_eq_false hlt]
          walk_at "go"
          exact ⟨⟨_, _, _, rfl⟩, e3, ⟨zs, hz1, hz2, by omega⟩, hd3'⟩
    · obtain ⟨⟨o6, o7, o8, rfl⟩, e3, ⟨zs, hz1, hz2, hz3⟩, hd3'⟩ := z
      walk_at "go"
      refine i_dsx (i := 0) hd3' rfl (by omega) fun n1 hn1 => ?_
      walk_at "go"
      refine o_I ⟨by omega, by omega⟩ ?_
      walk_at "go"
      refine o_I (show (0 : Int) < _ by omega) ?_
      walk_at "go"
      by_cases h1 : (n1 : Int) / 6 % 2 = 1
      · rw [decide_eq_true h1]
        walk_at "go"
        refine ⟨r, _, rfl, SqL.of hz1, fun p hp => ?_⟩
        walk_at "go"
        refine q p _ (zs.reverse.map Prod.snd) (e3.trans (Ex.new hp)) ⟨zs.reverse, by rw [upd_same, List.map_reverse], fun z hz => Ex.new hp _ _ (hz2 z (List.mem_reverse.mp hz)).1, rfl⟩ (fun xs hxs => ?_) (by rw [List.length_map, List.length_reverse]; omega)
        obtain ⟨z, hz, rfl⟩ := List.mem_map.mp hxs
        exact (hz2 z (List.mem_reverse.mp hz)).2
      · rw [decide_eq_false h1]
        walk_at "go"
        refine q r H3 (zs.map Prod.snd) e3 ⟨zs, hz1, fun z hz => (hz2 z hz).1, rfl⟩ (fun xs hxs => ?_) (by rw [List.length_map]; omega)
        obtain ⟨z, hz, rfl⟩ := List.mem_map.mp hxs
        exact (hz2 z hz).2
abbrev n_law_hidden : List Str := ["_law_cell_here", "_law_people_here", "_law_draws_here", "_law_order", "_law_k", "_law_at", "_law_shift", "_law_takers"]
theorem sc_law_hidden : FnScope n_law_hidden ["_law_cell_here", "_law_people_here"] (defScope s_law_hidden) := ⟨rfl, rfl, rfl, by decide +kernel, rfl, by decide +kernel, by decide +kernel⟩
def spHidden : Sp := fun vs H Q _ => ∃ (c : Int) (a : Addr) (ps : List Str), vs = [.int c, .ref a] ∧ Ls H a ps ∧ 2 ≤ ps.length ∧ ps.length ≤ 7 ∧ ps.Nodup ∧
  ∀ p H' os, ∀ h : Str → Str, Ex H H' → H' p = some (sd os fun g => .str (h g)) → os.Perm ps → (∀ x ∈ ps, h x ∈ ps ∧ h x ≠ x) → (∀ x ∈ ps, ∀ y ∈ ps, h x = h y → x = y) → Q (.ref p) H'
theorem c_law_hidden (T : Txt K mg) (c_law_draws : Cal P w K mg base k "_law_draws" spDraws) : Cal P w K mg base (k + 1) "_law_hidden" spHidden := by
  refine T.a_law_hidden.ok sc_law_hidden (fun _ _ _ _ _ _ us hl => match us, hl with | [_, _], _ => rfl) (fun vs H Q E h => ?_) (fun f cdv A outer s H vs Q E hr h => ⟨_, (pss_cons (ps_set (i := 2) sc_law_hidden.nd rfl (Or.inl rfl) (pe_fn c_law_draws (hr.mono (by omega)) (pa_cons (pv 0) (pa_cons (pe_op op_add (pe_callB crLen (by rfl) T.f_len b_len (pa_cons (pv 1) pa_nil)) pe_int) pa_nil))))
      (pss_cons (ps_set (i := 3) sc_law_hidden.nd rfl (Or.inl rfl) (pe_lst pa_nil))
      (pss_cons (ps_for PassesOwn.never rfl (pi_range1 (by rfl) T.f_range (pa_cons (pe_callB crLen (by rfl) T.f_len b_len (pa_cons (pv 1) pa_nil)) pa_nil)) (pg_name (i := 4) sc_law_hidden.nd rfl (Or.inl rfl)) (pss_cons (ps_set (i := 5) sc_law_hidden.nd rfl (Or.inl rfl) (pe_op op_mod (pe_callTy call_int1 (by rfl) T.f_int b_int (pa_cons (pe_ix ixL (pv 2) (pv 4) (fun _ _ => rfl)) pa_nil)) (pe_op op_add (pe_callB crLen (by rfl) T.f_len b_len (pa_cons (pv 3) pa_nil)) pe_int)))
      (pss_one (ps_set (i := 3) sc_law_hidden.nd rfl (Or.inl rfl) (pe_op op_cat (pe_op op_cat (pe_slice slL (pv 3) po_none (po_some (pv 5))) (pe_lst (pa_cons (pe_ix ixL (pv 1) (pv 4) (fun _ _ => rfl)) pa_nil))) (pe_slice slL (pv 3) (po_some (pv 5)) po_none))))))
      (pss_cons (ps_set (i := 6) sc_law_hidden.nd rfl (Or.inl rfl) (pe_op op_add pe_int (pe_op op_mod (pe_callTy call_int1 (by rfl) T.f_int b_int (pa_cons (pe_ix ixL (pv 2) (pe_callB crLen (by rfl) T.f_len b_len (pa_cons (pv 1) pa_nil)) (fun _ _ => rfl)) pa_nil)) (pe_op op_sub (pe_callB crLen (by rfl) T.f_len b_len (pa_cons (pv 1) pa_nil)) pe_int))))
      (pss_cons (ps_set (i := 7) sc_law_hidden.nd rfl (Or.inl rfl) pe_dnewK)
      (pss_cons (ps_for PassesOwn.never rfl (pi_range1 (by rfl) T.f_range (pa_cons (pe_callB crLen (by rfl) T.f_len b_len (pa_cons (pv 3) pa_nil)) pa_nil)) (pg_name (i := 4) sc_law_hidden.nd rfl (Or.inl rfl)) (pss_one (ps_dput (hu_of hr) (pv 7) (pe_ix ixL (pv 3) (pv 4) (fun _ _ => rfl)) (pe_ix ixL (pv 3) (pe_op op_mod (pe_callTy call_int1 (by rfl) T.f_int b_int (pa_cons (pe_op op_add (pv 4) (pv 6)) pa_nil)) (pe_callB crLen (by rfl) T.f_len b_len (pa_cons (pv 3) pa_nil))) (fun _ _ => rfl)) rfl)))
      (pss_one (ps_ret (pv 7))))))))), ?_⟩)
  · obtain ⟨_, _, _, rfl, _⟩ := h; rfl
  · obtain ⟨c, a, ps, rfl, ha, h2, h7, nd, q⟩ := h
    walk_at "go"
    refine ⟨a, _, rfl, .inl ha, ?_⟩
    rw [List.length_map]
    walk_at "go"
    refine ⟨c, ps.length + 1, rfl, by omega, fun d H1 ds e1 hd1 hd2 hd3 => ?_⟩
    walk_at "go"
    refine ⟨by show 0 ≤ sizeLine; decide, fun r0 hr0 => ?_⟩
    walk_at "go"
    have e2 := e1.trans (Ex.new (o := .lst []) hr0)
    refine ⟨a, _, rfl, .inl (e2 _ _ ha), ?_⟩
    rw [List.length_map]
    refine forR (by omega) (fun i σ H3 => ∃ r os o4 o5, σ = [some (.int c), some (.ref a), some (.ref d), some (.ref r), o4, o5, none, none] ∧ Ex H1 H3 ∧ Ls H3 r os ∧ os.Perm (ps.take i))
      ⟨r0, [], _, _, rfl, Ex.new hr0, upd_same, by simp⟩ (fun i σ H3 hi z => ?_) (fun σ H3 z => ?_)
    · obtain ⟨r, os, o4, o5, rfl, e3, hr, pm⟩ := z
      have ol : os.length = i := by rw [pm.length_eq, List.length_take]; omega
      walk_at "go"
      refine i_dsx (i := i) (e3 _ _ hd1) rfl (by omega) fun n1 hn1 => ?_
      walk_at "go"
      refine ⟨r, _, rfl, .inl hr, ?_⟩
      rw [List.length_map, ol]
      walk_at "go"
      refine o_I (show (0 : Int) < _ by omega) ?_
      walk_at "go"
      obtain ⟨at', hat, hat2⟩ : ∃ at' : Nat, (n1 : Int) % ((i : Int) + 1) = (at' : Int) ∧ at' ≤ i := ⟨n1 % (i + 1), by rw [Int.natCast_emod]; rfl, by have := Nat.mod_lt n1 (show 0 < i + 1 by omega); omega⟩
      rw [hat]
      refine i_slT (i := at') hr rfl (by rw [List.length_map]; omega) fun p1 hp1 => ?_
      rw [← List.map_take]
      walk_at "go"
      have f1 : Ex H3 (upd H3 p1 (.lst ((os.take at').map V.str))) := Ex.new hp1
      have hp1' : upd H3 p1 (.lst ((os.take at').map V.str)) p1 = _ := upd_same
      generalize upd H3 p1 (.lst ((os.take at').map V.str)) = H4 at f1 hp1' ⊢
      refine i_lsx (i := i) (f1 _ _ (e3 _ _ (e1 _ _ ha))) rfl hi ?_
      walk_at "go"
      refine ⟨by show 1 ≤ sizeLine; decide, fun p2 hp2 => ?_⟩
      have f2 : Ex H4 (upd H4 p2 (.lst [.str ps[i]])) := Ex.new hp2
      have hp2' : upd H4 p2 (.lst [.str ps[i]]) p2 = _ := upd_same
      generalize upd H4 p2 (.lst [.str ps[i]]) = H5 at f2 hp2' ⊢
      refine ⟨p1, p2, _, _, rfl, rfl, f2 _ _ hp1', hp2', by rw [List.length_map, List.length_take]; exact small (by show _ + 1 ≤ 1000; omega), fun p3 hp3 => ?_⟩
      have f3 : Ex H5 (upd H5 p3 (.lst ((os.take at').map V.str ++ [.str ps[i]]))) := Ex.new hp3
      have hp3' : upd H5 p3 (.lst ((os.take at').map V.str ++ [.str ps[i]])) p3 = _ := upd_same
      generalize upd H5 p3 (.lst ((os.take at').map V.str ++ [.str ps[i]])) = H6 at f3 hp3' ⊢
      walk_at "go"
      refine i_slD (i := at') (((f1.trans f2).trans f3) _ _ hr) rfl (by rw [List.length_map]; omega) fun p4 hp4 => ?_
      rw [← List.map_drop]
      have f4 : Ex H6 (upd H6 p4 (.lst ((os.drop at').map V.str))) := Ex.new hp4
      have hp4' : upd H6 p4 (.lst ((os.drop at').map V.str)) p4 = _ := upd_same
      generalize upd H6 p4 (.lst ((os.drop at').map V.str)) = H7 at f4 hp4' ⊢
      refine ⟨p3, p4, _, _, rfl, rfl, f4 _ _ hp3', hp4', by rw [List.length_append, List.length_map, List.length_map, List.length_take, List.length_drop]; exact small (by show _ + 1 + _ ≤ 1000; omega), fun p5 hp5 => ?_⟩
      walk_at "go"
      refine ⟨p5, os.take at' ++ [ps[i]] ++ os.drop at', _, _, rfl, (e3.trans (((f1.trans f2).trans f3).trans f4)).trans (Ex.new hp5), by show _ = _; rw [upd_same, List.map_append, List.map_append]; rfl, ?_⟩
      rw [take_snoc (List.getElem?_eq_getElem hi), List.append_assoc]
      exact (List.perm_middle.trans ((List.take_append_drop at' os).symm ▸ (pm.cons _))).trans (List.perm_append_singleton _ _).symm
    · obtain ⟨r, os, o4, o5, rfl, e3, hr, pm⟩ := z
      rw [List.take_length] at pm
      have ol : os.length = ps.length := pm.length_eq
      have ond : os.Nodup := pm.nodup_iff.mpr nd
      have ha3 := e3 _ _ (e1 _ _ ha)
      walk_at "go"
      refine ⟨a, _, rfl, .inl ha3, ?_⟩
      rw [List.length_map]
      refine i_dsx (i := ps.length) (e3 _ _ hd1) rfl (by omega) fun n1 hn1 => ?_
      walk_at "go"
      refine ⟨a, _, rfl, .inl ha3, ?_⟩
      rw [List.length_map]
      walk_at "go"
      refine o_I (show (0 : Int) < _ by omega) ?_
      walk_at "go"
      obtain ⟨sh, hsh, hs1, hs2⟩ : ∃ sh : Nat, (1 : Int) + (n1 : Int) % ((ps.length : Int) - 1) = (sh : Int) ∧ 1 ≤ sh ∧ sh < ps.length := by
        have z1 := Int.emod_nonneg (n1 : Int) (show (ps.length : Int) - 1 ≠ 0 by omega)
        have z2 := Int.emod_lt_of_pos (n1 : Int) (show (0 : Int) < (ps.length : Int) - 1 by omega)
        exact ⟨(1 + (n1 : Int) % ((ps.length : Int) - 1)).toNat, by omega, by omega, by omega⟩
      rw [hsh]
      intro D hD
      walk_at "go"
      have hr4 := Ex.new (o := .dK []) hD _ _ hr
      refine ⟨r, _, rfl, .inl hr4, ?_⟩
      rw [List.length_map, ol]
      obtain ⟨hh, hhd⟩ : ∃ hh : Str → Str, hh = fun x => os.getD ((os.idxOf x + sh) % ps.length) x := ⟨_, rfl⟩
      have hix : ∀ i (hi : i < os.length), os.idxOf os[i] = i := fun i hi => ond.idxOf_getElem i hi
      have hval : ∀ i (hi : i < os.length) (hi2 : (i + sh) % ps.length < os.length), hh os[i] = os[(i + sh) % ps.length] := fun i hi hi2 => by
        rw [hhd]
        dsimp only
        rw [hix i hi, List.getD_eq_getElem?_getD, List.getElem?_eq_getElem hi2]
        rfl
      have hml : ∀ i, (i + sh) % ps.length < os.length := fun i => by rw [ol]; exact Nat.mod_lt _ (by omega)
      have hpH : H D = none := ex_none (e1.trans e3) hD
      refine forR (by omega) (fun i σ H4 => (∃ o4 o5, σ = [some (.int c), some (.ref a), some (.ref d), some (.ref r), o4, o5, some (.int (sh : Nat)), some (.ref D)]) ∧ Exo D H3 H4 ∧ Ex H H4 ∧ H4 D = some (sd (os.take i) fun g => .str (hh g)))
        ⟨⟨_, _, rfl⟩, (fun b o hb h => by rw [upd_ne hb]; exact h), (e1.trans e3).trans (Ex.new hD), upd_same⟩ (fun i σ H4 hi z => ?_) (fun σ H4 z => ?_)
      · obtain ⟨⟨o4, o5, rfl⟩, e4, e5, hD4⟩ := z
        have nrD : r ≠ D := fun e => by have h' : H3 r = some (.lst (os.map V.str)) := hr; rw [e, hD] at h'; exact nomatch h'
        have hr5 : Ls H4 r os := e4 _ _ nrD hr
        walk_at "go"
        refine ⟨r, _, rfl, .inl hr5, ?_⟩
        rw [List.length_map, ol]
        refine o_I (show (0 : Int) < _ by omega) ?_
        refine i_lsx (i := (i + sh) % ps.length) hr5 (by rw [Int.natCast_emod]; rfl) (hml i) ?_
        walk_at "go"
        refine i_lsx (i := i) hr5 rfl (by omega) ?_
        have hio : i < os.length := by omega
        have hnew : os[i] ∉ os.take i := fun hm => by
          have h1 := ond.sublist (List.take_sublist (i + 1) os)
          rw [take_snoc (List.getElem?_eq_getElem hio)] at h1
          exact (nodup_snoc_iff.mp h1).2 hm
        walk_at "go"
        refine kd_put hD4 (small1000 (by rw [List.length_take]; omega)) ?_
        refine ⟨⟨_, _, rfl⟩, fun b o hb h => by rw [upd_ne hb]; exact e4 b o hb h, Ex.mut e5 hpH, ?_⟩
        rw [upd_same, addk_new hnew, take_snoc (List.getElem?_eq_getElem hio)]
        refine congrArg some (congrArg HO.dK (kd_congr fun x hx => ?_))
        by_cases ex : x = os[i]
        · rw [ex, setf_same, hval i hio (hml i)]
        · rw [setf_ne _ _ ex]
      · obtain ⟨⟨o4, o5, rfl⟩, e4, e5, hD4⟩ := z
        rw [show ps.length = os.length from ol.symm, List.take_length] at hD4
        have at' : ∀ x ∈ ps, ∃ i, ∃ hi : i < os.length, x = os[i] := fun x hx => by
          obtain ⟨i, hi, e⟩ := List.getElem_of_mem (pm.mem_iff.mpr hx)
          exact ⟨i, hi, e.symm⟩
        have mi : ∀ i, i < ps.length → (i + sh) % ps.length = if i + sh < ps.length then i + sh else i + sh - ps.length := fun i hi => by
          split
          · exact Nat.mod_eq_of_lt (by assumption)
          · rw [Nat.mod_eq_sub_mod (by omega), Nat.mod_eq_of_lt (by omega)]
        walk_at "go"
        refine q D H4 os hh e5 hD4 pm (fun x hx => ?_) fun x hx y hy e => ?_
        · obtain ⟨i, hi, rfl⟩ := at' x hx
          rw [hval i hi (hml i)]
          refine ⟨pm.mem_iff.mp (List.getElem_mem _), fun e => ?_⟩
          have e2 := (List.getElem_inj ond).mp e
          rw [mi i (by omega)] at e2
          split at e2 <;> omega
        · obtain ⟨i, hi, rfl⟩ := at' x hx
          obtain ⟨j, hj, rfl⟩ := at' y hy
          rw [hval i hi (hml i), hval j hj (hml j)] at e
          have e2 := (List.getElem_inj ond).mp e
          rw [mi i (by omega), mi j (by omega)] at e2
          have : i = j := by split at e2 <;> split at e2 <;> omega
          subst this
          rfl
end
end GR
end
section
set_option Elab.async false
set_option linter.all false
set_option maxRecDepth 100000
set_option maxHeartbeats 4000000
set_option autoImplicit false
namespace GR
open PySem PySem.Spec L2
open Evl (Ex)
local macro_rules | `(tactic| walk_at "go") => `(tactic| (repeat (first
  | with_reducible refine i_seq ?_
  | ((with_reducible apply i_var); focus rfl)
  | with_reducible refine i_c ?_
  | with_reducible refine i_cons ?_
  | with_reducible refine i_nil ?_
  | with_reducible refine i_asg ?_
  | with_reducible refine i_name ?_
  | with_reducible refine i_op ?_
  | with_reducible refine i_cb ?_
  | with_reducible refine i_fn ?_
  | with_reducible refine i_ret ?_
  | with_reducible refine i_retN ?_
  | with_reducible refine i_drop ?_
  | with_reducible refine i_next ?_
  | with_reducible refine i_cont ?_
  | with_reducible refine i_break ?_
  | with_reducible refine i_if ?_
  | with_reducible refine br_t ?_
  | with_reducible refine br_f ?_
  | with_reducible refine br_nt ?_
  | with_reducible refine io_t ?_
  | with_reducible refine io_f ?_
  | with_reducible refine io_nt ?_
  | with_reducible refine io_nf ?_
  | with_reducible refine br_nf ?_
  | with_reducible refine o_ip ?_
  | with_reducible refine i_test ?_
  | with_reducible refine i_tB ?_
  | with_reducible refine i_not ?_
  | with_reducible refine i_notV ?_
  | with_reducible refine i_andV ?_
  | with_reducible refine i_orV ?_
  | with_reducible refine i_and ?_
  | with_reducible refine i_or ?_
  | with_reducible refine i_dput ?_
  | with_reducible refine i_dget ?_
  | with_reducible refine i_din ?_
  | with_reducible refine i_dnotin ?_
  | with_reducible refine i_dnewK ?_
  | with_reducible refine i_dnewT ?_
  | with_reducible refine i_fld ?_
  | with_reducible refine i_sfld ?_
  | with_reducible refine i_bm0 ?_
  | with_reducible refine i_bm ?_
  | with_reducible refine i_sl ?_
  | with_reducible refine i_noPart ?_
  | with_reducible refine i_part ?_
  | with_reducible refine i_chain ?_
  | with_reducible refine i_methR ?_
  | with_reducible refine i_tup ?_
  | with_reducible refine i_lst ?_
  | with_reducible refine i_for ?_
  | with_reducible refine i_iList ?_
  | with_reducible refine i_iTup ?_
  | with_reducible refine i_iKeys ?_
  | with_reducible refine i_iRng1 ?_
  | with_reducible refine i_iRng2 ?_
  | with_reducible refine i_iStr ?_
  | with_reducible refine i_iEnum ?_
  | with_reducible refine i_iEnumT ?_
  | with_reducible refine i_lc ?_
  | with_reducible refine i_stD ?_
  | with_reducible refine i_iItemsT ?_
  | with_reducible refine i_dcw ?_
  | with_reducible refine i_dsetd ?_
  | with_reducible refine i_iVals ?_
  | with_reducible refine i_iItems ?_
  | with_reducible refine i_revL ?_
  | with_reducible refine i_yes ?_
  | with_reducible refine o_I0 ?_
  | with_reducible refine o_eqS ?_
  | with_reducible refine o_neS ?_
  | with_reducible refine o_eqI ?_
  | with_reducible refine o_neI ?_
  | with_reducible refine o_eqB ?_
  | with_reducible refine e_ref ?_
  | with_reducible refine e_str ?_
  | with_reducible refine e_int ?_
  | with_reducible refine e_bl ?_
  | with_reducible refine e_str1 ?_
  | with_reducible refine e_int1 ?_
  | with_reducible refine e_int2 ?_
  | with_reducible refine e_str2 ?_)))
section
variable {P : Program} {w : World} {K : PySem.W.Frag} {mg : Str → Option Value} {base : Heap} {k j : Nat}
/-- two branches that meet again -/
theorem br_two {b : Bool} {t1 t2 : TS} {nx : Sl → Hp → Prop} {rt : VK} {bk ct : Sl → Hp → Prop} {σ : Sl} {H : Hp} (J : Sl → Hp → Prop) (tl : ∀ σ H, J σ H → nx σ H) (h : ∀ nx' : Sl → Hp → Prop, (∀ σ H, J σ H → nx' σ H) → Br b t1 t2 ⟨nx', rt, bk, ct⟩ σ H) : Br b t1 t2 ⟨nx, rt, bk, ct⟩ σ H := h nx tl
theorem lot_turn {ps cs : List Str} (h : lotOk ps cs) (n : Nat) : lotOk ps (cs.drop n ++ cs.take n) := by
  have pm : (cs.drop n ++ cs.take n).Perm cs := List.perm_append_comm.trans (by rw [List.take_append_drop])
  refine ⟨fun e => h.1 ?_, pm.nodup_iff.mpr h.2.1, fun v hv => h.2.2 v (pm.mem_iff.mp hv)⟩
  rw [e] at pm
  exact pm.symm.eq_nil
theorem lot_one {ps : List Str} {x : Str} (h : x ∈ ps) : lotOk ps [x] := ⟨fun e => (nomatch e), List.nodup_cons.mpr ⟨fun h => (nomatch h), List.nodup_nil⟩, fun v hv => by rw [List.mem_singleton.mp hv]; exact h⟩
theorem i_slB {H : Hp} {a : Addr} {xs : List V} {i j : Nat} {z u : Int} {Q : VK} (h : H a = some (.lst xs)) (e : z = (i : Nat)) (e2 : u = (j : Nat)) (hi : i ≤ j) (hj : j ≤ xs.length) (q : ∀ p, H p = none → Q (.ref p) (upd H p (.lst ((xs.drop i).take (j - i))))) : oSlL (.ref a) (some z) (some u) H Q := by
  subst e e2
  refine ⟨a, xs, rfl, h, fun p hp => ?_⟩
  have := q p hp
  unfold cutV
  rw [HT.sIx_nat, HT.sIx_nat, Nat.min_eq_left hj, Nat.min_eq_left (Nat.le_trans hi hj)]
  exact this
abbrev n_law_lot : List Str := ["_law_draws_here", "_law_people_here", "_law_weight", "_law_chosen", "_law_shift", "_law_k"]
theorem sc_law_lot : FnScope n_law_lot ["_law_draws_here", "_law_people_here", "_law_weight"] (defScope s_law_lot) := ⟨rfl, rfl, rfl, by decide +kernel, rfl, by decide +kernel, by decide +kernel⟩
def spLot : Sp := fun vs H Q _ => ∃ (d a : Addr) (ds : List Nat) (ps : List Str) (wt : Int), vs = [.ref d, .ref a, .int wt] ∧ H d = some (.lst (ds.map fun d : Nat => V.int d)) ∧ Ls H a ps ∧ ps.length ≤ ds.length ∧ 1 ≤ ps.length ∧ ps.length ≤ 7 ∧ ps.Nodup ∧
  ∀ p H' xs, Ex H H' → Ts H' p xs → lotOk ps xs → Q (.ref p) H'
theorem c_law_lot (T : Txt K mg) : Cal P w K mg base (k + 1) "_law_lot" spLot := by
  refine T.a_law_lot.ok sc_law_lot (fun _ _ _ _ _ _ us hl => match us, hl with | [_, _, _], _ => rfl) (fun vs H Q E h => ?_) (fun f cdv A outer s H vs Q E hr h => ⟨_, (pss_cons (ps_setLc (i := 3) (own := [("_law_k", 5)]) rfl sc_law_lot.nd rfl rfl (sw_true rfl rfl rfl (by decide +kernel)) (pi_range1 (by rfl) T.f_range (pa_cons (pe_callB crLen (by rfl) T.f_len b_len (pa_cons (pv 1) pa_nil)) pa_nil)) (blkOk_by (own := [("_law_k", 5)]) (N := n_law_lot) (sc := defScope s_law_lot) (by decide +kernel)) (fun _ _ _ _ _ => (pg_name (i := 5) sc_law_lot.nd rfl (Or.inl rfl))) (fun _ _ _ _ _ => pts_one (pt_cmpR op_lt (pe_op op_mod (pe_callTy call_int1 (by rfl) T.f_int b_int (pa_cons (pe_ix ixL (pv 0) (pv 5) (fun _ _ => rfl)) pa_nil)) pe_int) (pv 2) (nomark _))) (fun _ _ _ _ _ => (pe_ix ixL (pv 1) (pv 5) (fun _ _ => rfl))) )
      (pss_cons (ps_if (pt_cmpR op_eq (pe_callB crLen (by rfl) T.f_len b_len (pa_cons (pv 3) pa_nil)) pe_int (nomark _)) (pss_one (ps_set (i := 3) sc_law_lot.nd rfl (Or.inl rfl) (pe_lst (pa_cons (pe_ix ixL (pv 1) (pe_op op_mod (pe_callTy call_int1 (by rfl) T.f_int b_int (pa_cons (pe_op op_fdiv (pe_ix ixL (pv 0) pe_int (fun _ _ => rfl)) pe_int) pa_nil)) (pe_callB crLen (by rfl) T.f_len b_len (pa_cons (pv 1) pa_nil))) (fun _ _ => rfl)) pa_nil)))) pss_nil)
      (pss_cons (ps_set (i := 4) sc_law_lot.nd rfl (Or.inl rfl) (pe_op op_mod (pe_callTy call_int1 (by rfl) T.f_int b_int (pa_cons (pe_op op_fdiv (pe_ix ixL (pv 0) pe_int (fun _ _ => rfl)) pe_int) pa_nil)) (pe_callB crLen (by rfl) T.f_len b_len (pa_cons (pv 3) pa_nil))))
      (pss_one (ps_ret (pe_callTy crTuple (by rfl) T.f_tuple b_tuple (pa_cons (pe_op op_cat (pe_slice slL (pv 3) (po_some (pv 4)) po_none) (pe_slice slL (pv 3) po_none (po_some (pv 4)))) pa_nil))))))), ?_⟩)
  · obtain ⟨_, _, _, _, _, rfl, _⟩ := h; rfl
  · obtain ⟨d, a, ds, ps, wt, rfl, hd, ha, hl, h1, h7, nd, q⟩ := h
    walk_at "go"
    refine ⟨a, _, rfl, .inl ha, ?_⟩
    rw [List.length_map]
    walk_at "go"
    refine ⟨_, rfl, by omega, by omega, ?_⟩
    rw [Int.toNat_natCast]
    refine lcX (walk_range (lo := 0) (n := ps.length)) (small (by omega)) (fun D i B acc => ∃ cs : List Str, acc = cs.map V.str ∧ cs.Sublist (ps.take i)) (fun D hD => ⟨[], rfl, List.nil_sublist _⟩) (fun _ _ _ _ _ _ _ => trivial) (fun D i v B H2 acc N T' hi e hB s y k1 k2 => ?_) fun D B acc hD e hB s => ?_
    · obtain ⟨rfl, rfl⟩ := y
      obtain ⟨cs, rfl, sb⟩ := s
      have ei := fun o : HO => ex_in (o := o) e hB
      walk_at "go"
      refine ⟨rfl, ?_⟩
      walk_at "go"
      refine i_dsx (i := i) (ei _ _ _ hd) (by omega) (by omega) fun n1 hn1 => ?_
      walk_at "go"
      refine o_I (show (0 : Int) < _ by omega) ?_
      walk_at "go"
      by_cases hlt : (n1 : Int) % 6 < wt
      · rw [decide_eq_true hlt]
        walk_at "go"
        refine i_lsx (i := i) (ei _ _ _ ha) (by omega) hi ?_
        refine k2 _ _ (Ex.refl _) ⟨cs ++ [ps[i]], by rw [List.map_append]; rfl, ?_⟩
        rw [take_snoc (List.getElem?_eq_getElem hi)]
        exact sb.append (List.Sublist.refl _)
      · rw [decide_eq_false hlt]
        walk_at "go"
        refine k1 _ (Ex.refl _) ⟨cs, rfl, ?_⟩
        rw [take_snoc (List.getElem?_eq_getElem hi)]
        exact sb.trans (List.sublist_append_left _ _)
    · obtain ⟨cs, rfl, sb⟩ := s
      rw [List.take_length] at sb
      have e1 := fun o : HO => ex_in (o := o) e hB
      walk_at "go"
      refine ⟨D, _, rfl, .inl upd_same, ?_⟩
      rw [List.length_map]
      walk_at "go"
      refine br_two (fun σ H3 => ∃ r cs, σ = [some (.ref d), some (.ref a), some (.int wt), some (.ref r), none, none] ∧ Ex H H3 ∧ Ls H3 r cs ∧ lotOk ps cs) (fun σ H3 z => ?_) fun nx' tl => ?_
      · obtain ⟨r, cs, rfl, e3, hr, ok⟩ := z
        have cl : 1 ≤ cs.length := by
          cases cs with
          | nil => exact absurd rfl ok.1
          | cons => show 1 ≤ _ + 1; omega
        have c7 : cs.length ≤ 7 := Nat.le_trans (ok.2.1.length_le_of_subset fun y hy => ok.2.2 y hy) h7
        walk_at "go"
        refine i_dsx (i := 0) (e3 _ _ hd) rfl (by omega) fun n1 hn1 => ?_
        walk_at "go"
        refine o_I ⟨by omega, by omega⟩ ?_
        walk_at "go"
        refine ⟨r, _, rfl, .inl hr, ?_⟩
        rw [List.length_map]
        refine o_I (show (0 : Int) < _ by omega) ?_
        walk_at "go"
        have hm : n1 / 36 % cs.length < cs.length := Nat.mod_lt _ cl
        refine i_slD (i := n1 / 36 % cs.length) hr (by rw [Int.natCast_emod, Int.natCast_ediv]; rfl) (by rw [List.length_map]; omega) fun p1 hp1 => ?_
        rw [← List.map_drop]
        walk_at "go"
        refine i_slT (i := n1 / 36 % cs.length) (Ex.new hp1 _ _ hr) (by rw [Int.natCast_emod, Int.natCast_ediv]; rfl) (by rw [List.length_map]; omega) fun p2 hp2 => ?_
        rw [← List.map_take]
        refine ⟨p1, p2, _, _, rfl, rfl, Ex.new hp2 _ _ upd_same, upd_same, by rw [List.length_map, List.length_map, List.length_take, List.length_drop]; exact small (by omega), fun p3 hp3 => ?_⟩
        rw [← List.map_append]
        walk_at "go"
        refine ⟨p3, _, rfl, upd_same, fun p4 hp4 => ?_⟩
        exact q p4 _ _ ((((e3.trans (Ex.new hp1)).trans (Ex.new hp2)).trans (Ex.new hp3)).trans (Ex.new hp4)) upd_same (lot_turn ok _)
      · by_cases h0 : cs.length = 0
        · rw [decide_eq_true (by rw [h0]; rfl)]
          walk_at "go"
          refine i_dsx (i := 0) (e1 _ _ _ hd) rfl (by omega) fun n1 hn1 => ?_
          walk_at "go"
          refine o_I ⟨by omega, by omega⟩ ?_
          walk_at "go"
          refine ⟨a, _, rfl, .inl (e1 _ _ _ ha), ?_⟩
          rw [List.length_map]
          refine o_I (show (0 : Int) < _ by omega) ?_
          have hm : n1 / 6 % ps.length < ps.length := Nat.mod_lt _ h1
          refine i_lsx (i := n1 / 6 % ps.length) (e1 _ _ _ ha) (by rw [Int.natCast_emod, Int.natCast_ediv]; rfl) hm ?_
          have hmm := List.getElem_mem hm
          generalize ps[n1 / 6 % ps.length] = x0 at hmm ⊢
          walk_at "go"
          refine ⟨by show 1 ≤ sizeLine; decide, fun r hr => ?_⟩
          walk_at "go"
          exact tl _ _ ⟨r, [x0], rfl, (e1 _).trans (Ex.new hr), upd_same, lot_one hmm⟩
        · rw [decide_eq_false (by omega)]
          walk_at "go"
          exact tl _ _ ⟨D, cs, rfl, e1 _, upd_same, fun e => h0 (by rw [e]; rfl), nd.sublist sb, fun v hv => sb.subset hv⟩
def lkWords : List Str := [Str.ofString "not", Str.ofString "this", Str.ofString "one", Str.ofString "from", Str.ofString "lot", Str.ofString "never"]
abbrev n_law_leak : List Str := ["_law_cell_here", "_law_people_here", "_law_many", "_law_draws_here", "_law_word", "_law_a", "_law_b", "_law_givers", "_law_takers"]
theorem sc_law_leak : FnScope n_law_leak ["_law_cell_here", "_law_people_here"] (defScope s_law_leak) := ⟨rfl, rfl, rfl, by decide +kernel, rfl, by decide +kernel, by decide +kernel⟩
def spLeak : Sp := fun vs H Q _ => ∃ (c : Int) (a : Addr) (ps : List Str), vs = [.int c, .ref a] ∧ Ls H a ps ∧ 2 ≤ ps.length ∧ ps.length ≤ 7 ∧ ps.Nodup ∧
  ∀ p H' l, Ex H H' → LkAt H' p l → l.ok ps → Q (.ref p) H'
theorem c_law_leak (T : Txt K mg) (c_law_draws : Cal P w K mg base k "_law_draws" spDraws) (c_law_lot : Cal P w K mg base k "_law_lot" spLot) : Cal P w K mg base (k + 1) "_law_leak" spLeak := by
  refine T.a_law_leak.ok sc_law_leak (fun _ _ _ _ _ _ us hl => match us, hl with | [_, _], _ => rfl) (fun vs H Q E h => ?_) (fun f cdv A outer s H vs Q E hr h => ⟨_, (pss_cons (ps_set (i := 2) sc_law_leak.nd rfl (Or.inl rfl) (pe_callB crLen (by rfl) T.f_len b_len (pa_cons (pv 1) pa_nil)))
      (pss_cons (ps_set (i := 3) sc_law_leak.nd rfl (Or.inl rfl) (pe_fn c_law_draws (hr.mono (by omega)) (pa_cons (pv 0) (pa_cons (pe_op op_add (pe_op op_mul pe_int (pv 2)) pe_int) pa_nil))))
      (pss_cons (ps_set (i := 4) sc_law_leak.nd rfl (Or.inl rfl) (pe_ix ixL (pe_lst (pa_cons pe_str (pa_cons pe_str (pa_cons pe_str (pa_cons pe_str (pa_cons pe_str (pa_cons pe_str pa_nil))))))) (pe_op op_mod (pe_callTy call_int1 (by rfl) T.f_int b_int (pa_cons (pe_ix ixL (pv 3) pe_int (fun _ _ => rfl)) pa_nil)) pe_int) (fun _ _ => rfl)))
      (pss_cons (ps_set (i := 5) sc_law_leak.nd rfl (Or.inl rfl) (pe_op op_mod (pe_callTy call_int1 (by rfl) T.f_int b_int (pa_cons (pe_ix ixL (pv 3) pe_int (fun _ _ => rfl)) pa_nil)) (pv 2)))
      (pss_cons (ps_set (i := 6) sc_law_leak.nd rfl (Or.inl rfl) (pe_op op_mod (pe_callTy call_int1 (by rfl) T.f_int b_int (pa_cons (pe_op op_add (pe_op op_add (pv 5) pe_int) (pe_op op_mod (pe_callTy call_int1 (by rfl) T.f_int b_int (pa_cons (pe_ix ixL (pv 3) pe_int (fun _ _ => rfl)) pa_nil)) (pe_op op_sub (pv 2) pe_int))) pa_nil)) (pv 2)))
      (pss_cons (ps_set (i := 7) sc_law_leak.nd rfl (Or.inl rfl) (pe_fn c_law_lot (hr.mono (by omega)) (pa_cons (pe_slice slL (pv 3) (po_some pe_int) (po_some (pe_op op_add pe_int (pv 2)))) (pa_cons (pv 1) (pa_cons (pe_op op_add pe_int (pe_op op_mod (pe_callTy call_int1 (by rfl) T.f_int b_int (pa_cons (pe_ix ixL (pv 3) pe_int (fun _ _ => rfl)) pa_nil)) pe_int)) pa_nil)))))
      (pss_cons (ps_set (i := 8) sc_law_leak.nd rfl (Or.inl rfl) (pe_fn c_law_lot (hr.mono (by omega)) (pa_cons (pe_slice slL (pv 3) (po_some (pe_op op_add pe_int (pv 2))) po_none) (pa_cons (pv 1) (pa_cons (pe_op op_add pe_int (pe_op op_mod (pe_callTy call_int1 (by rfl) T.f_int b_int (pa_cons (pe_op op_fdiv (pe_ix ixL (pv 3) pe_int (fun _ _ => rfl)) pe_int) pa_nil)) pe_int)) pa_nil)))))
      (pss_cons (ps_if (PW.pt (pw_or (pt_cmpR op_eq (pv 4) pe_str (nomark _)) (pw_or1 (pt_cmpR op_eq (pv 4) pe_str (nomark _))))) (pss_one (ps_ret (pe_tup (pa_cons (pv 4) (pa_cons (pe_ix ixL (pv 1) (pv 5) (fun _ _ => rfl)) (pa_cons (pe_ix ixL (pv 1) (pv 6) (fun _ _ => rfl)) pa_nil)))))) pss_nil)
      (pss_cons (ps_if (PW.pt (pw_or (pt_cmpR op_eq (pv 4) pe_str (nomark _)) (pw_or1 (pt_cmpR op_eq (pv 4) pe_str (nomark _))))) (pss_one (ps_ret (pe_tup (pa_cons (pv 4) (pa_cons (pe_ix ixL (pv 1) (pv 5) (fun _ _ => rfl)) (pa_cons (pv 8) pa_nil)))))) pss_nil)
      (pss_one (ps_ret (pe_tup (pa_cons (pv 4) (pa_cons (pv 7) (pa_cons (pv 8) pa_nil))))))))))))))), ?_⟩)
  · obtain ⟨_, _, _, rfl, _⟩ := h; rfl
  · obtain ⟨c, a, ps, rfl, ha, h2, h7, nd, q⟩ := h
    walk_at "go"
    refine ⟨a, _, rfl, .inl ha, ?_⟩
    rw [List.length_map]
    walk_at "go"
    refine o_I (.inl ⟨by omega, by omega⟩) ?_
    walk_at "go"
    refine ⟨c, 2 * ps.length + 4, rfl, by omega, fun d H1 ds e1 hd1 hd2 hd3 => ?_⟩
    walk_at "go"
    refine ⟨by show 6 ≤ sizeLine; decide, fun wl hwl => ?_⟩
    walk_at "go"
    have e2 : Ex H1 (upd H1 wl (.lst [.str (Str.ofString "not"), .str (Str.ofString "this"), .str (Str.ofString "one"), .str (Str.ofString "from"), .str (Str.ofString "lot"), .str (Str.ofString "never")])) := Ex.new hwl
    have hw2 : Ls (upd H1 wl (.lst [.str (Str.ofString "not"), .str (Str.ofString "this"), .str (Str.ofString "one"), .str (Str.ofString "from"), .str (Str.ofString "lot"), .str (Str.ofString "never")])) wl lkWords := upd_same
    generalize upd H1 wl (.lst [.str (Str.ofString "not"), .str (Str.ofString "this"), .str (Str.ofString "one"), .str (Str.ofString "from"), .str (Str.ofString "lot"), .str (Str.ofString "never")]) = H2 at e2 hw2 ⊢
    have e12 := e1.trans e2
    walk_at "go"
    refine i_dsx (i := 0) (e2 _ _ hd1) rfl (by omega) fun n0 hn0 => ?_
    walk_at "go"
    refine o_I (show (0 : Int) < _ by omega) ?_
    refine i_lsx (i := n0 % 6) hw2 (by omega) (Nat.mod_lt _ (by decide)) ?_
    have hwd : lkWords[n0 % 6]'(Nat.mod_lt _ (by decide)) ∈ lkWords := List.getElem_mem _
    generalize lkWords[n0 % 6]'(Nat.mod_lt _ (by decide)) = wd at hwd ⊢
    walk_at "go"
    refine i_dsx (i := 1) (e2 _ _ hd1) rfl (by omega) fun n1 hn1 => ?_
    walk_at "go"
    refine o_I (show (0 : Int) < _ by omega) ?_
    walk_at "go"
    refine i_dsx (i := 2) (e2 _ _ hd1) rfl (by omega) fun n2 hn2 => ?_
    walk_at "go"
    refine o_I (show (0 : Int) < _ by omega) ?_
    walk_at "go"
    refine o_I (show (0 : Int) < _ by omega) ?_
    walk_at "go"
    obtain ⟨ia, hia, ia7⟩ : ∃ ia : Nat, (n1 : Int) % (ps.length : Int) = (ia : Int) ∧ ia < ps.length := ⟨n1 % ps.length, by rw [Int.natCast_emod], Nat.mod_lt _ (by omega)⟩
    rw [hia]
    obtain ⟨ib, hib, ib7, iab⟩ : ∃ ib : Nat, ((ia : Int) + 1 + (n2 : Int) % ((ps.length : Int) - 1)) % (ps.length : Int) = (ib : Int) ∧ ib < ps.length ∧ ia ≠ ib := by
      have z1 := Int.emod_nonneg (n2 : Int) (show (ps.length : Int) - 1 ≠ 0 by omega)
      have z2 := Int.emod_lt_of_pos (n2 : Int) (show (0 : Int) < (ps.length : Int) - 1 by omega)
      generalize (n2 : Int) % ((ps.length : Int) - 1) = t at z1 z2 ⊢
      by_cases hlt : (ia : Int) + 1 + t < ps.length
      · exact ⟨((ia : Int) + 1 + t).toNat, by rw [Int.emod_eq_of_lt (by omega) hlt]; omega, by omega, by omega⟩
      · refine ⟨((ia : Int) + 1 + t - ps.length).toNat, ?_, by omega, by omega⟩
        rw [show (ia : Int) + 1 + t = ((ia : Int) + 1 + t - ps.length) + ps.length by omega, Int.add_emod_right, Int.emod_eq_of_lt (by omega) (by omega)]
        omega
    rw [hib]
    refine i_slB (i := 4) (j := 4 + ps.length) (e2 _ _ hd1) rfl (by omega) (by omega) (by rw [List.length_map]; omega) fun d1 hd1' => ?_
    rw [← List.map_drop, ← List.map_take]
    have f1 := Ex.new (o := .lst (((ds.drop 4).take (4 + ps.length - 4)).map fun d : Nat => V.int d)) hd1'
    have g1 : upd H2 d1 (.lst (((ds.drop 4).take (4 + ps.length - 4)).map fun d : Nat => V.int d)) d1 = _ := upd_same
    generalize upd H2 d1 (.lst (((ds.drop 4).take (4 + ps.length - 4)).map fun d : Nat => V.int d)) = H3 at f1 g1 ⊢
    walk_at "go"
    refine i_dsx (i := 3) (f1 _ _ (e2 _ _ hd1)) rfl (by omega) fun n3 hn3 => ?_
    walk_at "go"
    refine o_I (show (0 : Int) < _ by omega) ?_
    walk_at "go"
    refine ⟨d1, a, _, ps, _, rfl, g1, f1 _ _ (e12 _ _ ha), by rw [List.length_take, List.length_drop]; omega, by omega, h7, nd, fun ga H4 gs e4 hga gok => ?_⟩
    walk_at "go"
    refine i_slD (i := 4 + ps.length) (e4 _ _ (f1 _ _ (e2 _ _ hd1))) (by omega) (by rw [List.length_map]; omega) fun d2 hd2' => ?_
    rw [← List.map_drop]
    have f2 := Ex.new (o := .lst ((ds.drop (4 + ps.length)).map fun d : Nat => V.int d)) hd2'
    have g2 : upd H4 d2 (.lst ((ds.drop (4 + ps.length)).map fun d : Nat => V.int d)) d2 = _ := upd_same
    generalize upd H4 d2 (.lst ((ds.drop (4 + ps.length)).map fun d : Nat => V.int d)) = H5 at f2 g2 ⊢
    walk_at "go"
    refine i_dsx (i := 3) (f2 _ _ (e4 _ _ (f1 _ _ (e2 _ _ hd1)))) rfl (by omega) fun n4 hn4 => ?_
    walk_at "go"
    refine o_I ⟨by omega, by omega⟩ ?_
    walk_at "go"
    refine o_I (show (0 : Int) < _ by omega) ?_
    walk_at "go"
    refine ⟨d2, a, _, ps, _, rfl, g2, f2 _ _ (e4 _ _ (f1 _ _ (e12 _ _ ha))), by rw [List.length_drop]; omega, by omega, h7, nd, fun ta H6 ts e6 hta tok => ?_⟩
    have e16 : Ex H H6 := (((e12.trans f1).trans e4).trans f2).trans e6
    have hga6 : Ts H6 ga gs := (hga.ex f2).ex e6
    have hpa := List.getElem_mem ia7
    have hpb := List.getElem_mem ib7
    have nab : ps[ia] ≠ ps[ib] := fun e => iab ((List.getElem_inj nd).mp e)
    have wcs : wd = Str.ofString "not" ∨ wd = Str.ofString "this" ∨ wd = Str.ofString "one" ∨ wd = Str.ofString "from" ∨ wd = Str.ofString "lot" ∨ wd = Str.ofString "never" := by
      unfold lkWords at hwd
      simpa only [List.mem_cons, List.not_mem_nil, or_false] using hwd
    walk_at "go"
    have e7 := fun (p : Addr) (o : HO) (hp : H6 p = none) => e16.trans (Ex.new (o := o) hp)
    rcases wcs with rfl | rfl | rfl | rfl | rfl | rfl
    · rw [decide_eq_true rfl]
      walk_at "go"
      refine i_lsx (i := ia) (e16 _ _ ha) rfl ia7 ?_
      walk_at "go"
      refine i_lsx (i := ib) (e16 _ _ ha) rfl ib7 ?_
      walk_at "go"
      refine ⟨by show 3 ≤ sizeLine; decide, fun p hp => ?_⟩
      exact q p _ (.nt ps[ia] ps[ib]) (e7 p _ hp) ⟨_, _, upd_same, rfl, rfl⟩ ⟨nab, hpa, hpb⟩
    · rw [decide_eq_false (by decide +kernel)]
      walk_at "go"
      rw [decide_eq_true rfl]
      walk_at "go"
      refine i_lsx (i := ia) (e16 _ _ ha) rfl ia7 ?_
      walk_at "go"
      refine i_lsx (i := ib) (e16 _ _ ha) rfl ib7 ?_
      walk_at "go"
      refine ⟨by show 3 ≤ sizeLine; decide, fun p hp => ?_⟩
      exact q p _ (.ths ps[ia] ps[ib]) (e7 p _ hp) ⟨_, _, upd_same, rfl, rfl⟩ ⟨nab, hpa, hpb⟩
    · rw [decide_eq_false (by decide +kernel)]
      walk_at "go"
      rw [decide_eq_false (by decide +kernel)]
      walk_at "go"
      rw [decide_eq_true rfl]
      walk_at "go"
      refine i_lsx (i := ia) (e16 _ _ ha) rfl ia7 ?_
      walk_at "go"
      refine ⟨by show 3 ≤ sizeLine; decide, fun p hp => ?_⟩
      exact q p _ (.one ps[ia] ts) (e7 p _ hp) ⟨_, _, upd_same, rfl, ⟨ta, rfl, (hta.ex (Ex.new hp))⟩⟩ ⟨hpa, tok⟩
    · rw [decide_eq_false (by decide +kernel)]
      walk_at "go"
      rw [decide_eq_false (by decide +kernel)]
      walk_at "go"
      rw [decide_eq_false (by decide +kernel)]
      walk_at "go"
      rw [decide_eq_true rfl]
      walk_at "go"
      refine i_lsx (i := ia) (e16 _ _ ha) rfl ia7 ?_
      walk_at "go"
      refine ⟨by show 3 ≤ sizeLine; decide, fun p hp => ?_⟩
      exact q p _ (.frm ps[ia] ts) (e7 p _ hp) ⟨_, _, upd_same, rfl, ⟨ta, rfl, (hta.ex (Ex.new hp))⟩⟩ ⟨hpa, tok⟩
    · rw [decide_eq_false (by decide +kernel)]
      walk_at "go"
      rw [decide_eq_false (by decide +kernel)]
      walk_at "go"
      rw [decide_eq_false (by decide +kernel)]
      walk_at "go"
      rw [decide_eq_false (by decide +kernel)]
      walk_at "go"
      refine ⟨by show 3 ≤ sizeLine; decide, fun p hp => ?_⟩
      exact q p _ (.lot gs ts) (e7 p _ hp) ⟨_, _, upd_same, ⟨ga, rfl, (hga6.ex (Ex.new hp))⟩, ⟨ta, rfl, (hta.ex (Ex.new hp))⟩⟩ ⟨gok, tok⟩
    · rw [decide_eq_false (by decide +kernel)]
      walk_at "go"
      rw [decide_eq_false (by decide +kernel)]
      walk_at "go"
      rw [decide_eq_false (by decide +kernel)]
      walk_at "go"
      rw [decide_eq_false (by decide +kernel)]
      walk_at "go"
      refine ⟨by show 3 ≤ sizeLine; decide, fun p hp => ?_⟩
      exact q p _ (.nev gs ts) (e7 p _ hp) ⟨_, _, upd_same, ⟨ga, rfl, (hga6.ex (Ex.new hp))⟩, ⟨ta, rfl, (hta.ex (Ex.new hp))⟩⟩ ⟨gok, tok⟩
end
end GR
end
section
set_option Elab.async false
set_option linter.all false
set_option maxRecDepth 100000
set_option maxHeartbeats 4000000
set_option autoImplicit false
namespace GR
open PySem PySem.Spec L2
open Evl (Ex)
local macro_rules | `(tactic| walk_at "go") => `(tactic| (repeat (first
  | with_reducible refine i_seq ?_
  | ((with_reducible apply i_var); focus rfl)
  | with_reducible refine i_c ?_
  | with_reducible refine i_cons ?_
  | with_reducible refine i_nil ?_
  | with_reducible refine i_asg ?_
  | with_reducible refine i_name ?_
  | with_reducible refine i_op ?_
  | with_reducible refine i_cb ?_
  | with_reducible refine i_fn ?_
  | with_reducible refine i_ret ?_
  | with_reducible refine i_retN ?_
  | with_reducible refine i_drop ?_
  | with_reducible refine i_next ?_
  | with_reducible refine i_cont ?_
  | with_reducible refine i_break ?_
  | with_reducible refine i_if ?_
  | with_reducible refine br_t ?_
  | with_reducible refine br_f ?_
  | with_reducible refine br_nt ?_
  | with_reducible refine io_t ?_
  | with_reducible refine io_f ?_
  | with_reducible refine io_nt ?_
  | with_reducible refine io_nf ?_
  | with_reducible refine br_nf ?_
  | with_reducible refine o_ip ?_
  | with_reducible refine i_test ?_
  | with_reducible refine i_tB ?_
  | with_reducible refine i_not ?_
  | with_reducible refine i_notV ?_
  | with_reducible refine i_andV ?_
  | with_reducible refine i_orV ?_
  | with_reducible refine i_and ?_
  | with_reducible refine i_or ?_
  | with_reducible refine i_dput ?_
  | with_reducible refine i_dget ?_
  | with_reducible refine i_din ?_
  | with_reducible refine i_dnotin ?_
  | with_reducible refine i_dnewK ?_
  | with_reducible refine i_dnewT ?_
  | with_reducible refine i_fld ?_
  | with_reducible refine i_sfld ?_
  | with_reducible refine i_bm0 ?_
  | with_reducible refine i_bm ?_
  | with_reducible refine i_sl ?_
  | with_reducible refine i_noPart ?_
  | with_reducible refine i_part ?_
  | with_reducible refine i_chain ?_
  | with_reducible refine i_methR ?_
  | with_reducible refine i_tup ?_
  | with_reducible refine i_lst ?_
  | with_reducible refine i_for ?_
  | with_reducible refine i_iList ?_
  | with_reducible refine i_iTup ?_
  | with_reducible refine i_iKeys ?_
  | with_reducible refine i_iRng1 ?_
  | with_reducible refine i_iRng2 ?_
  | with_reducible refine i_iStr ?_
  | with_reducible refine i_iEnum ?_
  | with_reducible refine i_iEnumT ?_
  | with_reducible refine i_lc ?_
  | with_reducible refine i_stD ?_
  | with_reducible refine i_iItemsT ?_
  | with_reducible refine i_dcw ?_
  | with_reducible refine i_dsetd ?_
  | with_reducible refine i_iVals ?_
  | with_reducible refine i_iItems ?_
  | with_reducible refine i_revL ?_
  | with_reducible refine i_yes ?_
  | with_reducible refine o_I0 ?_
  | with_reducible refine o_eqS ?_
  | with_reducible refine o_neS ?_
  | with_reducible refine o_eqI ?_
  | with_reducible refine o_neI ?_
  | with_reducible refine o_eqB ?_
  | with_reducible refine e_ref ?_
  | with_reducible refine e_str ?_
  | with_reducible refine e_int ?_
  | with_reducible refine e_bl ?_
  | with_reducible refine e_str1 ?_
  | with_reducible refine e_int1 ?_
  | with_reducible refine e_int2 ?_
  | with_reducible refine e_str2 ?_)))
section
variable {P : Program} {w : World} {K : PySem.W.Frag} {mg : Str → Option Value} {base : Heap} {k j : Nat}
section
variable {H : Hp} {a : Addr} {x y z : V} {Q : VK}
theorem ix3a (h : H a = some (.tup [x, y, z])) (q : Q x H) : oIxT (.ref a) (.int 0) H Q := i_ixT h (atI_nat (j := 0) rfl) q
theorem ix3b (h : H a = some (.tup [x, y, z])) (q : Q y H) : oIxT (.ref a) (.int 1) H Q := i_ixT h (atI_nat (j := 1) rfl) q
theorem ix3c (h : H a = some (.tup [x, y, z])) (q : Q z H) : oIxT (.ref a) (.int 2) H Q := i_ixT h (atI_nat (j := 2) rfl) q
end
abbrev n_law_lets : List Str := ["_law_leak_here", "_law_a", "_law_b"]
theorem sc_law_lets : FnScope n_law_lets ["_law_leak_here", "_law_a", "_law_b"] (defScope s_law_lets) := ⟨rfl, rfl, rfl, by decide +kernel, rfl, by decide +kernel, by decide +kernel⟩
theorem c_law_lets (T : Txt K mg) : Cal P w K mg base (k + 1) "_law_lets" spLets := by
  refine T.a_law_lets.ok sc_law_lets (fun _ _ _ _ _ _ us hl => match us, hl with | [_, _, _], _ => rfl) (fun vs H Q E h => ?_) (fun f cdv A outer s H vs Q E hr h => ⟨_, (pss_cons (ps_if (pt_cmpR op_eq (pe_ix ixT (pv 0) pe_int (fun _ _ => rfl)) pe_str (nomark _)) (pss_one (ps_ret (pe_not (pe_and (pe_cmpR op_eq (pv 1) (pe_ix ixT (pv 0) pe_int (fun _ _ => rfl)) (nomark _)) (pe_one (pe_cmpR op_eq (pv 2) (pe_ix ixT (pv 0) pe_int (fun _ _ => rfl)) (nomark _))))))) pss_nil)
      (pss_cons (ps_if (pt_cmpR op_eq (pe_ix ixT (pv 0) pe_int (fun _ _ => rfl)) pe_str (nomark _)) (pss_cons (ps_if (pt_cmpR op_eq (pv 1) (pe_ix ixT (pv 0) pe_int (fun _ _ => rfl)) (nomark _)) (pss_one (ps_ret (pe_cmpR op_eq (pv 2) (pe_ix ixT (pv 0) pe_int (fun _ _ => rfl)) (nomark _)))) pss_nil)
      (pss_one (ps_ret (pe_cmpR op_ne (pv 2) (pe_ix ixT (pv 0) pe_int (fun _ _ => rfl)) (nomark _))))) pss_nil)
      (pss_cons (ps_if (pt_cmpR op_eq (pe_ix ixT (pv 0) pe_int (fun _ _ => rfl)) pe_str (nomark _)) (pss_one (ps_ret (pe_or (pe_cmpR op_ne (pv 1) (pe_ix ixT (pv 0) pe_int (fun _ _ => rfl)) (nomark _)) (pe_one (pe_cmpR opIn (pv 2) (pe_ix ixT (pv 0) pe_int (fun _ _ => rfl)) rfl))))) pss_nil)
      (pss_cons (ps_if (pt_cmpR op_eq (pe_ix ixT (pv 0) pe_int (fun _ _ => rfl)) pe_str (nomark _)) (pss_one (ps_ret (pe_or (pe_cmpR op_ne (pv 2) (pe_ix ixT (pv 0) pe_int (fun _ _ => rfl)) (nomark _)) (pe_one (pe_cmpR opIn (pv 1) (pe_ix ixT (pv 0) pe_int (fun _ _ => rfl)) rfl))))) pss_nil)
      (pss_cons (ps_if (pt_cmpR op_eq (pe_ix ixT (pv 0) pe_int (fun _ _ => rfl)) pe_str (nomark _)) (pss_one (ps_ret (pe_or (pe_cmpR opNotIn (pv 1) (pe_ix ixT (pv 0) pe_int (fun _ _ => rfl)) rfl) (pe_one (pe_cmpR opIn (pv 2) (pe_ix ixT (pv 0) pe_int (fun _ _ => rfl)) rfl))))) pss_nil)
      (pss_one (ps_ret (pe_not (pe_and (pe_cmpR opIn (pv 1) (pe_ix ixT (pv 0) pe_int (fun _ _ => rfl)) rfl) (pe_one (pe_cmpR opIn (pv 2) (pe_ix ixT (pv 0) pe_int (fun _ _ => rfl)) rfl))))))))))), ?_⟩)
  · obtain ⟨_, _, _, _, rfl, _⟩ := h; rfl
  · obtain ⟨a, l, g, t, rfl, ⟨v, u, ha, hv⟩, q⟩ := h
    cases l with
    | nt x y =>
      obtain ⟨rfl, rfl⟩ := hv
      walk_at "go"
      refine ix3a ha ?_
      walk_at "go"
      rw [show decide ((Lk.nt x y).word = Str.ofString "not") = true from rfl]
      walk_at "go"
      refine ix3b ha ?_
      walk_at "go"
      by_cases h : g = x
      · rw [decide_eq_true h]
        walk_at "go"
        refine ix3c ha ?_
        walk_at "go"
        rw [show (Lk.nt x y).lets g t = !decide (t = y) by simp [Lk.lets, h]] at q
        exact q
      · rw [decide_eq_false h]
        walk_at "go"
        rw [show (Lk.nt x y).lets g t = true by simp [Lk.lets, h]] at q
        exact q
    | ths x y =>
      obtain ⟨rfl, rfl⟩ := hv
      walk_at "go"
      refine ix3a ha ?_
      walk_at "go"
      rw [show decide ((Lk.ths x y).word = Str.ofString "not") = false from rfl]
      walk_at "go"
      refine ix3a ha ?_
      walk_at "go"
      rw [show decide ((Lk.ths x y).word = Str.ofString "this") = true from rfl]
      walk_at "go"
      refine ix3b ha ?_
      walk_at "go"
      by_cases h : g = x
      · rw [decide_eq_true h]
        walk_at "go"
        refine ix3c ha ?_
        walk_at "go"
        rw [show (Lk.ths x y).lets g t = decide (t = y) by simp [Lk.lets, h]] at q
        exact q
      · rw [decide_eq_false h]
        walk_at "go"
        refine ix3c ha ?_
        walk_at "go"
        rw [show (Lk.ths x y).lets g t = !decide (t = y) by simp [Lk.lets, h]] at q
        exact q
    | one x ts =>
      obtain ⟨rfl, s, rfl, hs⟩ := hv
      walk_at "go"
      refine ix3a ha ?_
      walk_at "go"
      rw [show decide ((Lk.one x ts).word = Str.ofString "not") = false from rfl]
      walk_at "go"
      refine ix3a ha ?_
      walk_at "go"
      rw [show decide ((Lk.one x ts).word = Str.ofString "this") = false from rfl]
      walk_at "go"
      refine ix3a ha ?_
      walk_at "go"
      rw [show decide ((Lk.one x ts).word = Str.ofString "one") = true from rfl]
      walk_at "go"
      refine ix3b ha ?_
      walk_at "go"
      by_cases h : g = x
      · rw [decide_eq_true h]
        walk_at "go"
        refine ix3c ha ?_
        refine i_in (.inl hs) ?_
        walk_at "go"
        rw [show (Lk.one x ts).lets g t = decide (t ∈ ts) by simp [Lk.lets, h]] at q
        exact q
      · rw [decide_eq_false h]
        walk_at "go"
        rw [show (Lk.one x ts).lets g t = true by simp [Lk.lets, h]] at q
        exact q
    | frm x ts =>
      obtain ⟨rfl, s, rfl, hs⟩ := hv
      walk_at "go"
      refine ix3a ha ?_
      walk_at "go"
      rw [show decide ((Lk.frm x ts).word = Str.ofString "not") = false from rfl]
      walk_at "go"
      refine ix3a ha ?_
      walk_at "go"
      rw [show decide ((Lk.frm x ts).word = Str.ofString "this") = false from rfl]
      walk_at "go"
      refine ix3a ha ?_
      walk_at "go"
      rw [show decide ((Lk.frm x ts).word = Str.ofString "one") = false from rfl]
      walk_at "go"
      refine ix3a ha ?_
      walk_at "go"
      rw [show decide ((Lk.frm x ts).word = Str.ofString "from") = true from rfl]
      walk_at "go"
      refine ix3b ha ?_
      walk_at "go"
      by_cases h : t = x
      · rw [decide_eq_true h]
        walk_at "go"
        refine ix3c ha ?_
        refine i_in (.inl hs) ?_
        walk_at "go"
        rw [show (Lk.frm x ts).lets g t = decide (g ∈ ts) by simp [Lk.lets, h]] at q
        exact q
      · rw [decide_eq_false h]
        walk_at "go"
        rw [show (Lk.frm x ts).lets g t = true by simp [Lk.lets, h]] at q
        exact q
    | lot gs ts =>
      obtain ⟨⟨r, rfl, hr⟩, s, rfl, hs⟩ := hv
      walk_at "go"
      refine ix3a ha ?_
      walk_at "go"
      rw [show decide ((Lk.lot gs ts).word = Str.ofString "not") = false from rfl]
      walk_at "go"
      refine ix3a ha ?_
      walk_at "go"
      rw [show decide ((Lk.lot gs ts).word = Str.ofString "this") = false from rfl]
      walk_at "go"
      refine ix3a ha ?_
      walk_at "go"
      rw [show decide ((Lk.lot gs ts).word = Str.ofString "one") = false from rfl]
      walk_at "go"
      refine ix3a ha ?_
      walk_at "go"
      rw [show decide ((Lk.lot gs ts).word = Str.ofString "from") = false from rfl]
      walk_at "go"
      refine ix3a ha ?_
      walk_at "go"
      rw [show decide ((Lk.lot gs ts).word = Str.ofString "lot") = true from rfl]
      walk_at "go"
      refine ix3b ha ?_
      refine i_ni (.inl hr) ?_
      walk_at "go"
      by_cases h : g ∈ gs
      · rw [decide_eq_true h]
        walk_at "go"
        refine ix3c ha ?_
        refine i_in (.inl hs) ?_
        walk_at "go"
        rw [show (Lk.lot gs ts).lets g t = decide (t ∈ ts) by simp [Lk.lets, h]] at q
        exact q
      · rw [decide_eq_false h]
        walk_at "go"
        rw [show (Lk.lot gs ts).lets g t = true by simp [Lk.lets, h]] at q
        exact q
    | nev gs ts =>
      obtain ⟨⟨r, rfl, hr⟩, s, rfl, hs⟩ := hv
      walk_at "go"
      refine ix3a ha ?_
      walk_at "go"
      rw [show decide ((Lk.nev gs ts).word = Str.ofString "not") = false from rfl]
      walk_at "go"
      refine ix3a ha ?_
      walk_at "go"
      rw [show decide ((Lk.nev gs ts).word = Str.ofString "this") = false from rfl]
      walk_at "go"
      refine ix3a ha ?_
      walk_at "go"
      rw [show decide ((Lk.nev gs ts).word = Str.ofString "one") = false from rfl]
      walk_at "go"
      refine ix3a ha ?_
      walk_at "go"
      rw [show decide ((Lk.nev gs ts).word = Str.ofString "from") = false from rfl]
      walk_at "go"
      refine ix3a ha ?_
      walk_at "go"
      rw [show decide ((Lk.nev gs ts).word = Str.ofString "lot") = false from rfl]
      walk_at "go"
      refine ix3b ha ?_
      refine i_in (.inl hr) ?_
      walk_at "go"
      by_cases h : g ∈ gs
      · rw [decide_eq_true h]
        walk_at "go"
        refine ix3c ha ?_
        refine i_in (.inl hs) ?_
        walk_at "go"
        rw [show (Lk.nev gs ts).lets g t = !decide (t ∈ ts) by simp [Lk.lets, h]] at q
        exact q
      · rw [decide_eq_false h]
        walk_at "go"
        rw [show (Lk.nev gs ts).lets g t = true by simp [Lk.lets, h]] at q
        exact q
end
end GR
end
section
set_option Elab.async false
set_option linter.all false
set_option maxRecDepth 100000
set_option maxHeartbeats 4000000
set_option autoImplicit false
namespace GR
open PySem PySem.Spec L2
open Evl (Ex)
local macro_rules | `(tactic| walk_at "go") => `(tactic| (repeat (first
  | with_reducible refine i_seq ?_
  | ((with_reducible apply i_var); focus rfl)
  | with_reducible refine i_c ?_
  | with_reducible refine i_cons ?_
  | with_reducible refine i_nil ?_
  | with_reducible refine i_asg ?_
  | with_reducible refine i_name ?_
  | with_reducible refine i_op ?_
  | with_reducible refine i_cb ?_
  | with_reducible refine i_fn ?_
  | with_reducible refine i_ret ?_
  | with_reducible refine i_retN ?_
  | with_reducible refine i_drop ?_
  | with_reducible refine i_next ?_
  | with_reducible refine i_cont ?_
  | with_reducible refine i_break ?_
  | with_reducible refine i_if ?_
  | with_reducible refine br_t ?_
  | with_reducible refine br_f ?_
  | with_reducible refine br_nt ?_
  | with_reducible refine io_t ?_
  | with_reducible refine io_f ?_
  | with_reducible refine io_nt ?_
  | with_reducible refine io_nf ?_
  | with_reducible refine br_nf ?_
  | with_reducible refine o_ip ?_
  | with_reducible refine i_test ?_
  | with_reducible refine i_tB ?_
  | with_reducible refine i_not ?_
  | with_reducible refine i_notV ?_
  | with_reducible refine i_andV ?_
  | with_reducible refine i_orV ?_
  | with_reducible refine i_and ?_
  | with_reducible refine i_or ?_
  | with_reducible refine i_dput ?_
  | with_reducible refine i_dget ?_
  | with_reducible refine i_din ?_
  | with_reducible refine i_dnotin ?_
  | with_reducible refine i_dnewK ?_
  | with_reducible refine i_dnewT ?_
  | with_reducible refine i_fld ?_
  | with_reducible refine i_sfld ?_
  | with_reducible refine i_bm0 ?_
  | with_reducible refine i_bm ?_
  | with_reducible refine i_sl ?_
  | with_reducible refine i_noPart ?_
  | with_reducible refine i_part ?_
  | with_reducible refine i_chain ?_
  | with_reducible refine i_methR ?_
  | with_reducible refine i_tup ?_
  | with_reducible refine i_lst ?_
  | with_reducible refine i_for ?_
  | with_reducible refine i_iList ?_
  | with_reducible refine i_iTup ?_
  | with_reducible refine i_iKeys ?_
  | with_reducible refine i_iRng1 ?_
  | with_reducible refine i_iRng2 ?_
  | with_reducible refine i_iStr ?_
  | with_reducible refine i_iEnum ?_
  | with_reducible refine i_iEnumT ?_
  | with_reducible refine i_lc ?_
  | with_reducible refine i_stD ?_
  | with_reducible refine i_iItemsT ?_
  | with_reducible refine i_dcw ?_
  | with_reducible refine i_dsetd ?_
  | with_reducible refine i_iVals ?_
  | with_reducible refine i_iItems ?_
  | with_reducible refine i_revL ?_
  | with_reducible refine i_yes ?_
  | with_reducible refine o_I0 ?_
  | with_reducible refine o_eqS ?_
  | with_reducible refine o_neS ?_
  | with_reducible refine o_eqI ?_
  | with_reducible refine o_neI ?_
  | with_reducible refine o_eqB ?_
  | with_reducible refine e_ref ?_
  | with_reducible refine e_str ?_
  | with_reducible refine e_int ?_
  | with_reducible refine e_bl ?_
  | with_reducible refine e_str1 ?_
  | with_reducible refine e_int1 ?_
  | with_reducible refine e_int2 ?_
  | with_reducible refine e_str2 ?_)))
section
variable {P : Program} {w : World} {K : PySem.W.Frag} {mg : Str → Option Value} {base : Heap} {k j : Nat}
theorem Ts.lock {H : Hp} {t d : Addr} {xs : List Str} {u w : HO} (hd : H d = some u) (nu : ∀ ys, u ≠ .tup ys) (h : Ts H t xs) : Ts (upd H d w) t xs := upd_some (fun e => by have h' : H t = some (.tup (xs.map V.str)) := h; rw [e, hd] at h'; exact nu _ (Option.some.inj h')) h
theorem LkAt.lock {H : Hp} {a d : Addr} {l : Lk} {u w : HO} (hd : H d = some u) (h : LkAt H a l) (nu : ∀ ys, u ≠ .tup ys := by intro ys e; exact nomatch e) : LkAt (upd H d w) a l := by
  obtain ⟨v, x, h1, h2⟩ := h
  refine ⟨v, x, upd_some (fun e => by rw [e, hd] at h1; exact nu _ (Option.some.inj h1)) h1, ?_⟩
  cases l with
  | nt _ _ => exact h2
  | ths _ _ => exact h2
  | one _ _ => obtain ⟨e, t, h3, h4⟩ := h2; exact ⟨e, t, h3, h4.lock hd nu⟩
  | frm _ _ => obtain ⟨e, t, h3, h4⟩ := h2; exact ⟨e, t, h3, h4.lock hd nu⟩
  | lot _ _ => obtain ⟨⟨t, h3, h4⟩, r, h5, h6⟩ := h2; exact ⟨⟨t, h3, h4.lock hd nu⟩, r, h5, h6.lock hd nu⟩
  | nev _ _ => obtain ⟨⟨t, h3, h4⟩, r, h5, h6⟩ := h2; exact ⟨⟨t, h3, h4.lock hd nu⟩, r, h5, h6.lock hd nu⟩
abbrev n_law_kept : List Str := ["_law_leak_here", "_law_takers", "_law_a"]
theorem sc_law_kept : FnScope n_law_kept ["_law_leak_here", "_law_takers"] (defScope s_law_kept) := ⟨rfl, rfl, rfl, by decide +kernel, rfl, by decide +kernel, by decide +kernel⟩
def spKept : Sp := fun vs H Q _ => ∃ (a d : Addr) (l : Lk) (os : List Str), ∃ h : Str → Str, vs = [.ref a, .ref d] ∧ LkAt H a l ∧ H d = some (sd os fun g => .str (h g)) ∧ ∀ b H', Ex H H' → Q (.bl b) H'
theorem c_law_kept (T : Txt K mg) (c_law_lets : Cal P w K mg base k "_law_lets" spLets) : Cal P w K mg base (k + 1) "_law_kept" spKept := by
  refine T.a_law_kept.ok sc_law_kept (fun _ _ _ _ _ _ us hl => match us, hl with | [_, _], _ => rfl) (fun vs H Q E h => ?_) (fun f cdv A outer s H vs Q E hr h => ⟨_, (pss_cons (ps_lock (ps_for PassesOwn.never rfl (pi_keys (pv 1)) (pg_name (i := 2) sc_law_kept.nd rfl (Or.inl rfl)) (pss_one (ps_if (pt_not (pt_val (pe_fn c_law_lets (hr.mono (by omega)) (pa_cons (pv 0) (pa_cons (pv 2) (pa_cons (pe_dget (hu_of hr) (pv 1) (pv 2) (fun _ _ => rfl)) pa_nil)))))) (pss_one (ps_ret pe_bl)) pss_nil))))
      (pss_one (ps_ret pe_bl))), ?_⟩)
  · obtain ⟨_, _, _, _, _, rfl, _⟩ := h; rfl
  · obtain ⟨a, d, l, os, hh, rfl, hl, hd, q⟩ := h
    walk_at "go"
    refine i_lock hd trivial fun od => ?_
    walk_at "go"
    have nad : a ≠ d := fun e => by obtain ⟨v, u, h1, _⟩ := hl; rw [e, hd] at h1; exact nomatch h1
    have hl1 : LkAt (upd H d (.frz od (sd os fun g => .str (hh g)))) a l := hl.lock hd
    refine ⟨d, od, rfl, .inl ⟨_, upd_same, ?_⟩⟩
    have eu := ex_unlock (u := sd os fun g => .str (hh g)) hd (Ex.refl (upd H d (.frz od (sd os fun g => .str (hh g)))))
    refine loop_of walkK (fun i σ H1 => (∃ o, σ = [some (.ref a), some (.ref d), o]) ∧ H1 = upd H d (.frz od (sd os fun g => .str (hh g)))) ⟨⟨_, rfl⟩, rfl⟩ (fun i σ H1 _ z => by rw [z.2]; exact upd_same) (fun i v σ H1 H2 hi z y => ?_) (fun σ H1 z => ?_)
    · obtain ⟨⟨o, rfl⟩, rfl⟩ := z
      obtain ⟨rfl, g, hg, rfl⟩ := y
      walk_at "go"
      refine kd_get (.inr ⟨od, upd_same⟩) (List.mem_of_getElem? hg) ?_
      walk_at "go"
      refine ⟨a, l, g, hh g, rfl, hl1, ?_⟩
      walk_at "go"
      cases l.lets g (hh g) with
      | true =>
        walk_at "go"
        exact ⟨⟨_, rfl⟩, rfl⟩
      | false =>
        walk_at "go"
        exact ⟨upd_same, q _ _ eu⟩
    · obtain ⟨⟨o, rfl⟩, rfl⟩ := z
      exact ⟨upd_same, by walk_at "go"; exact q _ _ eu⟩
theorem i_catN {H : Hp} {a b : Addr} {xs ys : List Str} {Q : VK} (h1 : Ts H a xs) (h2 : Ts H b ys) (hn : xs ≠ []) (l1 : xs.length ≤ 7) (l2 : ys.length ≤ 7) (q : ∀ p H', Ex H H' → Ts H' p (xs ++ ys) → Q (.ref p) H') : oCatT (.ref a) (.ref b) H Q := by
  refine ⟨a, b, _, _, rfl, rfl, h1, h2, by rw [List.length_map, List.length_map]; exact small (by omega), fun e => absurd (List.map_eq_nil_iff.mp e) hn, fun _ e => ?_, fun _ _ p hp => q p _ (Ex.new hp) (by show _ = _; rw [upd_same, List.map_append])⟩
  refine q a H (Ex.refl _) ?_
  rw [List.map_eq_nil_iff.mp e, List.append_nil]
  exact h1
theorem lot_len {ps xs : List Str} (h : lotOk ps xs) (h7 : ps.length ≤ 7) : xs.length ≤ 7 := Nat.le_trans (h.2.1.length_le_of_subset fun y hy => h.2.2 y hy) h7
theorem lot_more {ps xs ys : List Str} (h : lotOk ps xs) (n : ys.Nodup) (i : ∀ y ∈ ys, y ∈ ps ∧ y ∉ xs) : lotOk ps (xs ++ ys) := by
  refine ⟨fun e => h.1 (List.append_eq_nil_iff.mp e).1, List.nodup_append.mpr ⟨h.2.1, n, fun x hx y hy e => (i y hy).2 (e ▸ hx)⟩, fun v hv => (List.mem_append.mp hv).elim (h.2.2 v) fun z => (i v z).1⟩
abbrev n_law_mended : List Str := ["_law_leak_here", "_law_hidden_here", "_law_more", "_law_held", "_law_takers", "_law_b", "_law_a"]
theorem sc_law_mended : FnScope n_law_mended ["_law_leak_here", "_law_hidden_here"] (defScope s_law_mended) := ⟨rfl, rfl, rfl, by decide +kernel, rfl, by decide +kernel, by decide +kernel⟩
def spMended : Sp := fun vs H Q _ => ∃ (a d : Addr) (l : Lk) (ps os : List Str), ∃ h : Str → Str, vs = [.ref a, .ref d] ∧ LkAt H a l ∧ l.ok ps ∧ H d = some (sd os fun g => .str (h g)) ∧ os.Perm ps ∧ ps.Nodup ∧ ps.length ≤ 7 ∧ (∀ x ∈ ps, h x ∈ ps ∧ h x ≠ x) ∧ (∀ x ∈ ps, ∀ y ∈ ps, h x = h y → x = y) ∧
  (∀ H', Ex H H' → Q .non H') ∧ ∀ p H' l, Ex H H' → LkAt H' p l → l.ok ps → Q (.ref p) H'
theorem c_law_mended (T : Txt K mg) : Cal P w K mg base (k + 1) "_law_mended" spMended := by
  refine T.a_law_mended.ok sc_law_mended (fun _ _ _ _ _ _ us hl => match us, hl with | [_, _], _ => rfl) (fun vs H Q E h => ?_) (fun f cdv A outer s H vs Q E hr h => ⟨_, (pss_cons (ps_if (pt_cmpR op_eq (pe_ix ixT (pv 0) pe_int (fun _ _ => rfl)) pe_str (nomark _)) (pss_one (ps_ret (pe_tup (pa_cons pe_str (pa_cons (pe_ix ixT (pv 0) pe_int (fun _ _ => rfl)) (pa_cons (pe_dget (hu_of hr) (pv 1) (pe_ix ixT (pv 0) pe_int (fun _ _ => rfl)) (fun _ _ => rfl)) pa_nil)))))) pss_nil)
      (pss_cons (ps_if (pt_cmpR op_eq (pe_ix ixT (pv 0) pe_int (fun _ _ => rfl)) pe_str (nomark _)) (pss_cons (ps_setLc (i := 2) (own := [("_law_b", 5)]) rfl sc_law_mended.nd rfl rfl (sw_true rfl rfl rfl (by decide +kernel)) (pi_list (pe_lst (pa_cons (pe_dget (hu_of hr) (pv 1) (pe_ix ixT (pv 0) pe_int (fun _ _ => rfl)) (fun _ _ => rfl)) pa_nil))) (blkOk_by (own := [("_law_b", 5)]) (N := n_law_mended) (sc := defScope s_law_mended) (by decide +kernel)) (fun _ _ _ _ _ => (pg_name (i := 5) sc_law_mended.nd rfl (Or.inl rfl))) (fun _ _ _ _ _ => pts_one (pt_cmpR opNotIn (pv 5) (pe_ix ixT (pv 0) pe_int (fun _ _ => rfl)) rfl)) (fun _ _ _ _ _ => (pv 5)) )
      (pss_one (ps_ret (pe_tup (pa_cons pe_str (pa_cons (pe_ix ixT (pv 0) pe_int (fun _ _ => rfl)) (pa_cons (pe_op opCatT (pe_ix ixT (pv 0) pe_int (fun _ _ => rfl)) (pe_callTy crTuple (by rfl) T.f_tuple b_tuple (pa_cons (pv 2) pa_nil))) pa_nil))))))) pss_nil)
      (pss_cons (ps_if (pt_cmpR op_eq (pe_ix ixT (pv 0) pe_int (fun _ _ => rfl)) pe_str (nomark _)) (pss_cons (ps_lock (ps_setLc (i := 2) (own := [("_law_a", 6)]) rfl sc_law_mended.nd rfl rfl (sw_true rfl rfl rfl (by decide +kernel)) (pi_keys (pv 1)) (blkOk_by (own := [("_law_a", 6)]) (N := n_law_mended) (sc := defScope s_law_mended) (by decide +kernel)) (fun _ _ _ _ _ => (pg_name (i := 6) sc_law_mended.nd rfl (Or.inl rfl))) (fun _ _ _ _ _ => pts_one (PW.pt (pw_and (pt_cmpR op_eq (pe_dget (hu_of hr) (pv 1) (pv 6) (fun _ _ => rfl)) (pe_ix ixT (pv 0) pe_int (fun _ _ => rfl)) (nomark _)) (pw_and1 (pt_cmpR opNotIn (pv 6) (pe_ix ixT (pv 0) pe_int (fun _ _ => rfl)) rfl))))) (fun _ _ _ _ _ => (pv 6)) ))
      (pss_one (ps_ret (pe_tup (pa_cons pe_str (pa_cons (pe_ix ixT (pv 0) pe_int (fun _ _ => rfl)) (pa_cons (pe_op opCatT (pe_ix ixT (pv 0) pe_int (fun _ _ => rfl)) (pe_callTy crTuple (by rfl) T.f_tuple b_tuple (pa_cons (pv 2) pa_nil))) pa_nil))))))) pss_nil)
      (pss_cons (ps_if (pt_cmpR op_eq (pe_ix ixT (pv 0) pe_int (fun _ _ => rfl)) pe_str (nomark _)) (pss_cons (ps_setLc (i := 2) (own := [("_law_a", 6)]) rfl sc_law_mended.nd rfl rfl (sw_true rfl rfl rfl (by decide +kernel)) (pi_tup (pe_ix ixT (pv 0) pe_int (fun _ _ => rfl))) (blkOk_by (own := [("_law_a", 6)]) (N := n_law_mended) (sc := defScope s_law_mended) (by decide +kernel)) (fun _ _ _ _ _ => (pg_name (i := 6) sc_law_mended.nd rfl (Or.inl rfl))) (fun _ _ _ _ _ => pts_one (pt_cmpR opNotIn (pe_dget (hu_of hr) (pv 1) (pv 6) (fun _ _ => rfl)) (pe_ix ixT (pv 0) pe_int (fun _ _ => rfl)) rfl)) (fun _ _ _ _ _ => (pe_dget (hu_of hr) (pv 1) (pv 6) (fun _ _ => rfl))) )
      (pss_one (ps_ret (pe_tup (pa_cons pe_str (pa_cons (pe_ix ixT (pv 0) pe_int (fun _ _ => rfl)) (pa_cons (pe_op opCatT (pe_ix ixT (pv 0) pe_int (fun _ _ => rfl)) (pe_callTy crTuple (by rfl) T.f_tuple b_tuple (pa_cons (pv 2) pa_nil))) pa_nil))))))) pss_nil)
      (pss_cons (ps_if (pt_cmpR op_eq (pe_ix ixT (pv 0) pe_int (fun _ _ => rfl)) pe_str (nomark _)) (pss_cons (ps_set (i := 3) sc_law_mended.nd rfl (Or.inr rfl) (pe_lc (own := [("_law_a", 6)]) rfl sc_law_mended.nd (pi_tup (pe_ix ixT (pv 0) pe_int (fun _ _ => rfl))) (blkOk_by (own := [("_law_a", 6)]) (N := n_law_mended) (sc := defScope s_law_mended) (by decide +kernel)) (fun _ _ _ _ _ => (pg_name (i := 6) sc_law_mended.nd rfl (Or.inl rfl))) (fun _ _ _ _ _ => pts_nil) (fun _ _ _ _ _ => (pe_dget (hu_of hr) (pv 1) (pv 6) (fun _ _ => rfl)))))
      (pss_cons (ps_setLc (i := 4) (own := [("_law_b", 5)]) rfl sc_law_mended.nd rfl rfl (sw_true rfl rfl rfl (by decide +kernel)) (pi_tup (pe_ix ixT (pv 0) pe_int (fun _ _ => rfl))) (blkOk_by (own := [("_law_b", 5)]) (N := n_law_mended) (sc := defScope s_law_mended) (by decide +kernel)) (fun _ _ _ _ _ => (pg_name (i := 5) sc_law_mended.nd rfl (Or.inl rfl))) (fun _ _ _ _ _ => pts_one (pt_cmpR opNotIn (pv 5) (pv 3) rfl)) (fun _ _ _ _ _ => (pv 5)) )
      (pss_cons (ps_if (pt_cmpR op_eq (pe_callB crLen (by rfl) T.f_len b_len (pa_cons (pv 4) pa_nil)) pe_int (nomark _)) (pss_one (ps_ret pe_non)) pss_nil)
      (pss_one (ps_ret (pe_tup (pa_cons pe_str (pa_cons (pe_ix ixT (pv 0) pe_int (fun _ _ => rfl)) (pa_cons (pe_callTy crTuple (by rfl) T.f_tuple b_tuple (pa_cons (pv 4) pa_nil)) pa_nil))))))))) pss_nil)
      (pss_cons (ps_if (pt_cmpR op_eq (pe_dget (hu_of hr) (pv 1) (pe_ix ixT (pv 0) pe_int (fun _ _ => rfl)) (fun _ _ => rfl)) (pe_ix ixT (pv 0) pe_int (fun _ _ => rfl)) (nomark _)) (pss_one (ps_ret pe_non)) pss_nil)
      (pss_one (ps_ret (pv 0))))))))), ?_⟩)
  · obtain ⟨_, _, _, _, _, _, rfl, _⟩ := h; rfl
  · obtain ⟨a, d, l, ps, os, hh, rfl, ⟨v, u, ha, hv⟩, ok, hd, pm, nd, h7, hin, inj, q1, q2⟩ := h
    have mo : ∀ {x}, x ∈ ps → x ∈ os := fun {x} h => pm.mem_iff.mpr h
    cases l with
    | nt x y =>
      obtain ⟨rfl, rfl⟩ := hv
      walk_at "go"
      refine ix3a ha ?_
      walk_at "go"
      rw [show decide ((Lk.nt x y).word = Str.ofString "this") = false from rfl]
      walk_at "go"
      refine ix3a ha ?_
      walk_at "go"
      rw [show decide ((Lk.nt x y).word = Str.ofString "one") = false from rfl]
      walk_at "go"
      refine ix3a ha ?_
      walk_at "go"
      rw [show decide ((Lk.nt x y).word = Str.ofString "from") = false from rfl]
      walk_at "go"
      refine ix3a ha ?_
      walk_at "go"
      rw [show decide ((Lk.nt x y).word = Str.ofString "lot") = false from rfl]
      walk_at "go"
      refine ix3a ha ?_
      walk_at "go"
      rw [show decide ((Lk.nt x y).word = Str.ofString "never") = false from rfl]
      walk_at "go"
      refine ix3b ha ?_
      refine kd_get (.inl hd) (mo ok.2.1) ?_
      walk_at "go"
      refine ix3c ha ?_
      walk_at "go"
      by_cases e : hh x = y
      · rw [decide_eq_true e]
        walk_at "go"
        exact q1 H (Ex.refl _)
      · rw [decide_eq_false e]
        walk_at "go"
        exact q2 a H (.nt x y) (Ex.refl _) ⟨_, _, ha, rfl, rfl⟩ ok
    | ths x y =>
      obtain ⟨rfl, rfl⟩ := hv
      walk_at "go"
      refine ix3a ha ?_
      walk_at "go"
      rw [show decide ((Lk.ths x y).word = Str.ofString "this") = true from rfl]
      walk_at "go"
      refine ix3b ha ?_
      walk_at "go"
      refine ix3b ha ?_
      refine kd_get (.inl hd) (mo ok.2.1) ?_
      walk_at "go"
      refine ⟨by show 3 ≤ sizeLine; decide, fun p hp => ?_⟩
      exact q2 p _ (.ths x (hh x)) (Ex.new hp) ⟨_, _, upd_same, rfl, rfl⟩ ⟨fun e => (hin x ok.2.1).2 e.symm, ok.2.1, (hin x ok.2.1).1⟩
    | one x ts =>
      obtain ⟨rfl, s, rfl, hs⟩ := hv
      walk_at "go"
      refine ix3a ha ?_
      walk_at "go"
      rw [show decide ((Lk.one x ts).word = Str.ofString "this") = false from rfl]
      walk_at "go"
      refine ix3a ha ?_
      walk_at "go"
      rw [show decide ((Lk.one x ts).word = Str.ofString "one") = true from rfl]
      have l7 := lot_len ok.2 h7
      walk_at "go"
      refine ix3b ha ?_
      refine kd_get (.inl hd) (mo ok.1) ?_
      walk_at "go"
      refine ⟨by show 1 ≤ sizeLine; decide, fun r hr => ?_⟩
      walk_at "go"
      refine ⟨⟨_, SqL.of upd_same⟩, ?_⟩
      have e1 := Ex.new (o := .lst [.str (hh x)]) hr
      have wl := walk_list (K := K) (a := r) (xs := [hh x].map V.str)
      rw [List.length_map] at wl
      refine lcL [hh x] V.str wl (small (by show 1 ≤ 1000; omega)) (fun _ _ _ _ y => y) (fun t => !decide (t ∈ ts)) V.str (fun D acc hD => SqL.of (Ex.new hD _ _ upd_same)) (fun D acc t N T' hD ht k1 k2 => ?_) fun D hD => ?_
      · walk_at "go"
        refine ⟨rfl, ?_⟩
        walk_at "go"
        refine ix3c (Ex.new hD _ _ (e1 _ _ ha)) ?_
        refine i_ni (.inl (Ex.new hD _ _ (e1 _ _ hs))) ?_
        by_cases hm : t ∈ ts
        · rw [decide_eq_true hm]
          walk_at "go"
          exact k1 (by simp [hm])
        · rw [decide_eq_false hm]
          walk_at "go"
          exact k2 (by simp [hm])
      · have e2 : Ex H (upd (upd H r (.lst [.str (hh x)])) D (.lst ((([hh x] : List Str).filter fun t => !decide (t ∈ ts)).map V.str))) := e1.trans (Ex.new hD)
        have hD2 : upd (upd H r (.lst [.str (hh x)])) D (.lst ((([hh x] : List Str).filter fun t => !decide (t ∈ ts)).map V.str)) D = _ := upd_same
        generalize upd (upd H r (.lst [.str (hh x)])) D (.lst ((([hh x] : List Str).filter fun t => !decide (t ∈ ts)).map V.str)) = H2 at e2 hD2 ⊢
        have mok : ∀ y ∈ ([hh x] : List Str).filter (fun t => !decide (t ∈ ts)), y ∈ ps ∧ y ∉ ts := fun y hy => by
          obtain ⟨h1, h2⟩ := List.mem_filter.mp hy
          rw [List.mem_singleton.mp h1] at h2 ⊢
          exact ⟨(hin x ok.1).1, by simpa using h2⟩
        have mnd : (([hh x] : List Str).filter fun t => !decide (t ∈ ts)).Nodup := (List.nodup_cons.mpr ⟨fun h => (nomatch h), List.nodup_nil⟩ : [hh x].Nodup).sublist List.filter_sublist
        generalize ([hh x] : List Str).filter (fun t => !decide (t ∈ ts)) = ms at hD2 mok mnd
        have ml7 : ms.length ≤ 7 := Nat.le_trans (mnd.length_le_of_subset fun y hy => (mok y hy).1) h7
        walk_at "go"
        refine ix3b (e2 _ _ ha) ?_
        walk_at "go"
        refine ix3c (e2 _ _ ha) ?_
        walk_at "go"
        refine ⟨D, _, rfl, hD2, fun tu htu => ?_⟩
        refine i_catN (a := s) (xs := ts) (ys := ms) (Ex.new htu _ _ (e2 _ _ hs)) upd_same ok.2.1 l7 ml7 fun tc H5 e5 htc => ?_
        walk_at "go"
        refine ⟨by show 3 ≤ sizeLine; decide, fun p hp => ?_⟩
        have e6 := ((e2.trans (Ex.new (o := .tup ((ms).map V.str)) htu)).trans e5)
        exact q2 p _ (.one x (ts ++ ms)) (e6.trans (Ex.new hp)) ⟨_, _, upd_same, rfl, ⟨tc, rfl, htc.ex (Ex.new hp)⟩⟩ ⟨ok.1, lot_more ok.2 mnd mok⟩
    | frm x ts =>
      obtain ⟨rfl, s, rfl, hs⟩ := hv
      walk_at "go"
      refine ix3a ha ?_
      walk_at "go"
      rw [show decide ((Lk.frm x ts).word = Str.ofString "this") = false from rfl]
      walk_at "go"
      refine ix3a ha ?_
      walk_at "go"
      rw [show decide ((Lk.frm x ts).word = Str.ofString "one") = false from rfl]
      walk_at "go"
      refine ix3a ha ?_
      walk_at "go"
      rw [show decide ((Lk.frm x ts).word = Str.ofString "from") = true from rfl]
      walk_at "go"
      have l7 := lot_len ok.2 h7
      refine i_lock hd trivial fun od => ?_
      walk_at "go"
      refine ⟨d, od, rfl, .inl ⟨_, upd_same, ?_⟩⟩
      have nad : a ≠ d := fun e => by rw [e, hd] at ha; exact nomatch ha
      have haL := upd_some (o := .frz od (sd os fun g => .str (hh g))) nad ha
      have hsL : Ts (upd H d (.frz od (sd os fun g => .str (hh g)))) s ts := hs.lock hd (fun ys e => nomatch e)
      have ol : os.length ≤ 7 := by rw [pm.length_eq]; exact h7
      refine lcL os V.str walkK (small (by omega)) (fun _ _ _ _ y => by obtain ⟨e, z, hz, ez⟩ := y; exact ⟨e, by rw [List.getElem?_map, hz, ez]; rfl⟩) (fun t => decide (hh t = x) && !decide (t ∈ ts)) V.str (fun D acc hD => Ex.new hD _ _ upd_same) (fun D acc t N T' hD ht k1 k2 => ?_) fun D hD => ?_
      · walk_at "go"
        refine ⟨rfl, ?_⟩
        walk_at "go"
        refine kd_get (.inr ⟨od, Ex.new hD _ _ upd_same⟩) ht ?_
        walk_at "go"
        refine ix3b (Ex.new hD _ _ haL) ?_
        walk_at "go"
        by_cases e : hh t = x
        · rw [decide_eq_true e]
          walk_at "go"
          refine ix3c (Ex.new hD _ _ haL) ?_
          refine i_ni (.inl (Ex.new hD _ _ hsL)) ?_
          by_cases hm : t ∈ ts
          · rw [decide_eq_true hm]
            walk_at "go"
            exact k1 (by simp [hm])
          · rw [decide_eq_false hm]
            walk_at "go"
            exact k2 (by simp [hm, e])
        · rw [decide_eq_false e]
          walk_at "go"
          exact k1 (by simp [e])
      · have hDd : D ≠ d := fun e => by rw [e, upd_same] at hD; exact nomatch hD
        walk_at "go"
        refine ⟨Ex.new hD _ _ upd_same, ?_⟩
        have e2 := ex_unlock (u := sd os fun g => .str (hh g)) hd (Ex.new (o := .lst ((os.filter fun t => decide (hh t = x) && !decide (t ∈ ts)).map V.str)) hD)
        have hD2 := upd_some (o := sd os fun g => .str (hh g)) hDd (upd_same (H := upd H d (.frz od (sd os fun g => .str (hh g)))) (a := D) (o := .lst ((os.filter fun t => decide (hh t = x) && !decide (t ∈ ts)).map V.str)))
        generalize upd (upd (upd H d (.frz od (sd os fun g => .str (hh g)))) D (.lst ((os.filter fun t => decide (hh t = x) && !decide (t ∈ ts)).map V.str))) d (sd os fun g => .str (hh g)) = H2 at e2 hD2 ⊢
        have mok : ∀ y ∈ os.filter (fun t => decide (hh t = x) && !decide (t ∈ ts)), y ∈ ps ∧ y ∉ ts := fun y hy => by
          obtain ⟨h1, h2⟩ := List.mem_filter.mp hy
          rw [Bool.and_eq_true] at h2
          exact ⟨pm.mem_iff.mp h1, by simpa using h2.2⟩
        have mnd : (os.filter fun t => decide (hh t = x) && !decide (t ∈ ts)).Nodup := (pm.nodup_iff.mpr nd).sublist List.filter_sublist
        generalize os.filter (fun t => decide (hh t = x) && !decide (t ∈ ts)) = ms at hD2 mok mnd
        have ml7 : ms.length ≤ 7 := Nat.le_trans (mnd.length_le_of_subset fun y hy => (mok y hy).1) h7
        walk_at "go"
        refine ix3b (e2 _ _ ha) ?_
        walk_at "go"
        refine ix3c (e2 _ _ ha) ?_
        walk_at "go"
        refine ⟨D, _, rfl, hD2, fun tu htu => ?_⟩
        refine i_catN (a := s) (xs := ts) (ys := ms) (Ex.new htu _ _ (e2 _ _ hs)) upd_same ok.2.1 l7 ml7 fun tc H5 e5 htc => ?_
        walk_at "go"
        refine ⟨by show 3 ≤ sizeLine; decide, fun p hp => ?_⟩
        have e6 := ((e2.trans (Ex.new (o := .tup ((ms).map V.str)) htu)).trans e5)
        exact q2 p _ (.frm x (ts ++ ms)) (e6.trans (Ex.new hp)) ⟨_, _, upd_same, rfl, ⟨tc, rfl, htc.ex (Ex.new hp)⟩⟩ ⟨ok.1, lot_more ok.2 mnd mok⟩
    | lot gs ts =>
      obtain ⟨⟨r, rfl, hr⟩, s, rfl, hs⟩ := hv
      walk_at "go"
      refine ix3a ha ?_
      walk_at "go"
      rw [show decide ((Lk.lot gs ts).word = Str.ofString "this") = false from rfl]
      walk_at "go"
      refine ix3a ha ?_
      walk_at "go"
      rw [show decide ((Lk.lot gs ts).word = Str.ofString "one") = false from rfl]
      walk_at "go"
      refine ix3a ha ?_
      walk_at "go"
      rw [show decide ((Lk.lot gs ts).word = Str.ofString "from") = false from rfl]
      walk_at "go"
      refine ix3a ha ?_
      walk_at "go"
      rw [show decide ((Lk.lot gs ts).word = Str.ofString "lot") = true from rfl]
      walk_at "go"
      have l7 := lot_len ok.2 h7
      have g7 := lot_len ok.1 h7
      refine ix3b ha ?_
      refine ⟨r, rfl, ⟨_, SqT.of hr⟩, ?_⟩
      have wl := walk_tup (K := K) (a := r) (xs := gs.map V.str)
      rw [List.length_map] at wl
      refine lcL gs V.str wl (small (by omega)) (fun _ _ _ _ y => y) (fun t => !decide (hh t ∈ ts)) (fun t => V.str (hh t)) (fun D acc hD => SqT.of (Ex.new hD _ _ hr)) (fun D acc t N T' hD ht k1 k2 => ?_) fun D hD => ?_
      · walk_at "go"
        refine ⟨rfl, ?_⟩
        walk_at "go"
        refine kd_get (.inl (Ex.new hD _ _ hd)) (mo (ok.1.2.2 t ht)) ?_
        walk_at "go"
        refine ix3c (Ex.new hD _ _ ha) ?_
        refine i_ni (.inl (Ex.new hD _ _ hs)) ?_
        by_cases hm : hh t ∈ ts
        · rw [decide_eq_true hm]
          walk_at "go"
          exact k1 (by simp [hm])
        · rw [decide_eq_false hm]
          walk_at "go"
          refine kd_get (.inl (Ex.new hD _ _ hd)) (mo (ok.1.2.2 t ht)) ?_
          exact k2 (by simp [hm])
      · have em : (gs.filter fun t => !decide (hh t ∈ ts)).map (fun t => V.str (hh t)) = ((gs.filter fun t => !decide (hh t ∈ ts)).map hh).map V.str := by rw [List.map_map]; rfl
        rw [em]
        have e2 := Ex.new (o := .lst (((gs.filter fun t => !decide (hh t ∈ ts)).map hh).map V.str)) hD
        have hD2 : upd H D (.lst (((gs.filter fun t => !decide (hh t ∈ ts)).map hh).map V.str)) D = _ := upd_same
        generalize upd H D (.lst (((gs.filter fun t => !decide (hh t ∈ ts)).map hh).map V.str)) = H2 at e2 hD2 ⊢
        have mok : ∀ y ∈ (gs.filter fun t => !decide (hh t ∈ ts)).map hh, y ∈ ps ∧ y ∉ ts := fun y hy => by
          obtain ⟨z, hz, rfl⟩ := List.mem_map.mp hy
          obtain ⟨h1, h2⟩ := List.mem_filter.mp hz
          exact ⟨(hin z (ok.1.2.2 z h1)).1, by simpa using h2⟩
        have mnd : ((gs.filter fun t => !decide (hh t ∈ ts)).map hh).Nodup := by
          refine List.pairwise_map.mpr ((ok.1.2.1.sublist List.filter_sublist).imp_of_mem fun {y z} hy hz ne e => ne (inj y (ok.1.2.2 y (List.mem_filter.mp hy).1) z (ok.1.2.2 z (List.mem_filter.mp hz).1) e))
        generalize (gs.filter fun t => !decide (hh t ∈ ts)).map hh = ms at hD2 mok mnd
        have ml7 : ms.length ≤ 7 := Nat.le_trans (mnd.length_le_of_subset fun y hy => (mok y hy).1) h7
        walk_at "go"
        refine ix3b (e2 _ _ ha) ?_
        walk_at "go"
        refine ix3c (e2 _ _ ha) ?_
        walk_at "go"
        refine ⟨D, _, rfl, hD2, fun tu htu => ?_⟩
        refine i_catN (a := s) (xs := ts) (ys := ms) (Ex.new htu _ _ (e2 _ _ hs)) upd_same ok.2.1 l7 ml7 fun tc H5 e5 htc => ?_
        walk_at "go"
        refine ⟨by show 3 ≤ sizeLine; decide, fun p hp => ?_⟩
        have e6 := ((e2.trans (Ex.new (o := .tup ((ms).map V.str)) htu)).trans e5)
        exact q2 p _ (.lot gs (ts ++ ms)) (e6.trans (Ex.new hp)) ⟨_, _, upd_same, ⟨r, rfl, (hr.ex e6).ex (Ex.new hp)⟩, ⟨tc, rfl, htc.ex (Ex.new hp)⟩⟩ ⟨ok.1, lot_more ok.2 mnd mok⟩
    | nev gs ts =>
      obtain ⟨⟨r, rfl, hr⟩, s, rfl, hs⟩ := hv
      walk_at "go"
      refine ix3a ha ?_
      walk_at "go"
      rw [show decide ((Lk.nev gs ts).word = Str.ofString "this") = false from rfl]
      walk_at "go"
      refine ix3a ha ?_
      walk_at "go"
      rw [show decide ((Lk.nev gs ts).word = Str.ofString "one") = false from rfl]
      walk_at "go"
      refine ix3a ha ?_
      walk_at "go"
      rw [show decide ((Lk.nev gs ts).word = Str.ofString "from") = false from rfl]
      walk_at "go"
      refine ix3a ha ?_
      walk_at "go"
      rw [show decide ((Lk.nev gs ts).word = Str.ofString "lot") = false from rfl]
      walk_at "go"
      refine ix3a ha ?_
      walk_at "go"
      rw [show decide ((Lk.nev gs ts).word = Str.ofString "never") = true from rfl]
      walk_at "go"
      have l7 := lot_len ok.2 h7
      have g7 := lot_len ok.1 h7
      refine ix3b ha ?_
      refine ⟨r, rfl, ⟨_, SqT.of hr⟩, ?_⟩
      have wl := walk_tup (K := K) (a := r) (xs := gs.map V.str)
      rw [List.length_map] at wl
      refine lcL gs V.str wl (small (by omega)) (fun _ _ _ _ y => y) (fun t => true) (fun t => V.str (hh t)) (fun D acc hD => SqT.of (Ex.new hD _ _ hr)) (fun D acc t N T' hD ht k1 k2 => ?_) fun D hD => ?_
      · walk_at "go"
        refine ⟨rfl, ?_⟩
        walk_at "go"
        refine kd_get (.inl (Ex.new hD _ _ hd)) (mo (ok.1.2.2 t ht)) ?_
        exact k2 rfl
      · have em : (gs.filter fun t => true).map (fun t => V.str (hh t)) = (gs.map hh).map V.str := by rw [List.map_map, List.filter_eq_self.mpr fun _ _ => rfl]; rfl
        rw [em]
        have e1 := Ex.new (o := .lst ((gs.map hh).map V.str)) hD
        have hD1 : Ls (upd H D (.lst ((gs.map hh).map V.str))) D (gs.map hh) := upd_same
        generalize upd H D (.lst ((gs.map hh).map V.str)) = H1 at e1 hD1 ⊢
        walk_at "go"
        refine ix3c (e1 _ _ ha) ?_
        refine ⟨s, rfl, ⟨_, SqT.of (e1 _ _ hs)⟩, ?_⟩
        have wl2 := walk_tup (K := K) (a := s) (xs := ts.map V.str)
        rw [List.length_map] at wl2
        refine lcL ts V.str wl2 (small (by omega)) (fun _ _ _ _ y => y) (fun t => !decide (t ∈ gs.map hh)) V.str (fun D2 acc hD2 => SqT.of (Ex.new hD2 _ _ (e1 _ _ hs))) (fun D2 acc t N T' hD2 ht k1 k2 => ?_) fun D2 hD2 => ?_
        · walk_at "go"
          refine ⟨rfl, ?_⟩
          walk_at "go"
          refine i_ni (.inr (Ex.new hD2 _ _ hD1)) ?_
          by_cases hm : t ∈ gs.map hh
          · rw [decide_eq_true hm]
            walk_at "go"
            exact k1 (by rw [decide_eq_true hm]; rfl)
          · rw [decide_eq_false hm]
            walk_at "go"
            exact k2 (by rw [decide_eq_false hm]; rfl)
        · have e2 := e1.trans (Ex.new (o := .lst ((ts.filter fun t => !decide (t ∈ gs.map hh)).map V.str)) hD2)
          have hL2 : Ls (upd H1 D2 (.lst ((ts.filter fun t => !decide (t ∈ gs.map hh)).map V.str))) D2 (ts.filter fun t => !decide (t ∈ gs.map hh)) := upd_same
          generalize upd H1 D2 (.lst ((ts.filter fun t => !decide (t ∈ gs.map hh)).map V.str)) = H2 at e2 hL2 ⊢
          have mnd : (ts.filter fun t => !decide (t ∈ gs.map hh)).Nodup := ok.2.2.1.sublist List.filter_sublist
          have mok : ∀ y ∈ ts.filter (fun t => !decide (t ∈ gs.map hh)), y ∈ ps := fun y hy => ok.2.2.2 y (List.mem_filter.mp hy).1
          generalize (ts.filter fun t => !decide (t ∈ gs.map hh)) = ms at hL2 mnd mok
          walk_at "go"
          refine ⟨D2, _, rfl, .inl hL2, ?_⟩
          rw [List.length_map]
          walk_at "go"
          by_cases h0 : ms.length = 0
          · rw [decide_eq_true (by rw [h0]; rfl)]
            walk_at "go"
            exact q1 _ e2
          · rw [decide_eq_false (by omega)]
            walk_at "go"
            refine ix3b (e2 _ _ ha) ?_
            walk_at "go"
            refine ⟨D2, _, rfl, hL2, fun tu htu => ?_⟩
            walk_at "go"
            refine ⟨by show 3 ≤ sizeLine; decide, fun p hp => ?_⟩
            exact q2 p _ (.nev gs ms) ((e2.trans (Ex.new htu)).trans (Ex.new hp)) ⟨_, _, upd_same, ⟨r, rfl, Ex.new hp _ _ (Ex.new htu _ _ (e2 _ _ hr))⟩, ⟨tu, rfl, Ex.new hp _ _ upd_same⟩⟩ ⟨ok.1, fun e => h0 (by rw [e]; rfl), mnd, mok⟩
end
end GR
end
section
set_option Elab.async false
set_option linter.all false
set_option maxRecDepth 100000
set_option maxHeartbeats 4000000
set_option autoImplicit false
namespace GR
open PySem PySem.Spec L2
open Evl (Ex)
local macro_rules | `(tactic| walk_at "go") => `(tactic| (repeat (first
  | with_reducible refine i_seq ?_
  | ((with_reducible apply i_var); focus rfl)
  | with_reducible refine i_c ?_
  | with_reducible refine i_cons ?_
  | with_reducible refine i_nil ?_
  | with_reducible refine i_asg ?_
  | with_reducible refine i_name ?_
  | with_reducible refine i_op ?_
  | with_reducible refine i_cb ?_
  | with_reducible refine i_fn ?_
  | with_reducible refine i_ret ?_
  | with_reducible refine i_retN ?_
  | with_reducible refine i_drop ?_
  | with_reducible refine i_next ?_
  | with_reducible refine i_cont ?_
  | with_reducible refine i_break ?_
  | with_reducible refine i_if ?_
  | with_reducible refine br_t ?_
  | with_reducible refine br_f ?_
  | with_reducible refine br_nt ?_
  | with_reducible refine io_t ?_
  | with_reducible refine io_f ?_
  | with_reducible refine io_nt ?_
  | with_reducible refine io_nf ?_
  | with_reducible refine br_nf ?_
  | with_reducible refine o_ip ?_
  | with_reducible refine i_test ?_
  | with_reducible refine i_tB ?_
  | with_reducible refine i_not ?_
  | with_reducible refine i_notV ?_
  | with_reducible refine i_andV ?_
  | with_reducible refine i_orV ?_
  | with_reducible refine i_and ?_
  | with_reducible refine i_or ?_
  | with_reducible refine i_dput ?_
  | with_reducible refine i_dget ?_
  | with_reducible refine i_din ?_
  | with_reducible refine i_dnotin ?_
  | with_reducible refine i_dnewK ?_
  | with_reducible refine i_dnewT ?_
  | with_reducible refine i_fld ?_
  | with_reducible refine i_sfld ?_
  | with_reducible refine i_bm0 ?_
  | with_reducible refine i_bm ?_
  | with_reducible refine i_sl ?_
  | with_reducible refine i_noPart ?_
  | with_reducible refine i_part ?_
  | with_reducible refine i_chain ?_
  | with_reducible refine i_methR ?_
  | with_reducible refine i_tup ?_
  | with_reducible refine i_lst ?_
  | with_reducible refine i_for ?_
  | with_reducible refine i_iList ?_
  | with_reducible refine i_iTup ?_
  | with_reducible refine i_iKeys ?_
  | with_reducible refine i_iRng1 ?_
  | with_reducible refine i_iRng2 ?_
  | with_reducible refine i_iStr ?_
  | with_reducible refine i_iEnum ?_
  | with_reducible refine i_iEnumT ?_
  | with_reducible refine i_lc ?_
  | with_reducible refine i_stD ?_
  | with_reducible refine i_iItemsT ?_
  | with_reducible refine i_dcw ?_
  | with_reducible refine i_dsetd ?_
  | with_reducible refine i_iVals ?_
  | with_reducible refine i_iItems ?_
  | with_reducible refine i_revL ?_
  | with_reducible refine i_yes ?_
  | with_reducible refine o_I0 ?_
  | with_reducible refine o_eqS ?_
  | with_reducible refine o_neS ?_
  | with_reducible refine o_eqI ?_
  | with_reducible refine o_neI ?_
  | with_reducible refine o_eqB ?_
  | with_reducible refine e_ref ?_
  | with_reducible refine e_str ?_
  | with_reducible refine e_int ?_
  | with_reducible refine e_bl ?_
  | with_reducible refine e_str1 ?_
  | with_reducible refine e_int1 ?_
  | with_reducible refine e_int2 ?_
  | with_reducible refine e_str2 ?_)))
section
variable {P : Program} {w : World} {K : PySem.W.Frag} {mg : Str → Option Value} {base : Heap} {k j : Nat}
theorem ts_off {H : Hp} {D t : Addr} {xs : List Str} {u : HO} (hd : H D = some u) (h : Ts H t xs) (nu : ∀ ys, u ≠ .tup ys := by intro ys e; exact nomatch e) : Ts (off D H) t xs := by
  show off D H t = _
  rw [off_ne fun e => by have h' : H t = some (.tup (xs.map V.str)) := h; rw [e, hd] at h'; exact nu _ (Option.some.inj h')]
  exact h
theorem lk_off {H : Hp} {a D : Addr} {l : Lk} {u : HO} (hd : H D = some u) (h : LkAt H a l) (nu : ∀ ys, u ≠ .tup ys := by intro ys e; exact nomatch e) : LkAt (off D H) a l := by
  obtain ⟨v, x, h1, h2⟩ := h
  refine ⟨v, x, by rw [off_ne fun e => by rw [e, hd] at h1; exact nu _ (Option.some.inj h1)]; exact h1, ?_⟩
  cases l with
  | nt _ _ => exact h2
  | ths _ _ => exact h2
  | one _ _ => obtain ⟨e, t, h3, h4⟩ := h2; exact ⟨e, t, h3, ts_off hd h4 nu⟩
  | frm _ _ => obtain ⟨e, t, h3, h4⟩ := h2; exact ⟨e, t, h3, ts_off hd h4 nu⟩
  | lot _ _ => obtain ⟨⟨t, h3, h4⟩, r, h5, h6⟩ := h2; exact ⟨⟨t, h3, ts_off hd h4 nu⟩, r, h5, ts_off hd h6 nu⟩
  | nev _ _ => obtain ⟨⟨t, h3, h4⟩, r, h5, h6⟩ := h2; exact ⟨⟨t, h3, ts_off hd h4 nu⟩, r, h5, ts_off hd h6 nu⟩
abbrev n_law_world : List Str := ["_law_script", "_law_most", "_law_leaks", "_law_head", "_law_people_here", "_law_barred_here", "_law_told", "_law_hidden_here", "_law_k", "_law_pair", "_law_leak_here"]
theorem sc_law_world : FnScope n_law_world ["_law_script", "_law_most", "_law_leaks"] (defScope s_law_world) := ⟨rfl, rfl, rfl, by decide +kernel, rfl, by decide +kernel, by decide +kernel⟩
/-- a world as it is told: people, barred pairs, leaks -/
structure WorldAt (H : Hp) (a b c : Addr) (ps : List Str) (prs : List (List Str)) (ls : List Lk) : Prop where
  pl : Ls H a ps
  bl : LP (Ts H) H b prs
  kl : LP (LkAt H) H c ls
  two : 2 ≤ ps.length
  seven : ps.length ≤ 7
  nd : ps.Nodup
  nm : ∀ s ∈ ps, Nm s
  bok : ∀ xs ∈ prs, pairOk ps xs
  blen : prs.length ≤ 49
  lok : ∀ l ∈ ls, l.ok ps
  llen : ls.length ≤ 5
theorem lp_ex {β : Type} {R R' : Addr → β → Prop} {H H' : Hp} {a : Addr} {bs : List β} (e : Ex H H') (f : ∀ a b, R a b → R' a b) (h : LP R H a bs) : LP R' H' a bs := let ⟨zs, h1, h2, h3⟩ := h; ⟨zs, e _ _ h1, fun z hz => f _ _ (h2 z hz), h3⟩
theorem WorldAt.ex {H H' : Hp} {a b c : Addr} {ps : List Str} {prs : List (List Str)} {ls : List Lk} (e : Ex H H') (w : WorldAt H a b c ps prs ls) : WorldAt H' a b c ps prs ls :=
  ⟨w.pl.ex e, lp_ex e (fun _ _ h => h.ex e) w.bl, lp_ex e (fun _ _ h => h.ex e) w.kl, w.two, w.seven, w.nd, w.nm, w.bok, w.blen, w.lok, w.llen⟩
def vO : Option (Addr × Lk) → V
  | none => .non
  | some z => .ref z.1
def spWorld (K : PySem.W.Frag) : Sp := fun vs H Q _ => ∃ (s : Addr) (ns : List Int), vs = [.ref s, .int 7, .int 5] ∧ SqL K H s (ns.map V.int) ∧
  ∀ p H' a b c ps prs ls, Ex H H' → H' p = some (.tup [.ref a, .ref b, .ref c]) → WorldAt H' a b c ps prs ls → Q (.ref p) H'
theorem c_law_world (T : Txt K mg) (c_law_cell : Cal P w K mg base k "_law_cell" (spCellA K)) (c_law_draws : Cal P w K mg base k "_law_draws" spDraws) (c_law_people : Cal P w K mg base k "_law_people" spFolk) (c_law_barred : Cal P w K mg base k "_law_barred" spBarred) (c_law_leak : Cal P w K mg base k "_law_leak" spLeak) (c_law_hidden : Cal P w K mg base k "_law_hidden" spHidden) (c_law_kept : Cal P w K mg base k "_law_kept" spKept) (c_law_mended : Cal P w K mg base k "_law_mended" spMended) : Cal P w K mg base (k + 1) "_law_world" (spWorld K) := by
  refine T.a_law_world.ok sc_law_world (fun _ _ _ _ _ _ us hl => match us, hl with | [_, _, _], _ => rfl) (fun vs H Q E h => ?_) (fun f cdv A outer s H vs Q E hr h => ⟨_, (pss_cons (ps_set (i := 3) sc_law_world.nd rfl (Or.inl rfl) (pe_fn c_law_draws (hr.mono (by omega)) (pa_cons (pe_fn c_law_cell (hr.mono (by omega)) (pa_cons (pv 0) (pa_cons pe_int pa_nil))) (pa_cons pe_int pa_nil))))
      (pss_cons (ps_set (i := 4) sc_law_world.nd rfl (Or.inr rfl) (pe_fn c_law_people (hr.mono (by omega)) (pa_cons (pe_fn c_law_cell (hr.mono (by omega)) (pa_cons (pv 0) (pa_cons pe_int pa_nil))) (pa_cons (pe_op op_add pe_int (pe_op op_mod (pe_callTy call_int1 (by rfl) T.f_int b_int (pa_cons (pe_ix ixL (pv 3) pe_int (fun _ _ => rfl)) pa_nil)) (pe_op op_sub (pv 1) pe_int))) pa_nil))))
      (pss_cons (ps_set (i := 5) sc_law_world.nd rfl (Or.inl rfl) (pe_fn c_law_barred (hr.mono (by omega)) (pa_cons (pe_fn c_law_cell (hr.mono (by omega)) (pa_cons (pv 0) (pa_cons pe_int pa_nil))) (pa_cons (pv 4) pa_nil))))
      (pss_cons (ps_setLc (i := 6) (own := [("_law_k", 8)]) rfl sc_law_world.nd rfl rfl (sw_true rfl rfl rfl (by decide +kernel)) (pi_range1 (by rfl) T.f_range (pa_cons (pe_op op_mod (pe_callTy call_int1 (by rfl) T.f_int b_int (pa_cons (pe_ix ixL (pv 3) pe_int (fun _ _ => rfl)) pa_nil)) (pe_op op_add (pv 2) pe_int)) pa_nil)) (blkOk_by (own := [("_law_k", 8)]) (N := n_law_world) (sc := defScope s_law_world) (by decide +kernel)) (fun _ _ _ _ _ => (pg_name (i := 8) sc_law_world.nd rfl (Or.inl rfl))) (fun _ _ _ _ _ => pts_nil) (fun _ _ _ _ _ => (pe_fn c_law_leak (hr.mono (by omega)) (pa_cons (pe_fn c_law_cell (hr.mono (by omega)) (pa_cons (pv 0) (pa_cons (pe_op op_add pe_int (pv 8)) pa_nil))) (pa_cons (pv 4) pa_nil)))) )
      (pss_cons (ps_if (pt_cmpR op_gt (pe_op op_mod (pe_callTy call_int1 (by rfl) T.f_int b_int (pa_cons (pe_ix ixL (pv 3) pe_int (fun _ _ => rfl)) pa_nil)) pe_int) pe_int (nomark _)) (pss_cons (ps_set (i := 7) sc_law_world.nd rfl (Or.inr rfl) (pe_fn c_law_hidden (hr.mono (by omega)) (pa_cons (pe_fn c_law_cell (hr.mono (by omega)) (pa_cons (pv 0) (pa_cons pe_int pa_nil))) (pa_cons (pv 4) pa_nil))))
      (pss_cons (ps_setLc (i := 5) (own := [("_law_pair", 9)]) rfl sc_law_world.nd rfl rfl (sw_true rfl rfl rfl (by decide +kernel)) (pi_list (pv 5)) (blkOk_by (own := [("_law_pair", 9)]) (N := n_law_world) (sc := defScope s_law_world) (by decide +kernel)) (fun _ _ _ _ _ => (pg_name (i := 9) sc_law_world.nd rfl (Or.inl rfl))) (fun _ _ _ _ _ => pts_one (pt_cmpR op_ne (pe_dget (hu_of hr) (pv 7) (pe_ix ixT (pv 9) pe_int (fun _ _ => rfl)) (fun _ _ => rfl)) (pe_ix ixT (pv 9) pe_int (fun _ _ => rfl)) (nomark _))) (fun _ _ _ _ _ => (pv 9)) )
      (pss_one (ps_if (pt_cmpR op_eq (pe_op op_mod (pe_callTy call_int1 (by rfl) T.f_int b_int (pa_cons (pe_ix ixL (pv 3) pe_int (fun _ _ => rfl)) pa_nil)) pe_int) pe_int (nomark _)) (pss_one (ps_setLc (i := 6) (own := [("_law_leak_here", 10)]) rfl sc_law_world.nd rfl rfl (sw_true rfl rfl rfl (by decide +kernel)) (pi_list (pv 6)) (blkOk_by (own := [("_law_leak_here", 10)]) (N := n_law_world) (sc := defScope s_law_world) (by decide +kernel)) (fun _ _ _ _ _ => (pg_name (i := 10) sc_law_world.nd rfl (Or.inl rfl))) (fun _ _ _ _ _ => pts_one (pt_val (pe_fn c_law_kept (hr.mono (by omega)) (pa_cons (pv 10) (pa_cons (pv 7) pa_nil))))) (fun _ _ _ _ _ => (pv 10)) )) (pss_cons (ps_setLc (i := 6) (own := [("_law_leak_here", 10)]) rfl sc_law_world.nd rfl rfl (sw_true rfl rfl rfl (by decide +kernel)) (pi_list (pv 6)) (blkOk_by (own := [("_law_leak_here", 10)]) (N := n_law_world) (sc := defScope s_law_world) (by decide +kernel)) (fun _ _ _ _ _ => (pg_name (i := 10) sc_law_world.nd rfl (Or.inl rfl))) (fun _ _ _ _ _ => pts_nil) (fun _ _ _ _ _ => (pe_fn c_law_mended (hr.mono (by omega)) (pa_cons (pv 10) (pa_cons (pv 7) pa_nil)))) )
      (pss_one (ps_setLc (i := 6) (own := [("_law_leak_here", 10)]) rfl sc_law_world.nd rfl rfl (sw_true rfl rfl rfl (by decide +kernel)) (pi_list (pv 6)) (blkOk_by (own := [("_law_leak_here", 10)]) (N := n_law_world) (sc := defScope s_law_world) (by decide +kernel)) (fun _ _ _ _ _ => (pg_name (i := 10) sc_law_world.nd rfl (Or.inl rfl))) (fun _ _ _ _ _ => pts_one (pt_cmpR op_notN (pv 10) pe_non (nomark _))) (fun _ _ _ _ _ => (pv 10)) ))))))) pss_nil)
      (pss_one (ps_ret (pe_tup (pa_cons (pv 4) (pa_cons (pv 5) (pa_cons (pv 6) pa_nil))))))))))), ?_⟩)
  · obtain ⟨_, _, rfl, _⟩ := h; rfl
  · obtain ⟨s, ns, rfl, hs, q⟩ := h
    walk_at "go"
    refine ⟨s, ns, 0, rfl, hs, fun c0 => ?_⟩
    walk_at "go"
    refine ⟨c0, 3, rfl, by omega, fun d H1 ds e1 hd1 hd2 hd3 => ?_⟩
    have hsx : ∀ {H' : Hp}, Ex H H' → SqL K H' s (ns.map V.int) := fun {H'} e => Evl.ex_l e hs
    walk_at "go"
    refine ⟨s, ns, 1, rfl, hsx e1, fun c1 => ?_⟩
    walk_at "go"
    refine i_dsx (i := 0) hd1 rfl (by omega) fun n0 hn0 => ?_
    walk_at "go"
    refine o_I (show (0 : Int) < _ by omega) ?_
    walk_at "go"
    obtain ⟨m, hm, hm2, hm7⟩ : ∃ m : Nat, (2 : Int) + (n0 : Int) % (7 - 1) = (m : Int) ∧ 2 ≤ m ∧ m ≤ 7 := ⟨2 + n0 % 6, by omega, by omega, by omega⟩
    rw [hm]
    refine ⟨c1, m, rfl, hm7, fun pa H2 ps e2 hps pl pnd pnm => ?_⟩
    have e12 := e1.trans e2
    walk_at "go"
    refine ⟨s, ns, 2, rfl, hsx e12, fun c2 => ?_⟩
    walk_at "go"
    refine ⟨c2, pa, ps, rfl, hps, by omega, by omega, pnd, fun pb H3 prs e3 hprs bok blen => ?_⟩
    have e13 := e12.trans e3
    walk_at "go"
    have hd3' : ∀ {H' : Hp}, Ex H1 H' → H' d = some (.lst (ds.map fun d : Nat => V.int d)) := fun {H'} e => e _ _ hd1
    refine i_dsx (i := 1) (hd3' (e2.trans e3)) rfl (by omega) fun n1 hn1 => ?_
    walk_at "go"
    refine o_I (show (0 : Int) < _ by omega) ?_
    walk_at "go"
    obtain ⟨lk, hlk, hlk5⟩ : ∃ lk : Nat, (n1 : Int) % (5 + 1) = (lk : Int) ∧ lk ≤ 5 := ⟨n1 % 6, by omega, by omega⟩
    rw [hlk]
    refine ⟨_, rfl, by omega, by omega, ?_⟩
    rw [Int.toNat_natCast]
    refine lcX (walk_range (lo := 0) (n := lk)) (small (by omega)) (fun D i B acc => ∃ zs : List (Addr × Lk), acc = (zs.map fun z => V.ref z.1) ∧ (∀ z ∈ zs, LkAt B z.1 z.2 ∧ z.2.ok ps) ∧ zs.length ≤ i) (fun D hD => ⟨[], rfl, (fun z hz => nomatch hz), Nat.le_refl _⟩) (fun _ _ _ _ _ _ _ => trivial) (fun D i v B H4 acc N T' hi e hB s y k1 k2 => ?_) fun D B acc hD e hB s => ?_
    · obtain ⟨rfl, rfl⟩ := y
      obtain ⟨zs, rfl, hz1, hz2⟩ := s
      have ei := fun o : HO => ex_in (o := o) e hB
      walk_at "go"
      refine ⟨rfl, ?_⟩
      walk_at "go"
      refine ⟨s, ns, 4 + i, by rw [show (4 : Int) + (0 + (i : Int)) = ((4 + i : Nat) : Int) by omega], hsx (e13.trans (ei _)), fun c => ?_⟩
      walk_at "go"
      refine ⟨c, pa, ps, rfl, (hps.ex e3).ex (ei _), by omega, by omega, pnd, fun p H5 l e5 hl lok => ?_⟩
      refine k2 _ _ e5 ⟨zs ++ [(p, l)], by rw [List.map_append]; rfl, fun z hz => ?_, by rw [List.length_append, List.length_singleton]; omega⟩
      rcases List.mem_append.mp hz with h | h
      · exact ⟨(hz1 z h).1.ex (off_ex e5 hB), (hz1 z h).2⟩
      · rw [List.mem_singleton.mp h]
        exact ⟨lk_off (ex_same e5) hl, lok⟩
    · obtain ⟨zs, rfl, hz1, hz2⟩ := s
      have e4 : Ex H3 (upd B D (.lst (zs.map fun z => V.ref z.1))) := ex_in e hB
      have hlD : upd B D (.lst (zs.map fun z => V.ref z.1)) D = _ := upd_same
      have hz3 : ∀ z ∈ zs, LkAt (upd B D (.lst (zs.map fun z => V.ref z.1))) z.1 z.2 ∧ z.2.ok ps := fun z hz => ⟨(hz1 z hz).1.ex (ex_in (Ex.refl B) hB), (hz1 z hz).2⟩
      generalize upd B D (.lst (zs.map fun z => V.ref z.1)) = H4 at e4 hlD hz3 ⊢
      clear hz1 e hB B
      have e14 := e13.trans e4
      walk_at "go"
      refine i_dsx (i := 2) (hd3' ((e2.trans e3).trans e4)) rfl (by omega) fun n2 hn2 => ?_
      walk_at "go"
      refine o_I (show (0 : Int) < _ by omega) ?_
      walk_at "go"
      obtain ⟨ys, hy1, hy2, hy3⟩ := id hprs
      refine br_two (fun σ H5 => ∃ b c o7 prs ls, σ = [some (.ref s), some (.int 7), some (.int 5), some (.ref d), some (.ref pa), some (.ref b), some (.ref c), o7, none, none, none] ∧ Ex H H5 ∧ WorldAt H5 pa b c ps prs ls) (fun σ H5 z => ?_) fun nx' tl => ?_
      · obtain ⟨b, c, o7, prs, ls, rfl, e5, wa⟩ := z
        walk_at "go"
        refine ⟨by show 3 ≤ sizeLine; decide, fun p hp => ?_⟩
        exact q p _ pa b c ps prs ls (e5.trans (Ex.new hp)) upd_same (wa.ex (Ex.new hp))
      · have mk : ∀ (H5 : Hp) (b c : Addr) (zs' : List (Addr × List Str)) (xs' : List (Addr × Lk)), Ex H3 H5 → H5 b = some (.lst (zs'.map fun z => V.ref z.1)) → (∀ z ∈ zs', z ∈ ys) → zs'.length ≤ 49 → H5 c = some (.lst (xs'.map fun z => V.ref z.1)) → (∀ z ∈ xs', LkAt H5 z.1 z.2 ∧ z.2.ok ps) → xs'.length ≤ 5 →
            WorldAt H5 pa b c ps (zs'.map Prod.snd) (xs'.map Prod.snd) := fun H5 b c zs' xs' e5 hb hz hzl hc hx hxl =>
          ⟨(hps.ex e3).ex e5, ⟨zs', hb, fun z h => (hy2 z (hz z h)).ex e5, rfl⟩, ⟨xs', hc, fun z h => (hx z h).1, rfl⟩, by omega, by omega, pnd, pnm, fun xs h => by
            obtain ⟨z, hz', rfl⟩ := List.mem_map.mp h
            exact bok z.2 (by rw [← hy3]; exact List.mem_map_of_mem (hz z hz')), by rw [List.length_map]; exact hzl, fun l h => by
            obtain ⟨z, hz', rfl⟩ := List.mem_map.mp h
            exact (hx z hz').2, by rw [List.length_map]; exact hxl⟩
        have yl : ys.length ≤ 49 := by rw [← hy3, List.length_map] at blen; exact blen
        by_cases h0 : (0 : Int) < (n2 : Int) % 3
        · rw [decide_eq_true h0]
          walk_at "go"
          refine ⟨s, ns, 3, rfl, hsx e14, fun c3 => ?_⟩
          walk_at "go"
          refine ⟨c3, pa, ps, rfl, (hps.ex e3).ex e4, by omega, by omega, pnd, fun hd H5 os hh e5 hhd pm hin inj => ?_⟩
          walk_at "go"
          have e35 := e4.trans e5
          have hy5 := e35 _ _ hy1
          refine ⟨⟨_, SqL.of hy5⟩, ?_⟩
          have wl := walk_list (K := K) (a := pb) (xs := ys.map fun z => V.ref z.1)
          rw [List.length_map] at wl
          refine lcX wl (small (by omega)) (fun D i B acc => ∃ zs' : List (Addr × List Str), acc = (zs'.map fun z => V.ref z.1) ∧ zs'.Sublist (ys.take i)) (fun D hD => ⟨[], rfl, List.nil_sublist _⟩) (fun D i B acc e hB _ => SqL.of (ex_in e hB _ _ hy5)) (fun D2 i v B H6 acc N T' hi e hB ss y k1 k2 => ?_) fun D2 B acc hD2 e hB ss => ?_
          · obtain ⟨rfl, hv⟩ := y
            obtain ⟨z, hz, rfl⟩ := map_get hv
            obtain ⟨zs', rfl, sb⟩ := ss
            have ei := fun o : HO => ex_in (o := o) e hB
            have hzm := List.mem_of_getElem? hz
            obtain ⟨x, y, exy, nxy, hx, hy⟩ := bok z.2 (by rw [← hy3]; exact List.mem_map_of_mem hzm)
            have htz : Ts H5 z.1 [x, y] := exy ▸ (hy2 z hzm).ex e35
            have k1' : N (upd B D2 (.lst (zs'.map fun z => V.ref z.1))) := k1 _ (Ex.refl _) ⟨zs', rfl, by rw [take_snoc hz]; exact sb.trans (List.sublist_append_left _ _)⟩
            have k2' : T' (.ref z.1) (upd B D2 (.lst (zs'.map fun z => V.ref z.1))) := k2 _ _ (Ex.refl _) ⟨zs' ++ [z], by rw [List.map_append]; rfl, by rw [take_snoc hz]; exact sb.append (List.Sublist.refl _)⟩
            walk_at "go"
            refine ⟨rfl, ?_⟩
            walk_at "go"
            refine i_ixT (ei _ _ _ htz) (atI_nat (j := 0) rfl) ?_
            refine kd_get (.inl (ei _ _ _ hhd)) (pm.mem_iff.mpr hx) ?_
            walk_at "go"
            refine i_ixT (ei _ _ _ htz) (atI_nat (j := 1) rfl) ?_
            walk_at "go"
            by_cases exy : hh x = y
            · rw [decide_eq_true exy]
              walk_at "go"
              exact k1'
            · rw [decide_eq_false exy]
              walk_at "go"
              exact k2'
          · obtain ⟨ys', rfl, sb⟩ := ss
            rw [List.take_length] at sb
            have yl' : ys'.length ≤ 49 := Nat.le_trans sb.length_le yl
            have e6 : Ex H5 (upd B D2 (.lst (ys'.map fun z => V.ref z.1))) := ex_in e hB
            have hD6 : upd B D2 (.lst (ys'.map fun z => V.ref z.1)) D2 = _ := upd_same
            generalize upd B D2 (.lst (ys'.map fun z => V.ref z.1)) = H6 at e6 hD6 ⊢
            have e46 := e5.trans e6
            have hl6 := e46 _ _ hlD
            have hz6 : ∀ z ∈ zs, LkAt H6 z.1 z.2 ∧ z.2.ok ps := fun z hz => ⟨(hz3 z hz).1.ex e46, (hz3 z hz).2⟩
            have hh6 := e6 _ _ hhd
            walk_at "go"
            refine i_dsx (i := 2) (hd3' ((e2.trans e3).trans (e4.trans e46))) rfl (by omega) fun n2 hn2 => ?_
            walk_at "go"
            refine o_I (show (0 : Int) < _ by omega) ?_
            walk_at "go"
            have wl := walk_list (K := K) (a := D) (xs := zs.map fun z => V.ref z.1)
            rw [List.length_map] at wl
            by_cases h1 : (n2 : Int) % 3 = 1
            · rw [decide_eq_true h1]
              walk_at "go"
              refine ⟨⟨_, SqL.of hl6⟩, ?_⟩
              refine lcX wl (small (by omega)) (fun D i B acc => ∃ zs' : List (Addr × Lk), acc = (zs'.map fun z => V.ref z.1) ∧ zs'.Sublist (zs.take i)) (fun D hD => ⟨[], rfl, List.nil_sublist _⟩) (fun D i B acc e hB _ => SqL.of (ex_in e hB _ _ hl6)) (fun D3 i v B H7 acc N T' hi e hB ss y k1 k2 => ?_) fun D3 B acc hD3 e hB ss => ?_
              · obtain ⟨rfl, hv⟩ := y
                obtain ⟨z, hz, rfl⟩ := map_get hv
                obtain ⟨zs', rfl, sb2⟩ := ss
                have ei := fun o : HO => ex_in (o := o) e hB
                have hzm := List.mem_of_getElem? hz
                walk_at "go"
                refine ⟨rfl, ?_⟩
                walk_at "go"
                refine ⟨z.1, hd, z.2, os, hh, rfl, (hz6 z hzm).1.ex (ei _), ei _ _ _ hh6, fun b H8 e8 => ?_⟩
                walk_at "go"
                cases b with
                | true =>
                  walk_at "go"
                  exact k2 _ _ e8 ⟨zs' ++ [z], by rw [List.map_append]; rfl, by rw [take_snoc hz]; exact sb2.append (List.Sublist.refl _)⟩
                | false =>
                  walk_at "go"
                  exact k1 _ e8 ⟨zs', rfl, by rw [take_snoc hz]; exact sb2.trans (List.sublist_append_left _ _)⟩
              · obtain ⟨zs', rfl, sb2⟩ := ss
                rw [List.take_length] at sb2
                have e7 : Ex H6 (upd B D3 (.lst (zs'.map fun z => V.ref z.1))) := ex_in e hB
                walk_at "go"
                exact tl _ _ ⟨D2, D3, _, _, _, rfl, (e14.trans e46).trans e7, mk _ D2 D3 ys' zs' ((e4.trans e46).trans e7) (e7 _ _ hD6) (fun z h => sb.subset h) yl' upd_same (fun z h => ⟨(hz6 z (sb2.subset h)).1.ex e7, (hz6 z (sb2.subset h)).2⟩) (by have := sb2.length_le; omega)⟩
            · rw [decide_eq_false h1]
              walk_at "go"
              refine ⟨⟨_, SqL.of hl6⟩, ?_⟩
              refine lcX wl (small (by omega)) (fun D i B acc => ∃ xs' : List (Option (Addr × Lk)), acc = (xs'.map vO) ∧ (∀ o ∈ xs', ∀ z, o = some z → LkAt B z.1 z.2 ∧ z.2.ok ps) ∧ xs'.length ≤ i) (fun D hD => ⟨[], rfl, (fun o ho => nomatch ho), Nat.le_refl _⟩) (fun D i B acc e hB _ => SqL.of (ex_in e hB _ _ hl6)) (fun D3 i v B H7 acc N T' hi e hB ss y k1 k2 => ?_) fun D3 B acc hD3 e hB ss => ?_
              · obtain ⟨rfl, hv⟩ := y
                obtain ⟨z, hz, rfl⟩ := map_get hv
                obtain ⟨xs', rfl, hx1, hx2⟩ := ss
                have ei := fun o : HO => ex_in (o := o) e hB
                have hzm := List.mem_of_getElem? hz
                have kk : ∀ (o : Option (Addr × Lk)) (H8 : Hp), Ex (upd B D3 (.lst (xs'.map vO))) H8 → (∀ z, o = some z → LkAt H8 z.1 z.2 ∧ z.2.ok ps) → T' (vO o) H8 := fun o H8 e8 ho => by
                  refine k2 _ _ e8 ⟨xs' ++ [o], by rw [List.map_append]; rfl, fun o' ho' z ez => ?_, by rw [List.length_append, List.length_singleton]; omega⟩
                  rcases List.mem_append.mp ho' with h | h
                  · exact ⟨(hx1 o' h z ez).1.ex (off_ex e8 hB), (hx1 o' h z ez).2⟩
                  · rw [List.mem_singleton.mp h] at ez
                    exact ⟨lk_off (ex_same e8) (ho z ez).1, (ho z ez).2⟩
                walk_at "go"
                refine ⟨rfl, ?_⟩
                walk_at "go"
                exact ⟨z.1, hd, z.2, ps, os, hh, rfl, (hz6 z hzm).1.ex (ei _), (hz6 z hzm).2, ei _ _ _ hh6, pm, pnd, by omega, hin, inj, fun H8 e8 => kk none H8 e8 (fun z h => nomatch h), fun p H8 l e8 h1 h2 => kk (some (p, l)) H8 e8 fun z h => by cases h; exact ⟨h1, h2⟩⟩
              · obtain ⟨xs', rfl, hx1, hx2⟩ := ss
                have e7 : Ex H6 (upd B D3 (.lst (xs'.map vO))) := ex_in e hB
                have hx7 : ∀ o ∈ xs', ∀ z, o = some z → LkAt (upd B D3 (.lst (xs'.map vO))) z.1 z.2 ∧ z.2.ok ps := fun o ho z ez => ⟨(hx1 o ho z ez).1.ex (ex_in (Ex.refl B) hB), (hx1 o ho z ez).2⟩
                have h37 : upd B D3 (.lst (xs'.map vO)) D3 = _ := upd_same
                generalize upd B D3 (.lst (xs'.map vO)) = H7 at e7 hx7 h37 ⊢
                walk_at "go"
                refine ⟨⟨_, SqL.of h37⟩, ?_⟩
                have wl3 := walk_list (K := K) (a := D3) (xs := xs'.map vO)
                rw [List.length_map] at wl3
                refine lcL xs' vO wl3 (small (by omega)) (fun _ _ _ _ y => y) (fun o => o.isSome) vO (fun D acc hD => SqL.of (Ex.new hD _ _ h37)) (fun D4 acc o N T' hD4 ho k1 k2 => ?_) fun D4 hD4 => ?_
                · walk_at "go"
                  refine ⟨rfl, ?_⟩
                  walk_at "go"
                  refine ⟨rfl, ?_⟩
                  cases o with
                  | none =>
                    rw [show vO none = V.non from rfl, decide_eq_true rfl]
                    walk_at "go"
                    exact k1 rfl
                  | some z =>
                    rw [show vO (some z) = V.ref z.1 from rfl, decide_eq_false (fun e => nomatch e)]
                    walk_at "go"
                    exact k2 rfl
                · have em : (xs'.filter fun o => o.isSome).map vO = (xs'.filterMap id).map fun z => V.ref z.1 := by
                    clear h37 hx7 hx1 hx2 wl3
                    induction xs' with
                    | nil => rfl
                    | cons o r ih => cases o with
                      | none => exact ih
                      | some z => simp only [List.filter_cons, Option.isSome_some, if_true, List.map_cons, List.filterMap_cons, id_eq, ih]; rfl
                  rw [em]
                  have mem : ∀ z ∈ xs'.filterMap id, some z ∈ xs' := fun z h => by
                    obtain ⟨o, h1, h2⟩ := List.mem_filterMap.mp h
                    have h3 : o = some z := h2
                    exact h3 ▸ h1
                  have e8 := Ex.new (o := .lst ((xs'.filterMap id).map fun z => V.ref z.1)) hD4
                  walk_at "go"
                  exact tl _ _ ⟨D2, D4, _, _, _, rfl, ((e14.trans e46).trans e7).trans e8, mk _ D2 D4 ys' (xs'.filterMap id) (((e4.trans e46).trans e7).trans e8) (e8 _ _ (e7 _ _ hD6)) (fun z h => sb.subset h) yl' upd_same (fun z h => ⟨(hx7 _ (mem z h) z rfl).1.ex e8, (hx7 _ (mem z h) z rfl).2⟩) (by have := List.length_filterMap_le id xs'; omega)⟩
        · rw [decide_eq_false h0]
          walk_at "go"
          exact tl _ _ ⟨pb, D, none, _, _, rfl, e14, mk H4 pb D ys zs e4 (e4 _ _ hy1) (fun z h => h) yl hlD hz3 (by omega)⟩
end
end GR
end
section
set_option Elab.async false
set_option linter.all false
set_option maxRecDepth 100000
set_option maxHeartbeats 4000000
set_option autoImplicit false
namespace GR
open PySem PySem.Spec L2
open Evl (Ex)
local macro_rules | `(tactic| walk_at "go") => `(tactic| (repeat (first
  | with_reducible refine i_seq ?_
  | ((with_reducible apply i_var); focus rfl)
  | with_reducible refine i_c ?_
  | with_reducible refine i_cons ?_
  | with_reducible refine i_nil ?_
  | with_reducible refine i_asg ?_
  | with_reducible refine i_name ?_
  | with_reducible refine i_op ?_
  | with_reducible refine i_cb ?_
  | with_reducible refine i_fn ?_
  | with_reducible refine i_ret ?_
  | with_reducible refine i_retN ?_
  | with_reducible refine i_drop ?_
  | with_reducible refine i_next ?_
  | with_reducible refine i_cont ?_
  | with_reducible refine i_break ?_
  | with_reducible refine i_if ?_
  | with_reducible refine br_t ?_
  | with_reducible refine br_f ?_
  | with_reducible refine br_nt ?_
  | with_reducible refine io_t ?_
  | with_reducible refine io_f ?_
  | with_reducible refine io_nt ?_
  | with_reducible refine io_nf ?_
  | with_reducible refine br_nf ?_
  | with_reducible refine o_ip ?_
  | with_reducible refine i_test ?_
  | with_reducible refine i_tB ?_
  | with_reducible refine i_not ?_
  | with_reducible refine i_notV ?_
  | with_reducible refine i_andV ?_
  | with_reducible refine i_orV ?_
  | with_reducible refine i_and ?_
  | with_reducible refine i_or ?_
  | with_reducible refine i_dput ?_
  | with_reducible refine i_dget ?_
  | with_reducible refine i_din ?_
  | with_reducible refine i_dnotin ?_
  | with_reducible refine i_dnewK ?_
  | with_reducible refine i_dnewT ?_
  | with_reducible refine i_fld ?_
  | with_reducible refine i_sfld ?_
  | with_reducible refine i_bm0 ?_
  | with_reducible refine i_bm ?_
  | with_reducible refine i_sl ?_
  | with_reducible refine i_noPart ?_
  | with_reducible refine i_part ?_
  | with_reducible refine i_chain ?_
  | with_reducible refine i_methR ?_
  | with_reducible refine i_tup ?_
  | with_reducible refine i_lst ?_
  | with_reducible refine i_for ?_
  | with_reducible refine i_iList ?_
  | with_reducible refine i_iTup ?_
  | with_reducible refine i_iKeys ?_
  | with_reducible refine i_iRng1 ?_
  | with_reducible refine i_iRng2 ?_
  | with_reducible refine i_iStr ?_
  | with_reducible refine i_iEnum ?_
  | with_reducible refine i_iEnumT ?_
  | with_reducible refine i_lc ?_
  | with_reducible refine i_stD ?_
  | with_reducible refine i_iItemsT ?_
  | with_reducible refine i_dcw ?_
  | with_reducible refine i_dsetd ?_
  | with_reducible refine i_iVals ?_
  | with_reducible refine i_iItems ?_
  | with_reducible refine i_revL ?_
  | with_reducible refine i_yes ?_
  | with_reducible refine o_I0 ?_
  | with_reducible refine o_eqS ?_
  | with_reducible refine o_neS ?_
  | with_reducible refine o_eqI ?_
  | with_reducible refine o_neI ?_
  | with_reducible refine o_eqB ?_
  | with_reducible refine e_ref ?_
  | with_reducible refine e_str ?_
  | with_reducible refine e_int ?_
  | with_reducible refine e_bl ?_
  | with_reducible refine e_str1 ?_
  | with_reducible refine e_int1 ?_
  | with_reducible refine e_int2 ?_
  | with_reducible refine e_str2 ?_)))
section
variable {P : Program} {w : World} {K : PySem.W.Frag} {mg : Str → Option Value} {base : Heap} {k j : Nat}
theorem nm_ok {s : Str} (h : Nm s) : PyData.strOk s = true := by
  unfold PyData.strOk
  rw [← Array.all_toList, List.all_eq_true]
  intro c hc
  have := (h.2.2 c hc).2
  exact decide_eq_true (by omega)
theorem canLay_tups : ∀ {yss : List (List Str)}, (∀ ys ∈ yss, ∀ s ∈ ys, PyData.strOk s = true) → PyData.canLayAll0 (yss.map GR.dT) = true
  | [], _ => by simp [PyData.canLayAll0]
  | ys :: yss, h => by
    rw [List.map_cons, PyData.canLayAll0, canLay_tups fun x hx => h x (List.mem_cons_of_mem _ hx)]
    rw [show PyData.canLay0 (GR.dT ys) = PyData.canLayAll0 (ys.map PyData.str) by unfold dT; simp [PyData.canLay0], strOk_all (h ys List.mem_cons_self)]
    rfl
theorem depth_tups : ∀ yss : List (List Str), PyData.depthAll (yss.map GR.dT) ≤ 1
  | [] => by simp [PyData.depthAll]
  | ys :: yss => by
    rw [List.map_cons, PyData.depthAll, dT_depth]
    have := depth_tups yss
    omega
theorem eqv_dT (xs ys : List Str) : PyData.eqv (GR.dT xs) (GR.dT ys) = decide (xs = ys) := by
  rw [← eqv_strs]
  unfold dT
  simp [PyData.eqv]
theorem i_niD {H : Hp} {t b : Addr} {xs : List Str} {prs : List (List Str)} {Q : VK} (ht : Ts H t xs) (hb : LP (Ts H) H b prs) (ok : ∀ s ∈ xs, PyData.strOk s = true) (oks : ∀ ys ∈ prs, ∀ s ∈ ys, PyData.strOk s = true) (q : Q (.bl (!decide (xs ∈ prs))) H) : oInD true (.ref t) (.ref b) H Q := by
  obtain ⟨zs, h1, h2, rfl⟩ := hb
  have em : (zs.map fun z => (V.ref z.1, GR.dT z.2)).map Prod.snd = (zs.map Prod.snd).map GR.dT := by rw [List.map_map, List.map_map]; rfl
  refine ⟨b, zs.map fun z => (V.ref z.1, GR.dT z.2), GR.dT xs, rfl, by rw [List.map_map]; exact h1, dh_tupS ht, fun z hz => ?_, ?_, ?_, ?_⟩
  · obtain ⟨y, hy, rfl⟩ := List.mem_map.mp hz
    exact dh_tupS (h2 y hy)
  · unfold SeqAt.shaped
    rw [show PyData.canLay0 (GR.dT xs) = PyData.canLayAll0 (xs.map PyData.str) by unfold dT; simp [PyData.canLay0], strOk_all ok, dT_depth]
    rfl
  · rw [em]
    unfold SeqAt.shaped
    rw [show PyData.canLay0 (.list ((zs.map Prod.snd).map GR.dT)) = PyData.canLayAll0 ((zs.map Prod.snd).map GR.dT) by simp [PyData.canLay0], canLay_tups oks]
    rw [show PyData.depth (.list ((zs.map Prod.snd).map GR.dT)) = PyData.depthAll ((zs.map Prod.snd).map GR.dT) + 1 by simp [PyData.depth] <;> omega]
    have := depth_tups (zs.map Prod.snd)
    rw [decide_eq_true (by omega)]
    rfl
  · rw [em, List.any_map]
    have e : ((zs.map Prod.snd).any ((fun z => PyData.eqv z (GR.dT xs)) ∘ GR.dT)) = decide (xs ∈ zs.map Prod.snd) := by
      rw [Bool.eq_iff_iff, List.any_eq_true, decide_eq_true_eq]
      constructor
      · rintro ⟨y, hy, e⟩
        rw [Function.comp_apply, eqv_dT, decide_eq_true_eq] at e
        exact e ▸ hy
      · intro h
        exact ⟨xs, h, by rw [Function.comp_apply, eqv_dT]; exact decide_eq_true rfl⟩
    rw [e, show (true != decide (xs ∈ zs.map Prod.snd)) = !decide (xs ∈ zs.map Prod.snd) by cases decide (xs ∈ zs.map Prod.snd) <;> rfl]
    exact q
abbrev n_law_rows : List Str := ["_law_people_here", "_law_barred_here", "_law_leaks", "_law_rows_here", "_law_a", "_law_row", "_law_b", "_law_leak_here"]
theorem sc_law_rows : FnScope n_law_rows ["_law_people_here", "_law_barred_here", "_law_leaks"] (defScope s_law_rows) := ⟨rfl, rfl, rfl, by decide +kernel, rfl, by decide +kernel, by decide +kernel⟩
/-- who may give to whom, as the law tells it -/
def rowL (ps : List Str) (prs : List (List Str)) (ls : List Lk) (g : Str) : List Str := (ssort ps).filter fun t => !decide (g = t) && (!decide ([g, t] ∈ prs) && ls.all fun l => l.lets g t)
def spLRows : Sp := fun vs H Q _ => ∃ a b c ps prs ls, vs = [.ref a, .ref b, .ref c] ∧ WorldAt H a b c ps prs ls ∧ ∀ p H', Ex H H' → RowsAt H' p ps (rowL ps prs ls) → Q (.ref p) H'
theorem c_law_rows (T : Txt K mg) (c_law_lets : Cal P w K mg base k "_law_lets" spLets) : Cal P w K mg base (k + 1) "_law_rows" spLRows := by
  refine T.a_law_rows.ok sc_law_rows (fun _ _ _ _ _ _ us hl => match us, hl with | [_, _, _], _ => rfl) (fun vs H Q E h => ?_) (fun f cdv A outer s H vs Q E hr h => ⟨_, (pss_cons (ps_set (i := 3) sc_law_rows.nd rfl (Or.inl rfl) pe_dnewK)
      (pss_cons (ps_for PassesOwn.never rfl (pi_list (pv 0)) (pg_name (i := 4) sc_law_rows.nd rfl (Or.inr rfl)) (pss_cons (ps_set (i := 5) sc_law_rows.nd rfl (Or.inl rfl) (pe_lst pa_nil))
      (pss_cons (ps_for PassesOwn.never rfl (pi_list (pe_callB (crSortS hr.units) (by rfl) T.f_sorted b_sorted (pa_cons (pv 0) pa_nil))) (pg_name (i := 6) sc_law_rows.nd rfl (Or.inr rfl)) (pss_one (ps_if (PW.pt (pw_and (pt_cmpR op_ne (pv 4) (pv 6) (nomark _)) (pw_and (pt_cmpR (opNotInD (hr65 hr)) (pe_tup (pa_cons (pv 4) (pa_cons (pv 6) pa_nil))) (pv 1) rfl) (pw_and1 (pt_val (pe_callB (crAll rfl) (by rfl) T.f_all b_all (pa_cons (pe_lc (own := [("_law_leak_here", 7)]) rfl sc_law_rows.nd (pi_list (pv 2)) (blkOk_by (own := [("_law_leak_here", 7)]) (N := n_law_rows) (sc := defScope s_law_rows) (by decide +kernel)) (fun _ _ _ _ _ => (pg_name (i := 7) sc_law_rows.nd rfl (Or.inl rfl))) (fun _ _ _ _ _ => pts_nil) (fun _ _ _ _ _ => (pe_fn c_law_lets (hr.mono (by omega)) (pa_cons (pv 7) (pa_cons (pv 4) (pa_cons (pv 6) pa_nil)))))) pa_nil))))))) (pss_one (ps_expr (pe_bm PySem.F.plainAttrs_list PySem.F.slot_list_append PySem.F.type_list_append mt_append (pv 5) (pa_cons (pv 6) pa_nil)))) pss_nil)))
      (pss_one (ps_dput (hu_of hr) (pv 3) (pv 4) (pv 5) rfl)))))
      (pss_one (ps_ret (pv 3))))), ?_⟩)
  · obtain ⟨_, _, _, _, _, _, rfl, _⟩ := h; rfl
  · obtain ⟨a, b, c, ps, prs, ls, rfl, wa, q⟩ := h
    walk_at "go"
    intro D hD
    walk_at "go"
    have h7 := wa.seven
    refine forL (Ex.new hD _ _ wa.pl) (fun i σ H1 => (∃ o4 o5 o6, σ = [some (.ref a), some (.ref b), some (.ref c), some (.ref D), o4, o5, o6, none]) ∧ Ex H H1 ∧ ∃ f, H1 D = some (sd (ps.take i) f) ∧ RowsV H1 (ps.take i) f (rowL ps prs ls)) ⟨⟨_, _, _, rfl⟩, Ex.new hD, fun _ => .non, upd_same, RowsV.nil⟩ (fun i σ H1 _ z => SqL.of (z.2.1 _ _ wa.pl)) (fun i v σ H1 hv z => ?_) (fun σ H1 z => ?_)
    · obtain ⟨⟨o4, o5, o6, rfl⟩, e1, f1, hD1, rv⟩ := z
      obtain ⟨g, hg, rfl⟩ := map_get hv
      have hgm := List.mem_of_getElem? hg
      walk_at "go"
      refine ⟨by show 0 ≤ sizeLine; decide, fun r hr => ?_⟩
      walk_at "go"
      have e2 : Ex H1 (upd H1 r (.lst [])) := Ex.new hr
      refine ⟨a, ps, rfl, e2 _ _ (e1 _ _ wa.pl), fun so hso => ?_⟩
      have nrs : r ≠ so := fun e => by rw [e] at hso; rw [← e, upd_same] at hso; exact nomatch hso
      have e3 : Ex H1 (upd (upd H1 r (.lst [])) so (.lst ((ssort ps).map V.str))) := e2.trans (Ex.new hso)
      have hr3 : upd (upd H1 r (.lst [])) so (.lst ((ssort ps).map V.str)) r = some (.lst []) := Ex.new hso _ _ upd_same
      have hs3 : upd (upd H1 r (.lst [])) so (.lst ((ssort ps).map V.str)) so = _ := upd_same
      generalize upd (upd H1 r (.lst [])) so (.lst ((ssort ps).map V.str)) = H3 at e3 hr3 hs3 ⊢
      have e13 := e1.trans e3
      have sl : (ssort ps).length = ps.length := (ssort_perm ps).length_eq
      walk_at "go"
      refine forL hs3 (fun j σ H4 => (∃ o6, σ = [some (.ref a), some (.ref b), some (.ref c), some (.ref D), some (.str g), some (.ref r), o6, none]) ∧ Ex H H4 ∧ Exo r H3 H4 ∧ Ls H4 r (((ssort ps).take j).filter fun t => !decide (g = t) && (!decide ([g, t] ∈ prs) && ls.all fun l => l.lets g t)))
        ⟨⟨_, rfl⟩, e13, (fun b o _ h => h), hr3⟩ (fun j σ H4 _ z => SqL.of (z.2.2.1 _ _ nrs.symm hs3)) (fun j v σ H4 hv z => ?_) (fun σ H4 z => ?_)
      · obtain ⟨⟨o6, rfl⟩, e4, e34, hr4⟩ := z
        obtain ⟨t, ht, rfl⟩ := map_get hv
        have htm : t ∈ ps := (ssort_perm ps).mem_iff.mp (List.mem_of_getElem? ht)
        have hrH : H r = none := ex_none e1 hr
        have step : ∀ (H5 : Hp) (bb : Bool), Ex H4 H5 → (!decide (g = t) && (!decide ([g, t] ∈ prs) && ls.all fun l => l.lets g t)) = false → (∃ o6, ([some (.ref a), some (.ref b), some (.ref c), some (.ref D), some (.str g), some (.ref r), some (.str t), none] : Sl) = [some (.ref a), some (.ref b), some (.ref c), some (.ref D), some (.str g), some (.ref r), o6, none]) ∧ Ex H H5 ∧ Exo r H3 H5 ∧ Ls H5 r (((ssort ps).take (j + 1)).filter fun t => !decide (g = t) && (!decide ([g, t] ∈ prs) && ls.all fun l => l.lets g t)) := fun H5 bb e5 hf =>
          ⟨⟨_, rfl⟩, e4.trans e5, fun b o hb h => e5 _ _ (e34 b o hb h), by
            rw [take_snoc ht, List.filter_append, List.filter_cons, if_neg (by rw [hf]; exact fun e => nomatch e), List.filter_nil, List.append_nil]
            exact e5 _ _ hr4⟩
        walk_at "go"
        by_cases hgt : g = t
        · rw [decide_eq_true hgt]
          walk_at "go"
          exact step H4 true (Ex.refl _) (by rw [decide_eq_true hgt]; rfl)
        · rw [decide_eq_false hgt]
          walk_at "go"
          refine ⟨by show 2 ≤ sizeLine; decide, fun tp htp => ?_⟩
          have e5 : Ex H4 (upd H4 tp (.tup [.str g, .str t])) := Ex.new htp
          have wa5 := (wa.ex e4).ex e5
          walk_at "go"
          refine i_niD (t := tp) (xs := [g, t]) upd_same wa5.bl (fun s hs => ?_) (fun ys hy s hs => ?_) ?_
          · rcases List.mem_cons.mp hs with e | hs
            · rw [e]; exact nm_ok (wa.nm g hgm)
            · rw [List.mem_singleton.mp hs]; exact nm_ok (wa.nm t htm)
          · obtain ⟨x, y, rfl, _, hx, hy⟩ := wa.bok ys hy
            rcases List.mem_cons.mp hs with e | hs
            · rw [e]; exact nm_ok (wa.nm x hx)
            · rw [List.mem_singleton.mp hs]; exact nm_ok (wa.nm y hy)
          generalize upd H4 tp (.tup [.str g, .str t]) = H5 at e5 wa5 ⊢
          by_cases hb : [g, t] ∈ prs
          · rw [decide_eq_true hb]
            walk_at "go"
            exact step H5 true e5 (by rw [decide_eq_true hb, decide_eq_false hgt]; rfl)
          · rw [decide_eq_false hb]
            walk_at "go"
            obtain ⟨zs, hz1, hz2, rfl⟩ := wa5.kl
            refine ⟨⟨_, SqL.of hz1⟩, ?_⟩
            have wl := walk_list (K := K) (a := c) (xs := zs.map fun z => V.ref z.1)
            rw [List.length_map] at wl
            have zl : zs.length ≤ 5 := by have := wa.llen; rwa [List.length_map] at this
            letI : Inhabited (Addr × Lk) := ⟨(0, .nt (Str.ofString "") (Str.ofString ""))⟩
            refine lcL zs (fun z => V.ref z.1) wl (small (by omega)) (fun _ _ _ _ y => y) (fun z => true) (fun z => V.bl (z.2.lets g t)) (fun D acc hD => SqL.of (Ex.new hD _ _ hz1)) (fun D2 acc z N T' hD2 hz k1 k2 => ?_) fun D2 hD2 => ?_
            · walk_at "go"
              refine ⟨rfl, ?_⟩
              walk_at "go"
              exact ⟨z.1, z.2, g, t, rfl, (hz2 z hz).ex (Ex.new hD2), k2 rfl⟩
            · rw [List.filter_eq_self.mpr fun _ _ => rfl, show (zs.map fun z => V.bl (z.2.lets g t)) = (zs.map fun z => z.2.lets g t).map V.bl by rw [List.map_map]; rfl]
              have e6 : Ex H5 (upd H5 D2 (.lst ((zs.map fun z => z.2.lets g t).map V.bl))) := Ex.new hD2
              walk_at "go"
              refine ⟨D2, _, rfl, upd_same, ?_⟩
              rw [show ((zs.map fun z => z.2.lets g t).all id) = (zs.map Prod.snd).all fun l => l.lets g t by rw [List.all_map, List.all_map]; rfl]
              generalize upd H5 D2 (.lst ((zs.map fun z => z.2.lets g t).map V.bl)) = H6 at e6 ⊢
              cases hall : (zs.map Prod.snd).all fun l => l.lets g t with
              | false =>
                walk_at "go"
                exact step H6 true (e5.trans e6) (by rw [hall, decide_eq_false hb, decide_eq_false hgt]; rfl)
              | true =>
                walk_at "go"
                have hr6 := (e5.trans e6) _ _ hr4
                refine ⟨ty_l hr6, ?_⟩
                walk_at "go"
                refine i_app hr6 (by rw [List.length_map]; exact small1000 (Nat.le_trans (Nat.le_trans (List.length_filter_le _ _) (List.length_take_le' j (ssort ps))) (by omega))) ?_
                walk_at "go"
                refine ⟨⟨_, rfl⟩, Ex.mut (e4.trans (e5.trans e6)) hrH, fun b o hb h => by rw [upd_ne hb]; exact (e5.trans e6) _ _ (e34 b o hb h), ?_⟩
                show _ = _
                rw [upd_same, take_snoc ht, List.filter_append, List.filter_cons, if_pos (by rw [hall, decide_eq_false hb, decide_eq_false hgt]; rfl), List.map_append]
                rfl
      · obtain ⟨⟨o6, rfl⟩, e4, e34, hr4⟩ := z
        rw [List.length_map, List.take_length] at hr4
        have hD4 : H4 D = _ := e34 _ _ (ne_new hr hD1).symm (e3 _ _ hD1)
        have hn : g ∉ ps.take i := fun hm => (nodup_snoc_iff.mp (by rw [← take_snoc hg]; exact wa.nd.sublist (List.take_sublist _ _))).2 hm
        walk_at "go"
        refine kd_put hD4 (small1000 (by rw [List.length_take]; omega)) ?_
        rw [addk_new hn, ← take_snoc hg]
        refine ⟨⟨_, _, _, rfl⟩, Ex.mut e4 hD, _, upd_same, ?_⟩
        have rv4 : RowsV H4 (ps.take i) f1 (rowL ps prs ls) := fun y hy => by
          obtain ⟨b, h1, h2⟩ := rv y hy
          have h3 : H1 b = some (.lst ((rowL ps prs ls y).map V.str)) := h2
          exact ⟨b, h1, e34 _ _ (fun e => by rw [e, hr] at h3; exact nomatch h3) (e3 _ _ h3)⟩
        have h5 := (RowsV.keep hD4 (o := sd (ps.take i ++ [g]) (setf f1 g (.ref r))) (fun xs e => nomatch e) rv4).put (s := g) (b := r) (upd_keep hr4 hD4 fun e => nomatch e)
        rw [addk_new hn] at h5
        rw [take_snoc hg]
        exact h5
    · obtain ⟨⟨o4, o5, o6, rfl⟩, e1, f1, hD1, rv⟩ := z
      rw [List.length_map, List.take_length] at hD1 rv
      walk_at "go"
      exact q D H1 e1 ⟨f1, hD1, rv⟩
end
end GR
end
section
set_option Elab.async false
set_option linter.all false
set_option maxRecDepth 100000
set_option maxHeartbeats 4000000
set_option autoImplicit false
namespace GR
open PySem PySem.Spec L2
open Evl (Ex)
local macro_rules | `(tactic| walk_at "go") => `(tactic| (repeat (first
  | with_reducible refine i_seq ?_
  | ((with_reducible apply i_var); focus rfl)
  | with_reducible refine i_c ?_
  | with_reducible refine i_cons ?_
  | with_reducible refine i_nil ?_
  | with_reducible refine i_asg ?_
  | with_reducible refine i_name ?_
  | with_reducible refine i_op ?_
  | with_reducible refine i_cb ?_
  | with_reducible refine i_fn ?_
  | with_reducible refine i_ret ?_
  | with_reducible refine i_retN ?_
  | with_reducible refine i_drop ?_
  | with_reducible refine i_next ?_
  | with_reducible refine i_cont ?_
  | with_reducible refine i_break ?_
  | with_reducible refine i_if ?_
  | with_reducible refine br_t ?_
  | with_reducible refine br_f ?_
  | with_reducible refine br_nt ?_
  | with_reducible refine io_t ?_
  | with_reducible refine io_f ?_
  | with_reducible refine io_nt ?_
  | with_reducible refine io_nf ?_
  | with_reducible refine br_nf ?_
  | with_reducible refine o_ip ?_
  | with_reducible refine i_test ?_
  | with_reducible refine i_tB ?_
  | with_reducible refine i_not ?_
  | with_reducible refine i_notV ?_
  | with_reducible refine i_andV ?_
  | with_reducible refine i_orV ?_
  | with_reducible refine i_and ?_
  | with_reducible refine i_or ?_
  | with_reducible refine i_dput ?_
  | with_reducible refine i_dget ?_
  | with_reducible refine i_din ?_
  | with_reducible refine i_dnotin ?_
  | with_reducible refine i_dnewK ?_
  | with_reducible refine i_dnewT ?_
  | with_reducible refine i_fld ?_
  | with_reducible refine i_sfld ?_
  | with_reducible refine i_bm0 ?_
  | with_reducible refine i_bm ?_
  | with_reducible refine i_sl ?_
  | with_reducible refine i_noPart ?_
  | with_reducible refine i_part ?_
  | with_reducible refine i_chain ?_
  | with_reducible refine i_methR ?_
  | with_reducible refine i_tup ?_
  | with_reducible refine i_lst ?_
  | with_reducible refine i_for ?_
  | with_reducible refine i_iList ?_
  | with_reducible refine i_iTup ?_
  | with_reducible refine i_iKeys ?_
  | with_reducible refine i_iRng1 ?_
  | with_reducible refine i_iRng2 ?_
  | with_reducible refine i_iStr ?_
  | with_reducible refine i_iEnum ?_
  | with_reducible refine i_iEnumT ?_
  | with_reducible refine i_lc ?_
  | with_reducible refine i_stD ?_
  | with_reducible refine i_iItemsT ?_
  | with_reducible refine i_dcw ?_
  | with_reducible refine i_dsetd ?_
  | with_reducible refine i_iVals ?_
  | with_reducible refine i_iItems ?_
  | with_reducible refine i_revL ?_
  | with_reducible refine i_yes ?_
  | with_reducible refine o_I0 ?_
  | with_reducible refine o_eqS ?_
  | with_reducible refine o_neS ?_
  | with_reducible refine o_eqI ?_
  | with_reducible refine o_neI ?_
  | with_reducible refine o_eqB ?_
  | with_reducible refine e_ref ?_
  | with_reducible refine e_str ?_
  | with_reducible refine e_int ?_
  | with_reducible refine e_bl ?_
  | with_reducible refine e_str1 ?_
  | with_reducible refine e_int1 ?_
  | with_reducible refine e_int2 ?_
  | with_reducible refine e_str2 ?_)))
section
variable {P : Program} {w : World} {K : PySem.W.Frag} {mg : Str → Option Value} {base : Heap} {k j : Nat}
abbrev n_law_drawings : List Str := ["_law_people_here", "_law_rows_here", "_law_found", "_law_a", "_law_longer", "_law_takers", "_law_b"]
theorem sc_law_drawings : FnScope n_law_drawings ["_law_people_here", "_law_rows_here"] (defScope s_law_drawings) := ⟨rfl, rfl, rfl, by decide +kernel, rfl, by decide +kernel, by decide +kernel⟩
/-- one more person chooses, given what those before chose -/
def drs1 (row : Str → List Str) (a : Str) (tk : List Str) : List (List Str) := ((row a).filter fun b => !decide (b ∈ tk)).map fun b => tk ++ [b]
def drs (row : Str → List Str) (as : List Str) : List (List Str) := as.foldl (fun F a => F.flatMap (drs1 row a)) [[]]
theorem drs_snoc {row : Str → List Str} {as : List Str} {a : Str} : drs row (as ++ [a]) = (drs row as).flatMap (drs1 row a) := by unfold drs; rw [List.foldl_append]; rfl
theorem drs_tk {row : Str → List Str} : ∀ {n : Nat} {as : List Str}, as.length = n → ∀ tk ∈ drs row as, tk.length = n := by
  intro n
  induction n with
  | zero =>
    intro as h tk ht
    rw [List.length_eq_zero_iff.mp h] at ht
    rw [List.mem_singleton.mp ht]
    rfl
  | succ n ih =>
    intro as h tk ht
    obtain ⟨as', a, rfl⟩ : ∃ as' a, as = as' ++ [a] := ⟨as.dropLast, as.getLast (fun e => by rw [e] at h; cases h), (List.dropLast_concat_getLast _).symm⟩
    rw [drs_snoc] at ht
    obtain ⟨tk', h1, h2⟩ := List.mem_flatMap.mp ht
    obtain ⟨b, _, rfl⟩ := List.mem_map.mp h2
    rw [List.length_append, ih (by simpa using h) tk' h1]
    rfl
theorem flat_len {α β : Type} {f : α → List β} : ∀ {xs : List α}, (∀ x ∈ xs, (f x).length ≤ 7) → (xs.flatMap f).length ≤ 7 * xs.length
  | [], _ => Nat.le_refl _
  | x :: xs, h => by
    rw [List.flatMap_cons, List.length_append, List.length_cons]
    have := flat_len fun y hy => h y (List.mem_cons_of_mem _ hy)
    have := h x List.mem_cons_self
    omega
theorem drs1_len {row : Str → List Str} {a : Str} (h : (row a).length ≤ 7) (tk : List Str) : (drs1 row a tk).length ≤ 7 := by
  unfold drs1
  rw [List.length_map]
  exact Nat.le_trans (List.length_filter_le _ _) h
theorem drs_len {row : Str → List Str} : ∀ {n : Nat} {as : List Str}, as.length = n → (∀ a ∈ as, (row a).length ≤ 7) → (drs row as).length ≤ 7 ^ n := by
  intro n
  induction n with
  | zero =>
    intro as h _
    rw [List.length_eq_zero_iff.mp h]
    exact Nat.le_refl _
  | succ n ih =>
    intro as h hr
    obtain ⟨as', a, rfl⟩ : ∃ as' a, as = as' ++ [a] := ⟨as.dropLast, as.getLast (fun e => by rw [e] at h; cases h), (List.dropLast_concat_getLast _).symm⟩
    rw [drs_snoc, Nat.pow_succ, Nat.mul_comm]
    exact Nat.le_trans (flat_len fun x _ => drs1_len (hr a (by simp)) x) (Nat.mul_le_mul_left 7 (ih (by simpa using h) fun y hy => hr y (List.mem_append_left _ hy)))
def spDrawings : Sp := fun vs H Q _ => ∃ a r ps row, vs = [.ref a, .ref r] ∧ Ls H a ps ∧ RowsAt H r ps row ∧ RowsOk ps row ∧ ∀ p H', Ex H H' → LP (Ls H') H' p (drs row ps) → Q (.ref p) H'
theorem c_law_drawings (T : Txt K mg) : Cal P w K mg base (k + 1) "_law_drawings" spDrawings := by
  refine T.a_law_drawings.ok sc_law_drawings (fun _ _ _ _ _ _ us hl => match us, hl with | [_, _], _ => rfl) (fun vs H Q E h => ?_) (fun f cdv A outer s H vs Q E hr h => ⟨_, (pss_cons (ps_set (i := 2) sc_law_drawings.nd rfl (Or.inl rfl) (pe_lst (pa_cons (pe_lst pa_nil) pa_nil)))
      (pss_cons (ps_for PassesOwn.never rfl (pi_list (pv 0)) (pg_name (i := 3) sc_law_drawings.nd rfl (Or.inl rfl)) (pss_cons (ps_set (i := 4) sc_law_drawings.nd rfl (Or.inl rfl) (pe_lst pa_nil))
      (pss_cons (ps_for PassesOwn.never rfl (pi_list (pe_callTy crList (by rfl) T.f_list b_list (pa_cons (pv 2) pa_nil))) (pg_name (i := 5) sc_law_drawings.nd rfl (Or.inl rfl)) (pss_one (ps_for PassesOwn.never rfl (pi_list (pe_dget (hu_of hr) (pv 1) (pv 3) (fun _ _ => rfl))) (pg_name (i := 6) sc_law_drawings.nd rfl (Or.inl rfl)) (pss_one (ps_if (pt_cmpR opNotIn (pv 6) (pv 5) rfl) (pss_one (ps_expr (pe_bm PySem.F.plainAttrs_list PySem.F.slot_list_append PySem.F.type_list_append mt_append (pv 4) (pa_cons (pe_op op_cat (pv 5) (pe_lst (pa_cons (pv 6) pa_nil))) pa_nil)))) pss_nil)))))
      (pss_one (ps_set (i := 2) sc_law_drawings.nd rfl (Or.inl rfl) (pv 4))))))
      (pss_one (ps_ret (pv 2))))), ?_⟩)
  · obtain ⟨_, _, _, _, rfl, _⟩ := h; rfl
  · obtain ⟨a, r, ps, row, rfl, ha, ⟨fr, hr1, hr2⟩, ok, q⟩ := h
    walk_at "go"
    have hl := ok.len
    refine ⟨by show 0 ≤ sizeLine; decide, fun p0 hp0 => ?_⟩
    walk_at "go"
    refine ⟨by show 1 ≤ sizeLine; decide, fun F0 hF0 => ?_⟩
    walk_at "go"
    have n0 : p0 ≠ F0 := fun e => by rw [e, ← e, upd_same] at hF0; exact nomatch hF0
    have e0 := (Ex.new (o := .lst []) hp0).trans (Ex.new (o := .lst [.ref p0]) hF0)
    refine forL (e0 _ _ ha) (fun i σ H1 => (∃ F o3 o4 o5 o6, σ = [some (.ref a), some (.ref r), some (.ref F), o3, o4, o5, o6] ∧ LP (Ls H1) H1 F (drs row (ps.take i))) ∧ Ex H H1)
      ⟨⟨F0, _, _, _, _, rfl, [(p0, [])], upd_same, (fun z hz => by rw [List.mem_singleton.mp hz]; exact upd_some n0 upd_same), rfl⟩, e0⟩ (fun i σ H1 _ z => SqL.of (z.2 _ _ ha)) (fun i v σ H1 hv z => ?_) (fun σ H1 z => ?_)
    · obtain ⟨⟨F, o3, o4, o5, o6, rfl, zs, hz1, hz2, hz3⟩, e1⟩ := z
      obtain ⟨g, hg, rfl⟩ := map_get hv
      have hgm := List.mem_of_getElem? hg
      have hi : i < ps.length := (List.getElem?_eq_some_iff.mp hg).1
      have til : (ps.take i).length = i := by rw [List.length_take]; omega
      have rl7 := ok.rlen hgm
      have zl : zs.length ≤ 117649 := by
        have h1 := drs_len til fun y hy => ok.rlen (List.mem_of_mem_take hy)
        rw [← hz3, List.length_map] at h1
        exact Nat.le_trans h1 (Nat.pow_le_pow_right (n := 7) (by decide) (show i ≤ 6 by omega))
      have tkl : ∀ z ∈ zs, z.2.length ≤ 7 := fun z hz => by
        have := drs_tk til z.2 (by rw [← hz3]; exact List.mem_map_of_mem hz)
        omega
      walk_at "go"
      refine ⟨by show 0 ≤ sizeLine; decide, fun L hL => ?_⟩
      walk_at "go"
      have nFL : F ≠ L := fun e => by rw [e, hL] at hz1; exact nomatch hz1
      refine ⟨F, _, rfl, .inl (upd_some nFL hz1), fun C hC => ?_⟩
      have nLC : L ≠ C := fun e => by rw [← e, upd_same] at hC; exact nomatch hC
      have e2 : Ex H1 (upd (upd H1 L (.lst [])) C (.lst (zs.map fun z => V.ref z.1))) := (Ex.new hL).trans (Ex.new hC)
      have hL2 := upd_some (o := .lst (zs.map fun z => V.ref z.1)) nLC (upd_same (H := H1) (a := L) (o := .lst []))
      have hC2 : upd (upd H1 L (.lst [])) C (.lst (zs.map fun z => V.ref z.1)) C = _ := upd_same
      generalize upd (upd H1 L (.lst [])) C (.lst (zs.map fun z => V.ref z.1)) = H2 at e2 hL2 hC2 ⊢
      have hLH : H L = none := ex_none e1 hL
      have e12 := e1.trans e2
      walk_at "go"
      obtain ⟨br, hbr, hlr⟩ := hr2 g hgm
      have nrL : r ≠ L := fun e => by rw [e, hLH] at hr1; exact nomatch hr1
      have nbL : br ≠ L := fun e => by have h : H br = some (.lst ((row g).map V.str)) := hlr; rw [e, hLH] at h; exact nomatch h
      refine forL hC2 (fun j σ H3 => (∃ o5 o6, σ = [some (.ref a), some (.ref r), some (.ref F), some (.str g), some (.ref L), o5, o6]) ∧ Ex H H3 ∧ Exo L H2 H3 ∧ ∃ ys : List (Addr × List Str), H3 L = some (.lst (ys.map fun z => V.ref z.1)) ∧ (∀ z ∈ ys, Ls H3 z.1 z.2 ∧ z.1 ≠ L) ∧ ys.map Prod.snd = ((zs.take j).map Prod.snd).flatMap (drs1 row g))
        ⟨⟨_, _, rfl⟩, e12, (fun b o _ h => h), [], hL2, (fun z hz => nomatch hz), rfl⟩ (fun j σ H3 _ z => SqL.of (z.2.2.1 _ _ nLC.symm hC2)) (fun j v σ H3 hv z => ?_) (fun σ H3 z => ?_)
      · obtain ⟨⟨o5, o6, rfl⟩, e3, e23, ys, hy1, hy2, hy3⟩ := z
        obtain ⟨z, hz, rfl⟩ := map_get hv
        have hzm := List.mem_of_getElem? hz
        have hj : j < zs.length := (List.getElem?_eq_some_iff.mp hz).1
        have tk7 := tkl z hzm
        have hzl : Ls H3 z.1 z.2 := by
          have h1 : H1 z.1 = some (.lst (z.2.map V.str)) := hz2 z hzm
          exact e23 _ _ (fun e => by rw [e, hL] at h1; exact nomatch h1) (e2 _ _ h1)
        have nzL : z.1 ≠ L := fun e => by have h1 : H1 z.1 = some (.lst (z.2.map V.str)) := hz2 z hzm; rw [e, hL] at h1; exact nomatch h1
        have yl : ys.length ≤ 7 * j := by
          have h1 := congrArg List.length hy3
          rw [List.length_map] at h1
          rw [h1]
          exact Nat.le_trans (flat_len fun x _ => drs1_len rl7 x) (by rw [List.length_map, List.length_take]; omega)
        walk_at "go"
        refine kd_get (.inl (e3 _ _ hr1)) hgm ?_
        rw [hbr]
        walk_at "go"
        refine forL (e3 _ _ hlr) (fun m σ H4 => (∃ o6, σ = [some (.ref a), some (.ref r), some (.ref F), some (.str g), some (.ref L), some (.ref z.1), o6]) ∧ Ex H H4 ∧ Exo L H2 H4 ∧ Ls H4 z.1 z.2 ∧ ∃ ys : List (Addr × List Str), H4 L = some (.lst (ys.map fun z => V.ref z.1)) ∧ (∀ z ∈ ys, Ls H4 z.1 z.2 ∧ z.1 ≠ L) ∧ ys.length ≤ 7 * j + m ∧ ys.map Prod.snd = ((zs.take j).map Prod.snd).flatMap (drs1 row g) ++ ((((row g).take m).filter fun b => !decide (b ∈ z.2)).map fun b => z.2 ++ [b]))
          ⟨⟨_, rfl⟩, e3, e23, hzl, ys, hy1, hy2, yl, by rw [hy3]; simp⟩ (fun m σ H4 _ y => SqL.of (y.2.1 _ _ hlr)) (fun m v σ H4 hv y => ?_) (fun σ H4 y => ?_)
        · obtain ⟨⟨o6, rfl⟩, e4, e24, hzl4, ys, hy1, hy2, yl, hy3⟩ := y
          obtain ⟨b, hb, rfl⟩ := map_get hv
          have hm : m < (row g).length := (List.getElem?_eq_some_iff.mp hb).1
          walk_at "go"
          refine i_ni (.inr hzl4) ?_
          rw [take_snoc hb, List.filter_append, List.map_append]
          by_cases hbm : b ∈ z.2
          · rw [decide_eq_true hbm]
            walk_at "go"
            refine ⟨⟨_, rfl⟩, e4, e24, hzl4, ys, hy1, hy2, by omega, ?_⟩
            rw [hy3, List.filter_cons, if_neg (by rw [decide_eq_true hbm]; exact fun e => nomatch e)]
            simp
          · rw [decide_eq_false hbm]
            walk_at "go"
            refine ⟨ty_l hy1, ?_⟩
            walk_at "go"
            refine ⟨by show 1 ≤ sizeLine; decide, fun t1 ht1 => ?_⟩
            have n1 : t1 ≠ L := fun e => by rw [e, hy1] at ht1; exact nomatch ht1
            have e5 : Ex H4 (upd H4 t1 (.lst [.str b])) := Ex.new ht1
            have h51 : upd H4 t1 (.lst [.str b]) t1 = _ := upd_same
            generalize upd H4 t1 (.lst [.str b]) = H5 at e5 h51 ⊢
            refine ⟨z.1, t1, _, _, rfl, rfl, e5 _ _ hzl4, h51, by rw [List.length_map]; exact small (by show _ + 1 ≤ 1000; omega), fun t2 ht2 => ?_⟩
            have n2 : t2 ≠ L := fun e => by rw [e, e5 _ _ hy1] at ht2; exact nomatch ht2
            have e6 : Ex H5 (upd H5 t2 (.lst (z.2.map V.str ++ [.str b]))) := Ex.new ht2
            have h62 : Ls (upd H5 t2 (.lst (z.2.map V.str ++ [.str b]))) t2 (z.2 ++ [b]) := by show _ = _; rw [upd_same, List.map_append]; rfl
            generalize upd H5 t2 (.lst (z.2.map V.str ++ [.str b])) = H6 at e6 h62 ⊢
            have e46 := e5.trans e6
            walk_at "go"
            refine i_app (e46 _ _ hy1) (by rw [List.length_map, sizeLine_eq]; omega) ?_
            walk_at "go"
            refine ⟨⟨_, rfl⟩, Ex.mut (e4.trans e46) hLH, fun b o hb h => by rw [upd_ne hb]; exact e46 _ _ (e24 b o hb h), upd_some nzL (e46 _ _ hzl4), ys ++ [(t2, z.2 ++ [b])], by rw [upd_same, List.map_append]; rfl, fun y hy => ?_, by rw [List.length_append, List.length_singleton]; omega, ?_⟩
            · rcases List.mem_append.mp hy with h | h
              · exact ⟨upd_some (hy2 y h).2 (e46 _ _ (hy2 y h).1), (hy2 y h).2⟩
              · rw [List.mem_singleton.mp h]; exact ⟨upd_some n2 h62, n2⟩
            · rw [List.map_append, hy3, List.filter_cons, if_pos (by rw [decide_eq_false hbm]; rfl), List.append_assoc]
              rfl
        · obtain ⟨⟨o6, rfl⟩, e4, e24, hzl4, ys, hy1, hy2, yl, hy3⟩ := y
          rw [List.length_map, List.take_length] at hy3
          refine ⟨⟨_, _, rfl⟩, e4, e24, ys, hy1, hy2, ?_⟩
          rw [hy3, take_snoc hz, List.map_append, List.flatMap_append]
          simp [drs1]
      · obtain ⟨⟨o5, o6, rfl⟩, e3, e23, ys, hy1, hy2, hy3⟩ := z
        rw [List.length_map, List.take_length, hz3] at hy3
        walk_at "go"
        refine ⟨⟨L, _, _, _, _, rfl, ys, hy1, fun z hz => (hy2 z hz).1, ?_⟩, e3⟩
        rw [take_snoc hg, drs_snoc]
        exact hy3
    · obtain ⟨⟨F, o3, o4, o5, o6, rfl, hF⟩, e1⟩ := z
      rw [List.length_map, List.take_length] at hF
      walk_at "go"
      exact q F H1 e1 hF
end
end GR
end
section
set_option Elab.async false
set_option linter.all false
set_option maxRecDepth 100000
set_option maxHeartbeats 4000000
set_option autoImplicit false
namespace GR
open PySem PySem.Spec L2
open Evl (Ex)
local macro_rules | `(tactic| walk_at "go") => `(tactic| (repeat (first
  | with_reducible refine i_seq ?_
  | ((with_reducible apply i_var); focus rfl)
  | with_reducible refine i_c ?_
  | with_reducible refine i_cons ?_
  | with_reducible refine i_nil ?_
  | with_reducible refine i_asg ?_
  | with_reducible refine i_name ?_
  | with_reducible refine i_op ?_
  | with_reducible refine i_cb ?_
  | with_reducible refine i_fn ?_
  | with_reducible refine i_ret ?_
  | with_reducible refine i_retN ?_
  | with_reducible refine i_drop ?_
  | with_reducible refine i_next ?_
  | with_reducible refine i_cont ?_
  | with_reducible refine i_break ?_
  | with_reducible refine i_if ?_
  | with_reducible refine br_t ?_
  | with_reducible refine br_f ?_
  | with_reducible refine br_nt ?_
  | with_reducible refine io_t ?_
  | with_reducible refine io_f ?_
  | with_reducible refine io_nt ?_
  | with_reducible refine io_nf ?_
  | with_reducible refine br_nf ?_
  | with_reducible refine o_ip ?_
  | with_reducible refine i_test ?_
  | with_reducible refine i_tB ?_
  | with_reducible refine i_not ?_
  | with_reducible refine i_notV ?_
  | with_reducible refine i_andV ?_
  | with_reducible refine i_orV ?_
  | with_reducible refine i_and ?_
  | with_reducible refine i_or ?_
  | with_reducible refine i_dput ?_
  | with_reducible refine i_dget ?_
  | with_reducible refine i_din ?_
  | with_reducible refine i_dnotin ?_
  | with_reducible refine i_dnewK ?_
  | with_reducible refine i_dnewT ?_
  | with_reducible refine i_fld ?_
  | with_reducible refine i_sfld ?_
  | with_reducible refine i_bm0 ?_
  | with_reducible refine i_bm ?_
  | with_reducible refine i_sl ?_
  | with_reducible refine i_noPart ?_
  | with_reducible refine i_part ?_
  | with_reducible refine i_chain ?_
  | with_reducible refine i_methR ?_
  | with_reducible refine i_tup ?_
  | with_reducible refine i_lst ?_
  | with_reducible refine i_for ?_
  | with_reducible refine i_iList ?_
  | with_reducible refine i_iTup ?_
  | with_reducible refine i_iKeys ?_
  | with_reducible refine i_iRng1 ?_
  | with_reducible refine i_iRng2 ?_
  | with_reducible refine i_iStr ?_
  | with_reducible refine i_iEnum ?_
  | with_reducible refine i_iEnumT ?_
  | with_reducible refine i_lc ?_
  | with_reducible refine i_stD ?_
  | with_reducible refine i_iItemsT ?_
  | with_reducible refine i_dcw ?_
  | with_reducible refine i_dsetd ?_
  | with_reducible refine i_iVals ?_
  | with_reducible refine i_iItems ?_
  | with_reducible refine i_revL ?_
  | with_reducible refine i_yes ?_
  | with_reducible refine o_I0 ?_
  | with_reducible refine o_eqS ?_
  | with_reducible refine o_neS ?_
  | with_reducible refine o_eqI ?_
  | with_reducible refine o_neI ?_
  | with_reducible refine o_eqB ?_
  | with_reducible refine e_ref ?_
  | with_reducible refine e_str ?_
  | with_reducible refine e_int ?_
  | with_reducible refine e_bl ?_
  | with_reducible refine e_str1 ?_
  | with_reducible refine e_int1 ?_
  | with_reducible refine e_int2 ?_
  | with_reducible refine e_str2 ?_)))
section
variable {P : Program} {w : World} {K : PySem.W.Frag} {mg : Str → Option Value} {base : Heap} {k j : Nat}
abbrev n_law_as_dict : List Str := ["_law_people_here", "_law_takers", "_law_result", "_law_k"]
theorem sc_law_as_dict : FnScope n_law_as_dict ["_law_people_here", "_law_takers"] (defScope s_law_as_dict) := ⟨rfl, rfl, rfl, by decide +kernel, rfl, by decide +kernel, by decide +kernel⟩
/-- what the i-th person's choice is -/
def asd (ps ds : List Str) (x : Str) : Str := ds.getD (ps.idxOf x) x
def spAsDict : Sp := fun vs H Q _ => ∃ a b ps ds, vs = [.ref a, .ref b] ∧ Ls H a ps ∧ Ls H b ds ∧ ps.Nodup ∧ ds.length = ps.length ∧ ps.length ≤ 7 ∧ ∀ p H', Ex H H' → H' p = some (sd ps fun g => .str (asd ps ds g)) → Q (.ref p) H'
theorem c_law_as_dict (T : Txt K mg) : Cal P w K mg base (k + 1) "_law_as_dict" spAsDict := by
  refine T.a_law_as_dict.ok sc_law_as_dict (fun _ _ _ _ _ _ us hl => match us, hl with | [_, _], _ => rfl) (fun vs H Q E h => ?_) (fun f cdv A outer s H vs Q E hr h => ⟨_, (pss_cons (ps_set (i := 2) sc_law_as_dict.nd rfl (Or.inl rfl) pe_dnewK)
      (pss_cons (ps_for PassesOwn.never rfl (pi_range1 (by rfl) T.f_range (pa_cons (pe_callB crLen (by rfl) T.f_len b_len (pa_cons (pv 0) pa_nil)) pa_nil)) (pg_name (i := 3) sc_law_as_dict.nd rfl (Or.inl rfl)) (pss_one (ps_dput (hu_of hr) (pv 2) (pe_ix ixL (pv 0) (pv 3) (fun _ _ => rfl)) (pe_ix ixL (pv 1) (pv 3) (fun _ _ => rfl)) rfl)))
      (pss_one (ps_ret (pv 2))))), ?_⟩)
  · obtain ⟨_, _, _, _, rfl, _⟩ := h; rfl
  · obtain ⟨a, b, ps, ds, rfl, ha, hb, nd, dl, h7, q⟩ := h
    walk_at "go"
    intro D hD
    walk_at "go"
    have e0 := Ex.new (o := .dK []) hD
    refine ⟨a, _, rfl, .inl (e0 _ _ ha), ?_⟩
    rw [List.length_map]
    refine forR (by omega) (fun i σ H1 => (∃ o3, σ = [some (.ref a), some (.ref b), some (.ref D), o3]) ∧ Ex H H1 ∧ H1 D = some (sd (ps.take i) fun g => .str (asd ps ds g))) ⟨⟨_, rfl⟩, e0, upd_same⟩ (fun i σ H1 hi z => ?_) (fun σ H1 z => ?_)
    · obtain ⟨⟨o3, rfl⟩, e1, hD1⟩ := z
      have hid : i < ds.length := by omega
      have hn : ps[i] ∉ ps.take i := fun hm => (nodup_snoc_iff.mp (by rw [← take_snoc (List.getElem?_eq_getElem hi)]; exact nd.sublist (List.take_sublist _ _))).2 hm
      have hv : asd ps ds ps[i] = ds[i] := by
        unfold asd
        rw [nd.idxOf_getElem i hi, List.getD_eq_getElem?_getD, List.getElem?_eq_getElem hid]
        rfl
      walk_at "go"
      refine i_lsx (i := i) (e1 _ _ hb) rfl hid ?_
      walk_at "go"
      refine i_lsx (i := i) (e1 _ _ ha) rfl hi ?_
      refine kd_put hD1 (small1000 (by rw [List.length_take]; omega)) ?_
      refine ⟨⟨_, rfl⟩, Ex.mut e1 hD, ?_⟩
      rw [upd_same, addk_new hn, ← take_snoc (List.getElem?_eq_getElem hi)]
      refine congrArg some (congrArg HO.dK (kd_congr fun x hx => ?_))
      by_cases ex : x = ps[i]
      · rw [ex, setf_same, hv]
      · rw [setf_ne _ _ ex]
    · obtain ⟨⟨o3, rfl⟩, e1, hD1⟩ := z
      rw [List.take_length] at hD1
      walk_at "go"
      exact q D H1 e1 hD1
abbrev n_law_table : List Str := ["_law_people_here", "_law_found", "_law_rows_here", "_law_k", "_law_column", "_law_takers", "_law_b"]
theorem sc_law_table : FnScope n_law_table ["_law_people_here", "_law_found"] (defScope s_law_table) := ⟨rfl, rfl, rfl, by decide +kernel, rfl, by decide +kernel, by decide +kernel⟩
/-- who may take from whom in some drawing -/
def tabL (ps : List Str) (dss : List (List Str)) (x : Str) : List Str := (ssort ps).filter fun b => decide (b ∈ dss.map fun ds => ds.getD (ps.idxOf x) x)
def spLTable : Sp := fun vs H Q _ => ∃ a b ps dss, vs = [.ref a, .ref b] ∧ Ls H a ps ∧ LP (Ls H) H b dss ∧ ps.Nodup ∧ (∀ ds ∈ dss, ds.length = ps.length) ∧ ps.length ≤ 7 ∧ dss.length ≤ 823543 ∧ ∀ p H', Ex H H' → RowsAt H' p ps (tabL ps dss) → Q (.ref p) H'
theorem c_law_table (T : Txt K mg) : Cal P w K mg base (k + 1) "_law_table" spLTable := by
  refine T.a_law_table.ok sc_law_table (fun _ _ _ _ _ _ us hl => match us, hl with | [_, _], _ => rfl) (fun vs H Q E h => ?_) (fun f cdv A outer s H vs Q E hr h => ⟨_, (pss_cons (ps_set (i := 2) sc_law_table.nd rfl (Or.inl rfl) pe_dnewK)
      (pss_cons (ps_for PassesOwn.never rfl (pi_range1 (by rfl) T.f_range (pa_cons (pe_callB crLen (by rfl) T.f_len b_len (pa_cons (pv 0) pa_nil)) pa_nil)) (pg_name (i := 3) sc_law_table.nd rfl (Or.inr rfl)) (pss_cons (ps_set (i := 4) sc_law_table.nd rfl (Or.inr rfl) (pe_lc (own := [("_law_takers", 5)]) rfl sc_law_table.nd (pi_list (pv 1)) (blkOk_by (own := [("_law_takers", 5)]) (N := n_law_table) (sc := defScope s_law_table) (by decide +kernel)) (fun _ _ _ _ _ => (pg_name (i := 5) sc_law_table.nd rfl (Or.inl rfl))) (fun _ _ _ _ _ => pts_nil) (fun _ _ _ _ _ => (pe_ix ixL (pv 5) (pv 3) (fun _ _ => rfl)))))
      (pss_one (ps_dput (hu_of hr) (pv 2) (pe_ix ixL (pv 0) (pv 3) (fun _ _ => rfl)) (pe_lc (own := [("_law_b", 6)]) rfl sc_law_table.nd (pi_list (pe_callB (crSortS hr.units) (by rfl) T.f_sorted b_sorted (pa_cons (pv 0) pa_nil))) (blkOk_by (own := [("_law_b", 6)]) (N := n_law_table) (sc := defScope s_law_table) (by decide +kernel)) (fun _ _ _ _ _ => (pg_name (i := 6) sc_law_table.nd rfl (Or.inl rfl))) (fun _ _ _ _ _ => pts_one (pt_cmpR opIn (pv 6) (pv 4) rfl)) (fun _ _ _ _ _ => (pv 6))) rfl))))
      (pss_one (ps_ret (pv 2))))), ?_⟩)
  · obtain ⟨_, _, _, _, rfl, _⟩ := h; rfl
  · obtain ⟨a, b, ps, dss, rfl, ha, ⟨zs, hz1, hz2, rfl⟩, nd, dl, h7, dl7, q⟩ := h
    rw [List.length_map] at dl7
    walk_at "go"
    intro D hD
    walk_at "go"
    have e0 := Ex.new (o := .dK []) hD
    refine ⟨a, _, rfl, .inl (e0 _ _ ha), ?_⟩
    rw [List.length_map]
    refine forR (by omega) (fun i σ H1 => (∃ o3 o4, σ = [some (.ref a), some (.ref b), some (.ref D), o3, o4, none, none]) ∧ Ex H H1 ∧ ∃ f, H1 D = some (sd (ps.take i) f) ∧ RowsV H1 (ps.take i) f (tabL ps (zs.map Prod.snd))) ⟨⟨_, _, rfl⟩, e0, fun _ => .non, upd_same, RowsV.nil⟩ (fun i σ H1 hi z => ?_) (fun σ H1 z => ?_)
    · obtain ⟨⟨o3, o4, rfl⟩, e1, f, hD1, rv⟩ := z
      have hn : ps[i] ∉ ps.take i := fun hm => (nodup_snoc_iff.mp (by rw [← take_snoc (List.getElem?_eq_getElem hi)]; exact nd.sublist (List.take_sublist _ _))).2 hm
      have hixi := nd.idxOf_getElem i hi
      walk_at "go"
      have hz1' := e1 _ _ hz1
      refine ⟨⟨_, SqL.of hz1'⟩, ?_⟩
      have wl := walk_list (K := K) (a := b) (xs := zs.map fun z => V.ref z.1)
      rw [List.length_map] at wl
      letI : Inhabited (Addr × List Str) := ⟨(0, [])⟩
      refine lcL zs (fun z => V.ref z.1) wl (by rw [sizeLine_eq]; omega) (fun _ _ _ _ y => y) (fun z => true) (fun z => V.str (z.2.getD i ps[i])) (fun D acc hD => SqL.of (Ex.new hD _ _ hz1')) (fun D2 acc z N T' hD2 hz k1 k2 => ?_) fun D2 hD2 => ?_
      · have hlz : i < z.2.length := by rw [dl z.2 (List.mem_map_of_mem hz)]; exact hi
        walk_at "go"
        refine ⟨rfl, ?_⟩
        walk_at "go"
        refine i_lsx (i := i) (Ex.new hD2 _ _ (e1 _ _ (hz2 z hz))) rfl hlz ?_
        have := k2 rfl
        rw [List.getD_eq_getElem?_getD, List.getElem?_eq_getElem hlz] at this
        exact this
      · rw [List.filter_eq_self.mpr fun _ _ => rfl, show (zs.map fun z : Addr × List Str => V.str (z.2.getD i ps[i])) = ((zs.map Prod.snd).map fun ds : List Str => ds.getD i ps[i]).map V.str by rw [List.map_map, List.map_map]; rfl]
        have e2 : Ex H1 (upd H1 D2 (.lst (((zs.map Prod.snd).map fun ds => ds.getD i ps[i]).map V.str))) := Ex.new hD2
        have hc2 : Ls (upd H1 D2 (.lst (((zs.map Prod.snd).map fun ds => ds.getD i ps[i]).map V.str))) D2 ((zs.map Prod.snd).map fun ds => ds.getD i ps[i]) := upd_same
        generalize upd H1 D2 (.lst (((zs.map Prod.snd).map fun ds => ds.getD i ps[i]).map V.str)) = H2 at e2 hc2 ⊢
        walk_at "go"
        refine ⟨a, ps, rfl, e2 _ _ (e1 _ _ ha), fun so hso => ?_⟩
        have e3 : Ex H2 (upd H2 so (.lst ((ssort ps).map V.str))) := Ex.new hso
        have hs3 : upd H2 so (.lst ((ssort ps).map V.str)) so = _ := upd_same
        generalize upd H2 so (.lst ((ssort ps).map V.str)) = H3 at e3 hs3 ⊢
        walk_at "go"
        refine ⟨⟨_, SqL.of hs3⟩, ?_⟩
        have wl2 := walk_list (K := K) (a := so) (xs := (ssort ps).map V.str)
        rw [List.length_map] at wl2
        refine lcL (ssort ps) V.str wl2 (small (by rw [(ssort_perm ps).length_eq]; omega)) (fun _ _ _ _ y => y) (fun t => decide (t ∈ (zs.map Prod.snd).map fun ds => ds.getD i ps[i])) V.str (fun D acc hD => SqL.of (Ex.new hD _ _ hs3)) (fun D3 acc t N T' hD3 ht k1 k2 => ?_) fun D3 hD3 => ?_
        · walk_at "go"
          refine ⟨rfl, ?_⟩
          walk_at "go"
          refine i_in (.inr (Ex.new hD3 _ _ (e3 _ _ hc2))) ?_
          by_cases hm : t ∈ (zs.map Prod.snd).map fun ds => ds.getD i ps[i]
          · rw [decide_eq_true hm]
            walk_at "go"
            exact k2 (decide_eq_true hm)
          · rw [decide_eq_false hm]
            walk_at "go"
            exact k1 (decide_eq_false hm)
        · have etab : (ssort ps).filter (fun t => decide (t ∈ (zs.map Prod.snd).map fun ds => ds.getD i ps[i])) = tabL ps (zs.map Prod.snd) ps[i] := by
            unfold tabL
            rw [hixi]
          rw [etab]
          have e4 : Ex H1 (upd H3 D3 (.lst ((tabL ps (zs.map Prod.snd) ps[i]).map V.str))) := (e2.trans e3).trans (Ex.new hD3)
          have h43 : Ls (upd H3 D3 (.lst ((tabL ps (zs.map Prod.snd) ps[i]).map V.str))) D3 (tabL ps (zs.map Prod.snd) ps[i]) := upd_same
          generalize upd H3 D3 (.lst ((tabL ps (zs.map Prod.snd) ps[i]).map V.str)) = H4 at e4 h43 ⊢
          walk_at "go"
          refine i_lsx (i := i) (e4 _ _ (e1 _ _ ha)) rfl hi ?_
          have hD4 := e4 _ _ hD1
          refine kd_put hD4 (small1000 (by rw [List.length_take]; omega)) ?_
          rw [addk_new hn, ← take_snoc (List.getElem?_eq_getElem hi)]
          refine ⟨⟨_, _, rfl⟩, Ex.mut (e1.trans e4) hD, _, upd_same, ?_⟩
          have h5 := (RowsV.keep hD4 (o := sd (ps.take i ++ [ps[i]]) (setf f ps[i] (.ref D3))) (fun xs e => nomatch e) (rv.ex e4)).put (s := ps[i]) (b := D3) (upd_keep h43 hD4 fun e => nomatch e)
          rw [addk_new hn] at h5
          rw [take_snoc (List.getElem?_eq_getElem hi)]
          exact h5
    · obtain ⟨⟨o3, o4, rfl⟩, e1, f, hD1, rv⟩ := z
      rw [List.take_length] at hD1 rv
      walk_at "go"
      exact q D H1 e1 ⟨f, hD1, rv⟩
end
end GR
end
section
set_option Elab.async false
set_option linter.all false
set_option maxRecDepth 100000
set_option maxHeartbeats 4000000
set_option autoImplicit false
namespace GR
open PySem PySem.Spec L2
open Evl (Ex)
local macro_rules | `(tactic| walk_at "go") => `(tactic| (repeat (first
  | with_reducible refine i_seq ?_
  | ((with_reducible apply i_var); focus rfl)
  | with_reducible refine i_c ?_
  | with_reducible refine i_cons ?_
  | with_reducible refine i_nil ?_
  | with_reducible refine i_asg ?_
  | with_reducible refine i_name ?_
  | with_reducible refine i_op ?_
  | with_reducible refine i_cb ?_
  | with_reducible refine i_fn ?_
  | with_reducible refine i_ret ?_
  | with_reducible refine i_retN ?_
  | with_reducible refine i_drop ?_
  | with_reducible refine i_next ?_
  | with_reducible refine i_cont ?_
  | with_reducible refine i_break ?_
  | with_reducible refine i_if ?_
  | with_reducible refine br_t ?_
  | with_reducible refine br_f ?_
  | with_reducible refine br_nt ?_
  | with_reducible refine io_t ?_
  | with_reducible refine io_f ?_
  | with_reducible refine io_nt ?_
  | with_reducible refine io_nf ?_
  | with_reducible refine br_nf ?_
  | with_reducible refine o_ip ?_
  | with_reducible refine i_test ?_
  | with_reducible refine i_tB ?_
  | with_reducible refine i_not ?_
  | with_reducible refine i_notV ?_
  | with_reducible refine i_andV ?_
  | with_reducible refine i_orV ?_
  | with_reducible refine i_and ?_
  | with_reducible refine i_or ?_
  | with_reducible refine i_dput ?_
  | with_reducible refine i_dget ?_
  | with_reducible refine i_din ?_
  | with_reducible refine i_dnotin ?_
  | with_reducible refine i_dnewK ?_
  | with_reducible refine i_dnewT ?_
  | with_reducible refine i_fld ?_
  | with_reducible refine i_sfld ?_
  | with_reducible refine i_bm0 ?_
  | with_reducible refine i_bm ?_
  | with_reducible refine i_sl ?_
  | with_reducible refine i_noPart ?_
  | with_reducible refine i_part ?_
  | with_reducible refine i_chain ?_
  | with_reducible refine i_methR ?_
  | with_reducible refine i_tup ?_
  | with_reducible refine i_lst ?_
  | with_reducible refine i_for ?_
  | with_reducible refine i_iList ?_
  | with_reducible refine i_iTup ?_
  | with_reducible refine i_iKeys ?_
  | with_reducible refine i_iRng1 ?_
  | with_reducible refine i_iRng2 ?_
  | with_reducible refine i_iStr ?_
  | with_reducible refine i_iEnum ?_
  | with_reducible refine i_iEnumT ?_
  | with_reducible refine i_lc ?_
  | with_reducible refine i_stD ?_
  | with_reducible refine i_iItemsT ?_
  | with_reducible refine i_dcw ?_
  | with_reducible refine i_dsetd ?_
  | with_reducible refine i_iVals ?_
  | with_reducible refine i_iItems ?_
  | with_reducible refine i_revL ?_
  | with_reducible refine i_yes ?_
  | with_reducible refine o_I0 ?_
  | with_reducible refine o_eqS ?_
  | with_reducible refine o_neS ?_
  | with_reducible refine o_eqI ?_
  | with_reducible refine o_neI ?_
  | with_reducible refine o_eqB ?_
  | with_reducible refine e_ref ?_
  | with_reducible refine e_str ?_
  | with_reducible refine e_int ?_
  | with_reducible refine e_bl ?_
  | with_reducible refine e_str1 ?_
  | with_reducible refine e_int1 ?_
  | with_reducible refine e_int2 ?_
  | with_reducible refine e_str2 ?_)))
section
variable {P : Program} {w : World} {K : PySem.W.Frag} {mg : Str → Option Value} {base : Heap} {k j : Nat}
abbrev n_law_within : List Str := ["_law_lot_here", "_law_groups", "_law_group", "_law_a"]
theorem sc_law_within : FnScope n_law_within ["_law_lot_here", "_law_groups"] (defScope s_law_within) := ⟨rfl, rfl, rfl, by decide +kernel, rfl, by decide +kernel, by decide +kernel⟩
def spWithin : Sp := fun vs H Q _ => ∃ a b xs gs, vs = [.ref a, .ref b] ∧ Ts H a xs ∧ xs.length ≤ 1000 ∧ LP (Ts H) H b gs ∧ gs.length ≤ 7 ∧ ∀ H', Ex H H' → Q (.bl (decide (∃ g ∈ gs, ∀ x ∈ xs, x ∈ g))) H'
theorem c_law_within (T : Txt K mg) : Cal P w K mg base (k + 1) "_law_within" spWithin := by
  refine T.a_law_within.ok sc_law_within (fun _ _ _ _ _ _ us hl => match us, hl with | [_, _], _ => rfl) (fun vs H Q E h => ?_) (fun f cdv A outer s H vs Q E hr h => ⟨_, (pss_one (ps_ret (pe_callB (crAny rfl) (by rfl) T.f_any b_any (pa_cons (pe_lc (own := [("_law_group", 2)]) rfl sc_law_within.nd (pi_list (pv 1)) (blkOk_by (own := [("_law_group", 2)]) (N := n_law_within) (sc := defScope s_law_within) (by decide +kernel)) (fun _ _ _ _ _ => (pg_name (i := 2) sc_law_within.nd rfl (Or.inr rfl))) (fun _ _ _ _ _ => pts_nil) (fun _ _ _ _ _ => (pe_callB (crAll rfl) (by rfl) T.f_all b_all (pa_cons (pe_lc (own := [("_law_a", 3)]) rfl sc_law_within.nd (pi_tupK (K := K) (pv 0)) (blkOk_by (own := [("_law_a", 3)]) (N := n_law_within) (sc := { kind := .function, names := [(".0", .local), ("_law_group", .cell), ("all", .globalImplicit), ("_law_lot_here", .cell)], isGenerator := false, isCoroutine := false }) (by decide +kernel)) (fun _ _ _ _ _ => (pg_name (i := 3) sc_law_within.nd rfl (Or.inl rfl))) (fun _ _ _ _ _ => pts_nil) (fun _ _ _ _ _ => (pe_cmpR opIn (pv 3) (pv 2) rfl))) pa_nil)))) pa_nil)))), ?_⟩)
  · obtain ⟨_, _, _, _, rfl, _⟩ := h; rfl
  · obtain ⟨a, b, xs, gs, rfl, ha, hx, ⟨zs, hz1, hz2, rfl⟩, gl, q⟩ := h
    walk_at "go"
    refine ⟨⟨_, SqL.of hz1⟩, ?_⟩
    have wl := walk_list (K := K) (a := b) (xs := zs.map fun z => V.ref z.1)
    rw [List.length_map] at wl gl
    refine lcX wl (small (by omega)) (fun D i B acc => acc = ((zs.take i).map fun z : Addr × List Str => decide (∀ x ∈ xs, x ∈ z.2)).map V.bl) (fun D hD => rfl) (fun D i B acc e hB _ => SqL.of (ex_in e hB _ _ hz1)) (fun D i v B H2 acc N T' hi e hB s y k1 k2 => ?_) fun D B acc hD e hB s => ?_
    · obtain ⟨rfl, hv⟩ := y
      obtain ⟨z, hz, rfl⟩ := map_get hv
      have ei := fun o : HO => ex_in (o := o) e hB
      have hzg := hz2 z (List.mem_of_getElem? hz)
      subst s
      generalize hacc : (((zs.take i).map fun z : Addr × List Str => decide (∀ x ∈ xs, x ∈ z.2)).map V.bl) = acc at k1 k2 ⊢
      walk_at "go"
      refine ⟨rfl, ?_⟩
      walk_at "go"
      refine ⟨⟨_, SqT.of (ei _ _ _ ha)⟩, ?_⟩
      have wl2 := walk_tup (K := K) (a := a) (xs := xs.map V.str)
      rw [List.length_map] at wl2
      refine lcL xs V.str wl2 (small hx) (fun _ _ _ _ y => y) (fun t => true) (fun t => V.bl (decide (t ∈ z.2))) (fun D2 acc hD2 => SqT.of (Ex.new hD2 _ _ (ei _ _ _ ha))) (fun D2 acc t N T' hD2 ht k1 k2 => ?_) fun D2 hD2 => ?_
      · walk_at "go"
        refine ⟨rfl, ?_⟩
        walk_at "go"
        refine i_in (.inl (Ex.new hD2 _ _ (ei _ _ _ hzg))) ?_
        exact k2 rfl
      · rw [List.filter_eq_self.mpr fun _ _ => rfl, show (xs.map fun t : Str => V.bl (decide (t ∈ z.2))) = (xs.map fun t : Str => decide (t ∈ z.2)).map V.bl by rw [List.map_map]; rfl]
        walk_at "go"
        refine ⟨D2, _, rfl, upd_same, ?_⟩
        have eall : (xs.map fun t : Str => decide (t ∈ z.2)).all id = decide (∀ x ∈ xs, x ∈ z.2) := by
          rw [Bool.eq_iff_iff, List.all_eq_true, decide_eq_true_eq]
          constructor
          · intro h x hx
            exact of_decide_eq_true (h _ (List.mem_map_of_mem hx))
          · intro h b hb
            obtain ⟨x, hx, rfl⟩ := List.mem_map.mp hb
            exact decide_eq_true (h x hx)
        rw [eall]
        refine k2 _ _ (Ex.new hD2) ?_
        rw [← hacc, take_snoc hz, List.map_append, List.map_append]
        rfl
    · rw [List.take_length] at s
      subst s
      walk_at "go"
      refine ⟨D, _, rfl, upd_same, ?_⟩
      have eany : (zs.map fun z : Addr × List Str => decide (∀ x ∈ xs, x ∈ z.2)).any id = decide (∃ g ∈ zs.map Prod.snd, ∀ x ∈ xs, x ∈ g) := by
        rw [Bool.eq_iff_iff, List.any_eq_true, decide_eq_true_eq]
        constructor
        · rintro ⟨b, hb, e⟩
          obtain ⟨z, hz, rfl⟩ := List.mem_map.mp hb
          exact ⟨z.2, List.mem_map_of_mem hz, of_decide_eq_true e⟩
        · rintro ⟨g, hg, h⟩
          obtain ⟨z, hz, rfl⟩ := List.mem_map.mp hg
          exact ⟨_, List.mem_map_of_mem hz, decide_eq_true h⟩
      rw [eany]
      exact q _ (ex_in e hB)
abbrev n_law_book : List Str := ["_law_people_here", "_law_barred_here", "_law_leaks"]
theorem sc_law_book : FnScope n_law_book ["_law_people_here", "_law_barred_here", "_law_leaks"] (defScope s_law_book) := ⟨rfl, rfl, rfl, by decide +kernel, rfl, by decide +kernel, by decide +kernel⟩
def spBook2 (K : PySem.W.Frag) : Sp := fun vs H Q _ => ∃ a b c ps prs ls, vs = [.ref a, .ref b, .ref c] ∧ WorldAt H a b c ps prs ls ∧ ∀ p H', Ex H H' → BookAt K H' p ps (prs.foldl addk []) (rowOf ps (prs.foldl addk []) ls) → Q (.ref p) H'
theorem i_make {C : Addr} {sp : Sp} {dvs : List V} {E : XK} {t : TA} {σ : Sl} {H : Hp} {Q : VK} (h : t σ H fun vs H1 => ∀ x dx, H1 x = none → H1 dx = none → dx ≠ x → sp (.ref x :: (vs ++ dvs)) (upd (upd H1 dx (.own x)) x (.ins C dx [])) (fun v H2 => v = .non ∧ Q (.ref x) H2) E) : tMake C sp dvs E t σ H Q := h
theorem c_law_book (T : Txt K mg) (c_Book_init : Ini P w K mg base k (cB K) (spBInit K)) (c_Party_init : Ini P w K mg base k (cP K) (spPInit K)) : Cal P w K mg base (k + 2) "_law_book" (spBook2 K) := by
  refine T.a_law_book.ok sc_law_book (fun _ _ _ _ _ _ us hl => match us, hl with | [_, _, _], _ => rfl) (fun vs H Q E h => ?_) (fun f cdv A outer s H vs Q E hr h => ⟨_, (pss_one (ps_ret (pe_makeI c_Book_init (hr.mono (by omega)) T.g_Book (pa_cons (pe_makeI c_Party_init (hr.mono (by omega)) T.g_Party (pa_cons (pe_callTy crTuple (by rfl) T.f_tuple b_tuple (pa_cons (pv 0) pa_nil)) (pa_cons (pe_callTy crList (by rfl) T.f_list b_list (pa_cons (pv 1) pa_nil)) pa_nil))) (pa_cons (pe_callTy crList (by rfl) T.f_list b_list (pa_cons (pv 2) pa_nil)) pa_nil))))), ?_⟩)
  · obtain ⟨_, _, _, _, _, _, rfl, _⟩ := h; rfl
  · obtain ⟨a, b, c, ps, prs, ls, rfl, wa, q⟩ := h
    have pok : peopleOk ps := ⟨wa.two, by have := wa.seven; omega, wa.nd, wa.nm⟩
    walk_at "go"
    refine i_make ?_
    walk_at "go"
    refine i_make ?_
    walk_at "go"
    refine ⟨a, _, rfl, wa.pl, fun tp htp => ?_⟩
    walk_at "go"
    have e1 : Ex H (upd H tp (.tup (ps.map V.str))) := Ex.new htp
    obtain ⟨zs, hz1, hz2, hz3⟩ := wa.bl
    refine ⟨b, _, rfl, .inl (e1 _ _ hz1), fun lb hlb => ?_⟩
    have e2 := e1.trans (Ex.new (o := .lst (zs.map fun z => V.ref z.1)) hlb)
    have htp2 : Ts (upd (upd H tp (.tup (ps.map V.str))) lb (.lst (zs.map fun z => V.ref z.1))) tp ps := Ex.new hlb _ _ upd_same
    have hlb2 : LP (Ts (upd (upd H tp (.tup (ps.map V.str))) lb (.lst (zs.map fun z => V.ref z.1)))) (upd (upd H tp (.tup (ps.map V.str))) lb (.lst (zs.map fun z => V.ref z.1))) lb prs := ⟨zs, upd_same, fun z hz => (hz2 z hz).ex e2, hz3⟩
    generalize upd (upd H tp (.tup (ps.map V.str))) lb (.lst (zs.map fun z => V.ref z.1)) = H2 at e2 htp2 hlb2 ⊢
    walk_at "go"
    intro x dx hx hdx ndx
    refine ⟨x, dx, H2, tp, lb, ps, prs, rfl, rfl, hx, hdx, ndx, htp2, hlb2, pok, wa.bok, by have := wa.blen; omega, fun H3 e3 hp => ⟨rfl, ?_⟩⟩
    have e23 := e2.trans e3
    walk_at "go"
    obtain ⟨ys, hy1, hy2, hy3⟩ := wa.kl
    refine ⟨c, _, rfl, .inl (e23 _ _ hy1), fun ll hll => ?_⟩
    walk_at "go"
    have e4 := Ex.new (o := .lst (ys.map fun z => V.ref z.1)) hll
    have hll4 : LP (LkAt (upd H3 ll (.lst (ys.map fun z => V.ref z.1)))) (upd H3 ll (.lst (ys.map fun z => V.ref z.1))) ll ls := ⟨ys, upd_same, fun z hz => (hy2 z hz).ex (e23.trans e4), hy3⟩
    generalize upd H3 ll (.lst (ys.map fun z => V.ref z.1)) = H4 at e4 hll4 ⊢
    intro y dy hy hdy ndy
    refine ⟨y, dy, H4, x, ll, ps, _, ls, rfl, rfl, hy, hdy, ndy, hp.mono e4, hll4, pok, wa.lok, by have := wa.llen; omega, fun H5 e5 hb => ⟨rfl, ?_⟩⟩
    exact q y H5 ((e23.trans e4).trans e5) hb
end
end GR
end
section
set_option Elab.async false
set_option linter.all false
set_option maxRecDepth 100000
set_option maxHeartbeats 4000000
set_option autoImplicit false
namespace GR
open PySem PySem.Spec L2
open Evl (Ex)
local macro_rules | `(tactic| walk_at "go") => `(tactic| (repeat (first
  | with_reducible refine i_seq ?_
  | ((with_reducible apply i_var); focus rfl)
  | with_reducible refine i_c ?_
  | with_reducible refine i_cons ?_
  | with_reducible refine i_nil ?_
  | with_reducible refine i_asg ?_
  | with_reducible refine i_name ?_
  | with_reducible refine i_op ?_
  | with_reducible refine i_cb ?_
  | with_reducible refine i_fn ?_
  | with_reducible refine i_ret ?_
  | with_reducible refine i_retN ?_
  | with_reducible refine i_drop ?_
  | with_reducible refine i_next ?_
  | with_reducible refine i_cont ?_
  | with_reducible refine i_break ?_
  | with_reducible refine i_if ?_
  | with_reducible refine br_t ?_
  | with_reducible refine br_f ?_
  | with_reducible refine br_nt ?_
  | with_reducible refine io_t ?_
  | with_reducible refine io_f ?_
  | with_reducible refine io_nt ?_
  | with_reducible refine io_nf ?_
  | with_reducible refine br_nf ?_
  | with_reducible refine o_ip ?_
  | with_reducible refine i_test ?_
  | with_reducible refine i_tB ?_
  | with_reducible refine i_not ?_
  | with_reducible refine i_notV ?_
  | with_reducible refine i_andV ?_
  | with_reducible refine i_orV ?_
  | with_reducible refine i_and ?_
  | with_reducible refine i_or ?_
  | with_reducible refine i_dput ?_
  | with_reducible refine i_dget ?_
  | with_reducible refine i_din ?_
  | with_reducible refine i_dnotin ?_
  | with_reducible refine i_dnewK ?_
  | with_reducible refine i_dnewT ?_
  | with_reducible refine i_fld ?_
  | with_reducible refine i_sfld ?_
  | with_reducible refine i_bm0 ?_
  | with_reducible refine i_bm ?_
  | with_reducible refine i_sl ?_
  | with_reducible refine i_noPart ?_
  | with_reducible refine i_part ?_
  | with_reducible refine i_chain ?_
  | with_reducible refine i_methR ?_
  | with_reducible refine i_tup ?_
  | with_reducible refine i_lst ?_
  | with_reducible refine i_for ?_
  | with_reducible refine i_iList ?_
  | with_reducible refine i_iTup ?_
  | with_reducible refine i_iKeys ?_
  | with_reducible refine i_iRng1 ?_
  | with_reducible refine i_iRng2 ?_
  | with_reducible refine i_iStr ?_
  | with_reducible refine i_iEnum ?_
  | with_reducible refine i_iEnumT ?_
  | with_reducible refine i_lc ?_
  | with_reducible refine i_stD ?_
  | with_reducible refine i_iItemsT ?_
  | with_reducible refine i_dcw ?_
  | with_reducible refine i_dsetd ?_
  | with_reducible refine i_iVals ?_
  | with_reducible refine i_iItems ?_
  | with_reducible refine i_revL ?_
  | with_reducible refine i_yes ?_
  | with_reducible refine o_I0 ?_
  | with_reducible refine o_eqS ?_
  | with_reducible refine o_neS ?_
  | with_reducible refine o_eqI ?_
  | with_reducible refine o_neI ?_
  | with_reducible refine o_eqB ?_
  | with_reducible refine e_ref ?_
  | with_reducible refine e_str ?_
  | with_reducible refine e_int ?_
  | with_reducible refine e_bl ?_
  | with_reducible refine e_str1 ?_
  | with_reducible refine e_int1 ?_
  | with_reducible refine e_int2 ?_
  | with_reducible refine e_str2 ?_)))
section
variable {P : Program} {w : World} {K : PySem.W.Frag} {mg : Str → Option Value} {base : Heap} {k j : Nat}
abbrev n_law_equal : List Str := ["_law_actual", "_law_due_here", "_law_key", "_law_k"]
theorem sc_law_equal : FnScope n_law_equal ["_law_actual", "_law_due_here"] (defScope s_law_equal) := ⟨rfl, rfl, rfl, by decide +kernel, rfl, by decide +kernel, by decide +kernel⟩
def spEqS : Sp := fun vs H Q _ => ∃ s, vs = [.str s, .str s] ∧ Q (.bl true) H
def spEqT : Sp := fun vs H Q _ => ∃ a b xs, vs = [.ref a, .ref b] ∧ Ts H a xs ∧ Ts H b xs ∧ xs.length ≤ 7 ∧ ∀ H', Ex H H' → Q (.bl true) H'
def spEqL : Sp := fun vs H Q _ => ∃ a b gs, vs = [.ref a, .ref b] ∧ LP (Ts H) H a gs ∧ LP (Ts H) H b gs ∧ gs.length ≤ 7 ∧ (∀ g ∈ gs, g.length ≤ 7) ∧ ∀ H', Ex H H' → Q (.bl true) H'
theorem all_true {bs : List Bool} (h : ∀ b ∈ bs, b = true) : bs.all id = true := List.all_eq_true.mpr h
theorem eq_s (T : Txt K mg) (c_law_equal : Cal P w K mg base k "_law_equal" fun _ _ _ _ => False) : Cal P w K mg base (k + 1) "_law_equal" spEqS := by
  refine T.a_law_equal.ok sc_law_equal (fun _ _ _ _ _ _ us hl => match us, hl with | [_, _], _ => rfl) (fun vs H Q E h => ?_) (fun f cdv A outer s H vs Q E hr h => ⟨_, (pss_cons (ps_if (PW.pt (pw_or (pt_val (pe_callB crIsi (by rfl) T.f_isinstance b_isinstance (pa_cons (pv 1) (pa_cons (pe_ty T.f_list b_list) pa_nil)))) (pw_or1 (pt_val (pe_callB crIsi (by rfl) T.f_isinstance b_isinstance (pa_cons (pv 1) (pa_cons (pe_ty T.f_tuple b_tuple) pa_nil))))))) (pss_cons (ps_if (PW.pt (pw_and (pt_val (pe_callB crIsi (by rfl) T.f_isinstance b_isinstance (pa_cons (pv 1) (pa_cons (pe_ty T.f_list b_list) pa_nil)))) (pw_and1 (pt_not (pt_val (pe_callB crIsi (by rfl) T.f_isinstance b_isinstance (pa_cons (pv 0) (pa_cons (pe_ty T.f_list b_list) pa_nil)))))))) (pss_one (ps_ret pe_bl)) pss_nil)
      (pss_cons (ps_if (PW.pt (pw_and (pt_val (pe_callB crIsi (by rfl) T.f_isinstance b_isinstance (pa_cons (pv 1) (pa_cons (pe_ty T.f_tuple b_tuple) pa_nil)))) (pw_and1 (pt_not (pt_val (pe_callB crIsi (by rfl) T.f_isinstance b_isinstance (pa_cons (pv 0) (pa_cons (pe_ty T.f_tuple b_tuple) pa_nil)))))))) (pss_one (ps_ret pe_bl)) pss_nil)
      (pss_cons (ps_if (pt_cmpR op_ne (pe_callB crLen (by rfl) T.f_len b_len (pa_cons (pv 0) pa_nil)) (pe_callB crLen (by rfl) T.f_len b_len (pa_cons (pv 1) pa_nil)) (nomark _)) (pss_one (ps_ret pe_bl)) pss_nil)
      (pss_one (ps_ret (pe_callB (crAll rfl) (by rfl) T.f_all b_all (pa_cons (pe_lc (own := [("_law_k", 3)]) rfl sc_law_equal.nd (pi_range1 (by rfl) T.f_range (pa_cons (pe_callB crLen (by rfl) T.f_len b_len (pa_cons (pv 1) pa_nil)) pa_nil)) (blkOk_by (own := [("_law_k", 3)]) (N := n_law_equal) (sc := defScope s_law_equal) (by decide +kernel)) (fun _ _ _ _ _ => (pg_name (i := 3) sc_law_equal.nd rfl (Or.inl rfl))) (fun _ _ _ _ _ => pts_nil) (fun _ _ _ _ _ => (pe_fn c_law_equal (hr.mono (by omega)) (pa_cons (pe_ix ixU (pv 0) (pv 3) (fun _ _ => rfl)) (pa_cons (pe_ix ixU (pv 1) (pv 3) (fun _ _ => rfl)) pa_nil))))) pa_nil))))))) pss_nil)
      (pss_cons (ps_if (pt_val (pe_callB crIsi (by rfl) T.f_isinstance b_isinstance (pa_cons (pv 1) (pa_cons (pe_ty T.f_dict b_dict) pa_nil)))) (pss_cons (ps_if (PW.pt (pw_or (pt_not (pt_val (pe_callB crIsi (by rfl) T.f_isinstance b_isinstance (pa_cons (pv 0) (pa_cons (pe_ty T.f_dict b_dict) pa_nil))))) (pw_or1 (pt_cmpR op_ne (pe_callB crLen (by rfl) T.f_len b_len (pa_cons (pv 0) pa_nil)) (pe_callB crLen (by rfl) T.f_len b_len (pa_cons (pv 1) pa_nil)) (nomark _))))) (pss_one (ps_ret pe_bl)) pss_nil)
      (pss_cons (ps_for PassesOwn.never rfl (pi_list (pv 1)) (pg_name (i := 2) sc_law_equal.nd rfl (Or.inl rfl)) (pss_one (ps_if (PW.pt (pw_or (pt_cmpR opNotIn (pv 2) (pv 0) rfl) (pw_or1 (pt_not (pt_val (pe_fn c_law_equal (hr.mono (by omega)) (pa_cons (pe_ix ixU (pv 0) (pv 2) (fun _ _ => rfl)) (pa_cons (pe_ix ixU (pv 1) (pv 2) (fun _ _ => rfl)) pa_nil)))))))) (pss_one (ps_ret pe_bl)) pss_nil)))
      (pss_one (ps_ret pe_bl)))) pss_nil)
      (pss_cons (ps_if (pt_val (pe_callB crIsi (by rfl) T.f_isinstance b_isinstance (pa_cons (pv 1) (pa_cons (pe_ty T.f_bool b_bool) pa_nil)))) (pss_one (ps_ret (pe_and (pe_callB crIsi (by rfl) T.f_isinstance b_isinstance (pa_cons (pv 0) (pa_cons (pe_ty T.f_bool b_bool) pa_nil))) (pe_one (pe_cmpR op_eq (pv 0) (pv 1) (nomark _)))))) pss_nil)
      (pss_cons (ps_if (pt_val (pe_callB crIsi (by rfl) T.f_isinstance b_isinstance (pa_cons (pv 1) (pa_cons (pe_ty T.f_str b_str) pa_nil)))) (pss_one (ps_ret (pe_and (pe_callB crIsi (by rfl) T.f_isinstance b_isinstance (pa_cons (pv 0) (pa_cons (pe_ty T.f_str b_str) pa_nil))) (pe_one (pe_cmpR op_eq (pv 0) (pv 1) (nomark _)))))) pss_nil)
      (pss_cons (ps_if (pt_val (pe_callB crIsi (by rfl) T.f_isinstance b_isinstance (pa_cons (pv 1) (pa_cons (pe_ty T.f_int b_int) pa_nil)))) (pss_one (ps_ret (pe_and (pe_callB crIsi (by rfl) T.f_isinstance b_isinstance (pa_cons (pv 0) (pa_cons (pe_ty T.f_int b_int) pa_nil))) (pe_and (pe_not (pe_callB crIsi (by rfl) T.f_isinstance b_isinstance (pa_cons (pv 0) (pa_cons (pe_ty T.f_bool b_bool) pa_nil)))) (pe_one (pe_cmpR op_eq (pv 0) (pv 1) (nomark _))))))) pss_nil)
      (pss_one (ps_ret (pe_and (pe_cmpR op_isN (pv 1) pe_non (nomark _)) (pe_one (pe_cmpR op_isN (pv 0) pe_non (nomark _))))))))))), ?_⟩)
  · obtain ⟨_, rfl, _⟩ := h; rfl
  · obtain ⟨s, rfl, q⟩ := h
    walk_at "go"
    refine ⟨_, _, _, false, rfl, .str s, k_sl, ?_⟩
    walk_at "go"
    refine ⟨_, _, _, false, rfl, .str s, k_st, ?_⟩
    walk_at "go"
    refine ⟨_, _, _, false, rfl, .str s, k_sd, ?_⟩
    walk_at "go"
    refine ⟨_, _, _, false, rfl, .str s, k_sb, ?_⟩
    walk_at "go"
    refine ⟨_, _, _, true, rfl, .str s, k_ss, ?_⟩
    walk_at "go"
    refine ⟨_, _, _, true, rfl, .str s, k_ss, ?_⟩
    walk_at "go"
    rw [decide_eq_true rfl]
    exact q
theorem eq_t (T : Txt K mg) (c_law_equal : Cal P w K mg base k "_law_equal" spEqS) : Cal P w K mg base (k + 1) "_law_equal" spEqT := by
  refine T.a_law_equal.ok sc_law_equal (fun _ _ _ _ _ _ us hl => match us, hl with | [_, _], _ => rfl) (fun vs H Q E h => ?_) (fun f cdv A outer s H vs Q E hr h => ⟨_, (pss_cons (ps_if (PW.pt (pw_or (pt_val (pe_callB crIsi (by rfl) T.f_isinstance b_isinstance (pa_cons (pv 1) (pa_cons (pe_ty T.f_list b_list) pa_nil)))) (pw_or1 (pt_val (pe_callB crIsi (by rfl) T.f_isinstance b_isinstance (pa_cons (pv 1) (pa_cons (pe_ty T.f_tuple b_tuple) pa_nil))))))) (pss_cons (ps_if (PW.pt (pw_and (pt_val (pe_callB crIsi (by rfl) T.f_isinstance b_isinstance (pa_cons (pv 1) (pa_cons (pe_ty T.f_list b_list) pa_nil)))) (pw_and1 (pt_not (pt_val (pe_callB crIsi (by rfl) T.f_isinstance b_isinstance (pa_cons (pv 0) (pa_cons (pe_ty T.f_list b_list) pa_nil)))))))) (pss_one (ps_ret pe_bl)) pss_nil)
      (pss_cons (ps_if (PW.pt (pw_and (pt_val (pe_callB crIsi (by rfl) T.f_isinstance b_isinstance (pa_cons (pv 1) (pa_cons (pe_ty T.f_tuple b_tuple) pa_nil)))) (pw_and1 (pt_not (pt_val (pe_callB crIsi (by rfl) T.f_isinstance b_isinstance (pa_cons (pv 0) (pa_cons (pe_ty T.f_tuple b_tuple) pa_nil)))))))) (pss_one (ps_ret pe_bl)) pss_nil)
      (pss_cons (ps_if (pt_cmpR op_ne (pe_callB crLen (by rfl) T.f_len b_len (pa_cons (pv 0) pa_nil)) (pe_callB crLen (by rfl) T.f_len b_len (pa_cons (pv 1) pa_nil)) (nomark _)) (pss_one (ps_ret pe_bl)) pss_nil)
      (pss_one (ps_ret (pe_callB (crAll rfl) (by rfl) T.f_all b_all (pa_cons (pe_lc (own := [("_law_k", 3)]) rfl sc_law_equal.nd (pi_range1 (by rfl) T.f_range (pa_cons (pe_callB crLen (by rfl) T.f_len b_len (pa_cons (pv 1) pa_nil)) pa_nil)) (blkOk_by (own := [("_law_k", 3)]) (N := n_law_equal) (sc := defScope s_law_equal) (by decide +kernel)) (fun _ _ _ _ _ => (pg_name (i := 3) sc_law_equal.nd rfl (Or.inl rfl))) (fun _ _ _ _ _ => pts_nil) (fun _ _ _ _ _ => (pe_fn c_law_equal (hr.mono (by omega)) (pa_cons (pe_ix ixU (pv 0) (pv 3) (fun _ _ => rfl)) (pa_cons (pe_ix ixU (pv 1) (pv 3) (fun _ _ => rfl)) pa_nil))))) pa_nil))))))) pss_nil)
      (pss_cons (ps_if (pt_val (pe_callB crIsi (by rfl) T.f_isinstance b_isinstance (pa_cons (pv 1) (pa_cons (pe_ty T.f_dict b_dict) pa_nil)))) (pss_cons (ps_if (PW.pt (pw_or (pt_not (pt_val (pe_callB crIsi (by rfl) T.f_isinstance b_isinstance (pa_cons (pv 0) (pa_cons (pe_ty T.f_dict b_dict) pa_nil))))) (pw_or1 (pt_cmpR op_ne (pe_callB crLen (by rfl) T.f_len b_len (pa_cons (pv 0) pa_nil)) (pe_callB crLen (by rfl) T.f_len b_len (pa_cons (pv 1) pa_nil)) (nomark _))))) (pss_one (ps_ret pe_bl)) pss_nil)
      (pss_cons (ps_for PassesOwn.never rfl (pi_list (pv 1)) (pg_name (i := 2) sc_law_equal.nd rfl (Or.inl rfl)) (pss_one (ps_if (PW.pt (pw_or (pt_cmpR opNotIn (pv 2) (pv 0) rfl) (pw_or1 (pt_not (pt_val (pe_fn c_law_equal (hr.mono (by omega)) (pa_cons (pe_ix ixU (pv 0) (pv 2) (fun _ _ => rfl)) (pa_cons (pe_ix ixU (pv 1) (pv 2) (fun _ _ => rfl)) pa_nil)))))))) (pss_one (ps_ret pe_bl)) pss_nil)))
      (pss_one (ps_ret pe_bl)))) pss_nil)
      (pss_cons (ps_if (pt_val (pe_callB crIsi (by rfl) T.f_isinstance b_isinstance (pa_cons (pv 1) (pa_cons (pe_ty T.f_bool b_bool) pa_nil)))) (pss_one (ps_ret (pe_and (pe_callB crIsi (by rfl) T.f_isinstance b_isinstance (pa_cons (pv 0) (pa_cons (pe_ty T.f_bool b_bool) pa_nil))) (pe_one (pe_cmpR op_eq (pv 0) (pv 1) (nomark _)))))) pss_nil)
      (pss_cons (ps_if (pt_val (pe_callB crIsi (by rfl) T.f_isinstance b_isinstance (pa_cons (pv 1) (pa_cons (pe_ty T.f_str b_str) pa_nil)))) (pss_one (ps_ret (pe_and (pe_callB crIsi (by rfl) T.f_isinstance b_isinstance (pa_cons (pv 0) (pa_cons (pe_ty T.f_str b_str) pa_nil))) (pe_one (pe_cmpR op_eq (pv 0) (pv 1) (nomark _)))))) pss_nil)
      (pss_cons (ps_if (pt_val (pe_callB crIsi (by rfl) T.f_isinstance b_isinstance (pa_cons (pv 1) (pa_cons (pe_ty T.f_int b_int) pa_nil)))) (pss_one (ps_ret (pe_and (pe_callB crIsi (by rfl) T.f_isinstance b_isinstance (pa_cons (pv 0) (pa_cons (pe_ty T.f_int b_int) pa_nil))) (pe_and (pe_not (pe_callB crIsi (by rfl) T.f_isinstance b_isinstance (pa_cons (pv 0) (pa_cons (pe_ty T.f_bool b_bool) pa_nil)))) (pe_one (pe_cmpR op_eq (pv 0) (pv 1) (nomark _))))))) pss_nil)
      (pss_one (ps_ret (pe_and (pe_cmpR op_isN (pv 1) pe_non (nomark _)) (pe_one (pe_cmpR op_isN (pv 0) pe_non (nomark _))))))))))), ?_⟩)
  · obtain ⟨_, _, _, rfl, _⟩ := h; rfl
  · obtain ⟨a, b, xs, rfl, ha, hb, hl, q⟩ := h
    walk_at "go"
    refine ⟨_, _, _, false, rfl, .tup hb, k_tl, ?_⟩
    walk_at "go"
    refine ⟨_, _, _, true, rfl, .tup hb, k_tt, ?_⟩
    walk_at "go"
    refine ⟨_, _, _, false, rfl, .tup hb, k_tl, ?_⟩
    walk_at "go"
    refine ⟨_, _, _, true, rfl, .tup hb, k_tt, ?_⟩
    walk_at "go"
    refine ⟨_, _, _, true, rfl, .tup ha, k_tt, ?_⟩
    walk_at "go"
    refine i_lenT ha ?_
    walk_at "go"
    refine i_lenT hb ?_
    walk_at "go"
    rw [decide_eq_true rfl]
    walk_at "go"
    refine i_lenT hb ?_
    walk_at "go"
    refine ⟨_, rfl, by omega, by omega, ?_⟩
    rw [Int.toNat_natCast]
    refine lcX (walk_range (lo := 0) (n := xs.length)) (small (by omega)) (fun D i B acc => ∃ bs : List Bool, acc = bs.map V.bl ∧ ∀ b ∈ bs, b = true) (fun D hD => ⟨[], rfl, fun b hb => nomatch hb⟩) (fun _ _ _ _ _ _ _ => trivial) (fun D i v B H2 acc N T' hi e hB s y k1 k2 => ?_) fun D B acc hD e hB s => ?_
    · obtain ⟨rfl, rfl⟩ := y
      obtain ⟨bs, rfl, hbs⟩ := s
      have ei := fun o : HO => ex_in (o := o) e hB
      walk_at "go"
      refine ⟨rfl, ?_⟩
      walk_at "go"
      dsimp only
      rw [show (0 : Int) + (i : Int) = (i : Nat) by omega]
      refine i_ixU (ei _ _ _ ha) (atI_map V.str (List.getElem?_eq_getElem hi)) ?_
      walk_at "go"
      refine i_ixU (ei _ _ _ hb) (atI_map V.str (List.getElem?_eq_getElem hi)) ?_
      walk_at "go"
      refine ⟨_, rfl, ?_⟩
      refine k2 _ _ (Ex.refl _) ⟨bs ++ [true], by rw [List.map_append]; rfl, fun b hb => ?_⟩
      rcases List.mem_append.mp hb with h | h
      · exact hbs b h
      · exact List.mem_singleton.mp h
    · obtain ⟨bs, rfl, hbs⟩ := s
      walk_at "go"
      refine ⟨D, bs, rfl, upd_same, ?_⟩
      rw [all_true hbs]
      exact q _ (ex_in e hB)
theorem eq_l (T : Txt K mg) (c_law_equal : Cal P w K mg base k "_law_equal" spEqT) : Cal P w K mg base (k + 1) "_law_equal" spEqL := by
  refine T.a_law_equal.ok sc_law_equal (fun _ _ _ _ _ _ us hl => match us, hl with | [_, _], _ => rfl) (fun vs H Q E h => ?_) (fun f cdv A outer s H vs Q E hr h => ⟨_, (pss_cons (ps_if (PW.pt (pw_or (pt_val (pe_callB crIsi (by rfl) T.f_isinstance b_isinstance (pa_cons (pv 1) (pa_cons (pe_ty T.f_list b_list) pa_nil)))) (pw_or1 (pt_val (pe_callB crIsi (by rfl) T.f_isinstance b_isinstance (pa_cons (pv 1) (pa_cons (pe_ty T.f_tuple b_tuple) pa_nil))))))) (pss_cons (ps_if (PW.pt (pw_and (pt_val (pe_callB crIsi (by rfl) T.f_isinstance b_isinstance (pa_cons (pv 1) (pa_cons (pe_ty T.f_list b_list) pa_nil)))) (pw_and1 (pt_not (pt_val (pe_callB crIsi (by rfl) T.f_isinstance b_isinstance (pa_cons (pv 0) (pa_cons (pe_ty T.f_list b_list) pa_nil)))))))) (pss_one (ps_ret pe_bl)) pss_nil)
      (pss_cons (ps_if (PW.pt (pw_and (pt_val (pe_callB crIsi (by rfl) T.f_isinstance b_isinstance (pa_cons (pv 1) (pa_cons (pe_ty T.f_tuple b_tuple) pa_nil)))) (pw_and1 (pt_not (pt_val (pe_callB crIsi (by rfl) T.f_isinstance b_isinstance (pa_cons (pv 0) (pa_cons (pe_ty T.f_tuple b_tuple) pa_nil)))))))) (pss_one (ps_ret pe_bl)) pss_nil)
      (pss_cons (ps_if (pt_cmpR op_ne (pe_callB crLen (by rfl) T.f_len b_len (pa_cons (pv 0) pa_nil)) (pe_callB crLen (by rfl) T.f_len b_len (pa_cons (pv 1) pa_nil)) (nomark _)) (pss_one (ps_ret pe_bl)) pss_nil)
      (pss_one (ps_ret (pe_callB (crAll rfl) (by rfl) T.f_all b_all (pa_cons (pe_lc (own := [("_law_k", 3)]) rfl sc_law_equal.nd (pi_range1 (by rfl) T.f_range (pa_cons (pe_callB crLen (by rfl) T.f_len b_len (pa_cons (pv 1) pa_nil)) pa_nil)) (blkOk_by (own := [("_law_k", 3)]) (N := n_law_equal) (sc := defScope s_law_equal) (by decide +kernel)) (fun _ _ _ _ _ => (pg_name (i := 3) sc_law_equal.nd rfl (Or.inl rfl))) (fun _ _ _ _ _ => pts_nil) (fun _ _ _ _ _ => (pe_fn c_law_equal (hr.mono (by omega)) (pa_cons (pe_ix ixU (pv 0) (pv 3) (fun _ _ => rfl)) (pa_cons (pe_ix ixU (pv 1) (pv 3) (fun _ _ => rfl)) pa_nil))))) pa_nil))))))) pss_nil)
      (pss_cons (ps_if (pt_val (pe_callB crIsi (by rfl) T.f_isinstance b_isinstance (pa_cons (pv 1) (pa_cons (pe_ty T.f_dict b_dict) pa_nil)))) (pss_cons (ps_if (PW.pt (pw_or (pt_not (pt_val (pe_callB crIsi (by rfl) T.f_isinstance b_isinstance (pa_cons (pv 0) (pa_cons (pe_ty T.f_dict b_dict) pa_nil))))) (pw_or1 (pt_cmpR op_ne (pe_callB crLen (by rfl) T.f_len b_len (pa_cons (pv 0) pa_nil)) (pe_callB crLen (by rfl) T.f_len b_len (pa_cons (pv 1) pa_nil)) (nomark _))))) (pss_one (ps_ret pe_bl)) pss_nil)
      (pss_cons (ps_for PassesOwn.never rfl (pi_list (pv 1)) (pg_name (i := 2) sc_law_equal.nd rfl (Or.inl rfl)) (pss_one (ps_if (PW.pt (pw_or (pt_cmpR opNotIn (pv 2) (pv 0) rfl) (pw_or1 (pt_not (pt_val (pe_fn c_law_equal (hr.mono (by omega)) (pa_cons (pe_ix ixU (pv 0) (pv 2) (fun _ _ => rfl)) (pa_cons (pe_ix ixU (pv 1) (pv 2) (fun _ _ => rfl)) pa_nil)))))))) (pss_one (ps_ret pe_bl)) pss_nil)))
      (pss_one (ps_ret pe_bl)))) pss_nil)
      (pss_cons (ps_if (pt_val (pe_callB crIsi (by rfl) T.f_isinstance b_isinstance (pa_cons (pv 1) (pa_cons (pe_ty T.f_bool b_bool) pa_nil)))) (pss_one (ps_ret (pe_and (pe_callB crIsi (by rfl) T.f_isinstance b_isinstance (pa_cons (pv 0) (pa_cons (pe_ty T.f_bool b_bool) pa_nil))) (pe_one (pe_cmpR op_eq (pv 0) (pv 1) (nomark _)))))) pss_nil)
      (pss_cons (ps_if (pt_val (pe_callB crIsi (by rfl) T.f_isinstance b_isinstance (pa_cons (pv 1) (pa_cons (pe_ty T.f_str b_str) pa_nil)))) (pss_one (ps_ret (pe_and (pe_callB crIsi (by rfl) T.f_isinstance b_isinstance (pa_cons (pv 0) (pa_cons (pe_ty T.f_str b_str) pa_nil))) (pe_one (pe_cmpR op_eq (pv 0) (pv 1) (nomark _)))))) pss_nil)
      (pss_cons (ps_if (pt_val (pe_callB crIsi (by rfl) T.f_isinstance b_isinstance (pa_cons (pv 1) (pa_cons (pe_ty T.f_int b_int) pa_nil)))) (pss_one (ps_ret (pe_and (pe_callB crIsi (by rfl) T.f_isinstance b_isinstance (pa_cons (pv 0) (pa_cons (pe_ty T.f_int b_int) pa_nil))) (pe_and (pe_not (pe_callB crIsi (by rfl) T.f_isinstance b_isinstance (pa_cons (pv 0) (pa_cons (pe_ty T.f_bool b_bool) pa_nil)))) (pe_one (pe_cmpR op_eq (pv 0) (pv 1) (nomark _))))))) pss_nil)
      (pss_one (ps_ret (pe_and (pe_cmpR op_isN (pv 1) pe_non (nomark _)) (pe_one (pe_cmpR op_isN (pv 0) pe_non (nomark _))))))))))), ?_⟩)
  · obtain ⟨_, _, _, rfl, _⟩ := h; rfl
  · obtain ⟨a, b, gs, rfl, ⟨zs, ha, hz, hzg⟩, ⟨ys, hb, hy, hyg⟩, hl, hg, q⟩ := h
    have zl : zs.length = gs.length := by rw [← hzg, List.length_map]
    have yl : ys.length = gs.length := by rw [← hyg, List.length_map]
    walk_at "go"
    refine ⟨_, _, _, true, rfl, .lst hb, k_ll, ?_⟩
    walk_at "go"
    refine ⟨_, _, _, true, rfl, .lst hb, k_ll, ?_⟩
    walk_at "go"
    refine ⟨_, _, _, true, rfl, .lst ha, k_ll, ?_⟩
    walk_at "go"
    refine ⟨_, _, _, false, rfl, .lst hb, k_lt, ?_⟩
    walk_at "go"
    refine ⟨a, _, rfl, .inl ha, ?_⟩
    walk_at "go"
    refine ⟨b, _, rfl, .inl hb, ?_⟩
    rw [List.length_map, List.length_map, zl, yl]
    walk_at "go"
    rw [decide_eq_true rfl]
    walk_at "go"
    refine ⟨b, _, rfl, .inl hb, ?_⟩
    rw [List.length_map, yl]
    walk_at "go"
    refine ⟨_, rfl, by omega, by omega, ?_⟩
    rw [Int.toNat_natCast]
    refine lcX (walk_range (lo := 0) (n := gs.length)) (small (by omega)) (fun D i B acc => ∃ bs : List Bool, acc = bs.map V.bl ∧ ∀ b ∈ bs, b = true) (fun D hD => ⟨[], rfl, fun b hb => nomatch hb⟩) (fun _ _ _ _ _ _ _ => trivial) (fun D i v B H2 acc N T' hi e hB s y k1 k2 => ?_) fun D B acc hD e hB s => ?_
    · obtain ⟨rfl, rfl⟩ := y
      obtain ⟨bs, rfl, hbs⟩ := s
      have ei := fun o : HO => ex_in (o := o) e hB
      have hzi : i < zs.length := by omega
      have hyi : i < ys.length := by omega
      have gz : zs[i].2 = gs[i] := by simp [← hzg]
      have gy : ys[i].2 = gs[i] := by simp [← hyg]
      walk_at "go"
      refine ⟨rfl, ?_⟩
      walk_at "go"
      dsimp only
      rw [show (0 : Int) + (i : Int) = (i : Nat) by omega]
      refine .inl (i_ixL (ei _ _ _ ha) (atI_map (fun z : Addr × List Str => V.ref z.1) (List.getElem?_eq_getElem hzi)) ?_)
      walk_at "go"
      refine .inl (i_ixL (ei _ _ _ hb) (atI_map (fun z : Addr × List Str => V.ref z.1) (List.getElem?_eq_getElem hyi)) ?_)
      walk_at "go"
      refine ⟨_, _, gs[i], rfl, ?_, ?_, hg _ (List.getElem_mem hi), fun H3 e3 => ?_⟩
      · rw [← gz]; exact (hz _ (List.getElem_mem hzi)).ex (ei _)
      · rw [← gy]; exact (hy _ (List.getElem_mem hyi)).ex (ei _)
      refine k2 _ _ e3 ⟨bs ++ [true], by rw [List.map_append]; rfl, fun b hb => ?_⟩
      rcases List.mem_append.mp hb with h | h
      · exact hbs b h
      · exact List.mem_singleton.mp h
    · obtain ⟨bs, rfl, hbs⟩ := s
      walk_at "go"
      refine ⟨D, bs, rfl, upd_same, ?_⟩
      rw [all_true hbs]
      exact q _ (ex_in e hB)
theorem c_law_equal (T : Txt K mg) : Cal P w K mg base (k + 3) "_law_equal" spEqL := eq_l T (eq_t T (eq_s T (Cal.never T.a_law_equal)))
end
end GR
end
section
set_option Elab.async false
set_option linter.all false
set_option maxRecDepth 100000
set_option maxHeartbeats 4000000
set_option autoImplicit false
namespace GR
open PySem PySem.Spec L2
open Evl (Ex)
local macro_rules | `(tactic| walk_at "go") => `(tactic| (repeat (first
  | with_reducible refine i_seq ?_
  | ((with_reducible apply i_var); focus rfl)
  | with_reducible refine i_c ?_
  | with_reducible refine i_cons ?_
  | with_reducible refine i_nil ?_
  | with_reducible refine i_asg ?_
  | with_reducible refine i_name ?_
  | with_reducible refine i_op ?_
  | with_reducible refine i_cb ?_
  | with_reducible refine i_fn ?_
  | with_reducible refine i_ret ?_
  | with_reducible refine i_retN ?_
  | with_reducible refine i_drop ?_
  | with_reducible refine i_next ?_
  | with_reducible refine i_cont ?_
  | with_reducible refine i_break ?_
  | with_reducible refine i_if ?_
  | with_reducible refine br_t ?_
  | with_reducible refine br_f ?_
  | with_reducible refine br_nt ?_
  | with_reducible refine io_t ?_
  | with_reducible refine io_f ?_
  | with_reducible refine io_nt ?_
  | with_reducible refine io_nf ?_
  | with_reducible refine br_nf ?_
  | with_reducible refine o_ip ?_
  | with_reducible refine i_test ?_
  | with_reducible refine i_tB ?_
  | with_reducible refine i_not ?_
  | with_reducible refine i_notV ?_
  | with_reducible refine i_andV ?_
  | with_reducible refine i_orV ?_
  | with_reducible refine i_and ?_
  | with_reducible refine i_or ?_
  | with_reducible refine i_dput ?_
  | with_reducible refine i_dget ?_
  | with_reducible refine i_din ?_
  | with_reducible refine i_dnotin ?_
  | with_reducible refine i_dnewK ?_
  | with_reducible refine i_dnewT ?_
  | with_reducible refine i_fld ?_
  | with_reducible refine i_sfld ?_
  | with_reducible refine i_bm0 ?_
  | with_reducible refine i_bm ?_
  | with_reducible refine i_sl ?_
  | with_reducible refine i_noPart ?_
  | with_reducible refine i_part ?_
  | with_reducible refine i_chain ?_
  | with_reducible refine i_methR ?_
  | with_reducible refine i_tup ?_
  | with_reducible refine i_lst ?_
  | with_reducible refine i_for ?_
  | with_reducible refine i_iList ?_
  | with_reducible refine i_iTup ?_
  | with_reducible refine i_iKeys ?_
  | with_reducible refine i_iRng1 ?_
  | with_reducible refine i_iRng2 ?_
  | with_reducible refine i_iStr ?_
  | with_reducible refine i_iEnum ?_
  | with_reducible refine i_iEnumT ?_
  | with_reducible refine i_lc ?_
  | with_reducible refine i_stD ?_
  | with_reducible refine i_iItemsT ?_
  | with_reducible refine i_dcw ?_
  | with_reducible refine i_dsetd ?_
  | with_reducible refine i_iVals ?_
  | with_reducible refine i_iItems ?_
  | with_reducible refine i_revL ?_
  | with_reducible refine i_yes ?_
  | with_reducible refine o_I0 ?_
  | with_reducible refine o_eqS ?_
  | with_reducible refine o_neS ?_
  | with_reducible refine o_eqI ?_
  | with_reducible refine o_neI ?_
  | with_reducible refine o_eqB ?_
  | with_reducible refine e_ref ?_
  | with_reducible refine e_str ?_
  | with_reducible refine e_int ?_
  | with_reducible refine e_bl ?_
  | with_reducible refine e_str1 ?_
  | with_reducible refine e_int1 ?_
  | with_reducible refine e_int2 ?_
  | with_reducible refine e_str2 ?_)))
open PySem.W (EachIs AllAlike Sortable dataLe)
section
variable {ps : List Str} {c : Str → List Str} {a b x : Str} {gs : List (List Str)}
theorem Told.len (t : Told ps c gs) : gs.length ≤ ps.length := by
  have := t.nd.length_le_of_subset (l₂ := ps.map c) fun g hg => by
    obtain ⟨x, hx, rfl⟩ := t.of g hg
    exact List.mem_map_of_mem hx
  rwa [List.length_map] at this
theorem Told.join (G : GrpOk ps c) (t : Told ps c gs) (ha : a ∈ ps) (hb : b ∈ ps) : Told ps (GR.join c a b) (gs.filter (fun g => !decide (g = c a) && !decide (g = c b)) ++ [c a ++ c b]) := by
  have mem : ∀ {g}, g ∈ gs.filter (fun g => !decide (g = c a) && !decide (g = c b)) ↔ g ∈ gs ∧ g ≠ c a ∧ g ≠ c b := fun {g} => by
    rw [List.mem_filter]
    simp
  have out : ∀ y ∈ ps, c y ≠ c a → c y ≠ c b → y ∉ c a ++ c b := fun y hy h1 h2 hm => by
    rcases List.mem_append.mp hm with z | z
    · exact h1 (G.same a ha y z).2
    · exact h2 (G.same b hb y z).2
  have ain : a ∈ c a ++ c b := List.mem_append_left _ (G.self a ha)
  refine ⟨List.nodup_append.mpr ⟨t.nd.sublist List.filter_sublist, List.nodup_cons.mpr ⟨List.not_mem_nil, List.nodup_nil⟩, fun g hg k hk e => ?_⟩, fun g hg => ?_, fun y hy => ?_⟩
  · obtain ⟨h1, h2, h3⟩ := mem.mp hg
    rw [List.mem_singleton.mp hk] at e
    obtain ⟨y, hy, e2⟩ := t.of g h1
    have h4 : a ∈ c y := by rw [← e2, e]; exact ain
    exact h2 (by rw [e2]; exact (G.same y hy a h4).2.symm)
  · rcases List.mem_append.mp hg with h | h
    · obtain ⟨h1, h2, h3⟩ := mem.mp h
      obtain ⟨y, hy, rfl⟩ := t.of g h1
      exact ⟨y, hy, (join_out (out y hy h2 h3)).symm⟩
    · rw [List.mem_singleton.mp h]
      exact ⟨a, ha, (join_in ain).symm⟩
  · by_cases hm : y ∈ c a ++ c b
    · rw [join_in hm]
      exact List.mem_append_right _ (List.mem_singleton.mpr rfl)
    · rw [join_out hm]
      refine List.mem_append_left _ (mem.mpr ⟨t.all y hy, fun e => hm ?_, fun e => hm ?_⟩)
      · exact List.mem_append_left _ (e ▸ G.self y hy)
      · exact List.mem_append_right _ (e ▸ G.self y hy)
theorem Told.first (G : GrpOk ps c) {zs : List (Addr × List Str)} (t : Told ps c (zs.map Prod.snd)) (ha : a ∈ ps) : ∃ z r, zs.filter (fun z => decide (a ∈ z.2)) = z :: r ∧ z ∈ zs ∧ z.2 = c a := by
  obtain ⟨z0, h1, h2⟩ := List.mem_map.mp (t.all a ha)
  have hm : z0 ∈ zs.filter fun z => decide (a ∈ z.2) := List.mem_filter.mpr ⟨h1, decide_eq_true (by rw [h2]; exact G.self a ha)⟩
  cases hf : zs.filter fun z => decide (a ∈ z.2) with
  | nil => rw [hf] at hm; exact nomatch hm
  | cons z r =>
    have hz : z ∈ zs.filter fun z => decide (a ∈ z.2) := by rw [hf]; exact List.mem_cons_self
    obtain ⟨h3, h4⟩ := List.mem_filter.mp hz
    obtain ⟨y, hy, e⟩ := t.of z.2 (List.mem_map_of_mem h3)
    refine ⟨z, r, rfl, h3, ?_⟩
    have h5 : a ∈ c y := by rw [← e]; exact of_decide_eq_true h4
    rw [e, (G.same y hy a h5).2]
theorem told0 (nd : ps.Nodup) : Told ps (fun x => [x]) (ps.map fun x => [x]) :=
  ⟨List.pairwise_map.mpr (nd.imp fun h e => h (List.cons.inj e).1), fun g hg => by obtain ⟨x, hx, rfl⟩ := List.mem_map.mp hg; exact ⟨x, hx, rfl⟩, fun x hx => List.mem_map_of_mem hx⟩
theorem i_neL {H : Hp} {d e : Addr} {xs ys : List Str} {Q : VK} (h1 : Ls H d xs) (h2 : Ls H e ys) (o1 : ∀ s ∈ xs, Nm s) (o2 : ∀ s ∈ ys, Nm s) (q : Q (.bl (!decide (xs = ys))) H) : oEqL true (.ref d) (.ref e) H Q :=
  ⟨d, e, xs, ys, rfl, rfl, h1, h2, fun s hs => nm_ok (o1 s hs), fun s hs => nm_ok (o2 s hs), by rw [show (true != decide (xs = ys)) = !decide (xs = ys) by cases decide (xs = ys) <;> rfl]; exact q⟩
end
section
variable {P : Program} {w : World} {K : PySem.W.Frag} {mg : Str → Option Value} {base : Heap} {k j : Nat}
abbrev n_law_due : List Str := ["_law_people_here", "_law_table_here", "_law_groups", "_law_a", "_law_b", "_law_one", "_law_other", "_law_group"]
theorem sc_law_due : FnScope n_law_due ["_law_people_here", "_law_table_here"] (defScope s_law_due) := ⟨rfl, rfl, rfl, by decide +kernel, rfl, by decide +kernel, by decide +kernel⟩
def spDue : Sp := fun vs H Q _ => ∃ a t ps, ∃ T : Str → List Str, vs = [.ref a, .ref t] ∧ Ls H a ps ∧ RowsAt H t ps T ∧ ps.Nodup ∧ ps.length ≤ 7 ∧ (∀ s ∈ ps, Nm s) ∧ (∀ x ∈ ps, ∀ y ∈ T x, y ∈ ps) ∧
  ∀ p H' ks, Ex H H' → LP (Ts H') H' p (tsort ks) → Told ps (fun x => ssort (grp ps T x)) ks → Q (.ref p) H'
theorem c_law_due (T : Txt K mg) : Cal P w K mg base (k + 1) "_law_due" spDue := by
  refine T.a_law_due.ok sc_law_due (fun _ _ _ _ _ _ us hl => match us, hl with | [_, _], _ => rfl) (fun vs H Q E h => ?_) (fun f cdv A outer s H vs Q E hr h => ⟨_, (pss_cons (ps_setLc (i := 2) (own := [("_law_a", 3)]) rfl sc_law_due.nd rfl rfl (sw_true rfl rfl rfl (by decide +kernel)) (pi_list (pv 0)) (blkOk_by (own := [("_law_a", 3)]) (N := n_law_due) (sc := defScope s_law_due) (by decide +kernel)) (fun _ _ _ _ _ => (pg_name (i := 3) sc_law_due.nd rfl (Or.inl rfl))) (fun _ _ _ _ _ => pts_nil) (fun _ _ _ _ _ => (pe_lst (pa_cons (pv 3) pa_nil))) )
      (pss_cons (ps_for PassesOwn.never rfl (pi_list (pv 0)) (pg_name (i := 3) sc_law_due.nd rfl (Or.inr rfl)) (pss_one (ps_for PassesOwn.never rfl (pi_list (pe_dget (hu_of hr) (pv 1) (pv 3) (fun _ _ => rfl))) (pg_name (i := 4) sc_law_due.nd rfl (Or.inr rfl)) (pss_cons (ps_set (i := 5) sc_law_due.nd rfl (Or.inr rfl) (pe_ix ixL (pe_lc (own := [("_law_group", 7)]) rfl sc_law_due.nd (pi_list (pv 2)) (blkOk_by (own := [("_law_group", 7)]) (N := n_law_due) (sc := defScope s_law_due) (by decide +kernel)) (fun _ _ _ _ _ => (pg_name (i := 7) sc_law_due.nd rfl (Or.inl rfl))) (fun _ _ _ _ _ => pts_one (pt_cmpR opIn (pv 3) (pv 7) rfl)) (fun _ _ _ _ _ => (pv 7))) pe_int (fun _ _ => rfl)))
      (pss_cons (ps_set (i := 6) sc_law_due.nd rfl (Or.inr rfl) (pe_ix ixL (pe_lc (own := [("_law_group", 7)]) rfl sc_law_due.nd (pi_list (pv 2)) (blkOk_by (own := [("_law_group", 7)]) (N := n_law_due) (sc := defScope s_law_due) (by decide +kernel)) (fun _ _ _ _ _ => (pg_name (i := 7) sc_law_due.nd rfl (Or.inl rfl))) (fun _ _ _ _ _ => pts_one (pt_cmpR opIn (pv 4) (pv 7) rfl)) (fun _ _ _ _ _ => (pv 7))) pe_int (fun _ _ => rfl)))
      (pss_one (ps_if (pt_cmpR (opNeL hr.units) (pv 5) (pv 6) (nomark _)) (pss_one (ps_set (i := 2) sc_law_due.nd rfl (Or.inl rfl) (pe_op op_cat (pe_lc (own := [("_law_group", 7)]) rfl sc_law_due.nd (pi_list (pv 2)) (blkOk_by (own := [("_law_group", 7)]) (N := n_law_due) (sc := defScope s_law_due) (by decide +kernel)) (fun _ _ _ _ _ => (pg_name (i := 7) sc_law_due.nd rfl (Or.inl rfl))) (fun _ _ _ _ _ => pts_one (PW.pt (pw_and (pt_cmpR (opNeL hr.units) (pv 7) (pv 5) (nomark _)) (pw_and1 (pt_cmpR (opNeL hr.units) (pv 7) (pv 6) (nomark _)))))) (fun _ _ _ _ _ => (pv 7))) (pe_lst (pa_cons (pe_op op_cat (pv 5) (pv 6)) pa_nil))))) pss_nil)))))))
      (pss_one (ps_ret (pe_callB (crSortD hr.units) (by rfl) T.f_sorted b_sorted (pa_cons (pe_lc (own := [("_law_group", 7)]) rfl sc_law_due.nd (pi_list (pv 2)) (blkOk_by (own := [("_law_group", 7)]) (N := n_law_due) (sc := defScope s_law_due) (by decide +kernel)) (fun _ _ _ _ _ => (pg_name (i := 7) sc_law_due.nd rfl (Or.inl rfl))) (fun _ _ _ _ _ => pts_nil) (fun _ _ _ _ _ => (pe_callTy crTuple (by rfl) T.f_tuple b_tuple (pa_cons (pe_callB (crSortS hr.units) (by rfl) T.f_sorted b_sorted (pa_cons (pv 7) pa_nil)) pa_nil)))) pa_nil)))))), ?_⟩)
  · obtain ⟨_, _, _, _, rfl, _⟩ := h; rfl
  · obtain ⟨a, t, ps, T1, rfl, ha, ⟨ft, ht1, ht2⟩, nd, hl, nm, dom, q⟩ := h
    walk_at "go"
    refine ⟨⟨_, SqL.of ha⟩, ?_⟩
    have wl := walk_list (K := K) (a := a) (xs := ps.map V.str)
    rw [List.length_map] at wl
    refine lcX wl (small (by omega)) (fun D i B acc => ∃ zs : List (Addr × List Str), acc = (zs.map fun z => V.ref z.1) ∧ (∀ z ∈ zs, Ls B z.1 z.2) ∧ zs.map Prod.snd = (ps.take i).map fun x => [x]) (fun D hD => ⟨[], rfl, (fun z hz => nomatch hz), rfl⟩) (fun D i B acc e hB _ => SqL.of (ex_in e hB _ _ ha)) (fun D i v B H2 acc N T' hi e hB s y k1 k2 => ?_) fun D B acc hD e hB s => ?_
    · obtain ⟨rfl, hv⟩ := y
      obtain ⟨g, hg, rfl⟩ := map_get hv
      obtain ⟨zs, rfl, hz1, hz2⟩ := s
      walk_at "go"
      refine ⟨rfl, ?_⟩
      walk_at "go"
      refine ⟨by show 1 ≤ sizeLine; decide, fun p hp => ?_⟩
      have e2 : Ex (upd B D (.lst (zs.map fun z => V.ref z.1))) (upd (upd B D (.lst (zs.map fun z => V.ref z.1))) p (.lst [.str g])) := Ex.new hp
      refine k2 _ _ e2 ⟨zs ++ [(p, [g])], by rw [List.map_append]; rfl, fun z hz => ?_, by rw [List.map_append, hz2, take_snoc hg, List.map_append]; rfl⟩
      rcases List.mem_append.mp hz with h | h
      · exact (hz1 z h).ex (off_ex e2 hB)
      · rw [List.mem_singleton.mp h]
        show off D _ p = _
        rw [off_ne (ne_new hp upd_same)]
        exact upd_same
    · obtain ⟨zs, rfl, hz1, hz2⟩ := s
      rw [List.take_length] at hz2
      have e1 : Ex H (upd B D (.lst (zs.map fun z => V.ref z.1))) := ex_in e hB
      have hL1 : LP (Ls (upd B D (.lst (zs.map fun z => V.ref z.1)))) (upd B D (.lst (zs.map fun z => V.ref z.1))) D (ps.map fun x => [x]) := ⟨zs, upd_same, fun z hz => (hz1 z hz).ex (ex_in (Ex.refl B) hB), hz2⟩
      generalize upd B D (.lst (zs.map fun z => V.ref z.1)) = H1 at e1 hL1 ⊢
      walk_at "go"
      refine forL (e1 _ _ ha) (fun i σ H2 => (∃ G gs o3 o4 o5 o6, σ = [some (.ref a), some (.ref t), some (.ref G), o3, o4, o5, o6, none] ∧ LP (Ls H2) H2 G gs ∧ Told ps (mrgA T1 (fun x => [x]) (ps.take i)) gs) ∧ Ex H H2)
        ⟨⟨D, _, _, _, _, _, rfl, hL1, told0 nd⟩, e1⟩ (fun i σ H2 _ z => SqL.of (z.2 _ _ ha)) (fun i v σ H2 hv z => ?_) (fun σ H2 z => ?_)
      · obtain ⟨⟨G, gs, o3, o4, o5, o6, rfl, hG, told⟩, e2⟩ := z
        obtain ⟨g, hg, rfl⟩ := map_get hv
        have hgm := List.mem_of_getElem? hg
        obtain ⟨bt, hbt, hlt⟩ := ht2 g hgm
        walk_at "go"
        refine kd_get (.inl (e2 _ _ ht1)) hgm ?_
        rw [hbt]
        have hgt : GrpOk ps (mrgA T1 (fun x => [x]) (ps.take i)) := (GrpOk.mrgA dom grp0 fun x hx => List.mem_of_mem_take hx).1
        rw [take_snoc hg, mrgA_snoc]
        generalize mrgA T1 (fun x => [x]) (ps.take i) = c at told hgt ⊢
        walk_at "go"
        refine forL (e2 _ _ hlt) (fun j σ H3 => (∃ G gs o4 o5 o6, σ = [some (.ref a), some (.ref t), some (.ref G), some (.str g), o4, o5, o6, none] ∧ LP (Ls H3) H3 G gs ∧ Told ps (mrgR c g ((T1 g).take j)) gs) ∧ Ex H H3)
          ⟨⟨G, gs, _, _, _, rfl, hG, told⟩, e2⟩ (fun j σ H3 _ z => SqL.of (z.2 _ _ hlt)) (fun j v σ H3 hv z => ?_) (fun σ H3 z => ?_)
        · clear hG told
          obtain ⟨⟨G, gs, o4, o5, o6, rfl, ⟨zs, hz1, hz2, rfl⟩, told⟩, e3⟩ := z
          obtain ⟨b, hb, rfl⟩ := map_get hv
          have hbm := dom g hgm b (List.mem_of_getElem? hb)
          have hgj : GrpOk ps (mrgR c g ((T1 g).take j)) := (GrpOk.mrgR hgm hgt fun x hx => dom g hgm x (List.mem_of_mem_take hx)).1
          rw [take_snoc hb, mrgR_snoc]
          generalize mrgR c g ((T1 g).take j) = c2 at told hgj ⊢
          have zl : zs.length ≤ 7 := by have := told.len; rw [List.length_map] at this; omega
          have cnm : ∀ x ∈ ps, ∀ s ∈ c2 x, Nm s := fun x hx s hs => nm s (hgj.same x hx s hs).1
          have cl7 : ∀ x ∈ ps, (c2 x).length ≤ 7 := fun x hx => Nat.le_trans ((hgj.nd x hx).length_le_of_subset fun y hy => (hgj.same x hx y hy).1) hl
          have znm : ∀ z ∈ zs, ∀ s ∈ z.2, Nm s := fun z hz s hs => by
            obtain ⟨y, hy, ey⟩ := told.of z.2 (List.mem_map_of_mem hz)
            rw [ey] at hs
            exact cnm y hy s hs
          have wl : Walk (Itl K G) zs.length (fun H => SqL K H G (zs.map fun z => V.ref z.1)) fun i H x H' => H' = H ∧ (zs.map fun z => V.ref z.1)[i]? = some x := by
            have := walk_list (K := K) (a := G) (xs := zs.map fun z => V.ref z.1)
            rw [List.length_map] at this
            exact this
          letI : Inhabited (Addr × List Str) := ⟨(0, [])⟩
          walk_at "go"
          refine ⟨⟨_, SqL.of hz1⟩, ?_⟩
          refine lcL zs (fun z => V.ref z.1) wl (small (by omega)) (fun _ _ _ _ y => y) (fun z => decide (g ∈ z.2)) (fun z => V.ref z.1) (fun D acc hD => SqL.of (Ex.new hD _ _ hz1)) (fun D acc z N T' hD hz k1 k2 => ?_) fun D hD => ?_
          · walk_at "go"
            refine ⟨rfl, ?_⟩
            walk_at "go"
            refine i_in (.inr (Ex.new hD _ _ (hz2 z hz))) ?_
            by_cases hm : g ∈ z.2
            · rw [decide_eq_true hm]
              walk_at "go"
              exact k2 (decide_eq_true hm)
            · rw [decide_eq_false hm]
              walk_at "go"
              exact k1 (decide_eq_false hm)
          · obtain ⟨z1, r1, hf1, hz1m, hz1c⟩ := told.first hgj hgm
            rw [hf1]
            have e4 : Ex H3 (upd H3 D (.lst ((z1 :: r1).map fun z => V.ref z.1))) := Ex.new hD
            have hD4 : upd H3 D (.lst ((z1 :: r1).map fun z => V.ref z.1)) D = _ := upd_same
            generalize upd H3 D (.lst ((z1 :: r1).map fun z => V.ref z.1)) = H4 at e4 hD4 ⊢
            walk_at "go"
            refine i_ixL hD4 (atI_map (i := 0) (fun z : Addr × List Str => V.ref z.1) rfl) ?_
            walk_at "go"
            have hz14 := e4 _ _ hz1
            refine ⟨⟨_, SqL.of hz14⟩, ?_⟩
            refine lcL zs (fun z => V.ref z.1) wl (small (by omega)) (fun _ _ _ _ y => y) (fun z => decide (b ∈ z.2)) (fun z => V.ref z.1) (fun D acc hD => SqL.of (Ex.new hD _ _ hz14)) (fun D acc z N T' hD hz k1 k2 => ?_) fun D2 hD2 => ?_
            · walk_at "go"
              refine ⟨rfl, ?_⟩
              walk_at "go"
              refine i_in (.inr (Ex.new hD _ _ (e4 _ _ (hz2 z hz)))) ?_
              by_cases hm : b ∈ z.2
              · rw [decide_eq_true hm]
                walk_at "go"
                exact k2 (decide_eq_true hm)
              · rw [decide_eq_false hm]
                walk_at "go"
                exact k1 (decide_eq_false hm)
            · obtain ⟨z2, r2, hf2, hz2m, hz2c⟩ := told.first hgj hbm
              rw [hf2]
              have e5 : Ex H4 (upd H4 D2 (.lst ((z2 :: r2).map fun z => V.ref z.1))) := Ex.new hD2
              have hD5 : upd H4 D2 (.lst ((z2 :: r2).map fun z => V.ref z.1)) D2 = _ := upd_same
              generalize upd H4 D2 (.lst ((z2 :: r2).map fun z => V.ref z.1)) = H5 at e5 hD5 ⊢
              walk_at "go"
              refine i_ixL hD5 (atI_map (i := 0) (fun z : Addr × List Str => V.ref z.1) rfl) ?_
              have e35 := e4.trans e5
              have ga5 : Ls H5 z1.1 (c2 g) := by rw [← hz1c]; exact (hz2 z1 hz1m).ex e35
              have gb5 : Ls H5 z2.1 (c2 b) := by rw [← hz2c]; exact (hz2 z2 hz2m).ex e35
              have hz15 := e35 _ _ hz1
              have hz25 : ∀ z ∈ zs, Ls H5 z.1 z.2 := fun z hz => (hz2 z hz).ex e35
              have eH5 := e3.trans e35
              walk_at "go"
              refine i_neL ga5 gb5 (cnm g hgm) (cnm b hbm) ?_
              unfold mrg1
              by_cases hcc : c2 g = c2 b
              · have hbg : b ∈ c2 g := by rw [hcc]; exact hgj.self b hbm
                rw [decide_eq_true hcc, if_pos hbg]
                walk_at "go"
                exact ⟨⟨G, _, _, _, _, rfl, ⟨zs, hz15, hz25, rfl⟩, told⟩, eH5⟩
              · have hbg : b ∉ c2 g := fun h => hcc (hgj.same g hgm b h).2.symm
                rw [decide_eq_false hcc, if_neg hbg]
                walk_at "go"
                refine ⟨⟨_, SqL.of hz15⟩, ?_⟩
                refine lcL zs (fun z => V.ref z.1) wl (small (by omega)) (fun _ _ _ _ y => y) (fun z => !decide (z.2 = c2 g) && !decide (z.2 = c2 b)) (fun z => V.ref z.1) (fun D acc hD => SqL.of (Ex.new hD _ _ hz15)) (fun D acc z N T' hD hz k1 k2 => ?_) fun D3 hD3 => ?_
                · have hzn := (hz25 z hz).ex (Ex.new (o := .lst acc) hD)
                  walk_at "go"
                  refine ⟨rfl, ?_⟩
                  walk_at "go"
                  refine i_neL hzn (ga5.ex (Ex.new hD)) (znm z hz) (cnm g hgm) ?_
                  by_cases h1 : z.2 = c2 g
                  · rw [decide_eq_true h1]
                    walk_at "go"
                    exact k1 (by rw [decide_eq_true h1]; rfl)
                  · rw [decide_eq_false h1]
                    walk_at "go"
                    refine i_neL hzn (gb5.ex (Ex.new hD)) (znm z hz) (cnm b hbm) ?_
                    by_cases h2 : z.2 = c2 b
                    · rw [decide_eq_true h2]
                      walk_at "go"
                      exact k1 (by rw [decide_eq_true h2, decide_eq_false h1]; rfl)
                    · rw [decide_eq_false h2]
                      walk_at "go"
                      exact k2 (by rw [decide_eq_false h2, decide_eq_false h1]; rfl)
                · have e6 : Ex H5 (upd H5 D3 (.lst ((zs.filter fun z => !decide (z.2 = c2 g) && !decide (z.2 = c2 b)).map fun z => V.ref z.1))) := Ex.new hD3
                  have hD6 : upd H5 D3 (.lst ((zs.filter fun z => !decide (z.2 = c2 g) && !decide (z.2 = c2 b)).map fun z => V.ref z.1)) D3 = _ := upd_same
                  generalize upd H5 D3 (.lst ((zs.filter fun z => !decide (z.2 = c2 g) && !decide (z.2 = c2 b)).map fun z => V.ref z.1)) = H6 at e6 hD6 ⊢
                  have fl : (zs.filter fun z => !decide (z.2 = c2 g) && !decide (z.2 = c2 b)).length ≤ 7 := Nat.le_trans (List.length_filter_le _ _) zl
                  have lg := cl7 g hgm
                  have lb := cl7 b hbm
                  walk_at "go"
                  refine ⟨z1.1, z2.1, _, _, rfl, rfl, ga5.ex e6, gb5.ex e6, by rw [List.length_map, List.length_map]; exact small (by omega), fun p1 hp1 => ?_⟩
                  rw [← List.map_append]
                  have e7 : Ex H6 (upd H6 p1 (.lst ((c2 g ++ c2 b).map V.str))) := Ex.new hp1
                  have hp7 : Ls (upd H6 p1 (.lst ((c2 g ++ c2 b).map V.str))) p1 (c2 g ++ c2 b) := upd_same
                  generalize upd H6 p1 (.lst ((c2 g ++ c2 b).map V.str)) = H7 at e7 hp7 ⊢
                  walk_at "go"
                  refine ⟨by show 1 ≤ sizeLine; decide, fun p2 hp2 => ?_⟩
                  have e8 : Ex H7 (upd H7 p2 (.lst [.ref p1])) := Ex.new hp2
                  have hp8 : upd H7 p2 (.lst [.ref p1]) p2 = _ := upd_same
                  generalize upd H7 p2 (.lst [.ref p1]) = H8 at e8 hp8 ⊢
                  have e68 := e7.trans e8
                  refine ⟨D3, p2, _, _, rfl, rfl, e68 _ _ hD6, hp8, by rw [List.length_map]; exact small (by show _ + 1 ≤ 1000; omega), fun G2 hG2 => ?_⟩
                  have e9 := Ex.new (o := .lst ((zs.filter fun z => !decide (z.2 = c2 g) && !decide (z.2 = c2 b)).map (fun z => V.ref z.1) ++ [.ref p1])) hG2
                  walk_at "go"
                  refine ⟨⟨G2, _, _, _, _, rfl, ⟨(zs.filter fun z => !decide (z.2 = c2 g) && !decide (z.2 = c2 b)) ++ [(p1, c2 g ++ c2 b)], by rw [upd_same, List.map_append]; rfl, fun z hz => ?_, rfl⟩, ?_⟩, ((eH5.trans e6).trans e68).trans e9⟩
                  · rcases List.mem_append.mp hz with h | h
                    · exact (((hz25 z (List.mem_filter.mp h).1).ex e6).ex e68).ex e9
                    · rw [List.mem_singleton.mp h]; exact (hp7.ex e8).ex e9
                  · have := Told.join hgj told hgm hbm
                    rw [List.filter_map] at this
                    rw [List.map_append]
                    exact this
        · obtain ⟨⟨G, gs, o4, o5, o6, rfl, hG, told⟩, e3⟩ := z
          rw [List.length_map, List.take_length] at told
          exact ⟨⟨G, gs, _, _, _, _, rfl, hG, told⟩, e3⟩
      · obtain ⟨⟨G, gs, o3, o4, o5, o6, rfl, ⟨zs, hz1, hz2, rfl⟩, told⟩, e2⟩ := z
        rw [List.length_map, List.take_length] at told
        change Told ps (grp ps T1) _ at told
        obtain ⟨gok, gin⟩ := grp_ok dom
        generalize grp ps T1 = c at told gok gin q
        have zl : zs.length ≤ 7 := by have := told.len; rw [List.length_map] at this; omega
        walk_at "go"
        refine ⟨⟨_, SqL.of hz1⟩, ?_⟩
        have wl := walk_list (K := K) (a := G) (xs := zs.map fun z => V.ref z.1)
        rw [List.length_map] at wl
        refine lcX wl (small (by omega)) (fun D i B acc => ∃ ys : List (Addr × List Str), acc = (ys.map fun z => V.ref z.1) ∧ (∀ z ∈ ys, Ts B z.1 z.2) ∧ ys.map Prod.snd = ((zs.take i).map Prod.snd).map ssort) (fun D hD => ⟨[], rfl, (fun z hz => nomatch hz), rfl⟩) (fun D i B acc e hB _ => SqL.of (ex_in e hB _ _ hz1)) (fun D i v B H3 acc N T' hi e hB s y k1 k2 => ?_) fun D B acc hD e hB s => ?_
        · obtain ⟨rfl, hv⟩ := y
          obtain ⟨z, hz, rfl⟩ := map_get hv
          obtain ⟨ys, rfl, hy1, hy2⟩ := s
          have ei := fun o : HO => ex_in (o := o) e hB
          walk_at "go"
          refine ⟨rfl, ?_⟩
          walk_at "go"
          refine ⟨z.1, z.2, rfl, (hz2 z (List.mem_of_getElem? hz)).ex (ei _), fun l1 hl1 => ?_⟩
          walk_at "go"
          refine ⟨l1, _, rfl, upd_same, fun l2 hl2 => ?_⟩
          have e3 := (Ex.new (o := .lst ((ssort z.2).map V.str)) hl1).trans (Ex.new (o := .tup ((ssort z.2).map V.str)) hl2)
          refine k2 _ _ e3 ⟨ys ++ [(l2, ssort z.2)], by rw [List.map_append]; rfl, fun z' hz' => ?_, by rw [List.map_append, hy2, take_snoc hz, List.map_append, List.map_append]; rfl⟩
          rcases List.mem_append.mp hz' with h | h
          · exact (hy1 z' h).ex (off_ex e3 hB)
          · rw [List.mem_singleton.mp h]
            exact ts_off (ex_same e3) (show Ts _ l2 (ssort z.2) from upd_same)
        · obtain ⟨ys, rfl, hy1, hy2⟩ := s
          rw [List.take_length] at hy2
          have e3 : Ex H2 (upd B D (.lst (ys.map fun z => V.ref z.1))) := ex_in e hB
          have hD3 : upd B D (.lst (ys.map fun z => V.ref z.1)) D = _ := upd_same
          have hy3 : ∀ z ∈ ys, Ts (upd B D (.lst (ys.map fun z => V.ref z.1))) z.1 z.2 := fun z hz => (hy1 z hz).ex (ex_in (Ex.refl B) hB)
          generalize upd B D (.lst (ys.map fun z => V.ref z.1)) = H3 at e3 hD3 hy3 ⊢
          have told2 := told.sorts gok
          rw [← hy2] at told2
          walk_at "go"
          refine i_sortLP ys GR.dT hD3 (fun z hz => dh_tupS (hy3 z hz)) dT_alike (fun z hz => ?_) (fun x => by rw [dT_depth]; decide) fun p hp => ?_
          · obtain ⟨x, hx, e4⟩ := told2.of z.2 (List.mem_map_of_mem hz)
            have hxm : x ∈ z.2 := by rw [e4]; exact (ssort_perm (c x)).mem_iff.mpr (gok.self x hx)
            obtain ⟨y, r, e5⟩ := List.exists_cons_of_ne_nil (List.ne_nil_of_mem hxm)
            exact ⟨.str y, r.map .str, by unfold GR.dT; rw [e5]; rfl⟩
          · have pm := List.mergeSort_perm ys fun x y => dataLe false GR.dT x.2 y.2
            refine q p _ (ys.map Prod.snd) ((e2.trans e3).trans (Ex.new hp)) ⟨_, upd_same, fun z hz => ((hy3 z (pm.mem_iff.mp hz))).ex (Ex.new hp), ?_⟩ told2
            exact PySem.W.sort_maps (s := tLe) Prod.snd fun a _ b _ => rfl
end
end GR
end
section
set_option Elab.async false
set_option linter.all false
set_option maxRecDepth 100000
set_option maxHeartbeats 4000000
set_option autoImplicit false
/-! The law in plain lists. -/
namespace GR
open PySem PySem.W L2 GM
theorem strLe_total : TotalLe strLe := by
  have h : TotalLe (dataLe false fun b : Str => PyData.str (id b)) := sortLe_total _ _ _
  rw [dataLe_str (β := Str) id] at h
  exact h
theorem ssort_filter (p : Str → Bool) (xs : List Str) : ssort (xs.filter p) = (ssort xs).filter p := by
  refine (sort_unique strLe_total ((sort_pairwise strLe_total xs).sublist List.filter_sublist) fun c => ?_).symm
  have h := congrArg (List.filter p) (sort_stable strLe_total xs c)
  rw [List.filter_filter, List.filter_filter] at h ⊢
  rw [show (fun a => p a && sameRank strLe c a) = fun a => sameRank strLe c a && p a by funext a; rw [Bool.and_comm]] at h
  exact h
theorem ssort_mem {xs : List Str} {x : Str} : x ∈ ssort xs ↔ x ∈ xs := (ssort_perm xs).mem_iff
section
variable {ps : List Str} {cl prs : List (List Str)} {ls : List Lk} {g t : Str}
theorem diff2 : diffB ps [g, t] = decide (g ≠ t ∧ g ∈ ps ∧ t ∈ ps) := by
  unfold diffB
  rw [decide_eq_decide]
  simp
theorem rowOf_filter : rowOf ps cl ls g = (ssort ps).filter fun t => allLet ls g t && mayB ps cl g t := by
  unfold rowOf
  rw [ssort_filter, List.filter_filter]
theorem row_eq (hg : g ∈ ps) : rowL ps prs ls g = rowOf ps (prs.foldl addk []) ls g := by
  rw [rowOf_filter]
  unfold rowL
  refine List.filter_congr fun t ht => ?_
  have htp := ssort_mem.mp ht
  unfold mayB allLet
  rw [diff2]
  have e1 : decide (g ≠ t ∧ g ∈ ps ∧ t ∈ ps) = !decide (g = t) := by
    by_cases e : g = t
    · simp [e]
    · simp [e, hg, htp]
  have e2 : decide ([g, t] ∈ prs.foldl addk []) = decide ([g, t] ∈ prs) := by
    rw [decide_eq_decide, mem_fold_addk]
    simp
  rw [e1, e2]
  cases decide (g = t) <;> cases decide ([g, t] ∈ prs) <;> cases (ls.all fun l => l.lets g t) <;> rfl
theorem mem_rowOf : t ∈ rowOf ps cl ls g ↔ t ∈ ps ∧ allLet ls g t = true ∧ mayB ps cl g t = true := by
  rw [rowOf_filter, List.mem_filter, ssort_mem, Bool.and_eq_true]
theorem rowOf_may (h : t ∈ rowOf ps cl ls g) : mayB ps cl g t = true := (mem_rowOf.mp h).2.2
theorem rowOf_ne (h : t ∈ rowOf ps cl ls g) : t ≠ g := by
  have h := rowOf_may h
  unfold mayB at h
  rw [diff2, Bool.and_eq_true, decide_eq_true_eq] at h
  exact h.1.1.symm
theorem rowOf_ok (nd : ps.Nodup) (l7 : ps.length ≤ 7) : RowsOk ps (rowOf ps cl ls) :=
  ⟨nd, l7, fun x _ t ht => (mem_rowOf.mp ht).1, fun x _ => by rw [rowOf_filter]; exact ((ssort_perm ps).nodup_iff.mpr nd).sublist List.filter_sublist⟩
end
theorem RowsAt.congr {H : Hp} {r : Addr} {ks : List Str} {row row' : Str → List Str} (e : ∀ x ∈ ks, row x = row' x) (h : RowsAt H r ks row) : RowsAt H r ks row' := by
  obtain ⟨f, h1, h2⟩ := h
  refine ⟨f, h1, fun k hk => ?_⟩
  obtain ⟨b, h3, h4⟩ := h2 k hk
  exact ⟨b, h3, e k hk ▸ h4⟩
/-! ### drawings -/
section
variable {ps : List Str} {row : Str → List Str} {ds : List Str} {d : Str → Str}
theorem mem_drs_snoc {as : List Str} {a : Str} : ds ∈ drs row (as ++ [a]) ↔ ∃ tk ∈ drs row as, ∃ b ∈ row a, b ∉ tk ∧ ds = tk ++ [b] := by
  rw [drs_snoc, List.mem_flatMap]
  unfold drs1
  constructor
  · rintro ⟨tk, h1, h2⟩
    obtain ⟨b, h3, rfl⟩ := List.mem_map.mp h2
    obtain ⟨h4, h5⟩ := List.mem_filter.mp h3
    exact ⟨tk, h1, b, h4, by simpa using h5, rfl⟩
  · rintro ⟨tk, h1, b, h2, h3, rfl⟩
    exact ⟨tk, h1, List.mem_map.mpr ⟨b, List.mem_filter.mpr ⟨h2, by simpa using h3⟩, rfl⟩⟩
theorem mem_drs : ∀ {n : Nat} {as ds : List Str}, as.length = n → (ds ∈ drs row as ↔ ds.length = n ∧ ds.Nodup ∧ ∀ (i : Nat) (a b : Str), as[i]? = some a → ds[i]? = some b → b ∈ row a) := by
  intro n
  induction n with
  | zero =>
    intro as ds h
    rw [List.length_eq_zero_iff.mp h]
    constructor
    · intro hm
      rw [List.mem_singleton.mp hm]
      exact ⟨rfl, List.nodup_nil, fun i a b e => by simp at e⟩
    · rintro ⟨h1, _, _⟩
      rw [List.length_eq_zero_iff.mp h1]
      exact List.mem_singleton.mpr rfl
  | succ n ih =>
    intro as ds h
    obtain ⟨as', a, rfl⟩ : ∃ as' a, as = as' ++ [a] := ⟨as.dropLast, as.getLast (fun e => by rw [e] at h; cases h), (List.dropLast_concat_getLast _).symm⟩
    have h' : as'.length = n := by simpa using h
    rw [mem_drs_snoc]
    constructor
    · rintro ⟨tk, h1, b, h2, h3, rfl⟩
      obtain ⟨h4, h5, h6⟩ := (ih h').mp h1
      refine ⟨by rw [List.length_append, h4]; rfl, nodup_snoc_iff.mpr ⟨h5, h3⟩, fun i x y e1 e2 => ?_⟩
      by_cases hi : i < n
      · rw [List.getElem?_append_left (by omega)] at e1 e2
        exact h6 i x y e1 e2
      · rw [List.getElem?_append_right (by omega)] at e1 e2
        have l1 := (List.getElem?_eq_some_iff.mp e1).1
        have hi2 : i = n := by
          have : i - as'.length < 1 := l1
          omega
        rw [h', hi2, Nat.sub_self] at e1
        rw [h4, hi2, Nat.sub_self] at e2
        cases e1
        cases e2
        exact h2
    · rintro ⟨h1, h2, h3⟩
      obtain ⟨tk, b, rfl⟩ : ∃ tk b, ds = tk ++ [b] := ⟨ds.dropLast, ds.getLast (fun e => by rw [e] at h1; cases h1), (List.dropLast_concat_getLast _).symm⟩
      have h4 : tk.length = n := by simpa using h1
      obtain ⟨h5, h6⟩ := nodup_snoc_iff.mp h2
      refine ⟨tk, (ih h').mpr ⟨h4, h5, fun i x y e1 e2 => ?_⟩, b, ?_, h6, rfl⟩
      · have l1 := (List.getElem?_eq_some_iff.mp e1).1
        have l2 := (List.getElem?_eq_some_iff.mp e2).1
        exact h3 i x y (by rw [List.getElem?_append_left l1]; exact e1) (by rw [List.getElem?_append_left l2]; exact e2)
      · exact h3 n a b (by rw [List.getElem?_append_right (by omega), h', Nat.sub_self]; rfl) (by rw [List.getElem?_append_right (by omega), h4, Nat.sub_self]; rfl)
theorem asd_at (nd : ps.Nodup) (hl : ds.length = ps.length) {i : Nat} (hi : i < ps.length) : asd ps ds ps[i] = ds[i] := by
  unfold asd
  rw [nd.idxOf_getElem i hi, List.getD_eq_getElem?_getD, List.getElem?_eq_getElem (by omega)]
  rfl
theorem drs_draw (nd : ps.Nodup) (h : ds ∈ drs row ps) : IsDraw ps row (asd ps ds) := by
  obtain ⟨h1, h2, h3⟩ := (mem_drs rfl).mp h
  refine ⟨fun g hg => ?_, fun g hg g' hg' e => ?_⟩
  · obtain ⟨i, hi, rfl⟩ := List.getElem_of_mem hg
    rw [asd_at nd h1 hi]
    exact h3 i _ _ (List.getElem?_eq_getElem hi) (List.getElem?_eq_getElem (by omega))
  · obtain ⟨i, hi, rfl⟩ := List.getElem_of_mem hg
    obtain ⟨j, hj, rfl⟩ := List.getElem_of_mem hg'
    rw [asd_at nd h1 hi, asd_at nd h1 hj] at e
    have := (List.getElem_inj h2).mp e
    subst this
    rfl
theorem asd_map (d : Str → Str) {x : Str} (hx : x ∈ ps) : asd ps (ps.map d) x = d x := by
  unfold asd
  have hi := List.idxOf_lt_length_iff.mpr hx
  rw [List.getD_eq_getElem?_getD, List.getElem?_eq_getElem (by rw [List.length_map]; exact hi), List.getElem_map]
  show d (ps[ps.idxOf x]) = d x
  rw [List.getElem_idxOf hi]
theorem draw_drs (nd : ps.Nodup) (D : IsDraw ps row d) : ps.map d ∈ drs row ps := by
  refine (mem_drs rfl).mpr ⟨List.length_map .., nodup_map nd D.inj, fun i a b e1 e2 => ?_⟩
  rw [List.getElem?_map, e1] at e2
  rw [← Option.some.inj e2]
  exact D.inn a (List.mem_of_getElem? e1)
theorem drs_none (nd : ps.Nodup) (h : drs row ps = []) (d : Str → Str) : ¬ IsDraw ps row d := fun D => by
  have := draw_drs nd D
  rw [h] at this
  exact nomatch this
theorem poss_iff_drs (nd : ps.Nodup) {g t : Str} (hg : g ∈ ps) : poss ps row g t ↔ t ∈ (drs row ps).map fun ds => ds.getD (ps.idxOf g) g := by
  rw [List.mem_map]
  constructor
  · rintro ⟨d, D, rfl⟩
    exact ⟨_, draw_drs nd D, asd_map d hg⟩
  · rintro ⟨ds, h, rfl⟩
    exact ⟨asd ps ds, drs_draw nd h, rfl⟩
theorem tab_eq (nd : ps.Nodup) {p : Str → Bool} {g : Str} (hg : g ∈ ps) (hr : row g = (ssort ps).filter p) : tabL ps (drs row ps) g = tbl ps row g := by
  classical
  unfold tabL tbl
  rw [hr, List.filter_filter]
  refine List.filter_congr fun t ht => ?_
  rw [Bool.eq_iff_iff, decide_eq_true_eq, Bool.and_eq_true, decide_eq_true_eq, poss_iff_drs nd hg]
  constructor
  · intro h
    refine ⟨h, ?_⟩
    obtain ⟨d, D, rfl⟩ := (poss_iff_drs nd hg).mpr h
    have := D.inn g hg
    rw [hr] at this
    exact (List.mem_filter.mp this).2
  · exact fun h => h.1
/-! ### groups -/
theorem tbl_dom (ok : RowsOk ps row) : ∀ a ∈ ps, ∀ t ∈ tbl ps row a, t ∈ ps := (tbl_ok ok).dom
theorem draw_tbl (D : IsDraw ps row d) {x : Str} (hx : x ∈ ps) : d x ∈ tbl ps row x := by
  classical
  unfold tbl
  exact List.mem_filter.mpr ⟨D.inn x hx, decide_eq_true ⟨d, D, rfl⟩⟩
theorem draw_grp (ok : RowsOk ps row) (D : IsDraw ps row d) {x : Str} (hx : x ∈ ps) : d x ∈ grp ps (tbl ps row) x := (grp_ok (tbl_dom ok)).2 x hx _ (draw_tbl D hx)
theorem orb_grp (ok : RowsOk ps row) (D : IsDraw ps row d) {rs : List Str} (o : orb d ps rs) : ∃ b ∈ ps, ∀ x ∈ rs, x ∈ grp ps (tbl ps row) b := by
  obtain ⟨_, b, hb, h⟩ := o
  have G := (grp_ok (tbl_dom ok)).1
  refine ⟨b, hb, fun x hx => ?_⟩
  obtain ⟨k, rfl⟩ := h x hx
  clear hx h
  have : iter d k b ∈ ps ∧ grp ps (tbl ps row) (iter d k b) = grp ps (tbl ps row) b := by
    induction k with
    | zero => exact ⟨hb, rfl⟩
    | succ k ih =>
      obtain ⟨h1, h2⟩ := ih
      have h3 := G.same _ h1 _ (draw_grp ok D h1)
      exact ⟨h3.1, h3.2.trans h2⟩
  have h := G.self _ this.1
  rw [this.2] at h
  exact h
theorem lnk_grp (ok : RowsOk ps row) {st x : Str} (h : Lnk ps (tbl ps row) st x) : x = st ∨ (st ∈ ps ∧ x ∈ ps ∧ grp ps (tbl ps row) x = grp ps (tbl ps row) st) := by
  obtain ⟨G, gin⟩ := grp_ok (tbl_dom ok)
  have same : ∀ {g t}, g ∈ ps → t ∈ tbl ps row g → t ∈ ps ∧ grp ps (tbl ps row) t = grp ps (tbl ps row) g := fun {g t} hg ht => G.same g hg t (gin g hg t ht)
  induction h with
  | refl => exact .inl rfl
  | fwd _ hg ht ih =>
    have s := same hg ht
    rcases ih with rfl | ⟨h1, h2, h3⟩
    · exact .inr ⟨hg, s.1, s.2⟩
    · exact .inr ⟨h1, s.1, s.2.trans h3⟩
  | bwd _ hg ht ih =>
    have s := same hg ht
    rcases ih with rfl | ⟨h1, h2, h3⟩
    · exact .inr ⟨s.1, hg, s.2.symm⟩
    · exact .inr ⟨h1, hg, s.2.symm.trans h3⟩
theorem block_grp (ok : RowsOk ps row) (ne : ps ≠ []) {st : Str} {xs : List Str} (h : ∀ x ∈ xs, x ∈ ps ∧ Lnk ps (tbl ps row) st x) : ∃ b ∈ ps, ∀ x ∈ xs, x ∈ grp ps (tbl ps row) b := by
  obtain ⟨G, gin⟩ := grp_ok (tbl_dom ok)
  cases xs with
  | nil =>
    obtain ⟨p, r, rfl⟩ := List.exists_cons_of_ne_nil ne
    exact ⟨p, List.mem_cons_self, fun x hx => nomatch hx⟩
  | cons y ys =>
    have hst : st ∈ ps := by
      obtain ⟨h1, h2⟩ := h y List.mem_cons_self
      rcases lnk_grp ok h2 with rfl | ⟨h3, _, _⟩
      · exact h1
      · exact h3
    refine ⟨st, hst, fun x hx => ?_⟩
    obtain ⟨h1, h2⟩ := h x hx
    rcases lnk_grp ok h2 with rfl | ⟨_, _, h3⟩
    · exact G.self _ h1
    · rw [← h3]; exact G.self _ h1
theorem within_of (ok : RowsOk ps row) {ks : List (List Str)} (t : Told ps (fun x => ssort (grp ps (tbl ps row) x)) ks) {xs : List Str} (h : ∃ b ∈ ps, ∀ x ∈ xs, x ∈ grp ps (tbl ps row) b) : ∃ g ∈ tsort ks, ∀ x ∈ xs, x ∈ g := by
  obtain ⟨b, hb, h⟩ := h
  exact ⟨_, tsort_mem.mpr (t.all b hb), fun x hx => ssort_mem.mpr (h x hx)⟩
theorem few (ok : RowsOk ps row) {ks : List (List Str)} (t : Told ps (fun x => ssort (grp ps (tbl ps row) x)) ks) {n : Nat} (R : RingsOf ps row n) : ks.length ≤ n := by
  obtain ⟨d, rss, D, rfl, all, os⟩ := R
  have G := (grp_ok (tbl_dom ok)).1
  have := t.nd.length_le_of_subset (l₂ := rss.map fun rs => ssort (grp ps (tbl ps row) (rs.headD default))) fun g hg => by
    obtain ⟨x, hx, rfl⟩ := t.of g hg
    obtain ⟨rs, hrs, hxr⟩ := all x hx
    refine List.mem_map.mpr ⟨rs, hrs, ?_⟩
    obtain ⟨b, hb, hin⟩ := orb_grp ok D (os rs hrs)
    cases rs with
    | nil => exact nomatch hxr
    | cons y ys =>
      show ssort (grp ps (tbl ps row) y) = ssort (grp ps (tbl ps row) x)
      rw [(G.same b hb y (hin y List.mem_cons_self)).2, (G.same b hb x (hin x hxr)).2]
  rwa [List.length_map] at this
theorem big (ok : RowsOk ps row) (D : IsDraw ps row d) (hd : ∀ x ∈ ps, d x ≠ x) : ∀ x ∈ ps, (grp ps (tbl ps row) x).length ≠ 1 := fun x hx e => by
  obtain ⟨y, hy⟩ := List.length_eq_one_iff.mp e
  have h1 := (grp_ok (tbl_dom ok)).1.self x hx
  have h2 := draw_grp ok D hx
  rw [hy, List.mem_singleton] at h1 h2
  exact hd x hx (h2.trans h1.symm)
theorem alone (h : ∀ d, ¬ IsDraw ps row d) : ∀ x ∈ ps, (grp ps (tbl ps row) x).length = 1 := fun x _ => by
  rw [grp_nil fun x _ => tbl_none h x]
  rfl
end
end GR
end
section
set_option Elab.async false
set_option linter.all false
set_option maxRecDepth 100000
set_option maxHeartbeats 4000000
set_option autoImplicit false
namespace GR
open PySem PySem.Spec L2
open Evl (Ex)
local macro_rules | `(tactic| walk_at "go") => `(tactic| (repeat (first
  | with_reducible refine i_seq ?_
  | ((with_reducible apply i_var); focus rfl)
  | with_reducible refine i_c ?_
  | with_reducible refine i_cons ?_
  | with_reducible refine i_nil ?_
  | with_reducible refine i_asg ?_
  | with_reducible refine i_name ?_
  | with_reducible refine i_op ?_
  | with_reducible refine i_cb ?_
  | with_reducible refine i_fn ?_
  | with_reducible refine i_ret ?_
  | with_reducible refine i_retN ?_
  | with_reducible refine i_drop ?_
  | with_reducible refine i_next ?_
  | with_reducible refine i_cont ?_
  | with_reducible refine i_break ?_
  | with_reducible refine i_if ?_
  | with_reducible refine br_t ?_
  | with_reducible refine br_f ?_
  | with_reducible refine br_nt ?_
  | with_reducible refine io_t ?_
  | with_reducible refine io_f ?_
  | with_reducible refine io_nt ?_
  | with_reducible refine io_nf ?_
  | with_reducible refine br_nf ?_
  | with_reducible refine o_ip ?_
  | with_reducible refine i_test ?_
  | with_reducible refine i_tB ?_
  | with_reducible refine i_not ?_
  | with_reducible refine i_notV ?_
  | with_reducible refine i_andV ?_
  | with_reducible refine i_orV ?_
  | with_reducible refine i_and ?_
  | with_reducible refine i_or ?_
  | with_reducible refine i_dput ?_
  | with_reducible refine i_dget ?_
  | with_reducible refine i_din ?_
  | with_reducible refine i_dnotin ?_
  | with_reducible refine i_dnewK ?_
  | with_reducible refine i_dnewT ?_
  | with_reducible refine i_fld ?_
  | with_reducible refine i_sfld ?_
  | with_reducible refine i_bm0 ?_
  | with_reducible refine i_bm ?_
  | with_reducible refine i_sl ?_
  | with_reducible refine i_noPart ?_
  | with_reducible refine i_part ?_
  | with_reducible refine i_chain ?_
  | with_reducible refine i_methR ?_
  | with_reducible refine i_tup ?_
  | with_reducible refine i_lst ?_
  | with_reducible refine i_for ?_
  | with_reducible refine i_iList ?_
  | with_reducible refine i_iTup ?_
  | with_reducible refine i_iKeys ?_
  | with_reducible refine i_iRng1 ?_
  | with_reducible refine i_iRng2 ?_
  | with_reducible refine i_iStr ?_
  | with_reducible refine i_iEnum ?_
  | with_reducible refine i_iEnumT ?_
  | with_reducible refine i_lc ?_
  | with_reducible refine i_stD ?_
  | with_reducible refine i_iItemsT ?_
  | with_reducible refine i_dcw ?_
  | with_reducible refine i_dsetd ?_
  | with_reducible refine i_iVals ?_
  | with_reducible refine i_iItems ?_
  | with_reducible refine i_revL ?_
  | with_reducible refine i_yes ?_
  | with_reducible refine o_I0 ?_
  | with_reducible refine o_eqS ?_
  | with_reducible refine o_neS ?_
  | with_reducible refine o_eqI ?_
  | with_reducible refine o_neI ?_
  | with_reducible refine o_eqB ?_
  | with_reducible refine e_ref ?_
  | with_reducible refine e_str ?_
  | with_reducible refine e_int ?_
  | with_reducible refine e_bl ?_
  | with_reducible refine e_str1 ?_
  | with_reducible refine e_int1 ?_
  | with_reducible refine e_int2 ?_
  | with_reducible refine e_str2 ?_)))
open GM
theorem cut_any {α : Type} (xs : List α) (f : α → V) (i : Nat) : cutV (xs.map f) none (some (i : Nat)) = (xs.take i).map f := by
  unfold cutV
  have e : HT.sIx (xs.map f).length (xs.map f).length (some (i : Nat)) = min i xs.length := by
    rw [List.length_map, HT.sIx_nat]
  have e0 : HT.sIx (xs.map f).length 0 none = 0 := rfl
  rw [e, e0]
  simp only [Nat.sub_zero, List.drop_zero]
  rw [← List.map_take]
  congr 1
  by_cases h : i ≤ xs.length
  · rw [Nat.min_eq_left h]
  · rw [Nat.min_eq_right (by omega), List.take_of_length_le (Nat.le_refl _), List.take_of_length_le (by omega)]
/-- a def's proof, the def at hand -/
theorem funD_ok {P : Program} {w : World} {K : PySem.W.Frag} {mg : Str → Option Value} {base : Heap} {x : Str} {st : Stmt} {f : Addr} {fd : FuncData} {N ps : List Str} {k : Nat} {sp : Sp} (F : FunD K x x (defArgs st) (defBody st) (defScope st) [] [] f fd) (S : FnScope N ps (defScope st))
    (bind : ∀ (kV doc pm : Value) (an : Option Addr) (cdv ct : Value) (us : List Value), us.length = ps.length → bindArgs (PySem.W.fnOf x x (defArgs st) (defBody st) (defScope st) .none kV doc pm an cdv ct) ⟨us, []⟩ = pure (ps.zip us))
    (len : ∀ vs H Q E, sp vs H Q E → vs.length = ps.length)
    (hbody : ∀ (f : Addr) (cdv : Value) (A : Around) (outer : List Env) (s : Shared) (H : Hp) (vs : List V) (Q : VK) (E : XK), Room k (A.deeper (PyProof.Rows.envOfC x (defScope st) s.heap.objs.size f cdv)) → sp vs H Q E →
      ∃ t, PSs (cxOf CX0 P w K mg base N x (defScope st) f cdv A outer s H E).nox (defBody st) t ∧ t { nx := fun _ H' => Q .non H', rt := Q } (start N vs) H) : FnOk P w K mg base CX0 (k + 1) f fd ps sp := by
  exact F.ok S len fun cdv A outer s H vs Q E hr h => by
    obtain ⟨t, d, q⟩ := hbody f cdv A outer s H vs Q E hr h
    exact ⟨t, d.nox, q⟩
/-- what stays while the law asks -/
structure LawI (K : PySem.W.Frag) (H : Hp) (s a bk F due : Addr) (ns : List Int) (ps : List Str) (cl : List (List Str)) (row : Str → List Str) (fz : List (Addr × List Str)) (ks : List (List Str)) : Prop where
  sq : SqL K H s (ns.map V.int)
  pl : Ls H a ps
  hb : BookAt K H bk ps cl row
  ff : H F = some (.lst (fz.map fun z => V.ref z.1))
  fi : ∀ z ∈ fz, Ls H z.1 z.2
  du : LP (Ts H) H due (tsort ks)
theorem LawI.ex {K : PySem.W.Frag} {H H' : Hp} {s a bk F due : Addr} {ns : List Int} {ps : List Str} {cl : List (List Str)} {row : Str → List Str} {fz : List (Addr × List Str)} {ks : List (List Str)} (e : Ex H H') (I : LawI K H s a bk F due ns ps cl row fz ks) : LawI K H' s a bk F due ns ps cl row fz ks :=
  ⟨Evl.ex_l e I.sq, I.pl.ex e, I.hb.mono e, e _ _ I.ff, fun z hz => (I.fi z hz).ex e, lp_ex e (fun _ _ h => h.ex e) I.du⟩
section
variable {P : Program} {w : World} {K : PySem.W.Frag} {mg : Str → Option Value} {base : Heap} {k j : Nat}
abbrev n_law : List Str := ["_law_script", "_law_people_here", "_law_barred_here", "_law_leaks", "_law_book_here", "_law_found", "_law_told", "_law_due_here", "_law_start", "_law_takers", "_law_ring", "_law_block"]
theorem sc_law : FnScope n_law ["_law_script"] (defScope s_law) := ⟨rfl, rfl, rfl, by decide +kernel, rfl, by decide +kernel, by decide +kernel⟩
def spLaw (K : PySem.W.Frag) : Sp := fun vs H Q _ => ∃ (s : Addr) (ns : List Int), vs = [.ref s] ∧ SqL K H s (ns.map V.int) ∧ ∀ H', Q (.bl true) H'
theorem c_law (T : Txt K mg) {f0 : Addr} {fd0 : FuncData} (F0 : FunD K "law" "law" (defArgs s_law) (defBody s_law) (defScope s_law) [] [] f0 fd0) (c_law_world : Cal P w K mg base k "_law_world" (spWorld K)) (c_law_book : Cal P w K mg base k "_law_book" (spBook2 K)) (c_law_rows : Cal P w K mg base k "_law_rows" spLRows) (c_law_drawings : Cal P w K mg base k "_law_drawings" spDrawings) (c_parts : Cal P w K mg base k "parts" (spParts K)) (c_law_equal : Cal P w K mg base k "_law_equal" spEqL)
    (c_law_table : Cal P w K mg base k "_law_table" spLTable) (c_law_due : Cal P w K mg base k "_law_due" spDue) (c_law_draws : Cal P w K mg base k "_law_draws" spDraws) (c_law_cell : Cal P w K mg base k "_law_cell" (spCellA K)) (c_giving_rings : Cal P w K mg base k "giving_rings" (spGiving K)) (c_Book_party : Mth P w K mg base k (cB K) "party" (spBParty K))
    (c_law_as_dict : Cal P w K mg base k "_law_as_dict" spAsDict) (c_law_within : Cal P w K mg base k "_law_within" spWithin) (c_blocks : Cal P w K mg base k "blocks" (spBlocks K)) (c_fewest_rings : Cal P w K mg base k "fewest_rings" (spFewest K)) : FnOk P w K mg base CX0 (k + 1) f0 fd0 ["_law_script"] (spLaw K) := by
  refine funD_ok F0 sc_law (fun _ _ _ _ _ _ us hl => match us, hl with | [_], _ => rfl) (fun vs H Q E h => ?_) (fun f cdv A outer s H vs Q E hr h => ⟨_, (pss_cons (ps_asg (pe_fn c_law_world (hr.mono (by omega)) (pa_cons (pv 0) (pa_cons pe_int (pa_cons pe_int pa_nil)))) (pg_tupH 3 rfl (pgs_cons (pg_name (i := 1) sc_law.nd rfl (Or.inl rfl)) (pgs_cons (pg_name (i := 2) sc_law.nd rfl (Or.inl rfl)) (pgs_cons (pg_name (i := 3) sc_law.nd rfl (Or.inl rfl)) pgs_nil)))))
      (pss_cons (ps_set (i := 4) sc_law.nd rfl (Or.inl rfl) (pe_fn c_law_book (hr.mono (by omega)) (pa_cons (pv 1) (pa_cons (pv 2) (pa_cons (pv 3) pa_nil)))))
      (pss_cons (ps_set (i := 5) sc_law.nd rfl (Or.inl rfl) (pe_fn c_law_drawings (hr.mono (by omega)) (pa_cons (pv 1) (pa_cons (pe_fn c_law_rows (hr.mono (by omega)) (pa_cons (pv 1) (pa_cons (pv 2) (pa_cons (pv 3) pa_nil)))) pa_nil))))
      (pss_cons (ps_set (i := 6) sc_law.nd rfl (Or.inl rfl) (pe_fn c_parts (hr.mono (by omega)) (pa_cons (pv 4) pa_nil)))
      (pss_cons (ps_if (pt_cmpR op_eq (pe_callB crLen (by rfl) T.f_len b_len (pa_cons (pv 5) pa_nil)) pe_int (nomark _)) (pss_one (ps_ret (pe_fn c_law_equal (hr.mono (by omega)) (pa_cons (pv 6) (pa_cons (pe_lst pa_nil) pa_nil))))) pss_nil)
      (pss_cons (ps_set (i := 7) sc_law.nd rfl (Or.inl rfl) (pe_fn c_law_due (hr.mono (by omega)) (pa_cons (pv 1) (pa_cons (pe_fn c_law_table (hr.mono (by omega)) (pa_cons (pv 1) (pa_cons (pv 5) pa_nil))) pa_nil))))
      (pss_cons (ps_if (pt_not (pt_val (pe_fn c_law_equal (hr.mono (by omega)) (pa_cons (pv 6) (pa_cons (pv 7) pa_nil))))) (pss_one (ps_ret pe_bl)) pss_nil)
      (pss_cons (ps_set (i := 8) sc_law.nd rfl (Or.inl rfl) (pe_op op_mod (pe_callTy call_int1 (by rfl) T.f_int b_int (pa_cons (pe_ix ixL (pe_fn c_law_draws (hr.mono (by omega)) (pa_cons (pe_fn c_law_cell (hr.mono (by omega)) (pa_cons (pv 0) (pa_cons pe_int pa_nil))) (pa_cons pe_int pa_nil))) pe_int (fun _ _ => rfl)) pa_nil)) (pe_callB crLen (by rfl) T.f_len b_len (pa_cons (pv 5) pa_nil))))
      (pss_cons (ps_for PassesOwn.never rfl (pi_list (pe_slice slL (pe_op op_cat (pe_slice slL (pv 5) (po_some (pv 8)) po_none) (pe_slice slL (pv 5) po_none (po_some (pv 8)))) po_none (po_some pe_int))) (pg_name (i := 9) sc_law.nd rfl (Or.inl rfl)) (pss_one (ps_for PassesOwn.never rfl (pi_list (pe_fn c_giving_rings (hr.mono (by omega)) (pa_cons (pe_mth0 (pv 4) T.cl_Book c_Book_party (hr.mono (by omega))) (pa_cons (pe_fn c_law_as_dict (hr.mono (by omega)) (pa_cons (pv 1) (pa_cons (pv 9) pa_nil))) pa_nil)))) (pg_name (i := 10) sc_law.nd rfl (Or.inl rfl)) (pss_one (ps_if (pt_not (pt_val (pe_fn c_law_within (hr.mono (by omega)) (pa_cons (pv 10) (pa_cons (pv 7) pa_nil))))) (pss_one (ps_ret pe_bl)) pss_nil)))))
      (pss_cons (ps_for PassesOwn.never rfl (pi_list (pe_fn c_blocks (hr.mono (by omega)) (pa_cons (pv 4) pa_nil))) (pg_name (i := 11) sc_law.nd rfl (Or.inl rfl)) (pss_one (ps_if (PW.pt (pw_or (pt_not (pt_val (pe_fn c_law_within (hr.mono (by omega)) (pa_cons (pe_ix ixT (pv 11) pe_int (fun _ _ => rfl)) (pa_cons (pv 7) pa_nil))))) (pw_or1 (pt_not (pt_val (pe_fn c_law_within (hr.mono (by omega)) (pa_cons (pe_ix ixT (pv 11) pe_int (fun _ _ => rfl)) (pa_cons (pv 7) pa_nil)))))))) (pss_one (ps_ret pe_bl)) pss_nil)))
      (pss_one (ps_ret (pe_cmpR op_le (pe_callB crLen (by rfl) T.f_len b_len (pa_cons (pv 7) pa_nil)) (pe_ix ixT (pe_fn c_fewest_rings (hr.mono (by omega)) (pa_cons (pv 4) pa_nil)) pe_int (fun _ _ => rfl)) (nomark _)))))))))))))), ?_⟩)
  · obtain ⟨_, _, rfl, _⟩ := h; rfl
  · obtain ⟨s, ns, rfl, hs, q⟩ := h
    walk_at "go"
    refine ⟨s, ns, rfl, hs, fun p H1 a b c ps prs ls e1 hp wa => ?_⟩
    refine i_gT3 hp ?_
    walk_at "go"
    refine ⟨a, b, c, ps, prs, ls, rfl, wa, fun bk H2 e2 hbk => ?_⟩
    walk_at "go"
    refine ⟨a, b, c, ps, prs, ls, rfl, wa.ex e2, fun rw0 H3 e3 hrw => ?_⟩
    have nd := wa.nd
    have l7 := wa.seven
    have hrow : RowsAt H3 rw0 ps (rowOf ps (prs.foldl addk []) ls) := hrw.congr fun x hx => row_eq hx
    have ok : RowsOk ps (rowOf ps (prs.foldl addk []) ls) := rowOf_ok nd l7
    have hfil : ∀ g, rowOf ps (prs.foldl addk []) ls g = (ssort ps).filter fun t => allLet ls g t && mayB ps (prs.foldl addk []) g t := fun g => rowOf_filter
    have hmay : ∀ {g t}, t ∈ rowOf ps (prs.foldl addk []) ls g → mayB ps (prs.foldl addk []) g t = true := fun h => rowOf_may h
    have hne : ∀ {g t}, t ∈ rowOf ps (prs.foldl addk []) ls g → t ≠ g := fun h => rowOf_ne h
    have ne : ps ≠ [] := fun e => by have := wa.two; rw [e] at this; exact absurd this (by decide)
    generalize rowOf ps (prs.foldl addk []) ls = row at hbk hrow ok hfil hmay hne
    generalize prs.foldl addk [] = cl at hbk hfil hmay
    walk_at "go"
    refine ⟨a, rw0, ps, row, rfl, wa.pl.ex (e2.trans e3), hrow, ok, fun F H4 e4 hF => ?_⟩
    walk_at "go"
    refine ⟨bk, ps, _, row, rfl, hbk.mono (e3.trans e4), ok, ne, fun tp H5 gs e5 hgs pvv => ?_⟩
    walk_at "go"
    obtain ⟨fz, hf1, hf2, hf3⟩ := id hF
    refine ⟨F, _, rfl, .inl (e5 _ _ hf1), ?_⟩
    rw [List.length_map]
    walk_at "go"
    by_cases h0 : fz = []
    · subst h0
      rw [decide_eq_true (show ((([] : List (Addr × List Str)).length : Nat) : Int) = 0 from rfl)]
      walk_at "go"
      refine ⟨by show 0 ≤ sizeLine; decide, fun z hz => ?_⟩
      have eg : gs = [] := pvv.1 (alone (drs_none nd hf3.symm))
      subst eg
      exact ⟨tp, z, [], rfl, lp_ex (Ex.new hz) (fun _ _ h => h.ex (Ex.new hz)) hgs, ⟨[], upd_same, (fun z hz => nomatch hz), rfl⟩, by decide, (fun g hg => nomatch hg), fun H7 e7 => q _⟩
    · have fl : 0 < fz.length := List.length_pos_iff.mpr h0
      have fl7 : fz.length ≤ 823543 := by
        have h1 := drs_len (row := row) (as := ps) rfl fun x hx => ok.rlen hx
        rw [← hf3, List.length_map] at h1
        exact Nat.le_trans h1 (Nat.pow_le_pow_right (n := 7) (by decide) l7)
      rw [decide_eq_false (by omega)]
      walk_at "go"
      have e15 := ((e2.trans e3).trans e4).trans e5
      have dlen : ∀ ds ∈ drs row ps, ds.length = ps.length := fun ds h => drs_tk rfl ds h
      refine ⟨a, F, ps, drs row ps, rfl, wa.pl.ex e15, lp_ex e5 (fun _ _ h => h.ex e5) hF, nd, dlen, l7, by rw [← hf3, List.length_map]; exact fl7, fun t H6 e6 ht => ?_⟩
      walk_at "go"
      refine ⟨a, t, ps, tbl ps row, rfl, wa.pl.ex (e15.trans e6), ht.congr fun x hx => tab_eq nd hx (hfil x), nd, l7, wa.nm, tbl_dom ok, fun due H7 ks e7 hdue told => ?_⟩
      walk_at "go"
      obtain ⟨z0, hz0⟩ : ∃ z0, z0 ∈ fz := List.exists_mem_of_length_pos fl
      have draws : ∀ z ∈ fz, IsDraw ps row (asd ps z.2) := fun z hz => drs_draw nd (by rw [← hf3]; exact List.mem_map_of_mem hz)
      have D0 := draws z0 hz0
      have D0n : ∀ x ∈ ps, asd ps z0.2 x ≠ x := fun x hx => hne (D0.inn x hx)
      have gsE : gs = tsort ks := by
        obtain ⟨ks', told', e⟩ := pvv.2 (big ok D0 D0n)
        rw [e]
        exact tsort_perm (told'.perm told)
      subst gsE
      have e17 := e15.trans (e6.trans e7)
      have I7 : LawI K H7 s a bk F due ns ps cl row fz ks := ⟨Evl.ex_l (e1.trans e17) hs, wa.pl.ex e17, hbk.mono (((e3.trans e4).trans e5).trans (e6.trans e7)), (e5.trans (e6.trans e7)) _ _ hf1, fun z hz => (hf2 z hz).ex (e5.trans (e6.trans e7)), hdue⟩
      have kl : ks.length ≤ 7 := Nat.le_trans told.len l7
      have tl : (tsort ks).length ≤ 7 := by show (ks.mergeSort tLe).length ≤ 7; rw [(List.mergeSort_perm ks tLe).length_eq]; exact kl
      have hG := (grp_ok (tbl_dom ok)).1
      have g7 : ∀ g ∈ tsort ks, g.length ≤ 7 := fun g hg => by
        obtain ⟨x, hx, rfl⟩ := told.of g (tsort_mem.mp hg)
        rw [(ssort_perm _).length_eq]
        exact Nat.le_trans ((hG.nd x hx).length_le_of_subset fun y hy => (hG.same x hx y hy).1) l7
      refine ⟨tp, due, tsort ks, rfl, lp_ex (e6.trans e7) (fun _ _ h => h.ex (e6.trans e7)) hgs, hdue, tl, g7, fun H8 e8 => ?_⟩
      have I8 := I7.ex e8
      clear I7 hdue hgs hF hf1 hf2 e17 e15
      walk_at "go"
      refine ⟨s, ns, 9, rfl, I8.sq, fun c9 => ?_⟩
      walk_at "go"
      refine ⟨c9, 1, rfl, by omega, fun d H9 ds e9 hd1 hd2 hd3 => ?_⟩
      have I9 := I8.ex e9
      walk_at "go"
      refine i_dsx (i := 0) hd1 rfl (by omega) fun n0 hn0 => ?_
      walk_at "go"
      refine ⟨F, _, rfl, .inl I9.ff, ?_⟩
      rw [List.length_map]
      walk_at "go"
      refine o_I (show (0 : Int) < _ by omega) ?_
      walk_at "go"
      obtain ⟨st, hst, hst2⟩ : ∃ st : Nat, (n0 : Int) % (fz.length : Int) = (st : Int) ∧ st < fz.length := ⟨n0 % fz.length, by omega, Nat.mod_lt _ fl⟩
      rw [hst]
      refine i_slD (i := st) I9.ff rfl (by rw [List.length_map]; omega) fun p1 hp1 => ?_
      have e10 : Ex H9 (upd H9 p1 (.lst ((fz.map fun z => V.ref z.1).drop st))) := Ex.new hp1
      have hp1' : upd H9 p1 (.lst ((fz.map fun z => V.ref z.1).drop st)) p1 = _ := upd_same
      generalize upd H9 p1 (.lst ((fz.map fun z => V.ref z.1).drop st)) = H10 at e10 hp1' ⊢
      have I10 := I9.ex e10
      walk_at "go"
      refine i_slT (i := st) I10.ff rfl (by rw [List.length_map]; omega) fun p2 hp2 => ?_
      have e11 : Ex H10 (upd H10 p2 (.lst ((fz.map fun z => V.ref z.1).take st))) := Ex.new hp2
      have hp2' : upd H10 p2 (.lst ((fz.map fun z => V.ref z.1).take st)) p2 = _ := upd_same
      generalize upd H10 p2 (.lst ((fz.map fun z => V.ref z.1).take st)) = H11 at e11 hp2' ⊢
      have I11 := I10.ex e11
      walk_at "go"
      refine ⟨p1, p2, _, _, rfl, rfl, e11 _ _ hp1', hp2', by rw [List.length_drop, List.length_take, List.length_map, sizeLine_eq]; omega, fun p3 hp3 => ?_⟩
      rw [← List.map_drop, ← List.map_take, ← List.map_append]
      have e12 : Ex H11 (upd H11 p3 (.lst ((fz.drop st ++ fz.take st).map fun z => V.ref z.1))) := Ex.new hp3
      have hp3' : upd H11 p3 (.lst ((fz.drop st ++ fz.take st).map fun z => V.ref z.1)) p3 = _ := upd_same
      generalize upd H11 p3 (.lst ((fz.drop st ++ fz.take st).map fun z => V.ref z.1)) = H12 at e12 hp3' ⊢
      have I12 := I11.ex e12
      walk_at "go"
      refine ⟨p3, _, rfl, hp3', fun p4 hp4 => ?_⟩
      rw [show (12 : Int) = ((12 : Nat) : Int) from rfl, cut_any]
      have hsub : ∀ z ∈ (fz.drop st ++ fz.take st).take 12, z ∈ fz := fun z hz => by
        rcases List.mem_append.mp (List.mem_of_mem_take hz) with h | h
        · exact List.mem_of_mem_drop h
        · exact List.mem_of_mem_take h
      generalize (fz.drop st ++ fz.take st).take 12 = xs at hsub hp4 ⊢
      have e13 : Ex H12 (upd H12 p4 (.lst (xs.map fun z => V.ref z.1))) := Ex.new hp4
      have hp4' : upd H12 p4 (.lst (xs.map fun z => V.ref z.1)) p4 = _ := upd_same
      generalize upd H12 p4 (.lst (xs.map fun z => V.ref z.1)) = H13 at e13 hp4' ⊢
      have I13 := I12.ex e13
      walk_at "go"
      have within : ∀ {xs : List Str}, (∃ b ∈ ps, ∀ x ∈ xs, x ∈ grp ps (tbl ps row) b) → decide (∃ g ∈ tsort ks, ∀ x ∈ xs, x ∈ g) = true := fun h => decide_eq_true (within_of ok told h)
      refine forL hp4' (fun i σ H14 => (∃ o9 o10, σ = [some (.ref s), some (.ref a), some (.ref b), some (.ref c), some (.ref bk), some (.ref F), some (.ref tp), some (.ref due), some (.int (st : Nat)), o9, o10, none]) ∧ Ex H13 H14) ⟨⟨_, _, rfl⟩, Ex.refl _⟩ (fun i σ H14 _ z => SqL.of (z.2 _ _ hp4')) (fun i v σ H14 hv z => ?_) (fun σ H14 z => ?_)
      · obtain ⟨⟨o9, o10, rfl⟩, e14⟩ := z
        obtain ⟨z, hz, rfl⟩ := map_get hv
        have hzf := hsub z (List.mem_of_getElem? hz)
        have I14 := I13.ex e14
        obtain ⟨bdx, bp, bl, br, hbx, hp0, _⟩ := I14.hb.ex
        have D := draws z hzf
        have zl : z.2.length = ps.length := dlen _ (by rw [← hf3]; exact List.mem_map_of_mem hzf)
        walk_at "go"
        refine ⟨bk, bdx, _, rfl, hbx, rfl, ?_⟩
        walk_at "go"
        refine ⟨bk, ps, cl, row, rfl, I14.hb, fun pp hpp => ?_⟩
        walk_at "go"
        refine ⟨a, z.1, ps, z.2, rfl, I14.pl, I14.fi z hzf, nd, zl, l7, fun dp H15 e15 hdp => ?_⟩
        walk_at "go"
        refine ⟨pp, dp, ps, cl, asd ps z.2, rfl, hpp.mono e15, hdp, nd, l7, fun g hg => ⟨hmay (D.inn g hg), ok.dom g hg _ (D.inn g hg)⟩, fun g hg g' hg' e => D.inj g hg g' hg' e, fun rg H16 rings e16 hrg orbs => ?_⟩
        have e46 := (e14.trans e15).trans e16
        have I16 := (I14.ex e15).ex e16
        obtain ⟨rz, hr1, hr2, rfl⟩ := hrg
        walk_at "go"
        refine forL hr1 (fun i σ H17 => (∃ o10, σ = [some (.ref s), some (.ref a), some (.ref b), some (.ref c), some (.ref bk), some (.ref F), some (.ref tp), some (.ref due), some (.int (st : Nat)), some (.ref z.1), o10, none]) ∧ Ex H16 H17) ⟨⟨_, rfl⟩, Ex.refl _⟩ (fun i σ H17 _ z => SqL.of (z.2 _ _ hr1)) (fun i v σ H17 hv y => ?_) (fun σ H17 y => ?_)
        · obtain ⟨⟨o10, rfl⟩, e17⟩ := y
          obtain ⟨r, hr, rfl⟩ := map_get hv
          have hrm := List.mem_of_getElem? hr
          have orr := orbs _ (List.mem_map_of_mem hrm)
          walk_at "go"
          refine ⟨r.1, due, r.2, tsort ks, rfl, (hr2 r hrm).ex e17, by have := orr.2; omega, (I16.ex e17).du, tl, fun H18 e18 => ?_⟩
          rw [within (orb_grp ok D orr.1)]
          walk_at "go"
          exact ⟨⟨_, rfl⟩, e17.trans e18⟩
        · obtain ⟨⟨o10, rfl⟩, e17⟩ := y
          exact ⟨⟨_, _, rfl⟩, e46.trans e17⟩
      · obtain ⟨⟨o9, o10, rfl⟩, e14⟩ := z
        have I14 := I13.ex e14
        walk_at "go"
        refine ⟨bk, ps, cl, row, rfl, I14.hb, ok, fun bp H15 bs e15 hbs => ?_⟩
        obtain ⟨bz, hb1, hb2, rfl⟩ := hbs
        have I15 := I14.ex e15
        walk_at "go"
        refine forL hb1 (fun i σ H16 => (∃ o11, σ = [some (.ref s), some (.ref a), some (.ref b), some (.ref c), some (.ref bk), some (.ref F), some (.ref tp), some (.ref due), some (.int (st : Nat)), o9, o10, o11]) ∧ Ex H15 H16) ⟨⟨_, rfl⟩, Ex.refl _⟩ (fun i σ H16 _ z => SqL.of (z.2 _ _ hb1)) (fun i v σ H16 hv y => ?_) (fun σ H16 y => ?_)
        · obtain ⟨⟨o11, rfl⟩, e16⟩ := y
          obtain ⟨bb, hbb, rfl⟩ := map_get hv
          obtain ⟨ga, ta, stt, hq1, hq2, hq3, hq4, hq5, hq6, hq7⟩ := (hb2 bb (List.mem_of_getElem? hbb)).ex e16
          have I16 := I15.ex e16
          walk_at "go"
          refine i_ixT hq1 rfl ?_
          walk_at "go"
          refine ⟨ga, due, bb.2.1, tsort ks, rfl, hq2, by omega, I16.du, tl, fun H17 e17 => ?_⟩
          rw [within (block_grp ok ne hq4)]
          walk_at "go"
          refine i_ixT (e17 _ _ hq1) rfl ?_
          walk_at "go"
          refine ⟨ta, due, bb.2.2, tsort ks, rfl, hq3.ex e17, by omega, (I16.ex e17).du, tl, fun H18 e18 => ?_⟩
          rw [within (block_grp ok ne hq5)]
          walk_at "go"
          exact ⟨⟨_, rfl⟩, (e16.trans e17).trans e18⟩
        · obtain ⟨⟨o11, rfl⟩, e16⟩ := y
          have I16 := I15.ex e16
          obtain ⟨dz, hdu, _, hdz⟩ := I16.du
          walk_at "go"
          refine ⟨due, _, rfl, .inl hdu, ?_⟩
          walk_at "go"
          refine ⟨bk, ps, cl, row, rfl, I16.hb, ok, ⟨_, D0, D0n⟩, fun fp H17 n v e17 hfp R => ?_⟩
          walk_at "go"
          refine i_ixT hfp rfl ?_
          walk_at "go"
          have hn := few ok told R
          have dl : dz.length = ks.length := by rw [← (List.mergeSort_perm ks tLe).length_eq, ← List.length_map (f := Prod.snd), hdz]; rfl
          rw [List.length_map, dl, decide_eq_true (by omega)]
          exact q _
end
end GR
end
section
set_option Elab.async false
set_option linter.all false
set_option maxRecDepth 100000
set_option maxHeartbeats 4000000
set_option autoImplicit false
/-! All promises joined; the head. -/
namespace GR
open PySem PySem.Spec PyProof.Rows L2
section
variable {P : Program} {w : World} {K : PySem.W.Frag} {mg : Str → Option Value} {base : Heap} {k j : Nat} {x m : Str} {C : Addr} {sp : Sp}
theorem Cal.mono (c : Cal P w K mg base k x sp) (h : k ≤ j) : Cal P w K mg base j x sp := by
  obtain ⟨f, F, a, b⟩ := c.ex
  exact ⟨f, fun A stk s H vs us Q E hr => F A stk s H vs us Q E (hr.mono h), a, b⟩
theorem Mth.mono (c : Mth P w K mg base k C m sp) (h : k ≤ j) : Mth P w K mg base j C m sp := by
  obtain ⟨f, F, a⟩ := c.ex
  exact ⟨f, fun A stk s H vs us Q E hr => F A stk s H vs us Q E (hr.mono h), a⟩
theorem Ini.mono (c : Ini P w K mg base k C sp) (h : k ≤ j) : Ini P w K mg base j C sp := by
  obtain ⟨f, fd, ps, F, b, a⟩ := c.ex
  exact ⟨f, fd, ps, F.mono h, b, a⟩
theorem all_law (T : Txt K mg) {f0 : Addr} {fd0 : FuncData} (F0 : FunD K "law" "law" (defArgs s_law) (defBody s_law) (defScope s_law) [] [] f0 fd0) : FnOk P w K mg base CX0 12 f0 fd0 ["_law_script"] (spLaw K) := by
  have c_lowest_bit : Cal P w K mg base 1 "lowest_bit" spLow := c_lowest_bit T
  have c_bin_count : Cal P w K mg base 1 "bin_count" spBits := c_bin_count T
  have c_is_name : Cal P w K mg base 1 "is_name" spIsName := c_is_name T
  have c_is_person : Cal P w K mg base 1 "is_person" spIsPerson := c_is_person T
  have c_are_different : Cal P w K mg base 2 "are_different" spAreDiff := c_are_different (T := T) (c_is_person)
  have c_is_pair : Cal P w K mg base 3 "is_pair" spIsPair := c_is_pair T (c_are_different)
  have c_is_lot : Cal P w K mg base 3 "is_lot" spIsLot := c_is_lot T (c_are_different)
  have c_check_name : Cal P w K mg base 2 "check_name" spCheckName := c_check_name T (c_is_person)
  have c_check_people : Cal P w K mg base 2 "check_people" spCheckPeople := c_check_people T (c_is_name)
  have c_check_pairs : Cal P w K mg base 4 "check_pairs" spCheckPairs := c_check_pairs T (c_is_pair)
  have c_is_leak : Cal P w K mg base 4 "is_leak" spIsLeak := c_is_leak T (c_is_pair) (c_is_person.mono (by decide)) (c_is_lot)
  have c_lets : Cal P w K mg base 1 "lets" spLets := c_lets T
  have c_all_let : Cal P w K mg base 2 "all_let" spAllLet := c_all_let T (c_lets)
  have c_Party_people : Mth P w K mg base 1 (cP K) "people" (spPeople K) := c_Party_people T
  have c_Party_len : Mth P w K mg base 1 (cP K) "__len__" (spPLen K) := c_Party_len T
  have c_Party_contains : Mth P w K mg base 4 (cP K) "__contains__" (spPIn K) := c_Party_contains T (c_is_pair)
  have c_Party_may : Mth P w K mg base 5 (cP K) "may" (spMay K) := c_Party_may T (c_check_name.mono (by decide)) (c_Party_contains)
  have c_Party_init : Ini P w K mg base 5 (cP K) (spPInit K) := c_Party_init T (c_check_people.mono (by decide)) (c_check_pairs)
  have c_Book_party : Mth P w K mg base 1 (cB K) "party" (spBParty K) := c_Book_party T
  have c_Book_rows : Mth P w K mg base 1 (cB K) "rows" (spBRows K) := c_Book_rows T
  have c_Book_init : Ini P w K mg base 6 (cB K) (spBInit K) := c_Book_init T (c_is_leak.mono (by decide)) (c_all_let.mono (by decide)) (c_Party_people.mono (by decide)) (c_Party_may)
  have c_is_drawing : Cal P w K mg base 6 "is_drawing" (spIsDrawing K) := c_is_drawing T (c_Party_contains) (c_Party_len.mono (by decide)) (c_Party_people.mono (by decide))
  have c_seek : Cal P w K mg base 8 "seek" (spSeek 7) := c_seek T 7
  have c_owners_of : Cal P w K mg base 1 "owners_of" spOwners := c_owners_of T
  have c_reached : Cal P w K mg base 1 "reached" spReached := c_reached T
  have c_paired : Cal P w K mg base 9 "paired" spPaired := c_paired T (c_seek)
  have c_table_rows : Cal P w K mg base 10 "table_rows" spTable := c_table_rows T (c_paired) (c_owners_of.mono (by decide)) (c_reached.mono (by decide))
  have c_part_from : Cal P w K mg base 1 "part_from" spPartFrom := c_part_from T
  have c_parts_of : Cal P w K mg base 2 "parts_of" spPartsOf := c_parts_of T (c_part_from)
  have c_blocks : Cal P w K mg base 11 "blocks" (spBlocks K) := c_blocks T (c_Book_rows.mono (by decide)) (c_table_rows) (c_parts_of.mono (by decide))
  have c_cycles_of : Cal P w K mg base 1 "cycles_of" spCycles := c_cycles_of T
  have c_giving_rings : Cal P w K mg base 7 "giving_rings" (spGiving K) := c_giving_rings T (c_is_drawing) (c_cycles_of.mono (by decide))
  have c_check_size : Cal P w K mg base 3 "check_size" (spCheckSize K) := c_check_size T (c_Party_len) (c_Book_party)
  have c_better : Cal P w K mg base 1 "better" spBetter := c_better T
  have c_in_party_order : Cal P w K mg base 2 "in_party_order" (spInOrder K) := c_in_party_order T (c_Party_people)
  have c_drawn_by : Cal P w K mg base 1 "drawn_by" spDrawnBy := c_drawn_by T
  have c_by_lowest : Cal P w K mg base 2 "by_lowest" spByLowest := c_by_lowest T (c_lowest_bit)
  have c_ring_masks : Cal P w K mg base 1 "ring_masks" spRingMasks := c_ring_masks T
  have c_best_rings : Cal P w K mg base 3 "best_rings" (spBest K) := c_best_rings T (c_Book_rows.mono (by decide)) (c_ring_masks.mono (by decide)) (c_by_lowest) (c_bin_count.mono (by decide)) (c_lowest_bit.mono (by decide)) (c_better.mono (by decide))
  have c_numbered : Cal P w K mg base 4 "numbered" (spNumbered K) := c_numbered T (c_check_size) (c_best_rings) (c_Book_party.mono (by decide)) (c_drawn_by.mono (by decide)) (c_in_party_order.mono (by decide))
  have c_fewest_rings : Cal P w K mg base 5 "fewest_rings" (spFewest K) := c_fewest_rings T (c_numbered)
  have c_parts : Cal P w K mg base 11 "parts" (spParts K) := c_parts T (c_Book_rows.mono (by decide)) (c_table_rows) (c_Book_party.mono (by decide)) (c_Party_people.mono (by decide))
  have c_law_cell : Cal P w K mg base 1 "_law_cell" (spCellA K) := c_law_cell T
  have c_law_draws : Cal P w K mg base 1 "_law_draws" spDraws := c_law_draws T
  have c_law_people : Cal P w K mg base 2 "_law_people" spFolk := c_law_people T (c_law_draws)
  have c_law_barred : Cal P w K mg base 2 "_law_barred" spBarred := c_law_barred T (c_law_draws)
  have c_law_hidden : Cal P w K mg base 2 "_law_hidden" spHidden := c_law_hidden T (c_law_draws)
  have c_law_lot : Cal P w K mg base 1 "_law_lot" spLot := c_law_lot T
  have c_law_leak : Cal P w K mg base 2 "_law_leak" spLeak := c_law_leak T (c_law_draws) (c_law_lot)
  have c_law_lets : Cal P w K mg base 1 "_law_lets" spLets := c_law_lets T
  have c_law_kept : Cal P w K mg base 2 "_law_kept" spKept := c_law_kept T (c_law_lets)
  have c_law_mended : Cal P w K mg base 1 "_law_mended" spMended := c_law_mended T
  have c_law_world : Cal P w K mg base 3 "_law_world" (spWorld K) := c_law_world T (c_law_cell.mono (by decide)) (c_law_draws.mono (by decide)) (c_law_people) (c_law_barred) (c_law_leak) (c_law_hidden) (c_law_kept) (c_law_mended.mono (by decide))
  have c_law_rows : Cal P w K mg base 2 "_law_rows" spLRows := c_law_rows T (c_law_lets)
  have c_law_drawings : Cal P w K mg base 1 "_law_drawings" spDrawings := c_law_drawings T
  have c_law_as_dict : Cal P w K mg base 1 "_law_as_dict" spAsDict := c_law_as_dict T
  have c_law_table : Cal P w K mg base 1 "_law_table" spLTable := c_law_table T
  have c_law_within : Cal P w K mg base 1 "_law_within" spWithin := c_law_within T
  have c_law_book : Cal P w K mg base 8 "_law_book" (spBook2 K) := c_law_book T (c_Book_init) (c_Party_init.mono (by decide))
  have c_law_equal : Cal P w K mg base 3 "_law_equal" spEqL := c_law_equal T
  have c_law_due : Cal P w K mg base 1 "_law_due" spDue := c_law_due T
  exact c_law T F0 (c_law_world.mono (by decide)) (c_law_book.mono (by decide)) (c_law_rows.mono (by decide)) (c_law_drawings.mono (by decide)) (c_parts) (c_law_equal.mono (by decide)) (c_law_table.mono (by decide)) (c_law_due.mono (by decide)) (c_law_draws.mono (by decide)) (c_law_cell.mono (by decide)) (c_giving_rings.mono (by decide)) (c_Book_party.mono (by decide)) (c_law_as_dict.mono (by decide)) (c_law_within.mono (by decide)) (c_blocks) (c_fewest_rings.mono (by decide))
theorem facts {h : Heap} {f : Addr} (X : K.In h) (G : h.Ns mainGlobals mg) (hfa : mg ("law" : Str) = some (.ref f)) (c : He.SaysD fa fn K) :
    ∃ fd : FuncData, (∀ (s : Shared) (v : Value), BindsTo s fd ⟨[v], []⟩ [("_law_script", v)]) ∧ ∀ base : Heap, K.In base → base.Ns mainGlobals mg → FnOk P w K mg base CX0 12 f fd ["_law_script"] (spLaw K) := by
  obtain ⟨fd, F⟩ := c.def_ 61 (d := d_law) rfl
  have e := hfa.symm.trans (He.glo_ok X G (c.fact 65 (f := .glo "law") rfl))
  cases e
  have b := FunD.bindsA (ps := ["_law_script"]) F fun _ _ _ _ _ _ us hl => match us, hl with | [_], _ => rfl
  exact ⟨fd, fun s v => b s [v] rfl, fun base _ _ => all_law ⟨h, X, G, c⟩ F⟩
end
end GR
open PySem PySem.W PySem.Calls PyProof.Rows
set_option maxRecDepth 100000 in
set_option maxHeartbeats 0 in
theorem PySem.Challenge.cw_giftrings_k67_whole_parts_of_people_holds : PySem.Challenge.rw_giftrings_k67_whole_parts_of_people.Holds := by
  refine GR.head_holds ?_
  refine L2.walk_ofE (l := PySem.Challenge.rw_giftrings_k67_whole_parts_of_people) (n := 63) (k := 12) (x := "_law_script") (CX := L2.CX0) rfl (by decide) GR.law_args ⟨rfl, by decide, by decide⟩ ?F (fun _ _ _ _ z => z)
  intro w mg fa h Y G hmg0
  obtain ⟨K, KX, c⟩ := Y
  have hmg : mg ("law" : PySem.Str) = some (.ref fa) := by
    rw [← GR.law_name]
    exact hmg0
  obtain ⟨fd, hb, hF⟩ := GR.facts (P := (PySem.Challenge.rw_giftrings_k67_whole_parts_of_people).prog) (w := w) KX G hmg c
  exact ⟨K, fd, GR.spLaw K, KX, hb, fun H a ns hl _ hS => ⟨a, ns, rfl, hS, fun _ => rfl⟩, hF⟩
end
