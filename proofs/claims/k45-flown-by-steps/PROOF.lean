import PyProof.Rows.All
import Wide.All
import OpenK.AllK
import Wide.FinOn
import HandS.ForMost
import HandS.Deep
import HandS.IsInst
import HandS.Walk
import HandS.Wide
import HandS.Defaults
import HandS.ClsMeth
import KE.DataMinMax
import PySem.Challenge.RW_bouncewise_k45_flown_by_steps
import KE.KStateDown
import HandS.Head0
import HandS.Head1
import HandS.Head2
import HandS.HeadEnd
import HandS.HeadHook1
import HandS.HeadHook2
set_option Elab.async false
set_option linter.all false
section
set_option Elab.async false
set_option linter.all false
set_option maxRecDepth 100000
set_option maxHeartbeats 4100000
/-! Flights in rooms: flown against steps of a flight. The text by places, own rules, readings step by step. -/
namespace Bw
open PySem L2
/-! ### the text by places -/
def top (i : Nat) : Stmt := PySem.Challenge.pw_bouncewise_k45_flown_by_steps.main.body.getD i (.Pass ⟨0, 0, 0, 0⟩)
abbrev s_wall : Stmt := top 0
abbrev s_Overlap_init : Stmt := inClass (top 6) 0
abbrev s_OnWall_init : Stmt := inClass (top 7) 0
abbrev s_divisor : Stmt := top 10
abbrev s_point_of : Stmt := top 11
abbrev s_time_of : Stmt := top 12
abbrev s_sooner : Stmt := top 13
abbrev s_added : Stmt := top 14
abbrev s_spot_at : Stmt := top 15
abbrev s_time_along : Stmt := top 17
abbrev s_end_ahead : Stmt := top 18
abbrev s_time_to : Stmt := top 19
abbrev s_first_met : Stmt := top 20
abbrev s_Flight_init : Stmt := inClass (top 22) 0
abbrev s_Flight_step : Stmt := inClass (top 22) 1
abbrev s_Flight_hit_at : Stmt := inClass (top 22) 2
abbrev s_Flight_outcome : Stmt := inClass (top 22) 3
abbrev s_Flight_standing : Stmt := inClass (top 22) 4
abbrev s_Flight_counts : Stmt := inClass (top 22) 5
abbrev s_flown : Stmt := top 23
abbrev s_are_upon : Stmt := top 26
abbrev s_Room_init : Stmt := inClass (top 27) 0
abbrev s_Room_walls : Stmt := inClass (top 27) 1
abbrev s_Room_on : Stmt := inClass (top 27) 2
abbrev s_Room_is_corner : Stmt := inClass (top 27) 3
abbrev s_Room_box : Stmt := inClass (top 27) 4
abbrev s_mirrored : Stmt := top 32
abbrev s_line_between : Stmt := top 35
abbrev s_is_far : Stmt := top 36
abbrev s_Wall_init : Stmt := inClass (top 37) 0
abbrev s_Wall_line : Stmt := inClass (top 37) 1
abbrev s_Wall_holds : Stmt := inClass (top 37) 2
abbrev s_Wall_ends_at : Stmt := inClass (top 37) 3
abbrev s_Wall_image : Stmt := inClass (top 37) 4
abbrev s_Wall_behind : Stmt := inClass (top 37) 5
abbrev s_Wall_turns : Stmt := inClass (top 37) 6
abbrev s_Wall_every : Stmt := inClass (top 37) 7
abbrev s_Wall_word : Stmt := inClass (top 37) 8
abbrev s_Mirror_word : Stmt := inClass (top 38) 0
abbrev s_Glass_behind : Stmt := inClass (top 39) 0
abbrev s_Glass_turns : Stmt := inClass (top 39) 1
abbrev s_Glass_word : Stmt := inClass (top 39) 2
abbrev s_Hole_behind : Stmt := inClass (top 40) 0
abbrev s_Hole_turns : Stmt := inClass (top 40) 1
abbrev s_Hole_word : Stmt := inClass (top 40) 2
abbrev s_Door_init : Stmt := inClass (top 41) 0
abbrev s_Door_behind : Stmt := inClass (top 41) 1
abbrev s_Door_every : Stmt := inClass (top 41) 2
abbrev s_Door_word : Stmt := inClass (top 41) 3
abbrev s_law_cell_at : Stmt := top 43
abbrev s_law_whole : Stmt := top 44
abbrev s_law_wholes : Stmt := top 45
abbrev s_law_common : Stmt := top 46
abbrev s_law_pieces : Stmt := top 47
abbrev s_law_row_by : Stmt := top 48
abbrev s_law_fences : Stmt := top 49
abbrev s_law_placed : Stmt := top 50
abbrev s_law_built : Stmt := top 51
abbrev s_law_on : Stmt := top 52
abbrev s_law_brought : Stmt := top 53
abbrev s_law_start : Stmt := top 54
abbrev s_law_heading : Stmt := top 55
abbrev s_law_steps : Stmt := top 56
abbrev s_law_as_steps : Stmt := top 57
abbrev s_law_stay : Stmt := top 58
abbrev s_law : Stmt := top 59

/-! ### heaps -/
/-- tuples stay -/
def TK (H H' : Hp) : Prop := ∀ b xs, H b = some (.tup xs) → H' b = some (.tup xs)
theorem TK.refl (H : Hp) : TK H H := fun _ _ h => h
theorem TK.trans {H H1 H2 : Hp} (a : TK H H1) (b : TK H1 H2) : TK H H2 := fun c o h => b c o (a c o h)
theorem tk_of {H H' : Hp} (e : Same H H') : TK H H' := fun b xs h => e b _ h
/-- a thing that is no tuple is written -/
theorem TK.put {H : Hp} {a : Addr} {o u : HO} (h : H a = some u) (hu : ∀ xs, u ≠ .tup xs) : TK H (upd H a o) := fun b xs e => by
  by_cases q : b = a
  · subst q
    rw [h] at e
    exact absurd (Option.some.inj e) (hu xs)
  · rw [upd_ne q]
    exact e
theorem same_new {H : Hp} {p : Addr} {o : HO} (h : H p = none) : Same H (upd H p o) := fun a u e => by
  rw [upd_ne (ne_of_none e h)]
  exact e
/-- written where the elder heap knew nothing -/
theorem Same.put {H0 H : Hp} {a : Addr} {o : HO} (s : Same H0 H) (h : H0 a = none) : Same H0 (upd H a o) := fun b u e => by
  rw [upd_ne (ne_of_none e h)]
  exact s b u e

/-! ### data -/
/-- a tuple, a list at v -/
def TUP (H : Hp) (v : V) (xs : List V) : Prop := ∃ p, v = .ref p ∧ H p = some (.tup xs)
def LST (H : Hp) (v : V) (xs : List V) : Prop := ∃ p, v = .ref p ∧ H p = some (.lst xs)
theorem TUP.up {H H' : Hp} {v : V} {xs : List V} (e : TK H H') (h : TUP H v xs) : TUP H' v xs := let ⟨p, q, r⟩ := h; ⟨p, q, e _ _ r⟩
theorem LST.up {H H' : Hp} {v : V} {xs : List V} (e : Same H H') (h : LST H v xs) : LST H' v xs := let ⟨p, q, r⟩ := h; ⟨p, q, e _ _ r⟩
/-- (a, b), (a, b, c), of ints -/
abbrev T2 (H : Hp) (v : V) (a : Int × Int) : Prop := TUP H v [.int a.1, .int a.2]
abbrev T3 (H : Hp) (v : V) (a : Int × Int × Int) : Prop := TUP H v [.int a.1, .int a.2.1, .int a.2.2]
/-- all but lists and dicts stays -/
def NL (H H' : Hp) : Prop := ∀ b o, H b = some o → (∀ xs, o ≠ .lst xs) → (∀ kvs, o ≠ .dT kvs) → H' b = some o
theorem NL.refl (H : Hp) : NL H H := fun _ _ h _ _ => h
theorem NL.trans {H H1 H2 : Hp} (a : NL H H1) (b : NL H1 H2) : NL H H2 := fun c o h n m => b c o (a c o h n m) n m
theorem nl_of {H H' : Hp} (e : Same H H') : NL H H' := fun b o h _ _ => e b o h
theorem NL.tk {H H' : Hp} (e : NL H H') : TK H H' := fun b xs h => e b _ h (fun _ z => by cases z) (fun _ z => by cases z)
theorem NL.putL {H : Hp} {a : Addr} {o : HO} {xs : List V} (h : H a = some (.lst xs)) : NL H (upd H a o) := fun b u e n _ => by
  by_cases q : b = a
  · subst q
    rw [h] at e
    exact absurd (Option.some.inj e).symm (n xs)
  · rw [upd_ne q]
    exact e
theorem NL.putD {H : Hp} {a : Addr} {o : HO} {kvs : List (List Key × V)} (h : H a = some (.dT kvs)) : NL H (upd H a o) := fun b u e _ n => by
  by_cases q : b = a
  · subst q
    rw [h] at e
    exact absurd (Option.some.inj e).symm (n kvs)
  · rw [upd_ne q]
    exact e
/-- the field f of the instance v -/
def Fld (K : PySem.W.Frag) (H : Hp) (v : V) (f : Str) (x : V) : Prop := ∃ a C dx fs, v = .ref a ∧ H a = some (.ins C dx fs) ∧ Cls K C ∧ NoAttr K C f ∧ fs.lookup f = some x
theorem Fld.up {K : PySem.W.Frag} {H H' : Hp} {v x : V} {f : Str} (e : Same H H') (h : Fld K H v f x) : Fld K H' v f x :=
  let ⟨a, C, dx, fs, h1, h2, h3⟩ := h
  ⟨a, C, dx, fs, h1, e _ _ h2, h3⟩
/-- the instance v is of a class in R, none of its fields is called m -/
def Mth (R : Addr → Prop) (H : Hp) (v : V) (m : Str) : Prop := ∃ a C dx fs, v = .ref a ∧ H a = some (.ins C dx fs) ∧ fs.lookup m = none ∧ R C
theorem Mth.up {R : Addr → Prop} {H H' : Hp} {v : V} {m : Str} (e : Same H H') (h : Mth R H v m) : Mth R H' v m :=
  let ⟨a, C, dx, fs, h1, h2, h3⟩ := h
  ⟨a, C, dx, fs, h1, e _ _ h2, h3⟩

/-! ### own rules -/
section
variable {X : Cx}
/-- // by a divisor that is not 0, below 2 ^ 9000 in size -/
theorem op_fdivZ : OpR X (binaryOp .FloorDiv) (rI (fun _ j => j ≠ 0 ∧ j.natAbs.log2 < 9000) fun i j => .int (i.fdiv j)) :=
  opI fun i j _ _ _ _ _ hc q => PyProof.Rows.floordiv_int hc.1 q (.inl (PyProof.noPylong_of_log2 hc.2))
/-- xs[i], by values -/
def rGetL (K : PySem.W.Frag) : V → V → Hp → VK → Prop := fun x y H Q => ∃ p xs j z, x = .ref p ∧ y = .int ((j : Nat) : Int) ∧ SqL K H p xs ∧ xs[j]? = some z ∧ Q z H
theorem get_list : PGet X (rGetL X.K) := by
  rintro ps s σ H o i ov iv Q I ro ri ⟨p, xs, j, z, rfl, rfl, hl, hj, q⟩
  cases ro
  obtain ⟨t, rfl⟩ := ri
  (obtain ⟨its, rv, pl, hz⟩ := I.list hl)
  obtain ⟨u, eu, ru⟩ := rv.get hj
  have n63 := line63
  have jl := (List.getElem?_eq_some_iff.mp hj).1
  exact wpAny_getItem_list pl.isList (by omega) (by omega) (by simpa using eu) ⟨z, H, I, ru, q⟩

/-- a callee by its name -/
def Cal (P : Program) (w : World) (K : PySem.W.Frag) (mg : Str → Option Value) (base : Heap) (k : Nat) (x : Str) (ps : List Str) (dvs : List V) (sp : Sp) : Prop :=
  ∃ f fd ds, FnOk P w K mg base CX0 k f fd ps sp ∧ mg x = some (.ref f) ∧ PySem.W.keepIn K (.ref f) = true ∧ Binds K fd ps ds ∧ Vals dvs ds
theorem pe_cl {k : Nat} {x : Str} {ps : List Str} {dvs : List V} {sp : Sp} {p pos : Pos} {e : Expr} {es : List Expr} {t : TA} (c : Cal X.prog X.w X.K X.mg X.base k x ps dvs sp) (hr : Room k X.A) (hg : Gl X x) (ha : PA X (e :: es) t) (hdb : (x == ("__debug__" : Str)) = false := by decide) (he : starEach (e :: es) X.env = (false, eval e X.env) :: starEach es X.env := by rfl) (hpl : (backTo pos (starEach es X.env)).any (·.1) = false := by rfl) : PE X (.Call (.Name x p) (e :: es) [] pos) (tCall sp dvs E0 t) := by
  obtain ⟨f, fd, ds, F, m, kp, b, v⟩ := c
  exact pe_call F hr hg m kp b v pass0 ha hdb he hpl
/-- a class by its name, made -/
def Mak (P : Program) (w : World) (K : PySem.W.Frag) (mg : Str → Option Value) (base : Heap) (k : Nat) (C : Addr) (x : Str) (ps : List Str) (dvs : List V) (sp : Sp) : Prop :=
  ∃ f fd ds, Mk K C f ∧ FnOk P w K mg base CX0 k f fd ps sp ∧ mg x = some (.ref C) ∧ Binds K fd ps ds ∧ Vals dvs ds
theorem pe_mk {k : Nat} {C : Addr} {x : Str} {ps : List Str} {dvs : List V} {sp : Sp} {p pos : Pos} {e : Expr} {es : List Expr} {t : TA} (c : Mak X.prog X.w X.K X.mg X.base k C x ps dvs sp) (hr : Room (k + 1) X.A) (hg : Gl X x) (ha : PA X (e :: es) t) (hdb : (x == ("__debug__" : Str)) = false := by decide) (he : starEach (e :: es) X.env = (false, eval e X.env) :: starEach es X.env := by rfl) (hpl : (backTo pos (starEach es X.env)).any (·.1) = false := by rfl) : PE X (.Call (.Name x p) (e :: es) [] pos) (tMake C sp dvs E0 t) := by
  obtain ⟨f, fd, ds, M, F, m, b, v⟩ := c
  exact pe_make M F hr hg m b v pass0 ha hdb he hpl
/-- methods: for the classes of R what each promises -/
def Mts (P : Program) (w : World) (K : PySem.W.Frag) (mg : Str → Option Value) (base : Heap) (k : Nat) (m : Str) (ps : List Str) (R : Addr → Sp → Prop) : Prop :=
  ∀ C sp, R C sp → Cls K C ∧ ∃ f fd, Meth K C m f ∧ FnOk P w K mg base CX0 k f fd ps sp ∧ Binds K fd ps []
def tMx (R : Addr → Sp → Prop) (m : Str) (ta : TE) (t : TA) : TE := fun σ H Q => ta σ H fun x H1 => ∃ a C dx fs sp, x = .ref a ∧ H1 a = some (.ins C dx fs) ∧ fs.lookup m = none ∧ R C sp ∧
  t σ H1 fun vs H2 => sp (x :: vs) H2 Q E0
theorem pe_mx {k : Nat} {m : Str} {ps : List Str} {R : Addr → Sp → Prop} {o e : Expr} {es : List Expr} {apos pos : Pos} {ta : TE} {t : TA} {pl : Sem Bool} (ho : PE X o ta) (c : Mts X.prog X.w X.K X.mg X.base k m ps R) (hr : Room k X.A) (ha : PA X (e :: es) t) (hst : starEach (e :: es) X.env = (false, eval e X.env) :: starEach es X.env := by rfl) (hpl : (backTo pos (starEach es X.env)).any (·.1) = false := by rfl) (ht : eval (.Call (.Attribute o m apos) (e :: es) [] pos) X.env = (do
      let obj ← eval o X.env
      standAt apos.atName
      let (g, first) ← holding [obj] (getMethod obj m pl)
      callWith pos g first (backTo pos (starEach (e :: es) X.env)) (backToKw pos (keywordEach [] X.env))) := by rfl) :
    PE X (.Call (.Attribute o m apos) (e :: es) [] pos) (tMx R m ta t) := ⟨fun ps0 s σ H Q I h => by
  refine PySem.W.methodCall_KW (pl := pl) (thn (ho.run ps0 s σ H _ I h) fun ov s1 hh => ?_) ht
  obtain ⟨y, H1, I1, ry, a, C, dx, fs, sp, rfl, ea, l, hR, q⟩ := hh
  obtain ⟨hc, f, fd, hm, F, b⟩ := c C sp hR
  cases ry
  refine getmeth_ok I1 ea hc hm l ?_
  refine PySem.W.callWith_K (first := [.ref a]) (h₀ := X.base) I1.mod.kin hm.kp (thn (ha.run pos ps0 s1 σ H1 _ I1 q) fun us s2 kk => ?_) hst hpl
  obtain ⟨vs, H2, I2, rv, q2⟩ := kk
  exact ⟨I2.kIn, run_fn (us := .ref a :: us) (vs := .ref a :: vs) (dvs := []) (ds := []) F hr b .nil pass0 I2 (.cons rfl rv) (by rw [List.append_nil]; exact q2)⟩⟩
theorem pe_mx0 {k : Nat} {m : Str} {ps : List Str} {R : Addr → Sp → Prop} {o : Expr} {apos pos : Pos} {ta : TE} {pl : Sem Bool} (ho : PE X o ta) (c : Mts X.prog X.w X.K X.mg X.base k m ps R) (hr : Room k X.A) (ht : eval (.Call (.Attribute o m apos) [] [] pos) X.env = (do
      let obj ← eval o X.env
      standAt apos.atName
      let (g, first) ← holding [obj] (getMethod obj m pl)
      callWith pos g first (backTo pos (starEach [] X.env)) (backToKw pos (keywordEach [] X.env))) := by rfl) :
    PE X (.Call (.Attribute o m apos) [] [] pos) (tMx R m ta tNil) := ⟨fun ps0 s σ H Q I h => by
  refine PySem.W.methodCall_KW (pl := pl) (thn (ho.run ps0 s σ H _ I h) fun ov s1 hh => ?_) ht
  obtain ⟨y, H1, I1, ry, a, C, dx, fs, sp, rfl, ea, l, hR, q⟩ := hh
  obtain ⟨hc, f, fd, hm, F, b⟩ := c C sp hR
  cases ry
  refine getmeth_ok I1 ea hc hm l ?_
  exact PySem.W.callWith_K0 (first := [.ref a]) I1.kIn hm.kp (run_fn (us := [.ref a]) (vs := [.ref a]) (dvs := []) (ds := []) F hr b .nil pass0 I1 (.cons rfl .nil) q)⟩
/-- a def of a class, called through the class: C.m(x, ..) -/
def Cin (P : Program) (w : World) (K : PySem.W.Frag) (mg : Str → Option Value) (base : Heap) (k : Nat) (x m : Str) (ps : List Str) (sp : Sp) : Prop :=
  ∃ C f fd mc, ClX.CRead K C mc ∧ PySem.W.findCls K (.ref C) mc m = some (.val (.ref f)) ∧ FnOk P w K mg base CX0 k f fd ps sp ∧ mg x = some (.ref C) ∧ PySem.W.keepIn K (.ref f) = true ∧ Binds K fd ps []
theorem pe_ci {k : Nat} {x m : Str} {ps : List Str} {sp : Sp} {e : Expr} {es : List Expr} {p apos pos : Pos} {t : TA} {pl : Sem Bool} (c : Cin X.prog X.w X.K X.mg X.base k x m ps sp) (hr : Room k X.A) (hg : Gl X x) (ha : PA X (e :: es) t)
    (hdb : (x == ("__debug__" : Str)) = false := by decide) (hst : starEach (e :: es) X.env = (false, eval e X.env) :: starEach es X.env := by rfl) (hpl : (backTo pos (starEach es X.env)).any (·.1) = false := by rfl)
    (ht : eval (.Call (.Attribute (.Name x p) m apos) (e :: es) [] pos) X.env = (do
      let obj ← eval (.Name x p) X.env
      standAt apos.atName
      let (g, first) ← holding [obj] (getMethod obj m pl)
      callWith pos g first (backTo pos (starEach (e :: es) X.env)) (backToKw pos (keywordEach [] X.env))) := by rfl) :
    PE X (.Call (.Attribute (.Name x p) m apos) (e :: es) [] pos) (tCall sp [] E0 t) := ⟨fun ps0 s σ H Q I h => by
  obtain ⟨C, f, fd, mc, rd, fc, F, mx, kp, b⟩ := c
  refine PySem.W.methodCall_KW (pl := pl) (ld_glob I hg mx ?_ hdb) ht
  refine PySem.W.method_cls I.kIn rd.ga (ClX.getcval_ok (v := .ref f) I rd ⟨fc, rfl⟩ fun s1 I1 => ?_)
  refine PySem.W.callWith_K (first := []) (h₀ := X.base) I1.mod.kin kp (thn (ha.run pos ps0 s1 σ H _ I1 h) fun us s2 kk => ?_) hst hpl
  obtain ⟨vs, H2, I2, rv, q2⟩ := kk
  exact ⟨I2.kIn, run_fn F hr b .nil pass0 I2 rv q2⟩⟩

/-! min and max of two tuples of ints, a tuple in a tuple of tuples -/
theorem reads2 {ps : List (Addr × Obj)} {s : Shared} {σ : L2.St} {H : Hp} {x : V} {u : Value} {a : Int × Int} (I : Inv X ps σ H s) (h : T2 H x a) (r : RelV x u) : ∃ as, Reads s.heap u (.tuple [.int a.1, .int a.2]) as := by
  obtain ⟨p, rfl, e⟩ := h
  exact Dp.reads I _ _ _ (.tup (K := X.K) (SqT.of e) (.cons (.int _) (.cons (.int _) .nil))) r
def pd2 (a : Int × Int) : PyData := .tuple [.int a.1, .int a.2]
/-- tuples in their order -/
def lt2 (a b : Int × Int) : Bool := decide (a.1 < b.1) || (decide (a.1 = b.1) && decide (a.2 < b.2))
theorem lt2_data (a b : Int × Int) : PySem.W.dataLt (pd2 a) (pd2 b) = lt2 a b := by
  obtain ⟨a1, a2⟩ := a
  obtain ⟨b1, b2⟩ := b
  show PySem.W.dataLt (.tuple [.int a1, .int a2]) (.tuple [.int b1, .int b2]) = _
  rw [PySem.W.dataLt_tuple]
  by_cases h : a1 = b1
  · subst h
    rw [PySem.W.dataLt_all_yes rfl (by simp [PyData.eqv])]
    by_cases g : a2 = b2
    · subst g
      rw [PySem.W.dataLt_all_yes rfl (by simp [PyData.eqv])]
      simp only [lt2, Int.lt_irrefl, decide_false, Bool.and_false, Bool.or_false]
      rfl
    · rw [PySem.W.dataLt_all_no rfl (by simp [PyData.eqv, g]), PySem.W.dataLt_int]
      simp [lt2]
  · rw [PySem.W.dataLt_all_no rfl (by simp [PyData.eqv, h]), PySem.W.dataLt_int]
    simp [lt2, h]
theorem alike2 (a b : Int × Int) : PySem.W.AlikeAll [pd2 a, pd2 b] := by
  constructor
  · intro x hx y hy
    have one : ∀ z ∈ [pd2 a, pd2 b], ∃ c, z = pd2 c := fun z hz => by
      rcases List.mem_cons.mp hz with e | e
      · exact ⟨a, e⟩
      · exact ⟨b, List.mem_singleton.mp e⟩
    obtain ⟨c, rfl⟩ := one x hx
    obtain ⟨d, rfl⟩ := one y hy
    rfl
  · intro x hx
    rcases List.mem_cons.mp hx with e | e
    · rw [e]
      intro z
      cases z
    · (rw [List.mem_singleton.mp e])
      intro z
      cases z
theorem hash2 (a b : Int × Int) : PyData.depthAll [pd2 a, pd2 b] ≤ 2 := by
  simp [pd2, PyData.depthAll, PyData.depth]
end
section
variable {w : World} {prog : Program} {A : Around} {E : Value → Shared → Prop} {s : Shared}
/-! min(x, y), max(x, y): both compared where a heap stands -/
theorem min_pair {x y : Value} {a b : Int × Int} {as : List Addr} {Q : Value → Shared → Prop} (hh : A.handled = none) (hr : ReadsAll s.heap [x, y] [pd2 a, pd2 b] as) (hu : A.units + 8 < cLine)
    (h : ∀ h' tk, (∀ c o, s.heap.get? c = some o → h'.get? c = some o) → Q (if lt2 b a then y else x) { s with heap := h', toks := tk }) : wpAny (model prog w) A (call (.builtin "min") [x, y]) Q E s := by
  have nm : (toString "min" ++ toString ".loop" : String) = "min.loop" := by decide
  have hT : (s.heap.push { cls := .type "tuple", data := .seq #[x, y] }).IsTuple s.heap.objs.size #[x, y] := ⟨_, Heap.get?_push_size _ rfl, rfl, 0, rfl⟩
  have hk0 : ∀ c o, s.heap.get? c = some o → (s.heap.push { cls := .type "tuple", data := .seq #[x, y] }).get? c = some o := fun c o e => Heap.get?_push_of_some _ e
  (refine call_function_tree F.kind_min F.plain_min F.entry_min (F.args_min2 _ _) ?_)
  (show wpAny _ A.in1 (Builtin.Builtins.bindParams "min" ["key", "default"] 0 ⟨[], []⟩ >>= _) _ _ s)
  refine wpAny_bind (wpAny_of_eq (rfl : Builtin.Builtins.bindParams "min" ["key", "default"] 0 ⟨[], []⟩ = pure [none, none]) ?_)
  show wpAny _ A.in1 (newTuple [x, y] >>= _) _ _ s
  refine wpAny_bind (wpAny_newObj_type (wpAny_bind ?_))
  refine PySem.W.iter_tupleW (A := A.in1) hh hT fun s2 e W st hfp hw hk => ?_
  (refine wpAny_bind (wpAny_newObj_type ?_))
  have nS : s2.heap.objs.size ∉ _ := fun hm => Nat.lt_irrefl _ (hfp _ hm)
  have hkk : ∀ c o, s.heap.get? c = some o → s2.heap.get? c = some o := fun c o z => hk c o (hk0 c o z)
  have hc : PySem.CmpIn prog w A.in1 .Lt s.heap (fun i v => #[x, y][i]? = some v) _ := PySem.W.cmpIn_lt hr (alike2 a b) (by have := hash2 a b; show A.units + 1 + _ < _; omega)
  rw [nm]
  refine wpAny_pure ⟨plainId_quiet F.plain_min_loop _, PySem.codeAny_min_loop_firstH W s.heap (fun c o z => hw c o (hk0 c o z)) _ hc s2.heap.objs.size nS (PySem.fresh_in hkk) _ (Nat.succ_pos 1) (fun c o z => Heap.get?_push_of_some _ (hkk c o z))
    (W.frame 0 s2 _ s2.toks st (Nat.le_refl _) fun c _ o z => Heap.get?_push_of_some _ z) (Heap.get?_push_size _ rfl) fun v s' hP hm => ?_⟩
  obtain ⟨h', tk, rfl, hk'⟩ := PySem.W.moved_old e rfl (Moved.drop_new (tk := s2.toks) hm (Nat.le_refl _))
  have q := h h' tk fun c o z => hk' c o (hk0 c o z)
  have ev : v = if lt2 b a then y else x := by
    have d : PySem.W.dataLt ([pd2 a, pd2 b].getD 1 .none) ([pd2 a, pd2 b].getD 0 .none) = lt2 b a := lt2_data _ _
    have z : #[x, y][argBest (fun i j => PySem.W.dataLt ([pd2 a, pd2 b].getD i .none) ([pd2 a, pd2 b].getD j .none)) 1]? = some v := hP
    cases c : lt2 b a with
    | true =>
      rw [c] at d
      have g : argBest (fun i j => PySem.W.dataLt ([pd2 a, pd2 b].getD i .none) ([pd2 a, pd2 b].getD j .none)) 1 = 1 := if_pos d
      rw [g] at z
      exact (Option.some.inj z).symm
    | false =>
      rw [c] at d
      have g : argBest (fun i j => PySem.W.dataLt ([pd2 a, pd2 b].getD i .none) ([pd2 a, pd2 b].getD j .none)) 1 = 0 := if_neg fun zz => Bool.false_ne_true (d.symm.trans zz)
      rw [g] at z
      exact (Option.some.inj z).symm
  show Q v _
  rw [ev]
  exact q
theorem max_pair {x y : Value} {a b : Int × Int} {as : List Addr} {Q : Value → Shared → Prop} (hh : A.handled = none) (hr : ReadsAll s.heap [x, y] [pd2 a, pd2 b] as) (hu : A.units + 8 < cLine)
    (h : ∀ h' tk, (∀ c o, s.heap.get? c = some o → h'.get? c = some o) → Q (if lt2 a b then y else x) { s with heap := h', toks := tk }) : wpAny (model prog w) A (call (.builtin "max") [x, y]) Q E s := by
  have nm : (toString "max" ++ toString ".loop" : String) = "max.loop" := by decide
  have hT : (s.heap.push { cls := .type "tuple", data := .seq #[x, y] }).IsTuple s.heap.objs.size #[x, y] := ⟨_, Heap.get?_push_size _ rfl, rfl, 0, rfl⟩
  have hk0 : ∀ c o, s.heap.get? c = some o → (s.heap.push { cls := .type "tuple", data := .seq #[x, y] }).get? c = some o := fun c o e => Heap.get?_push_of_some _ e
  (refine call_function_tree F.kind_max F.plain_max F.entry_max (F.args_max2 _ _) ?_)
  (show wpAny _ A.in1 (Builtin.Builtins.bindParams "max" ["key", "default"] 0 ⟨[], []⟩ >>= _) _ _ s)
  refine wpAny_bind (wpAny_of_eq (rfl : Builtin.Builtins.bindParams "max" ["key", "default"] 0 ⟨[], []⟩ = pure [none, none]) ?_)
  show wpAny _ A.in1 (newTuple [x, y] >>= _) _ _ s
  refine wpAny_bind (wpAny_newObj_type (wpAny_bind ?_))
  refine PySem.W.iter_tupleW (A := A.in1) hh hT fun s2 e W st hfp hw hk => ?_
  (refine wpAny_bind (wpAny_newObj_type ?_))
  have nS : s2.heap.objs.size ∉ _ := fun hm => Nat.lt_irrefl _ (hfp _ hm)
  have hkk : ∀ c o, s.heap.get? c = some o → s2.heap.get? c = some o := fun c o z => hk c o (hk0 c o z)
  have hc : PySem.CmpIn prog w A.in1 .Gt s.heap (fun i v => #[x, y][i]? = some v) _ := PySem.W.cmpIn_gt hr (alike2 a b) (by have := hash2 a b; show A.units + 1 + _ < _; omega)
  rw [nm]
  refine wpAny_pure ⟨plainId_quiet F.plain_max_loop _, PySem.codeAny_max_loop_firstH W s.heap (fun c o z => hw c o (hk0 c o z)) _ hc s2.heap.objs.size nS (PySem.fresh_in hkk) _ (Nat.succ_pos 1) (fun c o z => Heap.get?_push_of_some _ (hkk c o z))
    (W.frame 0 s2 _ s2.toks st (Nat.le_refl _) fun c _ o z => Heap.get?_push_of_some _ z) (Heap.get?_push_size _ rfl) fun v s' hP hm => ?_⟩
  obtain ⟨h', tk, rfl, hk'⟩ := PySem.W.moved_old e rfl (Moved.drop_new (tk := s2.toks) hm (Nat.le_refl _))
  have q := h h' tk fun c o z => hk' c o (hk0 c o z)
  have ev : v = if lt2 a b then y else x := by
    have d : PySem.W.dataLt ([pd2 a, pd2 b].getD 0 .none) ([pd2 a, pd2 b].getD 1 .none) = lt2 a b := lt2_data _ _
    have z : #[x, y][argBest (fun i j => PySem.W.dataLt ([pd2 a, pd2 b].getD j .none) ([pd2 a, pd2 b].getD i .none)) 1]? = some v := hP
    cases c : lt2 a b with
    | true =>
      rw [c] at d
      have g : argBest (fun i j => PySem.W.dataLt ([pd2 a, pd2 b].getD j .none) ([pd2 a, pd2 b].getD i .none)) 1 = 1 := if_pos d
      rw [g] at z
      exact (Option.some.inj z).symm
    | false =>
      rw [c] at d
      have g : argBest (fun i j => PySem.W.dataLt ([pd2 a, pd2 b].getD j .none) ([pd2 a, pd2 b].getD i .none)) 1 = 0 := if_neg fun zz => Bool.false_ne_true (d.symm.trans zz)
      rw [g] at z
      exact (Option.some.inj z).symm
  show Q v _
  rw [ev]
  exact q
end
section
variable {X : Cx}
theorem call_minT (hc : X.calm = true) (hu : X.A.units + 8 < cLine) : CallR X (.builtin "min") (fun xs H Q => ∃ v u a b, xs = [v, u] ∧ T2 H v a ∧ T2 H u b ∧ Q (if lt2 b a then u else v) H) := by
  rintro ps s σ H xs us Q I r ⟨v, u, a, b, rfl, h1, h2, q⟩
  obtain ⟨v', u', rfl, r1, r2⟩ := vals2 r
  obtain ⟨as, hr⟩ := Dp.readsAll I [pd2 a, pd2 b] [v, u] [v', u'] (by
    obtain ⟨p1, rfl, e1⟩ := h1
    obtain ⟨p2, rfl, e2⟩ := h2
    exact .cons (.tup (SqT.of e1) (.cons (.int _) (.cons (.int _) .nil))) (.cons (.tup (SqT.of e2) (.cons (.int _) (.cons (.int _) .nil))) .nil)) r
  refine min_pair (I.ok.hd hc) hr hu fun h' tk k => ⟨_, H, I.kept k, ?_, q⟩
  cases lt2 b a with
  | true => exact r2
  | false => exact r1
theorem call_maxT (hc : X.calm = true) (hu : X.A.units + 8 < cLine) : CallR X (.builtin "max") (fun xs H Q => ∃ v u a b, xs = [v, u] ∧ T2 H v a ∧ T2 H u b ∧ Q (if lt2 a b then u else v) H) := by
  rintro ps s σ H xs us Q I r ⟨v, u, a, b, rfl, h1, h2, q⟩
  obtain ⟨v', u', rfl, r1, r2⟩ := vals2 r
  obtain ⟨as, hr⟩ := Dp.readsAll I [pd2 a, pd2 b] [v, u] [v', u'] (by
    obtain ⟨p1, rfl, e1⟩ := h1
    obtain ⟨p2, rfl, e2⟩ := h2
    exact .cons (.tup (SqT.of e1) (.cons (.int _) (.cons (.int _) .nil))) (.cons (.tup (SqT.of e2) (.cons (.int _) (.cons (.int _) .nil))) .nil)) r
  refine max_pair (I.ok.hd hc) hr hu fun h' tk k => ⟨_, H, I.kept k, ?_, q⟩
  cases lt2 a b with
  | true => exact r2
  | false => exact r1
/-- a tuple within a tuple of tuples -/
def rInT (K : PySem.W.Frag) : R2 := fun x y H Q => ∃ d ds, Dp K H x d ∧ Dp K H y (.tuple ds) ∧ SeqAt.shaped d = true ∧ SeqAt.shaped (.tuple ds) = true ∧ Q (.bl (ds.any fun z => PyData.eqv z d)) H
theorem op_inT (hu : X.A.units + 65 < cLine) : OpR X (compareOp .In) (rInT X.K) := by
  rintro ps s σ H x y v u Q I rx ry ⟨d, ds, hd, he, sd, se, q⟩
  (obtain ⟨as, r1⟩ := Dp.reads I d x v hd rx)
  obtain ⟨bs, r2⟩ := Dp.reads I (.tuple ds) y u he ry
  exact SeqAt.in_tuple_reads r2 r1 (SeqAt.canLay_of_shaped se) (SeqAt.canLay_of_shaped sd) (PyProof.Rows.room_in_shaped sd hu) ⟨.bl _, H, I, rfl, q⟩
end
end Bw
end

section
set_option Elab.async false
set_option linter.all false
set_option maxRecDepth 100000
set_option maxHeartbeats 0
namespace Bw
open L2 PySem PySem.Spec PyProof.Rows
/-! (own) ### the head: facts by names, the run -/
def d_divisor : He.DefD := ⟨("divisor", none), "divisor", "divisor", defArgs s_divisor, defBody s_divisor, defScope s_divisor, [], []⟩
def d_point_of : He.DefD := ⟨("point_of", none), "point_of", "point_of", defArgs s_point_of, defBody s_point_of, defScope s_point_of, [], []⟩
def d_time_of : He.DefD := ⟨("time_of", none), "time_of", "time_of", defArgs s_time_of, defBody s_time_of, defScope s_time_of, [], []⟩
def d_sooner : He.DefD := ⟨("sooner", none), "sooner", "sooner", defArgs s_sooner, defBody s_sooner, defScope s_sooner, [], []⟩
def d_added : He.DefD := ⟨("added", none), "added", "added", defArgs s_added, defBody s_added, defScope s_added, [], []⟩
def d_spot_at : He.DefD := ⟨("spot_at", none), "spot_at", "spot_at", defArgs s_spot_at, defBody s_spot_at, defScope s_spot_at, [], []⟩
def d_time_along : He.DefD := ⟨("time_along", none), "time_along", "time_along", defArgs s_time_along, defBody s_time_along, defScope s_time_along, [], []⟩
def d_end_ahead : He.DefD := ⟨("end_ahead", none), "end_ahead", "end_ahead", defArgs s_end_ahead, defBody s_end_ahead, defScope s_end_ahead, [], []⟩
def d_time_to : He.DefD := ⟨("time_to", none), "time_to", "time_to", defArgs s_time_to, defBody s_time_to, defScope s_time_to, [], []⟩
def d_first_met : He.DefD := ⟨("first_met", none), "first_met", "first_met", defArgs s_first_met, defBody s_first_met, defScope s_first_met, [], []⟩
def d_are_upon : He.DefD := ⟨("are_upon", none), "are_upon", "are_upon", defArgs s_are_upon, defBody s_are_upon, defScope s_are_upon, [], []⟩
def d_mirrored : He.DefD := ⟨("mirrored", none), "mirrored", "mirrored", defArgs s_mirrored, defBody s_mirrored, defScope s_mirrored, [], []⟩
def d_line_between : He.DefD := ⟨("line_between", none), "line_between", "line_between", defArgs s_line_between, defBody s_line_between, defScope s_line_between, [], []⟩
def d_is_far : He.DefD := ⟨("is_far", none), "is_far", "is_far", defArgs s_is_far, defBody s_is_far, defScope s_is_far, [], []⟩
def d_flown : He.DefD := ⟨("flown", none), "flown", "flown", defArgs s_flown, defBody s_flown, defScope s_flown, [.int 12], []⟩
def d_law_cell_at : He.DefD := ⟨("_law_cell_at", none), "_law_cell_at", "_law_cell_at", defArgs s_law_cell_at, defBody s_law_cell_at, defScope s_law_cell_at, [], []⟩
def d_law_common : He.DefD := ⟨("_law_common", none), "_law_common", "_law_common", defArgs s_law_common, defBody s_law_common, defScope s_law_common, [], []⟩
def d_law_pieces : He.DefD := ⟨("_law_pieces", none), "_law_pieces", "_law_pieces", defArgs s_law_pieces, defBody s_law_pieces, defScope s_law_pieces, [], []⟩
def d_law_row_by : He.DefD := ⟨("_law_row_by", none), "_law_row_by", "_law_row_by", defArgs s_law_row_by, defBody s_law_row_by, defScope s_law_row_by, [], []⟩
def d_law_fences : He.DefD := ⟨("_law_fences", none), "_law_fences", "_law_fences", defArgs s_law_fences, defBody s_law_fences, defScope s_law_fences, [], []⟩
def d_law_built : He.DefD := ⟨("_law_built", none), "_law_built", "_law_built", defArgs s_law_built, defBody s_law_built, defScope s_law_built, [], []⟩
def d_law_on : He.DefD := ⟨("_law_on", none), "_law_on", "_law_on", defArgs s_law_on, defBody s_law_on, defScope s_law_on, [], []⟩
def d_law_brought : He.DefD := ⟨("_law_brought", none), "_law_brought", "_law_brought", defArgs s_law_brought, defBody s_law_brought, defScope s_law_brought, [], []⟩
def d_law_start : He.DefD := ⟨("_law_start", none), "_law_start", "_law_start", defArgs s_law_start, defBody s_law_start, defScope s_law_start, [], []⟩
def d_law_heading : He.DefD := ⟨("_law_heading", none), "_law_heading", "_law_heading", defArgs s_law_heading, defBody s_law_heading, defScope s_law_heading, [], []⟩
def d_law_steps : He.DefD := ⟨("_law_steps", none), "_law_steps", "_law_steps", defArgs s_law_steps, defBody s_law_steps, defScope s_law_steps, [], []⟩
def d_law_as_steps : He.DefD := ⟨("_law_as_steps", none), "_law_as_steps", "_law_as_steps", defArgs s_law_as_steps, defBody s_law_as_steps, defScope s_law_as_steps, [], []⟩
def d_law_stay : He.DefD := ⟨("_law_stay", none), "_law_stay", "_law_stay", defArgs s_law_stay, defBody s_law_stay, defScope s_law_stay, [], []⟩
def d_law : He.DefD := ⟨("law", none), "law", "law", defArgs s_law, defBody s_law, defScope s_law, [], []⟩
def d_Finit : He.DefD := ⟨("Flight", some "__init__"), "__init__", "Flight.__init__", defArgs s_Flight_init, defBody s_Flight_init, defScope s_Flight_init, [], []⟩
def d_Fstep : He.DefD := ⟨("Flight", some "step"), "step", "Flight.step", defArgs s_Flight_step, defBody s_Flight_step, defScope s_Flight_step, [], []⟩
def d_Fhit_at : He.DefD := ⟨("Flight", some "hit_at"), "hit_at", "Flight.hit_at", defArgs s_Flight_hit_at, defBody s_Flight_hit_at, defScope s_Flight_hit_at, [], []⟩
def d_Foutcome : He.DefD := ⟨("Flight", some "outcome"), "outcome", "Flight.outcome", defArgs s_Flight_outcome, defBody s_Flight_outcome, defScope s_Flight_outcome, [], []⟩
def d_Rinit : He.DefD := ⟨("Room", some "__init__"), "__init__", "Room.__init__", defArgs s_Room_init, defBody s_Room_init, defScope s_Room_init, [], []⟩
def d_Rwalls : He.DefD := ⟨("Room", some "walls"), "walls", "Room.walls", defArgs s_Room_walls, defBody s_Room_walls, defScope s_Room_walls, [], []⟩
def d_Ron : He.DefD := ⟨("Room", some "on"), "on", "Room.on", defArgs s_Room_on, defBody s_Room_on, defScope s_Room_on, [], []⟩
def d_Ris_corner : He.DefD := ⟨("Room", some "is_corner"), "is_corner", "Room.is_corner", defArgs s_Room_is_corner, defBody s_Room_is_corner, defScope s_Room_is_corner, [], []⟩
def d_Winit : He.DefD := ⟨("Wall", some "__init__"), "__init__", "Wall.__init__", defArgs s_Wall_init, defBody s_Wall_init, defScope s_Wall_init, [], []⟩
def d_Minit : He.DefD := ⟨("Mirror", some "__init__"), "__init__", "Wall.__init__", defArgs s_Wall_init, defBody s_Wall_init, defScope s_Wall_init, [], []⟩
def d_Ginit : He.DefD := ⟨("Glass", some "__init__"), "__init__", "Wall.__init__", defArgs s_Wall_init, defBody s_Wall_init, defScope s_Wall_init, [], []⟩
def d_Hinit : He.DefD := ⟨("Hole", some "__init__"), "__init__", "Wall.__init__", defArgs s_Wall_init, defBody s_Wall_init, defScope s_Wall_init, [], []⟩
def d_Dinit : He.DefD := ⟨("Door", some "__init__"), "__init__", "Door.__init__", defArgs s_Door_init, defBody s_Door_init, defScope s_Door_init, [.int 2], []⟩
def d_Mline : He.DefD := ⟨("Mirror", some "line"), "line", "Wall.line", defArgs s_Wall_line, defBody s_Wall_line, defScope s_Wall_line, [], []⟩
def d_Gline : He.DefD := ⟨("Glass", some "line"), "line", "Wall.line", defArgs s_Wall_line, defBody s_Wall_line, defScope s_Wall_line, [], []⟩
def d_Hline : He.DefD := ⟨("Hole", some "line"), "line", "Wall.line", defArgs s_Wall_line, defBody s_Wall_line, defScope s_Wall_line, [], []⟩
def d_Dline : He.DefD := ⟨("Door", some "line"), "line", "Wall.line", defArgs s_Wall_line, defBody s_Wall_line, defScope s_Wall_line, [], []⟩
def d_Mholds : He.DefD := ⟨("Mirror", some "holds"), "holds", "Wall.holds", defArgs s_Wall_holds, defBody s_Wall_holds, defScope s_Wall_holds, [], []⟩
def d_Gholds : He.DefD := ⟨("Glass", some "holds"), "holds", "Wall.holds", defArgs s_Wall_holds, defBody s_Wall_holds, defScope s_Wall_holds, [], []⟩
def d_Hholds : He.DefD := ⟨("Hole", some "holds"), "holds", "Wall.holds", defArgs s_Wall_holds, defBody s_Wall_holds, defScope s_Wall_holds, [], []⟩
def d_Dholds : He.DefD := ⟨("Door", some "holds"), "holds", "Wall.holds", defArgs s_Wall_holds, defBody s_Wall_holds, defScope s_Wall_holds, [], []⟩
def d_Mends_at : He.DefD := ⟨("Mirror", some "ends_at"), "ends_at", "Wall.ends_at", defArgs s_Wall_ends_at, defBody s_Wall_ends_at, defScope s_Wall_ends_at, [], []⟩
def d_Gends_at : He.DefD := ⟨("Glass", some "ends_at"), "ends_at", "Wall.ends_at", defArgs s_Wall_ends_at, defBody s_Wall_ends_at, defScope s_Wall_ends_at, [], []⟩
def d_Hends_at : He.DefD := ⟨("Hole", some "ends_at"), "ends_at", "Wall.ends_at", defArgs s_Wall_ends_at, defBody s_Wall_ends_at, defScope s_Wall_ends_at, [], []⟩
def d_Dends_at : He.DefD := ⟨("Door", some "ends_at"), "ends_at", "Wall.ends_at", defArgs s_Wall_ends_at, defBody s_Wall_ends_at, defScope s_Wall_ends_at, [], []⟩
def d_Mbehind : He.DefD := ⟨("Mirror", some "behind"), "behind", "Wall.behind", defArgs s_Wall_behind, defBody s_Wall_behind, defScope s_Wall_behind, [], []⟩
def d_Gbehind : He.DefD := ⟨("Glass", some "behind"), "behind", "Glass.behind", defArgs s_Glass_behind, defBody s_Glass_behind, defScope s_Glass_behind, [], []⟩
def d_Hbehind : He.DefD := ⟨("Hole", some "behind"), "behind", "Hole.behind", defArgs s_Hole_behind, defBody s_Hole_behind, defScope s_Hole_behind, [], []⟩
def d_Dbehind : He.DefD := ⟨("Door", some "behind"), "behind", "Door.behind", defArgs s_Door_behind, defBody s_Door_behind, defScope s_Door_behind, [], []⟩
def d_Mevery : He.DefD := ⟨("Mirror", some "every"), "every", "Wall.every", defArgs s_Wall_every, defBody s_Wall_every, defScope s_Wall_every, [], []⟩
def d_Gevery : He.DefD := ⟨("Glass", some "every"), "every", "Wall.every", defArgs s_Wall_every, defBody s_Wall_every, defScope s_Wall_every, [], []⟩
def d_Hevery : He.DefD := ⟨("Hole", some "every"), "every", "Wall.every", defArgs s_Wall_every, defBody s_Wall_every, defScope s_Wall_every, [], []⟩
def d_Devery : He.DefD := ⟨("Door", some "every"), "every", "Door.every", defArgs s_Door_every, defBody s_Door_every, defScope s_Door_every, [], []⟩
def d_Mword : He.DefD := ⟨("Mirror", some "word"), "word", "Mirror.word", defArgs s_Mirror_word, defBody s_Mirror_word, defScope s_Mirror_word, [], []⟩
def d_Gword : He.DefD := ⟨("Glass", some "word"), "word", "Glass.word", defArgs s_Glass_word, defBody s_Glass_word, defScope s_Glass_word, [], []⟩
def d_Hword : He.DefD := ⟨("Hole", some "word"), "word", "Hole.word", defArgs s_Hole_word, defBody s_Hole_word, defScope s_Hole_word, [], []⟩
def d_Dword : He.DefD := ⟨("Door", some "word"), "word", "Door.word", defArgs s_Door_word, defBody s_Door_word, defScope s_Door_word, [], []⟩
def fnS0 : List He.DefD := [d_divisor, d_point_of, d_time_of, d_sooner, d_added, d_spot_at, d_time_along, d_end_ahead, d_time_to, d_first_met, d_are_upon, d_mirrored, d_line_between, d_is_far, d_flown, d_law_cell_at, d_law_common, d_law_pieces, d_law_row_by, d_law_fences, d_law_built, d_law_on, d_law_brought, d_law_start, d_law_heading, d_law_steps, d_law_as_steps, d_law_stay, d_law, d_Finit]
def fnS1 : List He.DefD := [d_Fstep, d_Fhit_at, d_Foutcome, d_Rinit, d_Rwalls, d_Ron, d_Ris_corner, d_Winit, d_Minit, d_Ginit, d_Hinit, d_Dinit, d_Mline, d_Gline, d_Hline, d_Dline, d_Mholds, d_Gholds, d_Hholds, d_Dholds, d_Mends_at, d_Gends_at, d_Hends_at, d_Dends_at, d_Mbehind, d_Gbehind, d_Hbehind, d_Dbehind, d_Mevery, d_Gevery]
def fnS2 : List He.DefD := [d_Hevery, d_Devery, d_Mword, d_Gword, d_Hword, d_Dword]
def fnS : List He.DefD := fnS0 ++ fnS1 ++ fnS2
def faS0 : List He.Fa := [.free "abs", .free "any", .free "enumerate", .free "isinstance", .free "len", .free "list", .free "max", .free "min", .free "range", .free "tuple", .free "zip", .int "MOST" 40, .int "LEVEL" 0, .int "RISING" 1, .int "UPRIGHT" 2, .int "FARTHEST" 1000, .cls "Mirror", .cls "Glass", .cls "Hole", .cls "Door", .cls "Flight", .cls "Room", .noat "Mirror" "one", .noat "Glass" "one", .noat "Hole" "one", .noat "Door" "one", .noat "Mirror" "two", .noat "Glass" "two", .noat "Hole" "two", .noat "Door" "two"]
def faS1 : List He.Fa := [.noat "Door" "cycle", .noat "Room" "some", .noat "Flight" "room", .noat "Flight" "place", .noat "Flight" "way", .noat "Flight" "clock", .noat "Flight" "many", .noat "Flight" "ended", .glo "divisor", .glo "point_of", .glo "time_of", .glo "sooner", .glo "added", .glo "spot_at", .glo "time_along", .glo "end_ahead", .glo "time_to", .glo "first_met", .glo "are_upon", .glo "mirrored", .glo "line_between", .glo "is_far", .glo "flown", .glo "_law_cell_at", .glo "_law_common", .glo "_law_pieces", .glo "_law_row_by", .glo "_law_fences", .glo "_law_built", .glo "_law_on"]
def faS2 : List He.Fa := [.glo "_law_brought", .glo "_law_start", .glo "_law_heading", .glo "_law_steps", .glo "_law_as_steps", .glo "_law_stay", .glo "law", .glo "Mirror", .glo "Glass", .glo "Hole", .glo "Door", .glo "Flight", .glo "Room", .glo "Wall", .mkr "Mirror", .mkr "Glass", .mkr "Hole", .mkr "Door", .mkr "Flight", .mkr "Room", .meth "Mirror" "line", .meth "Glass" "line", .meth "Hole" "line", .meth "Door" "line", .meth "Mirror" "holds", .meth "Glass" "holds", .meth "Hole" "holds", .meth "Door" "holds", .meth "Mirror" "ends_at", .meth "Glass" "ends_at"]
def faS3 : List He.Fa := [.meth "Hole" "ends_at", .meth "Door" "ends_at", .meth "Mirror" "behind", .meth "Glass" "behind", .meth "Hole" "behind", .meth "Door" "behind", .meth "Mirror" "every", .meth "Glass" "every", .meth "Hole" "every", .meth "Door" "every", .meth "Mirror" "word", .meth "Glass" "word", .meth "Hole" "word", .meth "Door" "word", .meth "Flight" "step", .meth "Flight" "hit_at", .meth "Flight" "outcome", .meth "Room" "walls", .meth "Room" "on", .meth "Room" "is_corner"]
def faS : List He.Fa := faS0 ++ faS1 ++ faS2 ++ faS3
def looseS0 : List PySem.Str := ["_wall", "RoomError", "NoPoint", "BadWall", "TooMany", "Overlap", "OnWall", "Over", "divisor", "point_of", "time_of", "sooner", "added", "spot_at", "time_along", "end_ahead", "time_to", "first_met", "Flight", "flown", "MOST", "are_upon", "Room", "LEVEL", "RISING", "UPRIGHT", "mirrored", "FARTHEST", "line_between", "is_far"]
def looseS1 : List PySem.Str := ["Wall", "Mirror", "Glass", "Hole", "Door", "_law_cell_at", "_law_whole", "_law_wholes", "_law_common", "_law_pieces", "_law_row_by", "_law_fences", "_law_placed", "_law_built", "_law_on", "_law_brought", "_law_start", "_law_heading", "_law_steps", "_law_as_steps", "_law_stay"]
def looseS : List PySem.Str := looseS0 ++ looseS1
-- law stands at [59]

/-- the class Wall read, its __init__ found in it -/
def wallB (K : PySem.W.Frag) : Bool := PySem.W.readsIn K (He.ga K "Wall") (.type "type") && (match PySem.W.findCls K (.ref (He.ga K "Wall")) (.type "type") "__init__" with
  | some (.val (.ref a)) => decide (a = He.ma K (He.ga K "Wall") "__init__")
  | _ => false)
abbrev AlX : Type := Bool × He.AlD
def obsX (K : PySem.W.Frag) : AlX := (wallB K, He.obsD faS fnS K)
def valX : AlX := (true, He.valD fnS)
def hk : PySem.W.Hook where
  α := AlX
  obs := fun s => obsX (He.frG s.heap.get? (He.asD s.heap.get? 4 ++ [cStatics]))
  val := fun _ => valX
  says := fun _ h => ∃ K : PySem.W.Frag, K.In h ∧ obsX K = valX
  of := fun _ _ e => ⟨_, He.frG_in, e⟩
  keeps := fun _ _ _ ⟨K, hK, cc⟩ k => ⟨K, PySem.W.Frag.In.keeps hK k, cc⟩
def obS (s : PySem.W.SharedT) : AlX := let g := HandSHeadRun.getT s; obsX (He.frG g (He.asD g 4 ++ [cStatics]))
theorem ob_eq (s : PySem.W.SharedT) : obS s = hk.obs s.abs := by
  have e : HandSHeadRun.getT s = s.abs.heap.get? := funext (HandSHeadRun.getT_eq s)
  show (let g := HandSHeadRun.getT s; obsX (He.frG g (He.asD g 4 ++ [cStatics]))) = _
  rw [e]
  rfl
abbrev Rw : PySem.W.OpenRow := PySem.W.OpenLaw.row PySem.Challenge.rw_bouncewise_k45_flown_by_steps
theorem run (w : World) : HandSHeadRun.RunEq Rw (PySem.W.view Rw.prog [59]) hk obS 20000 looseS w := by
  intro os
  kernel_rfl
end Bw
end

section
set_option linter.all false
set_option maxRecDepth 100000
/-! Flights by numbers alone: what the program reckons, in plain Lean. -/
namespace Bw
abbrev P2 := Int × Int
abbrev P3 := Int × Int × Int
/-- the divisor -/
def gc (a b : Int) : Int := ((Int.gcd a b : Nat) : Int)
def sgn (g b : Int) : Int := if b < 0 then -g else g
def tmOf (t b : Int) : P2 := (t.fdiv (sgn (gc t b) b), b.fdiv (sgn (gc t b) b))
def ptOf (x y w : Int) : P3 := (x.fdiv (sgn (gc (gc x y) w) w), y.fdiv (sgn (gc (gc x y) w) w), w.fdiv (sgn (gc (gc x y) w) w))
def soonerP (o p : P2) : Bool := decide (o.1 * p.2 < p.1 * o.2)
def addP (o p : P2) : P2 := tmOf (o.1 * p.2 + p.1 * o.2) (o.2 * p.2)
def spotP (P : P3) (h t : P2) : P3 := ptOf (P.1 * t.2 + h.1 * t.1 * P.2.2) (P.2.1 * t.2 + h.2 * t.1 * P.2.2) (P.2.2 * t.2)
/-- below 2 ^ n in size -/
def B (n : Nat) (x : Int) : Prop := x.natAbs < 2 ^ n
theorem B.mono {m n : Nat} {x : Int} (h : B m x) (l : m ≤ n) : B n x := Nat.lt_of_lt_of_le h (Nat.pow_le_pow_right (by decide) l)
theorem B.add {n : Nat} {x y : Int} (h : B n x) (g : B n y) : B (n + 1) (x + y) := by
  unfold B at *
  have := Int.natAbs_add_le x y
  rw [Nat.pow_succ]
  omega
theorem B.neg {n : Nat} {x : Int} (h : B n x) : B n (-x) := by
  unfold B at *
  rw [Int.natAbs_neg]
  exact h
theorem B.sub {n : Nat} {x y : Int} (h : B n x) (g : B n y) : B (n + 1) (x - y) := by
  rw [Int.sub_eq_add_neg]
  exact h.add g.neg
theorem B.mul {m n : Nat} {x y : Int} (h : B m x) (g : B n y) : B (m + n) (x * y) := by
  unfold B at *
  (rw [Int.natAbs_mul, Nat.pow_add])
  exact Nat.mul_lt_mul'' h g
theorem B.le {n : Nat} {x y : Int} (h : B n x) (l : y.natAbs ≤ x.natAbs) : B n y := Nat.lt_of_le_of_lt l h
theorem B.small {n : Nat} {x : Int} (m : Nat) (h : x.natAbs < 2 ^ m) (l : m ≤ n) : B n x := B.mono h l
theorem B.nat {n : Nat} {x : Int} (h0 : 0 ≤ x) (h : x < 2 ^ n) : B n x := by
  unfold B
  have e : ((2 ^ n : Nat) : Int) = (2 : Int) ^ n := by simp
  omega
/-! the divisor's loop -/
theorem gc_zero (a : Int) : gc a 0 = if a < 0 then -a else a := by
  unfold gc
  rw [Int.gcd_zero_right]
  split <;> omega
theorem gc_step (a b : Int) : gc b (a.fmod b) = gc a b := by
  unfold gc
  have e : Int.gcd b (a.fmod b) = Int.gcd a b := by
    have h := Int.fmod_add_mul_fdiv a b
    have h2 : a.fmod b = a + b * (-(a.fdiv b)) := by
      rw [Int.mul_neg]
      omega
    rw [h2, Int.gcd_add_mul_left_right, Int.gcd_comm]
  rw [e]
theorem fmod_less (a : Int) {b : Int} (h : b ≠ 0) : (a.fmod b).natAbs < b.natAbs := by
  rcases Int.lt_or_gt_of_ne h with l | g
  · have h1 := Int.fmod_nonneg_of_pos (-a) (show 0 < -b by omega)
    have h2 := Int.fmod_lt_of_pos (-a) (show 0 < -b by omega)
    rw [Int.neg_fmod_neg] at h1 h2
    omega
  · have h1 := Int.fmod_nonneg_of_pos a g
    have h2 := Int.fmod_lt_of_pos a g
    omega
theorem gc_pos {a b : Int} (h : b ≠ 0) : 0 < gc a b := by
  unfold gc
  have := Int.gcd_pos_of_ne_zero_right a h
  omega
theorem gc_le {a b : Int} (h : b ≠ 0) : (gc a b).natAbs ≤ b.natAbs := by
  unfold gc
  rw [Int.natAbs_natCast]
  exact Int.gcd_le_natAbs_right a h
/-! ### a time, a point made -/
theorem sgn_dvd {g b t : Int} (h : g ∣ t) : sgn g b ∣ t := by
  unfold sgn
  split
  · exact Int.neg_dvd.mpr h
  · exact h
theorem sgn_pos {g b q : Int} (hg : 0 < g) (hb : b ≠ 0) (e : sgn g b * q = b) : 0 < q := by
  unfold sgn at e
  split at e
  · rename_i l
    rcases Int.lt_or_le 0 q with h | h
    · exact h
    · have := Int.mul_nonneg (show 0 ≤ g by omega) (show 0 ≤ -q by omega)
      rw [Int.mul_neg] at this
      rw [Int.neg_mul] at e
      omega
  · rename_i l
    rcases Int.lt_or_le 0 q with h | h
    · exact h
    · have := Int.mul_nonneg (show 0 ≤ g by omega) (show 0 ≤ -q by omega)
      rw [Int.mul_neg] at this
      omega
theorem fdiv_ex {s t : Int} (h : s ∣ t) : s * t.fdiv s = t := by
  exact Int.mul_fdiv_cancel' h
theorem le_of_mul {s q t : Int} (hs : s ≠ 0) (e : s * q = t) : q.natAbs ≤ t.natAbs := by
  rw [← e, Int.natAbs_mul]
  exact Nat.le_mul_of_pos_left _ (Int.natAbs_pos.mpr hs)
structure TmOk (t b : Int) (r : P2) : Prop where
  pos : 0 < r.2
  eq : r.1 * b = t * r.2
  le1 : r.1.natAbs ≤ t.natAbs
  le2 : r.2.natAbs ≤ b.natAbs
theorem tmOf_ok {t b : Int} (h : b ≠ 0) : TmOk t b (tmOf t b) := by
  have g0 : 0 < gc t b := gc_pos h
  have sn : sgn (gc t b) b ≠ 0 := by
    unfold sgn
    split <;> omega
  have d1 : gc t b ∣ t := Int.gcd_dvd_left ..
  have d2 : gc t b ∣ b := Int.gcd_dvd_right ..
  have e1 := fdiv_ex (sgn_dvd (b := b) d1)
  have e2 := fdiv_ex (sgn_dvd (b := b) d2)
  refine ⟨sgn_pos g0 h e2, ?_, le_of_mul sn e1, le_of_mul sn e2⟩
  show t.fdiv (sgn (gc t b) b) * b = t * b.fdiv (sgn (gc t b) b)
  generalize t.fdiv (sgn (gc t b) b) = T at *
  generalize b.fdiv (sgn (gc t b) b) = C at *
  generalize sgn (gc t b) b = s at *
  rw [← e1, ← e2, Int.mul_comm s T, Int.mul_assoc]
structure PtEq (x y w : Int) (r : P3) (s : Int) : Prop where
  sn : s ≠ 0
  ex : s * r.1 = x
  ey : s * r.2.1 = y
  ew : s * r.2.2 = w
  pos : 0 < r.2.2
theorem ptOf_ok {x y w : Int} (h : w ≠ 0) : PtEq x y w (ptOf x y w) (sgn (gc (gc x y) w) w) := by
  have g0 : 0 < gc (gc x y) w := gc_pos h
  have sn : sgn (gc (gc x y) w) w ≠ 0 := by
    unfold sgn
    split <;> omega
  have d0 : gc (gc x y) w ∣ gc x y := Int.gcd_dvd_left ..
  have d1 : gc (gc x y) w ∣ x := Int.dvd_trans d0 (Int.gcd_dvd_left ..)
  have d2 : gc (gc x y) w ∣ y := Int.dvd_trans d0 (Int.gcd_dvd_right ..)
  have d3 : gc (gc x y) w ∣ w := Int.gcd_dvd_right ..
  have e3 := fdiv_ex (sgn_dvd (b := w) d3)
  exact ⟨sn, fdiv_ex (sgn_dvd (b := w) d1), fdiv_ex (sgn_dvd (b := w) d2), e3, sgn_pos g0 h e3⟩
/-! ### walls -/
/-- a wall by its data: 0 a mirror, 1 a glass, 2 a hole, 3 a door -/
structure WD where
  kind : Nat
  one : P2
  two : P2
  every : Int
structure WOk (u : WD) : Prop where
  kind : u.kind ≤ 3
  ev : 1 ≤ u.every ∧ u.every ≤ 9
  a1 : 0 ≤ u.one.1 ∧ u.one.1 ≤ 4
  a2 : 0 ≤ u.one.2 ∧ u.one.2 ≤ 4
  b1 : 0 ≤ u.two.1 ∧ u.two.1 ≤ 4
  b2 : 0 ≤ u.two.2 ∧ u.two.2 ≤ 4
  dir : ∃ l : Int, 1 ≤ l ∧ ((u.two.1 = u.one.1 + l ∧ u.two.2 = u.one.2) ∨ (u.two.1 = u.one.1 + l ∧ u.two.2 = u.one.2 + l) ∨ (u.two.1 = u.one.1 ∧ u.two.2 = u.one.2 + l) ∨ (u.two.1 = u.one.1 + l ∧ u.two.2 = u.one.2 - l))
/-- a point, a heading as a flight has them -/
structure PtOk (P : P3) : Prop where
  pos : 0 < P.2.2
  w : B 300 P.2.2
  x : B 20000 P.1
  y : B 20000 P.2.1
structure HdOk (h : P2) : Prop where
  a : -3 ≤ h.1 ∧ h.1 ≤ 3
  b : -3 ≤ h.2 ∧ h.2 ≤ 3
  n : ¬ (h.1 = 0 ∧ h.2 = 0)
def holdsP (u : WD) (P : P3) : Bool :=
  if (u.two.1 - u.one.1) * (P.2.1 - P.2.2 * u.one.2) = (u.two.2 - u.one.2) * (P.1 - P.2.2 * u.one.1) then
    decide (0 ≤ (u.two.1 - u.one.1) * (P.1 - P.2.2 * u.one.1) + (u.two.2 - u.one.2) * (P.2.1 - P.2.2 * u.one.2)) &&
    decide ((u.two.1 - u.one.1) * (P.1 - P.2.2 * u.one.1) + (u.two.2 - u.one.2) * (P.2.1 - P.2.2 * u.one.2) ≤ P.2.2 * ((u.two.1 - u.one.1) * (u.two.1 - u.one.1) + (u.two.2 - u.one.2) * (u.two.2 - u.one.2)))
  else false
def endsP (u : WD) (P : P3) : Bool := decide (P.2.2 = 1) && (decide ((P.1, P.2.1) = u.one) || decide ((P.1, P.2.1) = u.two))
/-- 0 level, 1 rising, 2 upright, 3 falling -/
def lineP (one two : P2) : Int := if two.2 - one.2 = 0 then 0 else if two.1 - one.1 = two.2 - one.2 then 1 else if two.1 - one.1 = 0 then 2 else 3
def mirrorP (h : P2) (l : Int) : P2 := if l = 0 then (h.1, -h.2) else if l = 1 then (h.2, h.1) else if l = 2 then (-h.1, h.2) else (-h.2, -h.1)
def behindP (u : WD) (h : P2) (count : Int) : Option P2 :=
  if u.kind = 0 then some (mirrorP h (lineP u.one u.two)) else if u.kind = 1 then some h else if u.kind = 2 then none else
  if count.fmod u.every = 0 then some h else some (mirrorP h (lineP u.one u.two))
/-! ### the first wall met -/
def alongP (P : P3) (h : P2) (e : P2) : P2 := if h.1 ≠ 0 then tmOf (e.1 * P.2.2 - P.1) (h.1 * P.2.2) else tmOf (e.2 * P.2.2 - P.2.1) (h.2 * P.2.2)
/-- the sooner one, none counting as never -/
def better (t : P2) : Option P2 → Bool
  | none => true
  | some u => soonerP t u
def aheadStep (P : P3) (h : P2) (acc : Option P2) (e : P2) : Option P2 := if decide (0 < (alongP P h e).1) && better (alongP P h e) acc then some (alongP P h e) else acc
def endAheadP (u : WD) (P : P3) (h : P2) : Option P2 := [u.one, u.two].foldl (aheadStep P h) none
def acrossP (u : WD) (h : P2) : Int := h.1 * (u.two.2 - u.one.2) - h.2 * (u.two.1 - u.one.1)
def offP (u : WD) (P : P3) : Int := (u.one.1 * P.2.2 - P.1) * (u.two.2 - u.one.2) - (u.one.2 * P.2.2 - P.2.1) * (u.two.1 - u.one.1)
def timeToP (u : WD) (P : P3) (h : P2) : Option P2 :=
  if acrossP u h = 0 then (if offP u P ≠ 0 then none else endAheadP u P h) else
  if (tmOf (offP u P) (acrossP u h * P.2.2)).1 ≤ 0 then none else
  if holdsP u (spotP P h (tmOf (offP u P) (acrossP u h * P.2.2))) then some (tmOf (offP u P) (acrossP u h * P.2.2)) else none
def leastStep (P : P3) (h : P2) (acc : Option P2) (u : WD) : Option P2 := match timeToP u P h with
  | none => acc
  | some t => if better t acc then some t else acc
def leastP (us : List WD) (P : P3) (h : P2) : Option P2 := us.foldl (leastStep P h) none
def onTo (us : List WD) (P : P3) (n : Nat) : List Nat := (List.range n).filter fun k => (us[k]?).any fun u => holdsP u P
def onP (us : List WD) (P : P3) : List Nat := onTo us P us.length
theorem onTo_succ (us : List WD) (P : P3) (n : Nat) : onTo us P (n + 1) = onTo us P n ++ (if (us[n]?).any (fun u => holdsP u P) then [n] else []) := by
  unfold onTo
  rw [List.range_succ, List.filter_append]
  congr 1
  by_cases h : (us[n]?).any (fun u => holdsP u P) = true
  · rw [if_pos h, List.filter_cons, if_pos h]
    rfl
  · rw [if_neg h, List.filter_cons, if_neg h]
    rfl
/-- is_corner -/
def cornerP (us : List WD) (P : P3) : Bool := decide (1 < (onP us P).length) || (onP us P).any fun k => (us[k]?).any fun u => endsP u P
end Bw
end

section
set_option Elab.async false
set_option linter.all false
set_option maxRecDepth 100000
set_option maxHeartbeats 4100000
namespace Bw
open PySem L2
/-! ### readings, one step each: what is left to be shown comes first -/
section
variable {K : PySem.W.Frag} {σ : L2.St} {H : Hp} {Q : VK} {QT : Bool → Hp → Prop} {QA : List V → Hp → Prop} {QS : L2.St → Hp → Prop} {D : Ends} {ta tb tc te : TE} {t u : TT} {tl tr : TA} {ts ts' : TS} {r r' : R2} {g : TG} {gs : TGs} {v x y z : V} {i j : Int} {b c : Bool} {n : Nat} {vs xs : List V} {f m : Str}
theorem rd_var {k : Nat} (h : σ[k]? = some (some v)) (q : Q v H) : tVar k σ H Q := ⟨v, h, q⟩
theorem rd_c (q : Q v H) : tC v σ H Q := q
theorem rd_op (q : ta σ H fun x H1 => tb σ H1 fun y H2 => r x y H2 Q) : tOp r ta tb σ H Q := q
theorem rd_un {r : V → Hp → VK → Prop} (q : ta σ H fun x H1 => r x H1 Q) : tUn r ta σ H Q := q
theorem rd_add (q : Q (.int (i + j)) H) : rI0 (fun i j => .int (i + j)) (.int i) (.int j) H Q := ⟨i, j, rfl, rfl, q⟩
theorem rd_sub (q : Q (.int (i - j)) H) : rI0 (fun i j => .int (i - j)) (.int i) (.int j) H Q := ⟨i, j, rfl, rfl, q⟩
theorem rd_lt (q : Q (.bl (decide (i < j))) H) : rI0 (fun i j => .bl (decide (i < j))) (.int i) (.int j) H Q := ⟨i, j, rfl, rfl, q⟩
theorem rd_le (q : Q (.bl (decide (i ≤ j))) H) : rI0 (fun i j => .bl (decide (i ≤ j))) (.int i) (.int j) H Q := ⟨i, j, rfl, rfl, q⟩
theorem rd_gt (q : Q (.bl (decide (j < i))) H) : rI0 (fun i j => .bl (decide (j < i))) (.int i) (.int j) H Q := ⟨i, j, rfl, rfl, q⟩
theorem rd_ge (q : Q (.bl (decide (j ≤ i))) H) : rI0 (fun i j => .bl (decide (j ≤ i))) (.int i) (.int j) H Q := ⟨i, j, rfl, rfl, q⟩
theorem rd_mulW (q : Q (.int (i * j)) H) (hc : CMulW i j) : rI CMulW (fun i j => .int (i * j)) (.int i) (.int j) H Q := ⟨i, j, rfl, rfl, hc, q⟩
theorem rd_mul (q : Q (.int (i * j)) H) (hc : CMul i j) : rI CMul (fun i j => .int (i * j)) (.int i) (.int j) H Q := ⟨i, j, rfl, rfl, hc, q⟩
theorem rd_mod (q : Q (.int (i % j)) H) (hc : 0 < j) : rI (fun _ j => 0 < j) (fun i j => .int (i % j)) (.int i) (.int j) H Q := ⟨i, j, rfl, rfl, hc, q⟩
theorem rd_modN (q : Q (.int (i.fmod j)) H) (hc : j ≠ 0) : rI (fun _ j => j ≠ 0) (fun i j => .int (i.fmod j)) (.int i) (.int j) H Q := ⟨i, j, rfl, rfl, hc, q⟩
theorem rd_fdiv (q : Q (.int (i / j)) H) (hc : CDiv i j) : rI CDiv (fun i j => .int (i / j)) (.int i) (.int j) H Q := ⟨i, j, rfl, rfl, hc, q⟩
theorem rd_fdivZ (q : Q (.int (i.fdiv j)) H) (h1 : j ≠ 0) (h2 : j.natAbs.log2 < 9000) : rI (fun _ j => j ≠ 0 ∧ j.natAbs.log2 < 9000) (fun i j => .int (i.fdiv j)) (.int i) (.int j) H Q := ⟨i, j, rfl, rfl, ⟨h1, h2⟩, q⟩
theorem rd_neg (q : Q (.int (-i)) H) : rU (fun i => .int (-i)) (.int i) H Q := ⟨i, rfl, q⟩
theorem rd_eqI (q : Q (.bl (decide (i = j))) H) : rEq (.int i) (.int j) H Q := ⟨rfl, by
  rw [show decide (V.int i = V.int j) = decide (i = j) by rw [dec_int]; exact Bool.beq_eq_decide_eq i j]
  exact q⟩
theorem rd_neI (q : Q (.bl (!decide (i = j))) H) : rNe (.int i) (.int j) H Q := ⟨rfl, by
  rw [show decide (V.int i = V.int j) = decide (i = j) by rw [dec_int]; exact Bool.beq_eq_decide_eq i j]
  exact q⟩
theorem rd_eqS {s s' : Str} (q : Q (.bl (decide (s = s'))) H) : rEq (.str s) (.str s') H Q := ⟨rfl, by
  rw [show decide (V.str s = V.str s') = decide (s = s') by simp]
  exact q⟩
theorem rd_neS {s s' : Str} (q : Q (.bl (!decide (s = s'))) H) : rNe (.str s) (.str s') H Q := ⟨rfl, by
  rw [show decide (V.str s = V.str s') = decide (s = s') by simp]
  exact q⟩
/-- is None, is not None -/
def rIsN : R2 := fun x y H Q => y = V.non ∧ Q (V.bl (decide (x = V.non))) H
def rNotN : R2 := fun x y H Q => y = V.non ∧ Q (V.bl (!decide (x = V.non))) H
theorem op_isNb {X : Cx} : OpR X (compareOp .Is) rIsN := op_isN
theorem op_notNb {X : Cx} : OpR X (compareOp .IsNot) rNotN := op_notN
theorem rd_isN0 (q : Q (.bl true) H) : rIsN .non .non H Q := ⟨rfl, q⟩
theorem rd_isN1 {p : Addr} (q : Q (.bl false) H) : rIsN (.ref p) .non H Q := ⟨rfl, q⟩
theorem rd_notN0 (q : Q (.bl false) H) : rNotN .non .non H Q := ⟨rfl, q⟩
theorem rd_notN1 {p : Addr} (q : Q (.bl true) H) : rNotN (.ref p) .non H Q := ⟨rfl, q⟩
/-! tests -/
theorem rd_test (q : te σ H fun x H' => ∃ k, x = .bl k ∧ QT k H') : tTest te σ H QT := q
theorem rd_tB (q : te σ H fun x H' => ∃ k, x = .bl k ∧ QT k H') : tB te σ H QT := q
theorem rd_isbl {P : Bool → Prop} (q : P b) : ∃ k, V.bl b = .bl k ∧ P k := ⟨b, rfl, q⟩
theorem rd_yes (q : QT true H) : tYes σ H QT := q
theorem rd_and (q : t σ H fun c H1 => if c = true then u σ H1 QT else QT false H1) : tAnd t u σ H QT := q
theorem rd_or (q : t σ H fun c H1 => if c = true then QT true H1 else u σ H1 QT) : tOr t u σ H QT := q
theorem rd_not (q : t σ H fun c H1 => QT (!c) H1) : tNot t σ H QT := q
theorem rd_andV (q : ta σ H fun x H1 => ∃ c, x = .bl c ∧ if c = true then tb σ H1 Q else Q (.bl false) H1) : tAndV ta tb σ H Q := q
theorem rd_orV (q : ta σ H fun x H1 => ∃ c, x = .bl c ∧ if c = true then Q (.bl true) H1 else tb σ H1 Q) : tOrV ta tb σ H Q := q
theorem rd_notV (q : ta σ H fun x H1 => ∃ c, x = .bl c ∧ Q (.bl (!c)) H1) : tNotV ta σ H Q := q
theorem rd_chain (q : ta σ H fun x H1 => tb σ H1 fun y H2 => r x y H2 fun z H3 => ∃ k, z = .bl k ∧ (if k = true then tc σ H3 fun w' H4 => r' y w' H4 Q else Q (.bl false) H3)) : tChain r r' ta tb tc σ H Q := q
theorem rd_iteT {A B : Prop} (h : A) : if true = true then A else B := by
  rw [if_pos rfl]
  exact h
theorem rd_iteF {A B : Prop} (h : B) : if false = true then A else B := by
  (rw [if_neg Bool.false_ne_true])
  exact h
/-- both ways -/
theorem rd_ite {p A B : Prop} [Decidable p] (h1 : p → A) (h2 : ¬ p → B) : if decide p = true then A else B := by
  by_cases h : p
  · rw [if_pos (decide_eq_true h)]
    exact h1 h
  · rw [if_neg (by rw [decide_eq_false h]; exact Bool.false_ne_true)]
    exact h2 h
theorem rd_iten {p A B : Prop} [Decidable p] (h1 : ¬ p → A) (h2 : p → B) : if (!decide p) = true then A else B := by
  by_cases h : p
  · rw [if_neg (by rw [decide_eq_true h]; exact Bool.false_ne_true)]
    exact h2 h
  · rw [if_pos (by rw [decide_eq_false h]; rfl)]
    exact h1 h
theorem rd_iteb {A B : Prop} (h1 : b = true → A) (h2 : b = false → B) : if b = true then A else B := by
  cases b with
  | true => exact rd_iteT (h1 rfl)
  | false => exact rd_iteF (h2 rfl)
theorem rd_iteY {p A B : Prop} [Decidable p] (h : p) (q : A) : if decide p = true then A else B := rd_ite (fun _ => q) fun n => absurd h n
theorem rd_iteN {p A B : Prop} [Decidable p] (h : ¬ p) (q : B) : if decide p = true then A else B := rd_ite (fun n => absurd n h) fun _ => q
theorem rd_itenY {p A B : Prop} [Decidable p] (h : ¬ p) (q : A) : if (!decide p) = true then A else B := rd_iten (fun _ => q) fun n => absurd n h
theorem rd_itenN {p A B : Prop} [Decidable p] (h : p) (q : B) : if (!decide p) = true then A else B := rd_iten (fun n => absurd h n) fun _ => q
/-! statements -/
theorem rd_seq (q : ts { D with nx := ts' D } σ H) : tSeq ts ts' D σ H := q
theorem rd_asg (q : te σ H fun x H1 => g x σ H1 D.nx) : tAsg te g D σ H := q
theorem rd_name {k : Nat} (q : QS (σ.set k (some v)) H) : gName k v σ H QS := q
theorem rd_ret (q : te σ H D.rt) : tRet te D σ H := q
theorem rd_if (q : t σ H fun b H1 => if b = true then ts D σ H1 else ts' D σ H1) : tIfS t ts ts' D σ H := q
theorem rd_next (q : D.nx σ H) : tNext D σ H := q
theorem rd_drop (q : te σ H fun _ H1 => D.nx σ H1) : tDrop te D σ H := q
theorem rd_break (q : D.bk σ H) : tBreak D σ H := q
theorem rd_for {wi : TI} (q : wi σ H fun J H1 => ∃ W : Nat → Nat → L2.St → Hp → Prop, (∃ m, W 0 m σ H1) ∧ ∀ i m σ H, W i m σ H →
  (J.stop i H ∧ D.nx σ H) ∨ (J.go i H ∧ ∃ N : L2.St → Hp → Prop, (∀ σ' H', N σ' H' → ∃ m', m' < m ∧ W (i + 1) m' σ' H') ∧ ∀ x H', J.yld i H x H' → g x σ H' fun σ2 H2 => ts { D with nx := N, ct := N, bk := D.nx } σ2 H2)) : tFor wi g ts D σ H := q
/-! arguments, calls -/
theorem rd_cons (q : ta σ H fun x H1 => tr σ H1 fun xs H2 => QA (x :: xs) H2) : tCons ta tr σ H QA := q
theorem rd_nil (q : QA [] H) : tNil σ H QA := q
theorem rd_call {sp : Sp} {E : XK} (q : tl σ H fun vs H1 => sp (vs ++ []) H1 Q E) : tCall sp [] E tl σ H Q := q
theorem rd_CB {r : List V → Hp → VK → Prop} (q : tl σ H fun vs H1 => r vs H1 Q) : tCB r tl σ H Q := q
/-! tuples, lists, fields -/
/-- a new tuple, a new list -/
def NewT (Q : VK) (H : Hp) (xs : List V) : Prop := xs.length ≤ sizeLine ∧ ∀ p, H p = none → Q (.ref p) (upd H p (.tup xs))
def NewL (Q : VK) (H : Hp) (xs : List V) : Prop := xs.length ≤ sizeLine ∧ ∀ p, H p = none → Q (.ref p) (upd H p (.lst xs))
theorem rd_tup (q : tl σ H fun xs H1 => NewT Q H1 xs) : tTup tl σ H Q := q
theorem rd_tupN (hl : xs.length ≤ 1000) (q : ∀ p H', Same H H' → TUP H' (.ref p) xs → Q (.ref p) H') : NewT Q H xs :=
  ⟨Nat.le_of_lt (small1000 hl), fun p hp => q p _ (same_new hp) ⟨p, rfl, upd_same⟩⟩
theorem rd_lst (q : tl σ H fun xs H1 => NewL Q H1 xs) : tLst tl σ H Q := q
theorem rd_lstN (hl : xs.length ≤ 1000) (q : ∀ p H', Same H H' → H p = none → H' p = some (.lst xs) → Q (.ref p) H') : NewL Q H xs :=
  ⟨Nat.le_of_lt (small1000 hl), fun p hp => q p _ (same_new hp) hp upd_same⟩
theorem rd_fld (q : ta σ H fun x H1 => ∃ y, Fld K H1 x f y ∧ Q y H1) : tFld K ta f σ H Q := by
  -- the reading of a field asks just this, written out
  have e : tFld K ta f σ H Q = ta σ H (fun x H1 => ∃ a C dx fs v, x = .ref a ∧ H1 a = some (.ins C dx fs) ∧ Cls K C ∧ NoAttr K C f ∧ fs.lookup f = some v ∧ Q v H1) := rfl
  have e2 : (fun (x : V) (H1 : Hp) => ∃ y, Fld K H1 x f y ∧ Q y H1) = (fun x H1 => ∃ a C dx fs v, x = .ref a ∧ H1 a = some (.ins C dx fs) ∧ Cls K C ∧ NoAttr K C f ∧ fs.lookup f = some v ∧ Q v H1) := by
    funext x H1
    apply propext
    constructor
    · rintro ⟨y, ⟨a, C, dx, fs, h1, h2, h3, h4, h5⟩, h6⟩
      exact ⟨a, C, dx, fs, y, h1, h2, h3, h4, h5, h6⟩
    · rintro ⟨a, C, dx, fs, y, h1, h2, h3, h4, h5, h6⟩
      exact ⟨y, ⟨a, C, dx, fs, h1, h2, h3, h4, h5⟩, h6⟩
  rw [e, ← e2]
  exact q
theorem rd_fldv {P : V → Prop} (h : Fld K H x f y) (q : P y) : ∃ y, Fld K H x f y ∧ P y := ⟨y, h, q⟩
theorem rd_ixT (h : TUP H v xs) (hx : xs[n]? = some z) (q : Q z H) : rIxT K v (.int (n : Nat)) H Q := by
  obtain ⟨p, rfl, e⟩ := h
  exact ⟨p, xs, _, z, rfl, rfl, SqT.of e, atI_nat hx, q⟩
theorem rd_ixL (h : LST H v xs) (hx : xs[n]? = some z) (q : Q z H) : rIxL K v (.int (n : Nat)) H Q := by
  obtain ⟨p, rfl, e⟩ := h
  exact ⟨p, xs, _, z, rfl, rfl, SqL.of e, atI_nat hx, q⟩
theorem rd_ixT0 (h : TUP H v xs) (hx : xs[0]? = some z) (q : Q z H) : rIxT K v (.int 0) H Q := rd_ixT (n := 0) h hx q
theorem rd_ixL0 (h : LST H v xs) (hx : xs[0]? = some z) (q : Q z H) : rIxL K v (.int 0) H Q := rd_ixL (n := 0) h hx q
theorem rd_ixT1 (h : TUP H v xs) (hx : xs[1]? = some z) (q : Q z H) : rIxT K v (.int 1) H Q := rd_ixT (n := 1) h hx q
theorem rd_ixL1 (h : LST H v xs) (hx : xs[1]? = some z) (q : Q z H) : rIxL K v (.int 1) H Q := rd_ixL (n := 1) h hx q
theorem rd_ixT2 (h : TUP H v xs) (hx : xs[2]? = some z) (q : Q z H) : rIxT K v (.int 2) H Q := rd_ixT (n := 2) h hx q
theorem rd_ixL2 (h : LST H v xs) (hx : xs[2]? = some z) (q : Q z H) : rIxL K v (.int 2) H Q := rd_ixL (n := 2) h hx q
theorem rd_ixT3 (h : TUP H v xs) (hx : xs[3]? = some z) (q : Q z H) : rIxT K v (.int 3) H Q := rd_ixT (n := 3) h hx q
theorem rd_ixL3 (h : LST H v xs) (hx : xs[3]? = some z) (q : Q z H) : rIxL K v (.int 3) H Q := rd_ixL (n := 3) h hx q
theorem rd_ixT4 (h : TUP H v xs) (hx : xs[4]? = some z) (q : Q z H) : rIxT K v (.int 4) H Q := rd_ixT (n := 4) h hx q
theorem rd_ixL4 (h : LST H v xs) (hx : xs[4]? = some z) (q : Q z H) : rIxL K v (.int 4) H Q := rd_ixL (n := 4) h hx q
theorem rd_ixT5 (h : TUP H v xs) (hx : xs[5]? = some z) (q : Q z H) : rIxT K v (.int 5) H Q := rd_ixT (n := 5) h hx q
theorem rd_ixL5 (h : LST H v xs) (hx : xs[5]? = some z) (q : Q z H) : rIxL K v (.int 5) H Q := rd_ixL (n := 5) h hx q
theorem rd_ixT6 (h : TUP H v xs) (hx : xs[6]? = some z) (q : Q z H) : rIxT K v (.int 6) H Q := rd_ixT (n := 6) h hx q
theorem rd_ixL6 (h : LST H v xs) (hx : xs[6]? = some z) (q : Q z H) : rIxL K v (.int 6) H Q := rd_ixL (n := 6) h hx q
theorem rd_gtup (h : TUP H v xs) (hl : xs.length = n) (q : gs xs σ H QS) : gTup K n gs v σ H QS := by
  obtain ⟨p, rfl, e⟩ := h
  exact ⟨p, xs, rfl, SqT.of e, hl, q⟩
theorem rd_gcons (q : g v σ H fun σ' H' => gs vs σ' H' QS) : gCons g gs (v :: vs) σ H QS := ⟨v, vs, rfl, q⟩
theorem rd_gnil (q : QS σ H) : gNil [] σ H QS := ⟨rfl, q⟩
/-! methods -/
def One (RC : Addr → Prop) (sp : Sp) : Addr → Sp → Prop := fun C s => RC C ∧ s = sp
theorem rd_mx {R : Addr → Sp → Prop} (q : ta σ H fun x H1 => ∃ a C dx fs sp, x = .ref a ∧ H1 a = some (.ins C dx fs) ∧ fs.lookup m = none ∧ R C sp ∧ tl σ H1 fun vs H2 => sp (x :: vs) H2 Q E0) : tMx R m ta tl σ H Q := q
theorem rd_mx1 {RC : Addr → Prop} {sp : Sp} (h : Mth RC H x m) (q : tl σ H fun vs H2 => sp (x :: vs) H2 Q E0) :
    ∃ a C dx fs s, x = .ref a ∧ H a = some (.ins C dx fs) ∧ fs.lookup m = none ∧ One RC sp C s ∧ tl σ H fun vs H2 => s (x :: vs) H2 Q E0 := by
  obtain ⟨a, C, dx, fs, h1, h2, h3, h4⟩ := h
  exact ⟨a, C, dx, fs, sp, h1, h2, h3, ⟨h4, rfl⟩, q⟩
theorem rd_sfld (q : tb σ H fun y H1 => ta σ H1 fun x H2 => ∃ a C dx fs, x = .ref a ∧ H2 a = some (.ins C dx fs) ∧ Cls K C ∧ NoAttr K C f ∧ fs.length < 1000 ∧ D.nx σ (upd H2 a (.ins C dx (putF f y fs)))) : sFld K ta tb f D σ H := q
/-! what is walked -/
def rLen (K : PySem.W.Frag) : List V → Hp → VK → Prop := fun xs H Q => ∃ p ys, xs = [.ref p] ∧ (SqL K H p ys ∨ SqT K H p ys) ∧ Q (.int ys.length) H
theorem cl_len {X : Cx} : CallR X (.builtin "len") (rLen X.K) := call_len_seq
theorem rd_lenL (h : LST H v xs) (q : Q (.int xs.length) H) : rLen K [v] H Q := by
  obtain ⟨p, rfl, e⟩ := h
  exact ⟨p, xs, rfl, .inl (SqL.of e), q⟩
theorem rd_lenT (h : TUP H v xs) (q : Q (.int xs.length) H) : rLen K [v] H Q := by
  obtain ⟨p, rfl, e⟩ := h
  exact ⟨p, xs, rfl, .inr (SqT.of e), q⟩
def rListOf (K : PySem.W.Frag) : List V → Hp → VK → Prop := fun xs H Q => ∃ p ys, xs = [.ref p] ∧ (SqL K H p ys ∨ SqT K H p ys) ∧ ∀ l, H l = none → Q (.ref l) (upd H l (.lst ys))
theorem cl_list {X : Cx} : CallR X (.type "list") (rListOf X.K) := call_list_of
theorem rd_listL (h : LST H v xs) (q : ∀ p H', Same H H' → H p = none → H' p = some (.lst xs) → Q (.ref p) H') : rListOf K [v] H Q := by
  obtain ⟨p, rfl, e⟩ := h
  exact ⟨p, xs, rfl, .inl (SqL.of e), fun l hl => q l _ (same_new hl) hl upd_same⟩
def rAbs : List V → Hp → VK → Prop := fun xs H Q => ∃ i, xs = [.int i] ∧ Q (.int (if i < 0 then -i else i)) H
theorem cl_abs {X : Cx} : CallR X (.builtin "abs") rAbs := call_abs
theorem rd_abs (q : Q (.int (if i < 0 then -i else i)) H) : rAbs [.int i] H Q := ⟨i, rfl, q⟩
def rMx2 : List V → Hp → VK → Prop := fun xs H Q => ∃ i j, xs = [.int i, .int j] ∧ Q (.int (if j > i then j else i)) H
theorem cl_max2 {X : Cx} (hc : X.calm = true) : CallR X (.builtin "max") rMx2 := call_max2 hc
theorem rd_max2 (q : Q (.int (if j > i then j else i)) H) : rMx2 [.int i, .int j] H Q := ⟨i, j, rfl, q⟩
def rMn2 : List V → Hp → VK → Prop := fun xs H Q => ∃ i j, xs = [.int i, .int j] ∧ Q (.int (if j < i then j else i)) H
theorem cl_min2 {X : Cx} (hc : X.calm = true) : CallR X (.builtin "min") rMn2 := call_min2 hc
theorem rd_min2 (q : Q (.int (if j < i then j else i)) H) : rMn2 [.int i, .int j] H Q := ⟨i, j, rfl, q⟩
def rMnT : List V → Hp → VK → Prop := fun xs H Q => ∃ v u a b, xs = [v, u] ∧ T2 H v a ∧ T2 H u b ∧ Q (if lt2 b a then u else v) H
def rMxT : List V → Hp → VK → Prop := fun xs H Q => ∃ v u a b, xs = [v, u] ∧ T2 H v a ∧ T2 H u b ∧ Q (if lt2 a b then u else v) H
theorem cl_minT {X : Cx} (hc : X.calm = true) (hu : X.A.units + 8 < cLine) : CallR X (.builtin "min") rMnT := call_minT hc hu
theorem cl_maxT {X : Cx} (hc : X.calm = true) (hu : X.A.units + 8 < cLine) : CallR X (.builtin "max") rMxT := call_maxT hc hu
theorem rd_minT {p q : P2} (h1 : T2 H x p) (h2 : T2 H y q) (k : ∀ z, T2 H z (if lt2 q p then q else p) → Q z H) : rMnT [x, y] H Q := by
  refine ⟨x, y, p, q, rfl, h1, h2, k _ ?_⟩
  cases lt2 q p with
  | true => exact h2
  | false => exact h1
theorem rd_maxT {p q : P2} (h1 : T2 H x p) (h2 : T2 H y q) (k : ∀ z, T2 H z (if lt2 p q then q else p) → Q z H) : rMxT [x, y] H Q := by
  refine ⟨x, y, p, q, rfl, h1, h2, k _ ?_⟩
  cases lt2 p q with
  | true => exact h2
  | false => exact h1
/-- for x in a list -/
theorem for_L (h : LST H v xs) (Pv : Nat → L2.St → Hp → Prop) (h0 : Pv 0 σ H) (hl : ∀ i σ H', Pv i σ H' → LST H' v xs)
    (hs : ∀ i x σ H, xs[i]? = some x → Pv i σ H → g x σ H fun σ2 H2 => ts { D with nx := Pv (i + 1), ct := Pv (i + 1), bk := D.nx } σ2 H2) (hd : ∀ σ H, Pv xs.length σ H → D.nx σ H) :
    ∃ a, v = .ref a ∧ (∃ xs, SqL K H a xs) ∧ ∃ W : Nat → Nat → L2.St → Hp → Prop, (∃ m, W 0 m σ H) ∧ ∀ i m σ H, W i m σ H →
      ((Itl K a).stop i H ∧ D.nx σ H) ∨ ((Itl K a).go i H ∧ ∃ N : L2.St → Hp → Prop, (∀ σ' H', N σ' H' → ∃ m', m' < m ∧ W (i + 1) m' σ' H') ∧ ∀ x H', (Itl K a).yld i H x H' → g x σ H' fun σ2 H2 => ts { D with nx := N, ct := N, bk := D.nx } σ2 H2) := by
  obtain ⟨a, rfl, e⟩ := h
  refine ⟨a, rfl, ⟨xs, SqL.of e⟩, for_list (xs := xs) Pv h0 (fun i σ H' _ p => ?_) hs hd⟩
  obtain ⟨a', ea, e'⟩ := hl i σ H' p
  cases ea
  exact SqL.of e'
theorem rd_iL {R : It → Hp → Prop} (q : ta σ H fun x H1 => ∃ a, x = .ref a ∧ (∃ xs, SqL K H1 a xs) ∧ R (Itl K a) H1) : iList K ta σ H R := q
theorem rd_iE {R : It → Hp → Prop} (q : tl σ H fun vs H1 => ∃ a xs, vs = [.ref a] ∧ SqL K H1 a xs ∧ R (Ite K a) H1) : iEnum K tl σ H R := q
theorem rd_iZ {R : It → Hp → Prop} (q : tl σ H fun vs H1 => ∃ a b xs ys, vs = [.ref a, .ref b] ∧ SqL K H1 a xs ∧ SqL K H1 b ys ∧ R (Itz K a b) H1) : iZip K tl σ H R := q
theorem rd_iT {R : It → Hp → Prop} (q : ta σ H fun x H1 => ∃ a, x = .ref a ∧ (∃ xs, SqT K H1 a xs) ∧ R (Itt K a) H1) : iTup K ta σ H R := q
/-- for i, x in enumerate(a list) -/
theorem for_E (h : LST H v xs) (Pv : Nat → L2.St → Hp → Prop) (h0 : Pv 0 σ H) (hl : ∀ i σ H', Pv i σ H' → LST H' v xs)
    (hs : ∀ (i : Nat) x T σ H H', xs[i]? = some x → Pv i σ H → Same H H' → TUP H' T [.int (i : Nat), x] → g T σ H' fun σ2 H2 => ts { D with nx := Pv (i + 1), ct := Pv (i + 1), bk := D.nx } σ2 H2) (hd : ∀ σ H, Pv xs.length σ H → D.nx σ H) :
    ∃ a xs, [v] = [.ref a] ∧ SqL K H a xs ∧ ∃ W : Nat → Nat → L2.St → Hp → Prop, (∃ m, W 0 m σ H) ∧ ∀ i m σ H, W i m σ H →
      ((Ite K a).stop i H ∧ D.nx σ H) ∨ ((Ite K a).go i H ∧ ∃ N : L2.St → Hp → Prop, (∀ σ' H', N σ' H' → ∃ m', m' < m ∧ W (i + 1) m' σ' H') ∧ ∀ x H', (Ite K a).yld i H x H' → g x σ H' fun σ2 H2 => ts { D with nx := N, ct := N, bk := D.nx } σ2 H2) := by
  obtain ⟨a, rfl, e⟩ := h
  refine ⟨a, xs, rfl, SqL.of e, for_it walk_enum Pv h0 (fun i σ H' _ p => ?_) (fun i x σ H1 H2 _ p y => ?_) hd⟩
  · obtain ⟨a', ea, e'⟩ := hl i σ H' p
    cases ea
    exact SqL.of e'
  · obtain ⟨T, u, w, rfl, hT, rfl, hu, hw⟩ := y
    cases hu
    exact hs i w _ σ H1 _ hw p (same_new hT) ⟨T, rfl, upd_same⟩
/-- for x, y in zip(two lists of one length) -/
theorem for_Z {v' : V} {ys : List V} (h : LST H v xs) (h' : LST H v' ys) (hn : ys.length = xs.length) (Pv : Nat → L2.St → Hp → Prop) (h0 : Pv 0 σ H) (hl : ∀ i σ H', Pv i σ H' → LST H' v xs ∧ LST H' v' ys)
    (hs : ∀ (i : Nat) x y T σ H H', xs[i]? = some x → ys[i]? = some y → Pv i σ H → Same H H' → TUP H' T [x, y] → g T σ H' fun σ2 H2 => ts { D with nx := Pv (i + 1), ct := Pv (i + 1), bk := D.nx } σ2 H2) (hd : ∀ σ H, Pv xs.length σ H → D.nx σ H) :
    ∃ a b xs ys, [v, v'] = [.ref a, .ref b] ∧ SqL K H a xs ∧ SqL K H b ys ∧ ∃ W : Nat → Nat → L2.St → Hp → Prop, (∃ m, W 0 m σ H) ∧ ∀ i m σ H, W i m σ H →
      ((Itz K a b).stop i H ∧ D.nx σ H) ∨ ((Itz K a b).go i H ∧ ∃ N : L2.St → Hp → Prop, (∀ σ' H', N σ' H' → ∃ m', m' < m ∧ W (i + 1) m' σ' H') ∧ ∀ x H', (Itz K a b).yld i H x H' → g x σ H' fun σ2 H2 => ts { D with nx := N, ct := N, bk := D.nx } σ2 H2) := by
  obtain ⟨a, rfl, e⟩ := h
  obtain ⟨a2, rfl, e2⟩ := h'
  refine ⟨a, a2, xs, ys, rfl, SqL.of e, SqL.of e2, for_it (walk_zip (xs := xs) (ys := ys) (n := xs.length) (by omega)) Pv h0 (fun i σ H' _ p => ?_) (fun i x σ H1 H2 _ p y => ?_) hd⟩
  · obtain ⟨⟨a', ea, e'⟩, ⟨a3, eb, e3⟩⟩ := hl i σ H' p
    cases ea
    cases eb
    exact ⟨SqL.of e', SqL.of e3⟩
  · obtain ⟨T, u, w, rfl, hT, rfl, hu, hw⟩ := y
    exact hs i u w _ σ H1 _ hu hw p (same_new hT) ⟨T, rfl, upd_same⟩
/-! comprehensions -/
/-- what a turn of a comprehension asks: D the new list, Nx what is to be reached -/
def LcTurn (g : TG) (tt : TT) (te : TE) (ws : List Nat) (σ : L2.St) (D : Addr) (Nx : Hp → Prop) (x : V) (H' : Hp) : Prop :=
  g x (wipe σ ws) H' fun σ2 H2 => wipe σ2 ws = wipe σ ws ∧ tt σ2 H2 fun b H3 => if b = true then te σ2 H3 fun y H4 => ∃ acc, H4 D = some (.lst acc) ∧ acc.length < sizeLine ∧ Nx (upd H4 D (.lst (acc ++ [y]))) else Nx H3
theorem rd_lc {wi : TI} {tt : TT} {ws : List Nat} (q : wi σ H fun J H1 => ∀ D, H1 D = none → ∃ W : Nat → Nat → Hp → Prop, (∃ m, W 0 m (upd H1 D (.lst []))) ∧ ∀ i m H, W i m H →
  (J.stop i H ∧ Q (.ref D) H) ∨ (J.go i H ∧ ∃ Nx : Hp → Prop, (∀ H', Nx H' → ∃ m', m' < m ∧ W (i + 1) m' H') ∧ ∀ x H', J.yld i H x H' → LcTurn g tt te ws σ D Nx x H')) : tLc wi g tt te ws σ H Q := q
theorem lc_L {tt : TT} {QD : Addr → Hp → Prop} {ws : List Nat} (h : LST H v xs) (Pv : Addr → Nat → Hp → Prop) (h0 : ∀ D, H D = none → Pv D 0 (upd H D (.lst []))) (hl : ∀ D i H', H D = none → Pv D i H' → LST H' v xs)
    (hs : ∀ D i x H', H D = none → xs[i]? = some x → Pv D i H' → LcTurn g tt te ws σ D (Pv D (i + 1)) x H') (hd : ∀ D H', H D = none → Pv D xs.length H' → QD D H') :
    ∃ a, v = .ref a ∧ (∃ xs, SqL K H a xs) ∧ ∀ D, H D = none → ∃ W : Nat → Nat → Hp → Prop, (∃ m, W 0 m (upd H D (.lst []))) ∧ ∀ i m H, W i m H →
      ((Itl K a).stop i H ∧ QD D H) ∨ ((Itl K a).go i H ∧ ∃ Nx : Hp → Prop, (∀ H', Nx H' → ∃ m', m' < m ∧ W (i + 1) m' H') ∧ ∀ x H', (Itl K a).yld i H x H' → LcTurn g tt te ws σ D Nx x H') := by
  obtain ⟨a, rfl, e⟩ := h
  refine ⟨a, rfl, ⟨xs, SqL.of e⟩, fun D hD => lc_it walk_list (Pv D) (h0 D hD) (fun i H' _ p => ?_) (fun i x H1 H2 _ p y => ?_) fun H' p => hd D H' hD p⟩
  · obtain ⟨a', ea, e'⟩ := hl D i H' hD p
    cases ea
    exact SqL.of e'
  · obtain ⟨rfl, y⟩ := y
    exact hs D i x _ hD y p
theorem lc_E {tt : TT} {QD : Addr → Hp → Prop} {ws : List Nat} (h : LST H v xs) (Pv : Addr → Nat → Hp → Prop) (h0 : ∀ D, H D = none → Pv D 0 (upd H D (.lst []))) (hl : ∀ D i H', H D = none → Pv D i H' → LST H' v xs)
    (hs : ∀ D (i : Nat) x T H' H2, H D = none → xs[i]? = some x → Pv D i H' → Same H' H2 → TUP H2 T [.int (i : Nat), x] → LcTurn g tt te ws σ D (Pv D (i + 1)) T H2) (hd : ∀ D H', H D = none → Pv D xs.length H' → QD D H') :
    ∃ a xs, [v] = [.ref a] ∧ SqL K H a xs ∧ ∀ D, H D = none → ∃ W : Nat → Nat → Hp → Prop, (∃ m, W 0 m (upd H D (.lst []))) ∧ ∀ i m H, W i m H →
      ((Ite K a).stop i H ∧ QD D H) ∨ ((Ite K a).go i H ∧ ∃ Nx : Hp → Prop, (∀ H', Nx H' → ∃ m', m' < m ∧ W (i + 1) m' H') ∧ ∀ x H', (Ite K a).yld i H x H' → LcTurn g tt te ws σ D Nx x H') := by
  obtain ⟨a, rfl, e⟩ := h
  refine ⟨a, xs, rfl, SqL.of e, fun D hD => lc_it walk_enum (Pv D) (h0 D hD) (fun i H' _ p => ?_) (fun i x H1 H2 _ p y => ?_) fun H' p => hd D H' hD p⟩
  · obtain ⟨a', ea, e'⟩ := hl D i H' hD p
    cases ea
    exact SqL.of e'
  · obtain ⟨T, u, w, rfl, hT, rfl, hu, hw⟩ := y
    cases hu
    exact hs D i w _ H1 _ hD hw p (same_new hT) ⟨T, rfl, upd_same⟩
end
/-! ### promises -/
/-- a promise by its arguments, what it asks, what it gives -/
def mkSp {α : Type} (vs : α → List V) (pre : α → Hp → Prop) (post : α → Hp → V → Hp → Prop) : Sp := fun l H Q _ => ∃ a, l = vs a ∧ pre a H ∧ ∀ v H', post a H v H' → Q v H'
end Bw
end

section
set_option Elab.async false
set_option linter.all false
set_option maxRecDepth 100000
set_option maxHeartbeats 4100000
namespace Bw
open PySem L2
/-! ### what the top has written -/
/-- where the classes stand -/
structure Cs where
  (M G H D W F R : Addr)
structure Txt (K : PySem.W.Frag) (mg : Str → Option Value) (c : Cs) : Prop where
  n_abs : mg "abs" = none
  n_any : mg "any" = none
  n_enumerate : mg "enumerate" = none
  n_isinstance : mg "isinstance" = none
  n_len : mg "len" = none
  n_list : mg "list" = none
  n_max : mg "max" = none
  n_min : mg "min" = none
  n_range : mg "range" = none
  n_tuple : mg "tuple" = none
  n_zip : mg "zip" = none
  g_MOST : ∃ t, mg "MOST" = some (.int 40 t)
  g_LEVEL : ∃ t, mg "LEVEL" = some (.int 0 t)
  g_RISING : ∃ t, mg "RISING" = some (.int 1 t)
  g_UPRIGHT : ∃ t, mg "UPRIGHT" = some (.int 2 t)
  g_FARTHEST : ∃ t, mg "FARTHEST" = some (.int 1000 t)
  clM : Cls K c.M
  clG : Cls K c.G
  clH : Cls K c.H
  clD : Cls K c.D
  clF : Cls K c.F
  clR : Cls K c.R
  oneM : NoAttr K c.M "one"
  oneG : NoAttr K c.G "one"
  oneH : NoAttr K c.H "one"
  oneD : NoAttr K c.D "one"
  twoM : NoAttr K c.M "two"
  twoG : NoAttr K c.G "two"
  twoH : NoAttr K c.H "two"
  twoD : NoAttr K c.D "two"
  cycD : NoAttr K c.D "cycle"
  someR : NoAttr K c.R "some"
  roomF : NoAttr K c.F "room"
  placeF : NoAttr K c.F "place"
  wayF : NoAttr K c.F "way"
  clockF : NoAttr K c.F "clock"
  manyF : NoAttr K c.F "many"
  endedF : NoAttr K c.F "ended"
theorem pe_gi {X : Cx} {x : Str} {i : Int} {pos : Pos} (hg : Gl X x) (hm : ∃ t, X.mg x = some (.int i t)) (hd : (x == ("__debug__" : Str)) = false := by decide) : PE X (.Name x pos) (tC (.int i)) := by
  obtain ⟨t, h⟩ := hm
  exact pe_glob hg h ⟨t, rfl⟩ hd
/-- a def that is read by its name -/
theorem Cal.mk {P : Program} {w : World} {K : PySem.W.Frag} {mg : Str → Option Value} {base : Heap} {k : Nat} {x qual : Str} {st : Stmt} {f : Addr} {fd : FuncData} {ps : List Str} {sp : Sp} (F : Fun K x qual st f fd) (m : mg x = some (.ref f)) (b : Binds K fd ps [])
    (G : FnOk P w K mg base CX0 k f fd ps sp) : Cal P w K mg base k x ps [] sp := ⟨f, fd, [], G, m, F.kp, b, .nil⟩
theorem mk_len {α : Type} {vs : α → List V} {pre : α → Hp → Prop} {post : α → Hp → V → Hp → Prop} {n : Nat} (hn : ∀ a, (vs a).length = n) (l : List V) (H : Hp) (Q : VK) (E : XK) (h : mkSp vs pre post l H Q E) : l.length = n := by
  obtain ⟨a, rfl, _⟩ := h
  exact hn a
theorem rd_while {σ : L2.St} {H : Hp} {t : TT} {ts : TS} {D : Ends} (W : Nat → L2.St → Hp → Prop) (m0 : Nat) (h0 : W m0 σ H)
    (hs : ∀ m σ H, W m σ H → t σ H fun b H1 => if b = true then ∃ N : L2.St → Hp → Prop, (∀ σ' H', N σ' H' → ∃ m', m' < m ∧ W m' σ' H') ∧ ts { D with nx := N, ct := N, bk := D.nx } σ H1 else D.nx σ H1) : tWhile t ts D σ H := ⟨W, ⟨m0, h0⟩, hs⟩
theorem rd_turn {σ : L2.St} {H : Hp} {ts : TS} {D : Ends} {W : Nat → L2.St → Hp → Prop} {m : Nat}
    (q : ts { D with nx := fun σ' H' => ∃ m', m' < m ∧ W m' σ' H', ct := fun σ' H' => ∃ m', m' < m ∧ W m' σ' H', bk := D.nx } σ H) :
    ∃ N : L2.St → Hp → Prop, (∀ σ' H', N σ' H' → ∃ m', m' < m ∧ W m' σ' H') ∧ ts { D with nx := N, ct := N, bk := D.nx } σ H := ⟨_, fun _ _ z => z, q⟩
end Bw
end

section
set_option Elab.async false
set_option linter.all false
set_option maxRecDepth 100000
set_option maxHeartbeats 4100000
namespace Bw
open PySem L2
-- HDR
-- what the heap knows, carried over
local macro_rules | `(tactic| walk_at "hp") => `(tactic| first
  | assumption
  | (refine' TUP.up (tk_of ?e) ?h; (case e => assumption); (case h => walk_at "hp"))
  | (refine' Fld.up ?e ?h; (case e => assumption); (case h => walk_at "hp"))
  | (refine' LST.up ?e ?h; (case e => assumption); (case h => walk_at "hp"))
  | (refine' TUP.up ?e ?h; (case e => assumption); (case h => walk_at "hp"))
  | (refine' Mth.up ?e ?h; (case e => assumption); (case h => walk_at "hp")))
-- one step of a reading
local macro_rules | `(tactic| walk_at "rd") => `(tactic| first
  | (with_reducible refine rd_var rfl ?_)
  | (with_reducible refine rd_c ?_)
  | (with_reducible refine rd_op ?_)
  | (with_reducible refine rd_mulW ?_ ?_)
  | (with_reducible refine rd_add ?_)
  | (with_reducible refine rd_sub ?_)
  | (with_reducible refine rd_cons ?_)
  | (with_reducible refine rd_nil ?_)
  | (with_reducible refine rd_seq ?_)
  | (with_reducible refine rd_asg ?_)
  | (with_reducible refine rd_name ?_)
  | (with_reducible refine rd_call ?_)
  | (with_reducible refine rd_fld ?_)
  | ((with_reducible refine' rd_fldv ?h ?_); (case h => walk_at "hp"))
  | ((with_reducible refine' rd_ixT0 ?h ?e ?_); (case h => walk_at "hp"); (case e => rfl))
  | ((with_reducible refine' rd_ixT1 ?h ?e ?_); (case h => walk_at "hp"); (case e => rfl))
  | ((with_reducible refine' rd_ixT2 ?h ?e ?_); (case h => walk_at "hp"); (case e => rfl))
  | ((with_reducible refine' rd_gtup ?h ?e ?_); (case h => walk_at "hp"); (case e => rfl))
  | (with_reducible refine rd_gcons ?_)
  | (with_reducible refine rd_gnil ?_)
  | (with_reducible refine rd_if ?_)
  | (with_reducible refine rd_test ?_)
  | (with_reducible refine rd_isbl ?_)
  | (with_reducible refine rd_iteT ?_)
  | (with_reducible refine rd_iteF ?_)
  | (with_reducible refine rd_ret ?_)
  | (with_reducible refine rd_next ?_)
  | (with_reducible refine rd_lt ?_)
  | (with_reducible refine rd_gt ?_)
  | (with_reducible refine rd_eqI ?_)
  | (with_reducible refine rd_neI ?_)
  | (with_reducible refine rd_un ?_)
  | (with_reducible refine rd_neg ?_)
  | (with_reducible refine rd_tup ?_)
  | (with_reducible refine rd_lst ?_)
  | (with_reducible refine rd_lstN (Nat.le_of_ble_eq_true rfl) ?_; intro _ _ _ _ _)
  | (with_reducible refine rd_tupN (Nat.le_of_ble_eq_true rfl) ?_; intro _ _ _ _)
  | (with_reducible refine rd_mod ?_ ?_)
  | (with_reducible refine rd_modN ?_ ?_)
  | (with_reducible refine rd_mul ?_ ?_)
  | (with_reducible refine rd_fdiv ?_ ?_)
  | (with_reducible refine rd_fdivZ ?_ ?_ ?_)
  | (with_reducible refine rd_tB ?_)
  | (with_reducible refine rd_CB ?_)
  | (with_reducible refine rd_le ?_)
  | (with_reducible refine rd_ge ?_)
  | (with_reducible refine rd_eqS ?_)
  | (with_reducible refine rd_neS ?_)
  | (with_reducible refine rd_isN0 ?_)
  | (with_reducible refine rd_isN1 ?_)
  | (with_reducible refine rd_notN0 ?_)
  | (with_reducible refine rd_notN1 ?_)
  | (with_reducible refine rd_abs ?_)
  | (with_reducible refine rd_max2 ?_)
  | (with_reducible refine rd_min2 ?_)
  | (with_reducible refine rd_mx ?_)
  | ((with_reducible refine' rd_mx1 ?h ?_); (case h => walk_at "hp"))
  | (with_reducible refine rd_and ?_)
  | (with_reducible refine rd_or ?_)
  | (with_reducible refine rd_not ?_)
  | (with_reducible refine rd_drop ?_)
  | (with_reducible refine rd_chain ?_)
  | (with_reducible refine rd_orV ?_)
  | (with_reducible refine rd_andV ?_)
  | (with_reducible refine rd_notV ?_)
  | (with_reducible refine rd_sfld ?_)
  | (with_reducible refine rd_for ?_)
  | (with_reducible refine rd_iL ?_)
  | (with_reducible refine rd_lc ?_)
  | (with_reducible refine rd_iE ?_)
  | ((with_reducible refine' rd_lenL ?h ?_); (case h => walk_at "hp"))
  | ((with_reducible refine' rd_lenT ?h ?_); (case h => walk_at "hp"))
  | (with_reducible refine rd_yes ?_)
  | (with_reducible refine rd_iZ ?_)
  | (with_reducible refine rd_iT ?_)
  | (with_reducible refine rd_break ?_)
  | ((with_reducible refine' rd_ixT3 ?h ?e ?_); (case h => walk_at "hp"); (case e => rfl))
  | ((with_reducible refine' rd_ixT4 ?h ?e ?_); (case h => walk_at "hp"); (case e => rfl))
  | ((with_reducible refine' rd_ixT5 ?h ?e ?_); (case h => walk_at "hp"); (case e => rfl))
  | ((with_reducible refine' rd_ixL0 ?h ?e ?_); (case h => walk_at "hp"); (case e => rfl))
  | ((with_reducible refine' rd_ixL1 ?h ?e ?_); (case h => walk_at "hp"); (case e => rfl))
  | ((with_reducible refine' rd_ixL2 ?h ?e ?_); (case h => walk_at "hp"); (case e => rfl))
  | ((with_reducible refine' rd_ixL3 ?h ?e ?_); (case h => walk_at "hp"); (case e => rfl))
  | ((with_reducible refine' rd_ixL4 ?h ?e ?_); (case h => walk_at "hp"); (case e => rfl))
  | ((with_reducible refine' rd_ixL5 ?h ?e ?_); (case h => walk_at "hp"); (case e => rfl)))
-- steps, with the callees' promises
local macro_rules | `(tactic| walk_at "go") => `(tactic| repeat first | walk_at "rd" | walk_at "us")
-- every way
local macro_rules | `(tactic| walk_at "all") => `(tactic| repeat' first
  | walk_at "rd"
  | walk_at "us"
  | (with_reducible refine rd_ite (fun _ => ?_) (fun _ => ?_))
  | (with_reducible refine rd_iten (fun _ => ?_) (fun _ => ?_)))
-- END
section
variable {P : Program} {w : World} {K : PySem.W.Frag} {mg : Str → Option Value} {base : Heap} {c : Cs} {f : Addr} {fd : FuncData}
/-! ### points and times -/
def sp_divisor : Sp := mkSp (fun a : P2 => [.int a.1, .int a.2]) (fun _ _ => True) fun a H v H' => v = .int (gc a.1 a.2) ∧ H' = H
abbrev N_divisor : List Str := ["one", "other", "rest"]
theorem sc_divisor : FnScope ["one", "other", "rest"] ["one", "other"] (defScope s_divisor) := ⟨rfl, rfl, rfl, by decide +kernel, rfl, by decide +kernel, by decide +kernel⟩
theorem ok_divisor (F : Fun K "divisor" "divisor" s_divisor f fd) (T : Txt K mg c) : FnOk P w K mg base CX0 1 f fd ["one", "other"] sp_divisor := by
  refine F.ok sc_divisor (mk_len fun _ => rfl) (fun cdv A outer s H vs Q E hr h => ?_)
  obtain ⟨⟨a, b⟩, rfl, _, k⟩ := h
  refine ⟨_, (pss_cons (ps_while PassesOwn.never (pt_cmpR op_ne (pv 1) pe_int (nomark _)) (pss_cons (ps_set (i := 2) sc_divisor.nd rfl (by first | exact Or.inl rfl | exact Or.inr rfl) (pe_op op_modN (pv 0) (pv 1)))
      (pss_cons (ps_set (i := 0) sc_divisor.nd rfl (by first | exact Or.inl rfl | exact Or.inr rfl) (pv 1))
      (pss_one (ps_set (i := 1) sc_divisor.nd rfl (by first | exact Or.inl rfl | exact Or.inr rfl) (pv 2))))))
      (pss_one (ps_ret (pe_callB cl_abs rfl T.n_abs (by decide +kernel) (pa_cons (pv 0) pa_nil))))), ?_⟩
  refine rd_seq (rd_while (fun m σ H' => ∃ x y r, σ = [some (.int x), some (.int y), r] ∧ H' = H ∧ gc x y = gc a b ∧ m = y.natAbs) b.natAbs ⟨a, b, none, rfl, rfl, rfl, rfl⟩ ?_)
  rintro m σ _ ⟨x, y, r, rfl, rfl, hg, rfl⟩
  walk_at "go"
  refine rd_iten (fun hy => rd_turn ?_) (fun hy => ?_)
  · walk_at "go"
    · exact ⟨_, fmod_less x hy, y, x.fmod y, _, rfl, rfl, (gc_step x y).trans hg, rfl⟩
    · exact hy
  · subst hy
    walk_at "go"
    exact k _ _ ⟨by rw [← hg, gc_zero], rfl⟩
/-- what it gives, for its callers -/
theorem us_divisor {a b : Int} {H : Hp} {Q : VK} {E : XK} (q : Q (.int (gc a b)) H) : sp_divisor ([.int a, .int b] ++ []) H Q E := ⟨(a, b), rfl, True.intro, fun v H' e => by
  obtain ⟨rfl, rfl⟩ := e
  exact q⟩
theorem sgn_ne {g b : Int} (h : 0 < g) : sgn g b ≠ 0 := by
  unfold sgn
  split <;> omega
theorem sgn_log {t b : Int} (h : b ≠ 0) (hb : B 8999 b) : (sgn (gc t b) b).natAbs.log2 < 9000 := by
  have e : (sgn (gc t b) b).natAbs = (gc t b).natAbs := by
    unfold sgn
    split
    · exact Int.natAbs_neg _
    · rfl
  have l := gc_le (a := t) h
  have hb' : b.natAbs < 2 ^ 8999 := hb
  exact Nat.lt_trans (PySem.Flt.log2_lt_of (by decide) (show (sgn (gc t b) b).natAbs < 2 ^ 8999 by rw [e]; exact Nat.lt_of_le_of_lt l hb')) (by decide)
def sp_point_of : Sp := mkSp (fun a : P3 => [.int a.1, .int a.2.1, .int a.2.2]) (fun a _ => a.2.2 ≠ 0 ∧ B 8999 a.2.2) fun a H v H' => Same H H' ∧ T3 H' v (ptOf a.1 a.2.1 a.2.2)
theorem us_point_of {x y z : Int} {H : Hp} {Q : VK} {E : XK} (q : ∀ v H', Same H H' → T3 H' v (ptOf x y z) → Q v H') (h1 : z ≠ 0) (h2 : B 8999 z) : sp_point_of ([.int x, .int y, .int z] ++ []) H Q E :=
  ⟨(x, y, z), rfl, ⟨h1, h2⟩, fun v H' e => q v H' e.1 e.2⟩
def sp_time_of : Sp := mkSp (fun a : P2 => [.int a.1, .int a.2]) (fun a _ => a.2 ≠ 0 ∧ B 8999 a.2) fun a H v H' => Same H H' ∧ T2 H' v (tmOf a.1 a.2)
theorem us_time_of {x y : Int} {H : Hp} {Q : VK} {E : XK} (q : ∀ v H', Same H H' → T2 H' v (tmOf x y) → Q v H') (h1 : y ≠ 0) (h2 : B 8999 y) : sp_time_of ([.int x, .int y] ++ []) H Q E :=
  ⟨(x, y), rfl, ⟨h1, h2⟩, fun v H' e => q v H' e.1 e.2⟩
-- HDR1
local macro_rules | `(tactic| walk_at "us") => `(tactic| first
  | (with_reducible refine us_divisor ?_)
  | (with_reducible refine us_point_of ?_ ?_ ?_; intro _ _ _ _)
  | (with_reducible refine us_time_of ?_ ?_ ?_; intro _ _ _ _))
-- END
abbrev N_point_of : List Str := ["x", "y", "w", "share"]
theorem sc_point_of : FnScope ["x", "y", "w", "share"] ["x", "y", "w"] (defScope s_point_of) := ⟨rfl, rfl, rfl, by decide +kernel, rfl, by decide +kernel, by decide +kernel⟩
theorem ok_point_of (F : Fun K "point_of" "point_of" s_point_of f fd) (c_divisor : Cal P w K mg base 1 "divisor" ["one", "other"] [] sp_divisor) : FnOk P w K mg base CX0 2 f fd ["x", "y", "w"] sp_point_of := by
  refine F.ok sc_point_of (mk_len fun _ => rfl) (fun cdv A outer s H vs Q E hr h => ?_)
  obtain ⟨⟨x, y, z⟩, rfl, ⟨hz, hb⟩, k⟩ := h
  dsimp only at hz hb k
  refine ⟨_, (pss_cons (ps_if (pt_cmpR op_eq (pv 2) pe_int (nomark _)) (pss_one ps_never) pss_nil)
      (pss_cons (ps_set (i := 3) sc_point_of.nd rfl (by first | exact Or.inl rfl | exact Or.inr rfl) (pe_cl c_divisor (hr.mono (by decide)) rfl (pa_cons (pe_cl c_divisor (hr.mono (by decide)) rfl (pa_cons (pv 0) (pa_cons (pv 1) pa_nil))) (pa_cons (pv 2) pa_nil))))
      (pss_cons (ps_if (pt_cmpR op_lt (pv 2) pe_int (nomark _)) (pss_one (ps_set (i := 3) sc_point_of.nd rfl (by first | exact Or.inl rfl | exact Or.inr rfl) (pe_un un_neg (pv 3)))) pss_nil)
      (pss_one (ps_ret (pe_tup (pa_cons (pe_op op_fdivZ (pv 0) (pv 3)) (pa_cons (pe_op op_fdivZ (pv 1) (pv 3)) (pa_cons (pe_op op_fdivZ (pv 2) (pv 3)) pa_nil))))))))), ?_⟩
  walk_at "go"
  refine rd_iteN hz ?_
  walk_at "go"
  have g0 := gc_pos (a := gc x y) hz
  refine rd_ite (fun l => ?_) (fun l => ?_)
  all_goals walk_at "go"
  all_goals have e : sgn (gc (gc x y) z) z = _ := (by first | exact if_pos l | exact if_neg l)
  all_goals have n := sgn_ne (b := z) g0
  all_goals have o := sgn_log (t := gc x y) hz hb
  all_goals rw [e] at n o
  all_goals first
    | exact n
    | exact o
    | (refine k _ _ ⟨by assumption, ?_⟩; unfold ptOf; rw [e]; assumption)
abbrev N_time_of : List Str := ["top", "bottom", "share"]
theorem sc_time_of : FnScope ["top", "bottom", "share"] ["top", "bottom"] (defScope s_time_of) := ⟨rfl, rfl, rfl, by decide +kernel, rfl, by decide +kernel, by decide +kernel⟩
theorem ok_time_of (F : Fun K "time_of" "time_of" s_time_of f fd) (c_divisor : Cal P w K mg base 1 "divisor" ["one", "other"] [] sp_divisor) : FnOk P w K mg base CX0 2 f fd ["top", "bottom"] sp_time_of := by
  refine F.ok sc_time_of (mk_len fun _ => rfl) (fun cdv A outer s H vs Q E hr h => ?_)
  obtain ⟨⟨x, z⟩, rfl, ⟨hz, hb⟩, k⟩ := h
  dsimp only at hz hb k
  refine ⟨_, (pss_cons (ps_if (pt_cmpR op_eq (pv 1) pe_int (nomark _)) (pss_one ps_never) pss_nil)
      (pss_cons (ps_set (i := 2) sc_time_of.nd rfl (by first | exact Or.inl rfl | exact Or.inr rfl) (pe_cl c_divisor (hr.mono (by decide)) rfl (pa_cons (pv 0) (pa_cons (pv 1) pa_nil))))
      (pss_cons (ps_if (pt_cmpR op_lt (pv 1) pe_int (nomark _)) (pss_one (ps_set (i := 2) sc_time_of.nd rfl (by first | exact Or.inl rfl | exact Or.inr rfl) (pe_un un_neg (pv 2)))) pss_nil)
      (pss_one (ps_ret (pe_tup (pa_cons (pe_op op_fdivZ (pv 0) (pv 2)) (pa_cons (pe_op op_fdivZ (pv 1) (pv 2)) pa_nil)))))))), ?_⟩
  walk_at "go"
  refine rd_iteN hz ?_
  walk_at "go"
  have g0 := gc_pos (a := x) hz
  refine rd_ite (fun l => ?_) (fun l => ?_)
  all_goals walk_at "go"
  all_goals have e : sgn (gc x z) z = _ := (by first | exact if_pos l | exact if_neg l)
  all_goals have n := sgn_ne (b := z) g0
  all_goals have o := sgn_log (t := x) hz hb
  all_goals rw [e] at n o
  all_goals first
    | exact n
    | exact o
    | (refine k _ _ ⟨by assumption, ?_⟩; unfold tmOf; rw [e]; assumption)
/-! sizes that products may have -/
theorem B.W {x y : Int} (h : B 300000 x) (g : B 300000 y) : CMulW x y := wide_mul h g (by decide) (by decide) (by decide)
def sp_sooner : Sp := mkSp (fun a : (V × P2) × V × P2 => [a.1.1, a.2.1]) (fun a H => T2 H a.1.1 a.1.2 ∧ T2 H a.2.1 a.2.2 ∧ (B 300000 a.1.2.1 ∧ B 300000 a.1.2.2) ∧ B 300000 a.2.2.1 ∧ B 300000 a.2.2.2) fun a H v H' => v = .bl (soonerP a.1.2 a.2.2) ∧ H' = H
theorem us_sooner {v u : V} {p q : P2} {H : Hp} {Q : VK} {E : XK} (h1 : T2 H v p) (h2 : T2 H u q) (k : Q (.bl (soonerP p q)) H) (b1 : B 300000 p.1 ∧ B 300000 p.2) (b2 : B 300000 q.1 ∧ B 300000 q.2) : sp_sooner ([v, u] ++ []) H Q E :=
  ⟨((v, p), (u, q)), rfl, ⟨h1, h2, b1, b2⟩, fun v H' e => by
    obtain ⟨rfl, rfl⟩ := e
    exact k⟩
abbrev N_sooner : List Str := ["one", "other"]
theorem sc_sooner : FnScope ["one", "other"] ["one", "other"] (defScope s_sooner) := ⟨rfl, rfl, rfl, by decide +kernel, rfl, by decide +kernel, by decide +kernel⟩
theorem ok_sooner (F : Fun K "sooner" "sooner" s_sooner f fd) : FnOk P w K mg base CX0 1 f fd ["one", "other"] sp_sooner := by
  refine F.ok sc_sooner (mk_len fun _ => rfl) (fun cdv A outer s H vs Q E hr h => ?_)
  obtain ⟨⟨⟨v, p⟩, u, q⟩, rfl, ⟨h1, h2, ⟨a1, a2⟩, b1, b2⟩, k⟩ := h
  dsimp only at h1 h2 a1 a2 b1 b2 k
  refine ⟨_, (pss_one (ps_ret (pe_cmpR op_lt (pe_op op_mulW (pe_ix ix_tup (pv 0) pe_int (fun _ _ => rfl)) (pe_ix ix_tup (pv 1) pe_int (fun _ _ => rfl))) (pe_op op_mulW (pe_ix ix_tup (pv 1) pe_int (fun _ _ => rfl)) (pe_ix ix_tup (pv 0) pe_int (fun _ _ => rfl))) (nomark _)))), ?_⟩
  walk_at "go"
  · exact k _ _ ⟨rfl, rfl⟩
  · exact b1.W a2
  · exact a1.W b2
end
end Bw
end

section
set_option Elab.async false
set_option linter.all false
set_option maxRecDepth 100000
set_option maxHeartbeats 4100000
namespace Bw
open PySem L2
-- HDR
-- what the heap knows, carried over
local macro_rules | `(tactic| walk_at "hp") => `(tactic| first
  | assumption
  | (refine' TUP.up (tk_of ?e) ?h; (case e => assumption); (case h => walk_at "hp"))
  | (refine' Fld.up ?e ?h; (case e => assumption); (case h => walk_at "hp"))
  | (refine' LST.up ?e ?h; (case e => assumption); (case h => walk_at "hp"))
  | (refine' TUP.up ?e ?h; (case e => assumption); (case h => walk_at "hp"))
  | (refine' Mth.up ?e ?h; (case e => assumption); (case h => walk_at "hp")))
-- one step of a reading
local macro_rules | `(tactic| walk_at "rd") => `(tactic| first
  | (with_reducible refine rd_var rfl ?_)
  | (with_reducible refine rd_c ?_)
  | (with_reducible refine rd_op ?_)
  | (with_reducible refine rd_mulW ?_ ?_)
  | (with_reducible refine rd_add ?_)
  | (with_reducible refine rd_sub ?_)
  | (with_reducible refine rd_cons ?_)
  | (with_reducible refine rd_nil ?_)
  | (with_reducible refine rd_seq ?_)
  | (with_reducible refine rd_asg ?_)
  | (with_reducible refine rd_name ?_)
  | (with_reducible refine rd_call ?_)
  | (with_reducible refine rd_fld ?_)
  | ((with_reducible refine' rd_fldv ?h ?_); (case h => walk_at "hp"))
  | ((with_reducible refine' rd_ixT0 ?h ?e ?_); (case h => walk_at "hp"); (case e => rfl))
  | ((with_reducible refine' rd_ixT1 ?h ?e ?_); (case h => walk_at "hp"); (case e => rfl))
  | ((with_reducible refine' rd_ixT2 ?h ?e ?_); (case h => walk_at "hp"); (case e => rfl))
  | ((with_reducible refine' rd_gtup ?h ?e ?_); (case h => walk_at "hp"); (case e => rfl))
  | (with_reducible refine rd_gcons ?_)
  | (with_reducible refine rd_gnil ?_)
  | (with_reducible refine rd_if ?_)
  | (with_reducible refine rd_test ?_)
  | (with_reducible refine rd_isbl ?_)
  | (with_reducible refine rd_iteT ?_)
  | (with_reducible refine rd_iteF ?_)
  | (with_reducible refine rd_ret ?_)
  | (with_reducible refine rd_next ?_)
  | (with_reducible refine rd_lt ?_)
  | (with_reducible refine rd_gt ?_)
  | (with_reducible refine rd_eqI ?_)
  | (with_reducible refine rd_neI ?_)
  | (with_reducible refine rd_un ?_)
  | (with_reducible refine rd_neg ?_)
  | (with_reducible refine rd_tup ?_)
  | (with_reducible refine rd_lst ?_)
  | (with_reducible refine rd_lstN (Nat.le_of_ble_eq_true rfl) ?_; intro _ _ _ _ _)
  | (with_reducible refine rd_tupN (Nat.le_of_ble_eq_true rfl) ?_; intro _ _ _ _)
  | (with_reducible refine rd_mod ?_ ?_)
  | (with_reducible refine rd_modN ?_ ?_)
  | (with_reducible refine rd_mul ?_ ?_)
  | (with_reducible refine rd_fdiv ?_ ?_)
  | (with_reducible refine rd_fdivZ ?_ ?_ ?_)
  | (with_reducible refine rd_tB ?_)
  | (with_reducible refine rd_CB ?_)
  | (with_reducible refine rd_le ?_)
  | (with_reducible refine rd_ge ?_)
  | (with_reducible refine rd_eqS ?_)
  | (with_reducible refine rd_neS ?_)
  | (with_reducible refine rd_isN0 ?_)
  | (with_reducible refine rd_isN1 ?_)
  | (with_reducible refine rd_notN0 ?_)
  | (with_reducible refine rd_notN1 ?_)
  | (with_reducible refine rd_abs ?_)
  | (with_reducible refine rd_max2 ?_)
  | (with_reducible refine rd_min2 ?_)
  | (with_reducible refine rd_mx ?_)
  | ((with_reducible refine' rd_mx1 ?h ?_); (case h => walk_at "hp"))
  | (with_reducible refine rd_and ?_)
  | (with_reducible refine rd_or ?_)
  | (with_reducible refine rd_not ?_)
  | (with_reducible refine rd_drop ?_)
  | (with_reducible refine rd_chain ?_)
  | (with_reducible refine rd_orV ?_)
  | (with_reducible refine rd_andV ?_)
  | (with_reducible refine rd_notV ?_)
  | (with_reducible refine rd_sfld ?_)
  | (with_reducible refine rd_for ?_)
  | (with_reducible refine rd_iL ?_)
  | (with_reducible refine rd_lc ?_)
  | (with_reducible refine rd_iE ?_)
  | ((with_reducible refine' rd_lenL ?h ?_); (case h => walk_at "hp"))
  | ((with_reducible refine' rd_lenT ?h ?_); (case h => walk_at "hp"))
  | (with_reducible refine rd_yes ?_)
  | (with_reducible refine rd_iZ ?_)
  | (with_reducible refine rd_iT ?_)
  | (with_reducible refine rd_break ?_)
  | ((with_reducible refine' rd_ixT3 ?h ?e ?_); (case h => walk_at "hp"); (case e => rfl))
  | ((with_reducible refine' rd_ixT4 ?h ?e ?_); (case h => walk_at "hp"); (case e => rfl))
  | ((with_reducible refine' rd_ixT5 ?h ?e ?_); (case h => walk_at "hp"); (case e => rfl))
  | ((with_reducible refine' rd_ixL0 ?h ?e ?_); (case h => walk_at "hp"); (case e => rfl))
  | ((with_reducible refine' rd_ixL1 ?h ?e ?_); (case h => walk_at "hp"); (case e => rfl))
  | ((with_reducible refine' rd_ixL2 ?h ?e ?_); (case h => walk_at "hp"); (case e => rfl))
  | ((with_reducible refine' rd_ixL3 ?h ?e ?_); (case h => walk_at "hp"); (case e => rfl))
  | ((with_reducible refine' rd_ixL4 ?h ?e ?_); (case h => walk_at "hp"); (case e => rfl))
  | ((with_reducible refine' rd_ixL5 ?h ?e ?_); (case h => walk_at "hp"); (case e => rfl)))
-- steps, with the callees' promises
local macro_rules | `(tactic| walk_at "go") => `(tactic| repeat first | walk_at "rd" | walk_at "us")
-- every way
local macro_rules | `(tactic| walk_at "all") => `(tactic| repeat' first
  | walk_at "rd"
  | walk_at "us"
  | (with_reducible refine rd_ite (fun _ => ?_) (fun _ => ?_))
  | (with_reducible refine rd_iten (fun _ => ?_) (fun _ => ?_)))
-- END
-- HDR1
local macro_rules | `(tactic| walk_at "us") => `(tactic| first
  | (with_reducible refine us_divisor ?_)
  | (with_reducible refine us_point_of ?_ ?_ ?_; intro _ _ _ _)
  | (with_reducible refine us_time_of ?_ ?_ ?_; intro _ _ _ _))
-- END
section
variable {P : Program} {w : World} {K : PySem.W.Frag} {mg : Str → Option Value} {base : Heap} {c : Cs} {f : Addr} {fd : FuncData}
def sp_added : Sp := mkSp (fun a : (V × P2) × V × P2 => [a.1.1, a.2.1]) (fun a H => T2 H a.1.1 a.1.2 ∧ T2 H a.2.1 a.2.2 ∧ (B 200000 a.1.2.1 ∧ B 200000 a.1.2.2) ∧ (B 200000 a.2.2.1 ∧ B 200000 a.2.2.2) ∧ a.1.2.2 * a.2.2.2 ≠ 0 ∧ B 8999 (a.1.2.2 * a.2.2.2))
  fun a H v H' => Same H H' ∧ T2 H' v (addP a.1.2 a.2.2)
theorem us_added {v u : V} {p q : P2} {H : Hp} {Q : VK} {E : XK} (h1 : T2 H v p) (h2 : T2 H u q) (k : ∀ v H', Same H H' → T2 H' v (addP p q) → Q v H') (b1 : B 200000 p.1 ∧ B 200000 p.2) (b2 : B 200000 q.1 ∧ B 200000 q.2) (n : p.2 * q.2 ≠ 0) (b : B 8999 (p.2 * q.2)) :
    sp_added ([v, u] ++ []) H Q E := ⟨((v, p), (u, q)), rfl, ⟨h1, h2, b1, b2, n, b⟩, fun v H' e => k v H' e.1 e.2⟩
abbrev N_added : List Str := ["one", "other"]
theorem sc_added : FnScope ["one", "other"] ["one", "other"] (defScope s_added) := ⟨rfl, rfl, rfl, by decide +kernel, rfl, by decide +kernel, by decide +kernel⟩
theorem ok_added (F : Fun K "added" "added" s_added f fd) (c_time_of : Cal P w K mg base 2 "time_of" ["top", "bottom"] [] sp_time_of) : FnOk P w K mg base CX0 3 f fd ["one", "other"] sp_added := by
  refine F.ok sc_added (mk_len fun _ => rfl) (fun cdv A outer s H vs Q E hr h => ?_)
  obtain ⟨⟨⟨v, p⟩, u, q⟩, rfl, ⟨h1, h2, ⟨a1, a2⟩, ⟨b1, b2⟩, n, b⟩, k⟩ := h
  dsimp only at h1 h2 a1 a2 b1 b2 n b k
  refine ⟨_, (pss_one (ps_ret (pe_cl c_time_of (hr.mono (by decide)) rfl (pa_cons (pe_op op_add (pe_op op_mulW (pe_ix ix_tup (pv 0) pe_int (fun _ _ => rfl)) (pe_ix ix_tup (pv 1) pe_int (fun _ _ => rfl))) (pe_op op_mulW (pe_ix ix_tup (pv 1) pe_int (fun _ _ => rfl)) (pe_ix ix_tup (pv 0) pe_int (fun _ _ => rfl)))) (pa_cons (pe_op op_mulW (pe_ix ix_tup (pv 0) pe_int (fun _ _ => rfl)) (pe_ix ix_tup (pv 1) pe_int (fun _ _ => rfl))) pa_nil))))), ?_⟩
  walk_at "go"
  · exact k _ _ ⟨by assumption, by assumption⟩
  · exact n
  · exact b
  all_goals first
    | exact (a2.mono (by decide)).W (b2.mono (by decide))
    | exact (b1.mono (by decide)).W (a2.mono (by decide))
    | exact (a1.mono (by decide)).W (b2.mono (by decide))
def sp_spot_at : Sp := mkSp (fun a : (V × P3) × (V × P2) × V × P2 => [a.1.1, a.2.1.1, a.2.2.1]) (fun a H => T3 H a.1.1 a.1.2 ∧ T2 H a.2.1.1 a.2.1.2 ∧ T2 H a.2.2.1 a.2.2.2 ∧ PtOk a.1.2 ∧ HdOk a.2.1.2 ∧ (B 30000 a.2.2.2.1 ∧ B 4000 a.2.2.2.2) ∧ a.2.2.2.2 ≠ 0)
  fun a H v H' => Same H H' ∧ T3 H' v (spotP a.1.2 a.2.1.2 a.2.2.2)
theorem us_spot_at {v u z : V} {P : P3} {h t : P2} {H : Hp} {Q : VK} {E : XK} (h1 : T3 H v P) (h2 : T2 H u h) (h3 : T2 H z t) (k : ∀ v H', Same H H' → T3 H' v (spotP P h t) → Q v H') (p : PtOk P) (d : HdOk h) (b : B 30000 t.1 ∧ B 4000 t.2) (n : t.2 ≠ 0) :
    sp_spot_at ([v, u, z] ++ []) H Q E := ⟨((v, P), (u, h), z, t), rfl, ⟨h1, h2, h3, p, d, b, n⟩, fun v H' e => k v H' e.1 e.2⟩
theorem HdOk.B1 {h : P2} (d : HdOk h) : B 2 h.1 := by
  have := d.a
  show h.1.natAbs < 2 ^ 2
  omega
theorem HdOk.B2 {h : P2} (d : HdOk h) : B 2 h.2 := by
  have := d.b
  show h.2.natAbs < 2 ^ 2
  omega
abbrev N_spot_at : List Str := ["P", "heading", "t", "x", "y", "w", "a", "b", "top", "bottom"]
theorem sc_spot_at : FnScope ["P", "heading", "t", "x", "y", "w", "a", "b", "top", "bottom"] ["P", "heading", "t"] (defScope s_spot_at) := ⟨rfl, rfl, rfl, by decide +kernel, rfl, by decide +kernel, by decide +kernel⟩
theorem ok_spot_at (F : Fun K "spot_at" "spot_at" s_spot_at f fd) (c_point_of : Cal P w K mg base 2 "point_of" ["x", "y", "w"] [] sp_point_of) : FnOk P w K mg base CX0 3 f fd ["P", "heading", "t"] sp_spot_at := by
  refine F.ok sc_spot_at (mk_len fun _ => rfl) (fun cdv A outer s H vs Q E hr h => ?_)
  obtain ⟨⟨⟨v, ⟨x, y, z⟩⟩, ⟨u, ⟨i, j⟩⟩, o, ⟨t, b⟩⟩, rfl, ⟨h1, h2, h3, p, d, ⟨b1, b2⟩, n⟩, k⟩ := h
  dsimp only at h1 h2 h3 p d b1 b2 n k
  refine ⟨_, (pss_cons (ps_asg (pv 0) (pg_tup rfl (pgs_cons (pg_name (i := 3) sc_spot_at.nd rfl (by first | exact Or.inl rfl | exact Or.inr rfl)) (pgs_cons (pg_name (i := 4) sc_spot_at.nd rfl (by first | exact Or.inl rfl | exact Or.inr rfl)) (pgs_cons (pg_name (i := 5) sc_spot_at.nd rfl (by first | exact Or.inl rfl | exact Or.inr rfl)) pgs_nil)))))
      (pss_cons (ps_asg (pv 1) (pg_tup rfl (pgs_cons (pg_name (i := 6) sc_spot_at.nd rfl (by first | exact Or.inl rfl | exact Or.inr rfl)) (pgs_cons (pg_name (i := 7) sc_spot_at.nd rfl (by first | exact Or.inl rfl | exact Or.inr rfl)) pgs_nil))))
      (pss_cons (ps_asg (pv 2) (pg_tup rfl (pgs_cons (pg_name (i := 8) sc_spot_at.nd rfl (by first | exact Or.inl rfl | exact Or.inr rfl)) (pgs_cons (pg_name (i := 9) sc_spot_at.nd rfl (by first | exact Or.inl rfl | exact Or.inr rfl)) pgs_nil))))
      (pss_one (ps_ret (pe_cl c_point_of (hr.mono (by decide)) rfl (pa_cons (pe_op op_add (pe_op op_mulW (pv 3) (pv 9)) (pe_op op_mulW (pe_op op_mulW (pv 6) (pv 8)) (pv 5))) (pa_cons (pe_op op_add (pe_op op_mulW (pv 4) (pv 9)) (pe_op op_mulW (pe_op op_mulW (pv 7) (pv 8)) (pv 5))) (pa_cons (pe_op op_mulW (pv 5) (pv 9)) pa_nil))))))))), ?_⟩
  have d1 : B 2 i := d.B1
  have d2 : B 2 j := d.B2
  have e1 : B 20000 x := p.x
  have e2 : B 20000 y := p.y
  have e3 : B 300 z := p.w
  have e4 : 0 < z := p.pos
  walk_at "go"
  · exact k _ _ ⟨by assumption, by assumption⟩
  · exact Int.mul_ne_zero (Int.ne_of_gt e4) n
  · exact (e3.mul b2).mono (by decide)
  · exact (e3.mono (by decide)).W (b2.mono (by decide))
  · exact (d2.mul b1 |>.mono (by decide)).W (e3.mono (by decide))
  · exact (d2.mono (by decide)).W (b1.mono (by decide))
  · exact (e2.mono (by decide)).W (b2.mono (by decide))
  · exact (d1.mul b1 |>.mono (by decide)).W (e3.mono (by decide))
  · exact (d1.mono (by decide)).W (b1.mono (by decide))
  · exact (e1.mono (by decide)).W (b2.mono (by decide))
def CoOk (e : P2) : Prop := (-1000 ≤ e.1 ∧ e.1 ≤ 1000) ∧ -1000 ≤ e.2 ∧ e.2 ≤ 1000
theorem CoOk.B1 {e : P2} (h : CoOk e) : B 10 e.1 := by
  have := h.1
  show e.1.natAbs < 2 ^ 10
  omega
theorem CoOk.B2 {e : P2} (h : CoOk e) : B 10 e.2 := by
  have := h.2
  show e.2.natAbs < 2 ^ 10
  omega
def sp_time_along : Sp := mkSp (fun a : (V × P3) × (V × P2) × V × P2 => [a.1.1, a.2.1.1, a.2.2.1]) (fun a H => T3 H a.1.1 a.1.2 ∧ T2 H a.2.1.1 a.2.1.2 ∧ T2 H a.2.2.1 a.2.2.2 ∧ PtOk a.1.2 ∧ HdOk a.2.1.2 ∧ CoOk a.2.2.2)
  fun a H v H' => Same H H' ∧ T2 H' v (alongP a.1.2 a.2.1.2 a.2.2.2)
theorem us_time_along {v u z : V} {P : P3} {h t : P2} {H : Hp} {Q : VK} {E : XK} (h1 : T3 H v P) (h2 : T2 H u h) (h3 : T2 H z t) (k : ∀ v H', Same H H' → T2 H' v (alongP P h t) → Q v H') (p : PtOk P) (d : HdOk h) (b : CoOk t) :
    sp_time_along ([v, u, z] ++ []) H Q E := ⟨((v, P), (u, h), z, t), rfl, ⟨h1, h2, h3, p, d, b⟩, fun v H' e => k v H' e.1 e.2⟩
abbrev N_time_along : List Str := ["P", "heading", "end", "x", "y", "w", "a", "b"]
theorem sc_time_along : FnScope ["P", "heading", "end", "x", "y", "w", "a", "b"] ["P", "heading", "end"] (defScope s_time_along) := ⟨rfl, rfl, rfl, by decide +kernel, rfl, by decide +kernel, by decide +kernel⟩
theorem ok_time_along (F : Fun K "time_along" "time_along" s_time_along f fd) (c_time_of : Cal P w K mg base 2 "time_of" ["top", "bottom"] [] sp_time_of) : FnOk P w K mg base CX0 3 f fd ["P", "heading", "end"] sp_time_along := by
  refine F.ok sc_time_along (mk_len fun _ => rfl) (fun cdv A outer s H vs Q E hr h => ?_)
  obtain ⟨⟨⟨v, ⟨x, y, z⟩⟩, ⟨u, ⟨i, j⟩⟩, o, ⟨t, b⟩⟩, rfl, ⟨h1, h2, h3, p, d, q⟩, k⟩ := h
  dsimp only at h1 h2 h3 p d q k
  refine ⟨_, (pss_cons (ps_asg (pv 0) (pg_tup rfl (pgs_cons (pg_name (i := 3) sc_time_along.nd rfl (by first | exact Or.inl rfl | exact Or.inr rfl)) (pgs_cons (pg_name (i := 4) sc_time_along.nd rfl (by first | exact Or.inl rfl | exact Or.inr rfl)) (pgs_cons (pg_name (i := 5) sc_time_along.nd rfl (by first | exact Or.inl rfl | exact Or.inr rfl)) pgs_nil)))))
      (pss_cons (ps_asg (pv 1) (pg_tup rfl (pgs_cons (pg_name (i := 6) sc_time_along.nd rfl (by first | exact Or.inl rfl | exact Or.inr rfl)) (pgs_cons (pg_name (i := 7) sc_time_along.nd rfl (by first | exact Or.inl rfl | exact Or.inr rfl)) pgs_nil))))
      (pss_cons (ps_if (pt_cmpR op_ne (pv 6) pe_int (nomark _)) (pss_one (ps_ret (pe_cl c_time_of (hr.mono (by decide)) rfl (pa_cons (pe_op op_sub (pe_op op_mulW (pe_ix ix_tup (pv 2) pe_int (fun _ _ => rfl)) (pv 5)) (pv 3)) (pa_cons (pe_op op_mulW (pv 6) (pv 5)) pa_nil))))) pss_nil)
      (pss_one (ps_ret (pe_cl c_time_of (hr.mono (by decide)) rfl (pa_cons (pe_op op_sub (pe_op op_mulW (pe_ix ix_tup (pv 2) pe_int (fun _ _ => rfl)) (pv 5)) (pv 4)) (pa_cons (pe_op op_mulW (pv 7) (pv 5)) pa_nil)))))))), ?_⟩
  have d1 : B 2 i := d.B1
  have d2 : B 2 j := d.B2
  have e1 : B 20000 x := p.x
  have e2 : B 20000 y := p.y
  have e3 : B 300 z := p.w
  have e4 : 0 < z := p.pos
  have q1 : B 10 t := q.B1
  have q2 : B 10 b := q.B2
  walk_at "go"
  refine rd_iten (fun hy => ?_) (fun hy => ?_)
  · walk_at "go"
    · refine k _ _ ⟨by assumption, ?_⟩
      unfold alongP
      rw [if_pos hy]
      assumption
    · exact Int.mul_ne_zero hy (Int.ne_of_gt e4)
    · exact (d1.mul e3).mono (by decide)
    · exact (d1.mono (by decide)).W (e3.mono (by decide))
    · exact (q1.mono (by decide)).W (e3.mono (by decide))
  · walk_at "go"
    · refine k _ _ ⟨by assumption, ?_⟩
      unfold alongP
      rw [if_neg (fun hh => hh hy)]
      assumption
    · exact Int.mul_ne_zero (fun hj => d.n ⟨hy, hj⟩) (Int.ne_of_gt e4)
    · exact (d2.mul e3).mono (by decide)
    · exact (d2.mono (by decide)).W (e3.mono (by decide))
    · exact (q2.mono (by decide)).W (e3.mono (by decide))
end
end Bw
end

section
set_option Elab.async false
set_option linter.all false
set_option maxRecDepth 100000
set_option maxHeartbeats 4100000
namespace Bw
open PySem L2
-- HDR
-- what the heap knows, carried over
local macro_rules | `(tactic| walk_at "hp") => `(tactic| first
  | assumption
  | (refine' TUP.up (tk_of ?e) ?h; (case e => assumption); (case h => walk_at "hp"))
  | (refine' Fld.up ?e ?h; (case e => assumption); (case h => walk_at "hp"))
  | (refine' LST.up ?e ?h; (case e => assumption); (case h => walk_at "hp"))
  | (refine' TUP.up ?e ?h; (case e => assumption); (case h => walk_at "hp"))
  | (refine' Mth.up ?e ?h; (case e => assumption); (case h => walk_at "hp")))
-- one step of a reading
local macro_rules | `(tactic| walk_at "rd") => `(tactic| first
  | (with_reducible refine rd_var rfl ?_)
  | (with_reducible refine rd_c ?_)
  | (with_reducible refine rd_op ?_)
  | (with_reducible refine rd_mulW ?_ ?_)
  | (with_reducible refine rd_add ?_)
  | (with_reducible refine rd_sub ?_)
  | (with_reducible refine rd_cons ?_)
  | (with_reducible refine rd_nil ?_)
  | (with_reducible refine rd_seq ?_)
  | (with_reducible refine rd_asg ?_)
  | (with_reducible refine rd_name ?_)
  | (with_reducible refine rd_call ?_)
  | (with_reducible refine rd_fld ?_)
  | ((with_reducible refine' rd_fldv ?h ?_); (case h => walk_at "hp"))
  | ((with_reducible refine' rd_ixT0 ?h ?e ?_); (case h => walk_at "hp"); (case e => rfl))
  | ((with_reducible refine' rd_ixT1 ?h ?e ?_); (case h => walk_at "hp"); (case e => rfl))
  | ((with_reducible refine' rd_ixT2 ?h ?e ?_); (case h => walk_at "hp"); (case e => rfl))
  | ((with_reducible refine' rd_gtup ?h ?e ?_); (case h => walk_at "hp"); (case e => rfl))
  | (with_reducible refine rd_gcons ?_)
  | (with_reducible refine rd_gnil ?_)
  | (with_reducible refine rd_if ?_)
  | (with_reducible refine rd_test ?_)
  | (with_reducible refine rd_isbl ?_)
  | (with_reducible refine rd_iteT ?_)
  | (with_reducible refine rd_iteF ?_)
  | (with_reducible refine rd_ret ?_)
  | (with_reducible refine rd_next ?_)
  | (with_reducible refine rd_lt ?_)
  | (with_reducible refine rd_gt ?_)
  | (with_reducible refine rd_eqI ?_)
  | (with_reducible refine rd_neI ?_)
  | (with_reducible refine rd_un ?_)
  | (with_reducible refine rd_neg ?_)
  | (with_reducible refine rd_tup ?_)
  | (with_reducible refine rd_lst ?_)
  | (with_reducible refine rd_lstN (Nat.le_of_ble_eq_true rfl) ?_; intro _ _ _ _ _)
  | (with_reducible refine rd_tupN (Nat.le_of_ble_eq_true rfl) ?_; intro _ _ _ _)
  | (with_reducible refine rd_mod ?_ ?_)
  | (with_reducible refine rd_modN ?_ ?_)
  | (with_reducible refine rd_mul ?_ ?_)
  | (with_reducible refine rd_fdiv ?_ ?_)
  | (with_reducible refine rd_fdivZ ?_ ?_ ?_)
  | (with_reducible refine rd_tB ?_)
  | (with_reducible refine rd_CB ?_)
  | (with_reducible refine rd_le ?_)
  | (with_reducible refine rd_ge ?_)
  | (with_reducible refine rd_eqS ?_)
  | (with_reducible refine rd_neS ?_)
  | (with_reducible refine rd_isN0 ?_)
  | (with_reducible refine rd_isN1 ?_)
  | (with_reducible refine rd_notN0 ?_)
  | (with_reducible refine rd_notN1 ?_)
  | (with_reducible refine rd_abs ?_)
  | (with_reducible refine rd_max2 ?_)
  | (with_reducible refine rd_min2 ?_)
  | (with_reducible refine rd_mx ?_)
  | ((with_reducible refine' rd_mx1 ?h ?_); (case h => walk_at "hp"))
  | (with_reducible refine rd_and ?_)
  | (with_reducible refine rd_or ?_)
  | (with_reducible refine rd_not ?_)
  | (with_reducible refine rd_drop ?_)
  | (with_reducible refine rd_chain ?_)
  | (with_reducible refine rd_orV ?_)
  | (with_reducible refine rd_andV ?_)
  | (with_reducible refine rd_notV ?_)
  | (with_reducible refine rd_sfld ?_)
  | (with_reducible refine rd_for ?_)
  | (with_reducible refine rd_iL ?_)
  | (with_reducible refine rd_lc ?_)
  | (with_reducible refine rd_iE ?_)
  | ((with_reducible refine' rd_lenL ?h ?_); (case h => walk_at "hp"))
  | ((with_reducible refine' rd_lenT ?h ?_); (case h => walk_at "hp"))
  | (with_reducible refine rd_yes ?_)
  | (with_reducible refine rd_iZ ?_)
  | (with_reducible refine rd_iT ?_)
  | (with_reducible refine rd_break ?_)
  | ((with_reducible refine' rd_ixT3 ?h ?e ?_); (case h => walk_at "hp"); (case e => rfl))
  | ((with_reducible refine' rd_ixT4 ?h ?e ?_); (case h => walk_at "hp"); (case e => rfl))
  | ((with_reducible refine' rd_ixT5 ?h ?e ?_); (case h => walk_at "hp"); (case e => rfl))
  | ((with_reducible refine' rd_ixL0 ?h ?e ?_); (case h => walk_at "hp"); (case e => rfl))
  | ((with_reducible refine' rd_ixL1 ?h ?e ?_); (case h => walk_at "hp"); (case e => rfl))
  | ((with_reducible refine' rd_ixL2 ?h ?e ?_); (case h => walk_at "hp"); (case e => rfl))
  | ((with_reducible refine' rd_ixL3 ?h ?e ?_); (case h => walk_at "hp"); (case e => rfl))
  | ((with_reducible refine' rd_ixL4 ?h ?e ?_); (case h => walk_at "hp"); (case e => rfl))
  | ((with_reducible refine' rd_ixL5 ?h ?e ?_); (case h => walk_at "hp"); (case e => rfl)))
-- steps, with the callees' promises
local macro_rules | `(tactic| walk_at "go") => `(tactic| repeat first | walk_at "rd" | walk_at "us")
-- every way
local macro_rules | `(tactic| walk_at "all") => `(tactic| repeat' first
  | walk_at "rd"
  | walk_at "us"
  | (with_reducible refine rd_ite (fun _ => ?_) (fun _ => ?_))
  | (with_reducible refine rd_iten (fun _ => ?_) (fun _ => ?_)))
-- END
-- HDR1
local macro_rules | `(tactic| walk_at "us") => `(tactic| first
  | (with_reducible refine us_divisor ?_)
  | (with_reducible refine us_point_of ?_ ?_ ?_; intro _ _ _ _)
  | (with_reducible refine us_time_of ?_ ?_ ?_; intro _ _ _ _))
-- END
-- HDR2
local macro_rules | `(tactic| walk_at "us") => `(tactic| first
  | ((with_reducible refine' us_sooner ?h ?g ?_ ?_ ?_); (case h => walk_at "hp"); (case g => walk_at "hp"))
  | ((with_reducible refine' us_added ?h ?g ?_ ?_ ?_ ?_ ?_); (case h => walk_at "hp"); (case g => walk_at "hp"); intro _ _ _ _)
  | ((with_reducible refine' us_spot_at ?h ?g ?i ?_ ?_ ?_ ?_ ?_); (case h => walk_at "hp"); (case g => walk_at "hp"); (case i => walk_at "hp"); intro _ _ _ _)
  | ((with_reducible refine' us_time_along ?h ?g ?i ?_ ?_ ?_ ?_); (case h => walk_at "hp"); (case g => walk_at "hp"); (case i => walk_at "hp"); intro _ _ _ _))
-- END
/-! ### walls as objects -/
def clsOf (c : Cs) (k : Nat) : Addr := if k = 0 then c.M else if k = 1 then c.G else if k = 2 then c.H else c.D
def wfs (u : WD) (o t : V) : List (Str × V) := if u.kind = 3 then [("one", o), ("two", t), ("cycle", .int u.every)] else [("one", o), ("two", t)]
/-- the wall u stands at v -/
def WAt (c : Cs) (H : Hp) (v : V) (u : WD) : Prop := ∃ a dx o t, v = .ref a ∧ H a = some (.ins (clsOf c u.kind) dx (wfs u o t)) ∧ T2 H o u.one ∧ T2 H t u.two
def IsW (c : Cs) (C : Addr) : Prop := ∃ k, k ≤ 3 ∧ C = clsOf c k
theorem WAt.up {c : Cs} {H H' : Hp} {v : V} {u : WD} (e : NL H H') (h : WAt c H v u) : WAt c H' v u := by
  obtain ⟨a, dx, o, t, h1, h2, h3, h4⟩ := h
  exact ⟨a, dx, o, t, h1, e _ _ h2 (fun _ z => by cases z) (fun _ z => by cases z), h3.up e.tk, h4.up e.tk⟩
theorem wfs_one (u : WD) (o t : V) : (wfs u o t).lookup ("one" : Str) = some o := by
  unfold wfs
  split <;> rfl
theorem wfs_two (u : WD) (o t : V) : (wfs u o t).lookup ("two" : Str) = some t := by
  unfold wfs
  split <;> rfl
theorem wfs_cyc {u : WD} (o t : V) (h : u.kind = 3) : (wfs u o t).lookup ("cycle" : Str) = some (.int u.every) := by
  unfold wfs
  rw [if_pos h]
  rfl
section
variable {K : PySem.W.Frag} {mg : Str → Option Value} {c : Cs} {H : Hp} {v : V} {u : WD}
theorem cls_of (T : Txt K mg c) (k : Nat) : Cls K (clsOf c k) := by
  unfold clsOf
  split
  · exact T.clM
  · split
    · exact T.clG
    · split
      · exact T.clH
      · exact T.clD
theorem one_of (T : Txt K mg c) (k : Nat) : NoAttr K (clsOf c k) "one" := by
  unfold clsOf
  split
  · exact T.oneM
  · split
    · exact T.oneG
    · split
      · exact T.oneH
      · exact T.oneD
theorem two_of (T : Txt K mg c) (k : Nat) : NoAttr K (clsOf c k) "two" := by
  unfold clsOf
  split
  · exact T.twoM
  · split
    · exact T.twoG
    · split
      · exact T.twoH
      · exact T.twoD
theorem WAt.flds (T : Txt K mg c) (h : WAt c H v u) : ∃ o t, Fld K H v "one" o ∧ T2 H o u.one ∧ Fld K H v "two" t ∧ T2 H t u.two := by
  obtain ⟨a, dx, o, t, h1, h2, h3, h4⟩ := h
  exact ⟨o, t, ⟨a, _, dx, _, h1, h2, cls_of T _, one_of T _, wfs_one u o t⟩, h3, ⟨a, _, dx, _, h1, h2, cls_of T _, two_of T _, wfs_two u o t⟩, h4⟩
theorem WAt.cyc (T : Txt K mg c) (h : WAt c H v u) (hk : u.kind = 3) : Fld K H v "cycle" (.int u.every) := by
  obtain ⟨a, dx, o, t, h1, h2, h3, h4⟩ := h
  refine ⟨a, _, dx, _, h1, h2, cls_of T _, ?_, wfs_cyc o t hk⟩
  rw [hk]
  exact T.cycD
theorem WAt.cls (h : WAt c H v u) {m : Str} (hm : ∀ o t, (wfs u o t).lookup m = none) : Mth (fun C => C = clsOf c u.kind) H v m := by
  obtain ⟨a, dx, o, t, h1, h2, h3, h4⟩ := h
  exact ⟨a, _, dx, _, h1, h2, hm o t, rfl⟩
theorem WAt.isw (h : WAt c H v u) (hk : u.kind ≤ 3) {m : Str} (hm : ∀ o t, (wfs u o t).lookup m = none) : Mth (IsW c) H v m := by
  obtain ⟨a, dx, o, t, h1, h2, h3, h4⟩ := h
  exact ⟨a, _, dx, _, h1, h2, hm o t, u.kind, hk, rfl⟩
theorem no_holds (u : WD) (o t : V) : (wfs u o t).lookup ("holds" : Str) = none := by
  unfold wfs
  split <;> rfl
theorem no_ends (u : WD) (o t : V) : (wfs u o t).lookup ("ends_at" : Str) = none := by
  unfold wfs
  split <;> rfl
theorem no_line (u : WD) (o t : V) : (wfs u o t).lookup ("line" : Str) = none := by
  unfold wfs
  split <;> rfl
theorem no_behind (u : WD) (o t : V) : (wfs u o t).lookup ("behind" : Str) = none := by
  unfold wfs
  split <;> rfl
theorem no_word (u : WD) (o t : V) : (wfs u o t).lookup ("word" : Str) = none := by
  unfold wfs
  split <;> rfl
theorem no_every (u : WD) (o t : V) : (wfs u o t).lookup ("every" : Str) = none := by
  unfold wfs
  split <;> rfl
end
/-- sizes of a wall's numbers -/
theorem WOk.B {u : WD} (h : WOk u) : (B 3 u.one.1 ∧ B 3 u.one.2 ∧ B 3 u.two.1 ∧ B 3 u.two.2) ∧ B 3 (u.two.1 - u.one.1) ∧ B 3 (u.two.2 - u.one.2) := by
  have := h.a1
  have := h.a2
  have := h.b1
  have := h.b2
  unfold Bw.B
  omega
section
variable {P : Program} {w : World} {K : PySem.W.Frag} {mg : Str → Option Value} {base : Heap} {c : Cs} {f : Addr} {fd : FuncData}
/-! ### a wall's line -/
def lineO (one two : P2) : Option Int := if two.1 - one.1 = 0 ∧ two.2 - one.2 = 0 then none else if two.2 - one.2 = 0 then some 0 else if two.1 - one.1 = two.2 - one.2 then some 1 else if two.1 - one.1 = 0 then some 2 else
  if two.1 - one.1 = -(two.2 - one.2) then some 3 else none
def optI : Option Int → V
  | none => .non
  | some i => .int i
theorem lineO_some {u : WD} (h : WOk u) : lineO u.one u.two = some (lineP u.one u.two) := by
  obtain ⟨l, h1, h2⟩ := h.dir
  unfold lineO lineP
  rw [if_neg (by omega)]
  split
  · rfl
  · split
    · rfl
    · split
      · rfl
      · rw [if_pos (by omega)]
def sp_line_between : Sp := mkSp (fun a : (V × P2) × V × P2 => [a.1.1, a.2.1]) (fun a H => T2 H a.1.1 a.1.2 ∧ T2 H a.2.1 a.2.2) fun a H v H' => v = optI (lineO a.1.2 a.2.2) ∧ H' = H
theorem us_line_between {v u : V} {p q : P2} {H : Hp} {Q : VK} {E : XK} (h1 : T2 H v p) (h2 : T2 H u q) (k : Q (optI (lineO p q)) H) : sp_line_between ([v, u] ++ []) H Q E :=
  ⟨((v, p), (u, q)), rfl, ⟨h1, h2⟩, fun v H' e => by
    obtain ⟨rfl, rfl⟩ := e
    exact k⟩
abbrev N_line_between : List Str := ["one", "two", "right", "up"]
theorem sc_line_between : FnScope ["one", "two", "right", "up"] ["one", "two"] (defScope s_line_between) := ⟨rfl, rfl, rfl, by decide +kernel, rfl, by decide +kernel, by decide +kernel⟩
theorem ok_line_between (F : Fun K "line_between" "line_between" s_line_between f fd) : FnOk P w K mg base CX0 1 f fd ["one", "two"] sp_line_between := by
  refine F.ok sc_line_between (mk_len fun _ => rfl) (fun cdv A outer s H vs Q E hr h => ?_)
  obtain ⟨⟨⟨v, p⟩, u, q⟩, rfl, ⟨h1, h2⟩, k⟩ := h
  dsimp only at h1 h2 k
  refine ⟨_, (pss_cons (ps_set (i := 2) sc_line_between.nd rfl (by first | exact Or.inl rfl | exact Or.inr rfl) (pe_op op_sub (pe_ix ix_tup (pv 1) pe_int (fun _ _ => rfl)) (pe_ix ix_tup (pv 0) pe_int (fun _ _ => rfl))))
      (pss_cons (ps_set (i := 3) sc_line_between.nd rfl (by first | exact Or.inl rfl | exact Or.inr rfl) (pe_op op_sub (pe_ix ix_tup (pv 1) pe_int (fun _ _ => rfl)) (pe_ix ix_tup (pv 0) pe_int (fun _ _ => rfl))))
      (pss_cons (ps_if (PW.pt (pw_and (pt_cmpR op_eq (pv 2) pe_int (nomark _)) (pw_and1 (pt_cmpR op_eq (pv 3) pe_int (nomark _))))) (pss_one (ps_ret pe_non)) pss_nil)
      (pss_cons (ps_if (pt_cmpR op_eq (pv 3) pe_int (nomark _)) (pss_one (ps_ret pe_int)) pss_nil)
      (pss_cons (ps_if (pt_cmpR op_eq (pv 2) (pv 3) (nomark _)) (pss_one (ps_ret pe_int)) pss_nil)
      (pss_cons (ps_if (pt_cmpR op_eq (pv 2) pe_int (nomark _)) (pss_one (ps_ret pe_int)) pss_nil)
      (pss_cons (ps_if (pt_cmpR op_eq (pv 2) (pe_un un_neg (pv 3)) (nomark _)) (pss_one (ps_ret pe_int)) pss_nil)
      (pss_one (ps_ret pe_non))))))))), ?_⟩
  have k' : ∀ o, lineO p q = o → Q (optI o) H := fun o e => by
    rw [← e]
    exact k _ _ ⟨rfl, rfl⟩
  walk_at "all"
  all_goals first
    | exact k' none (by unfold lineO; (repeat' split) <;> first | rfl | omega)
    | exact k' (some 0) (by unfold lineO; (repeat' split) <;> first | rfl | omega)
    | exact k' (some 1) (by unfold lineO; (repeat' split) <;> first | rfl | omega)
    | exact k' (some 2) (by unfold lineO; (repeat' split) <;> first | rfl | omega)
    | exact k' (some 3) (by unfold lineO; (repeat' split) <;> first | rfl | omega)
/-! is_far, mirrored -/
def farP (e : P2) : Bool := decide (1000 < e.1.natAbs ∨ 1000 < e.2.natAbs)
def sp_is_far : Sp := mkSp (fun a : V × P2 => [a.1]) (fun a H => T2 H a.1 a.2) fun a H v H' => v = .bl (farP a.2) ∧ H' = H
theorem us_is_far {v : V} {p : P2} {H : Hp} {Q : VK} {E : XK} (h1 : T2 H v p) (k : Q (.bl (farP p)) H) : sp_is_far ([v] ++ []) H Q E :=
  ⟨(v, p), rfl, h1, fun v H' e => by
    obtain ⟨rfl, rfl⟩ := e
    exact k⟩
abbrev N_is_far : List Str := ["spot"]
theorem sc_is_far : FnScope ["spot"] ["spot"] (defScope s_is_far) := ⟨rfl, rfl, rfl, by decide +kernel, rfl, by decide +kernel, by decide +kernel⟩
theorem ok_is_far (F : Fun K "is_far" "is_far" s_is_far f fd) (T : Txt K mg c) : FnOk P w K mg base CX0 1 f fd ["spot"] sp_is_far := by
  refine F.ok sc_is_far (mk_len fun _ => rfl) (fun cdv A outer s H vs Q E hr h => ?_)
  obtain ⟨⟨v, p⟩, rfl, h1, k⟩ := h
  dsimp only at h1 k
  refine ⟨_, (pss_one (ps_ret (pe_cmpR op_gt (pe_callB (cl_max2 rfl) rfl T.n_max (by decide +kernel) (pa_cons (pe_callB cl_abs rfl T.n_abs (by decide +kernel) (pa_cons (pe_ix ix_tup (pv 0) pe_int (fun _ _ => rfl)) pa_nil)) (pa_cons (pe_callB cl_abs rfl T.n_abs (by decide +kernel) (pa_cons (pe_ix ix_tup (pv 0) pe_int (fun _ _ => rfl)) pa_nil)) pa_nil))) (pe_gi rfl T.g_FARTHEST) (nomark _)))), ?_⟩
  walk_at "go"
  refine k _ _ ⟨?_, rfl⟩
  show V.bl (decide ((1000 : Int) < if (if p.2 < 0 then -p.2 else p.2) > (if p.1 < 0 then -p.1 else p.1) then (if p.2 < 0 then -p.2 else p.2) else (if p.1 < 0 then -p.1 else p.1))) = V.bl (farP p)
  refine congrArg V.bl (decide_eq_decide.mpr ?_)
  (repeat' split) <;> omega
def sp_mirrored : Sp := mkSp (fun a : (V × P2) × Int => [a.1.1, .int a.2]) (fun a H => T2 H a.1.1 a.1.2) fun a H v H' => Same H H' ∧ T2 H' v (mirrorP a.1.2 a.2)
theorem us_mirrored {v : V} {p : P2} {l : Int} {H : Hp} {Q : VK} {E : XK} (h1 : T2 H v p) (k : ∀ v H', Same H H' → T2 H' v (mirrorP p l) → Q v H') : sp_mirrored ([v, .int l] ++ []) H Q E :=
  ⟨((v, p), l), rfl, h1, fun v H' e => k v H' e.1 e.2⟩
abbrev N_mirrored : List Str := ["heading", "line", "a", "b"]
theorem sc_mirrored : FnScope ["heading", "line", "a", "b"] ["heading", "line"] (defScope s_mirrored) := ⟨rfl, rfl, rfl, by decide +kernel, rfl, by decide +kernel, by decide +kernel⟩
theorem ok_mirrored (F : Fun K "mirrored" "mirrored" s_mirrored f fd) (T : Txt K mg c) : FnOk P w K mg base CX0 1 f fd ["heading", "line"] sp_mirrored := by
  refine F.ok sc_mirrored (mk_len fun _ => rfl) (fun cdv A outer s H vs Q E hr h => ?_)
  obtain ⟨⟨⟨v, p⟩, l⟩, rfl, h1, k⟩ := h
  dsimp only at h1 k
  refine ⟨_, (pss_cons (ps_asg (pv 0) (pg_tup rfl (pgs_cons (pg_name (i := 2) sc_mirrored.nd rfl (by first | exact Or.inl rfl | exact Or.inr rfl)) (pgs_cons (pg_name (i := 3) sc_mirrored.nd rfl (by first | exact Or.inl rfl | exact Or.inr rfl)) pgs_nil))))
      (pss_cons (ps_if (pt_cmpR op_eq (pv 1) (pe_gi rfl T.g_LEVEL) (nomark _)) (pss_one (ps_ret (pe_tup (pa_cons (pv 2) (pa_cons (pe_un un_neg (pv 3)) pa_nil))))) pss_nil)
      (pss_cons (ps_if (pt_cmpR op_eq (pv 1) (pe_gi rfl T.g_RISING) (nomark _)) (pss_one (ps_ret (pe_tup (pa_cons (pv 3) (pa_cons (pv 2) pa_nil))))) pss_nil)
      (pss_cons (ps_if (pt_cmpR op_eq (pv 1) (pe_gi rfl T.g_UPRIGHT) (nomark _)) (pss_one (ps_ret (pe_tup (pa_cons (pe_un un_neg (pv 2)) (pa_cons (pv 3) pa_nil))))) pss_nil)
      (pss_one (ps_ret (pe_tup (pa_cons (pe_un un_neg (pv 3)) (pa_cons (pe_un un_neg (pv 2)) pa_nil))))))))), ?_⟩
  have k' : ∀ z r H', Same H H' → mirrorP p l = r → T2 H' z r → Q z H' := fun z r H' e q t => k z H' ⟨e, by rw [q]; exact t⟩
  walk_at "all"
  all_goals first
    | exact k' _ (p.1, -p.2) _ (by assumption) (by unfold mirrorP; (repeat' split) <;> first | rfl | omega) (by assumption)
    | exact k' _ (p.2, p.1) _ (by assumption) (by unfold mirrorP; (repeat' split) <;> first | rfl | omega) (by assumption)
    | exact k' _ (-p.1, p.2) _ (by assumption) (by unfold mirrorP; (repeat' split) <;> first | rfl | omega) (by assumption)
    | exact k' _ (-p.2, -p.1) _ (by assumption) (by unfold mirrorP; (repeat' split) <;> first | rfl | omega) (by assumption)
end
end Bw
end

section
set_option Elab.async false
set_option linter.all false
set_option maxRecDepth 100000
set_option maxHeartbeats 4100000
namespace Bw
open PySem L2
-- HDR
-- what the heap knows, carried over
local macro_rules | `(tactic| walk_at "hp") => `(tactic| first
  | assumption
  | (refine' TUP.up (tk_of ?e) ?h; (case e => assumption); (case h => walk_at "hp"))
  | (refine' Fld.up ?e ?h; (case e => assumption); (case h => walk_at "hp"))
  | (refine' LST.up ?e ?h; (case e => assumption); (case h => walk_at "hp"))
  | (refine' TUP.up ?e ?h; (case e => assumption); (case h => walk_at "hp"))
  | (refine' Mth.up ?e ?h; (case e => assumption); (case h => walk_at "hp")))
-- one step of a reading
local macro_rules | `(tactic| walk_at "rd") => `(tactic| first
  | (with_reducible refine rd_var rfl ?_)
  | (with_reducible refine rd_c ?_)
  | (with_reducible refine rd_op ?_)
  | (with_reducible refine rd_mulW ?_ ?_)
  | (with_reducible refine rd_add ?_)
  | (with_reducible refine rd_sub ?_)
  | (with_reducible refine rd_cons ?_)
  | (with_reducible refine rd_nil ?_)
  | (with_reducible refine rd_seq ?_)
  | (with_reducible refine rd_asg ?_)
  | (with_reducible refine rd_name ?_)
  | (with_reducible refine rd_call ?_)
  | (with_reducible refine rd_fld ?_)
  | ((with_reducible refine' rd_fldv ?h ?_); (case h => walk_at "hp"))
  | ((with_reducible refine' rd_ixT0 ?h ?e ?_); (case h => walk_at "hp"); (case e => rfl))
  | ((with_reducible refine' rd_ixT1 ?h ?e ?_); (case h => walk_at "hp"); (case e => rfl))
  | ((with_reducible refine' rd_ixT2 ?h ?e ?_); (case h => walk_at "hp"); (case e => rfl))
  | ((with_reducible refine' rd_gtup ?h ?e ?_); (case h => walk_at "hp"); (case e => rfl))
  | (with_reducible refine rd_gcons ?_)
  | (with_reducible refine rd_gnil ?_)
  | (with_reducible refine rd_if ?_)
  | (with_reducible refine rd_test ?_)
  | (with_reducible refine rd_isbl ?_)
  | (with_reducible refine rd_iteT ?_)
  | (with_reducible refine rd_iteF ?_)
  | (with_reducible refine rd_ret ?_)
  | (with_reducible refine rd_next ?_)
  | (with_reducible refine rd_lt ?_)
  | (with_reducible refine rd_gt ?_)
  | (with_reducible refine rd_eqI ?_)
  | (with_reducible refine rd_neI ?_)
  | (with_reducible refine rd_un ?_)
  | (with_reducible refine rd_neg ?_)
  | (with_reducible refine rd_tup ?_)
  | (with_reducible refine rd_lst ?_)
  | (with_reducible refine rd_lstN (Nat.le_of_ble_eq_true rfl) ?_; intro _ _ _ _ _)
  | (with_reducible refine rd_tupN (Nat.le_of_ble_eq_true rfl) ?_; intro _ _ _ _)
  | (with_reducible refine rd_mod ?_ ?_)
  | (with_reducible refine rd_modN ?_ ?_)
  | (with_reducible refine rd_mul ?_ ?_)
  | (with_reducible refine rd_fdiv ?_ ?_)
  | (with_reducible refine rd_fdivZ ?_ ?_ ?_)
  | (with_reducible refine rd_tB ?_)
  | (with_reducible refine rd_CB ?_)
  | (with_reducible refine rd_le ?_)
  | (with_reducible refine rd_ge ?_)
  | (with_reducible refine rd_eqS ?_)
  | (with_reducible refine rd_neS ?_)
  | (with_reducible refine rd_isN0 ?_)
  | (with_reducible refine rd_isN1 ?_)
  | (with_reducible refine rd_notN0 ?_)
  | (with_reducible refine rd_notN1 ?_)
  | (with_reducible refine rd_abs ?_)
  | (with_reducible refine rd_max2 ?_)
  | (with_reducible refine rd_min2 ?_)
  | (with_reducible refine rd_mx ?_)
  | ((with_reducible refine' rd_mx1 ?h ?_); (case h => walk_at "hp"))
  | (with_reducible refine rd_and ?_)
  | (with_reducible refine rd_or ?_)
  | (with_reducible refine rd_not ?_)
  | (with_reducible refine rd_drop ?_)
  | (with_reducible refine rd_chain ?_)
  | (with_reducible refine rd_orV ?_)
  | (with_reducible refine rd_andV ?_)
  | (with_reducible refine rd_notV ?_)
  | (with_reducible refine rd_sfld ?_)
  | (with_reducible refine rd_for ?_)
  | (with_reducible refine rd_iL ?_)
  | (with_reducible refine rd_lc ?_)
  | (with_reducible refine rd_iE ?_)
  | ((with_reducible refine' rd_lenL ?h ?_); (case h => walk_at "hp"))
  | ((with_reducible refine' rd_lenT ?h ?_); (case h => walk_at "hp"))
  | (with_reducible refine rd_yes ?_)
  | (with_reducible refine rd_iZ ?_)
  | (with_reducible refine rd_iT ?_)
  | (with_reducible refine rd_break ?_)
  | ((with_reducible refine' rd_ixT3 ?h ?e ?_); (case h => walk_at "hp"); (case e => rfl))
  | ((with_reducible refine' rd_ixT4 ?h ?e ?_); (case h => walk_at "hp"); (case e => rfl))
  | ((with_reducible refine' rd_ixT5 ?h ?e ?_); (case h => walk_at "hp"); (case e => rfl))
  | ((with_reducible refine' rd_ixL0 ?h ?e ?_); (case h => walk_at "hp"); (case e => rfl))
  | ((with_reducible refine' rd_ixL1 ?h ?e ?_); (case h => walk_at "hp"); (case e => rfl))
  | ((with_reducible refine' rd_ixL2 ?h ?e ?_); (case h => walk_at "hp"); (case e => rfl))
  | ((with_reducible refine' rd_ixL3 ?h ?e ?_); (case h => walk_at "hp"); (case e => rfl))
  | ((with_reducible refine' rd_ixL4 ?h ?e ?_); (case h => walk_at "hp"); (case e => rfl))
  | ((with_reducible refine' rd_ixL5 ?h ?e ?_); (case h => walk_at "hp"); (case e => rfl)))
-- steps, with the callees' promises
local macro_rules | `(tactic| walk_at "go") => `(tactic| repeat first | walk_at "rd" | walk_at "us")
-- every way
local macro_rules | `(tactic| walk_at "all") => `(tactic| repeat' first
  | walk_at "rd"
  | walk_at "us"
  | (with_reducible refine rd_ite (fun _ => ?_) (fun _ => ?_))
  | (with_reducible refine rd_iten (fun _ => ?_) (fun _ => ?_)))
-- END
-- HDR1
local macro_rules | `(tactic| walk_at "us") => `(tactic| first
  | (with_reducible refine us_divisor ?_)
  | (with_reducible refine us_point_of ?_ ?_ ?_; intro _ _ _ _)
  | (with_reducible refine us_time_of ?_ ?_ ?_; intro _ _ _ _))
-- END
-- HDR2
local macro_rules | `(tactic| walk_at "us") => `(tactic| first
  | ((with_reducible refine' us_sooner ?h ?g ?_ ?_ ?_); (case h => walk_at "hp"); (case g => walk_at "hp"))
  | ((with_reducible refine' us_added ?h ?g ?_ ?_ ?_ ?_ ?_); (case h => walk_at "hp"); (case g => walk_at "hp"); intro _ _ _ _)
  | ((with_reducible refine' us_spot_at ?h ?g ?i ?_ ?_ ?_ ?_ ?_); (case h => walk_at "hp"); (case g => walk_at "hp"); (case i => walk_at "hp"); intro _ _ _ _)
  | ((with_reducible refine' us_time_along ?h ?g ?i ?_ ?_ ?_ ?_); (case h => walk_at "hp"); (case g => walk_at "hp"); (case i => walk_at "hp"); intro _ _ _ _))
-- END
-- HDR3
local macro_rules | `(tactic| walk_at "us") => `(tactic| first
  | ((with_reducible refine' us_line_between ?h ?g ?_); (case h => walk_at "hp"); (case g => walk_at "hp"))
  | ((with_reducible refine' us_is_far ?h ?_); (case h => walk_at "hp"))
  | ((with_reducible refine' us_mirrored ?h ?_); (case h => walk_at "hp"); intro _ _ _ _))
local macro_rules | `(tactic| walk_at "hp") => `(tactic| (refine' WAt.up (nl_of ?e) ?h; (case e => assumption); (case h => walk_at "hp")))
local macro_rules | `(tactic| walk_at "hp") => `(tactic| (refine' WAt.up ?e ?h; (case e => assumption); (case h => walk_at "hp")))
-- END
theorem hu65 {A : Around} {k : Nat} (hr : Room k A) : A.units + 65 < cLine := by
  have := hr.un
  omega
theorem hu8 {A : Around} {k : Nat} (hr : Room k A) : A.units + 8 < cLine := by
  have := hr.un
  omega
theorem eqv2 (p q : P2) : PyData.eqv (.tuple [.int q.1, .int q.2]) (.tuple [.int p.1, .int p.2]) = decide (p = q) := by
  obtain ⟨a, b⟩ := p
  obtain ⟨d, e⟩ := q
  rw [Bool.eq_iff_iff]
  simp only [PyData.eqv, PyData.eqvAll, Bool.and_true, Bool.and_eq_true, beq_iff_eq, decide_eq_true_eq, Prod.mk.injEq]
  omega
theorem rd_inT {K : PySem.W.Frag} {H : Hp} {Q : VK} {x y a b : V} {p q r : P2} (h1 : T2 H x p) (h2 : TUP H y [a, b]) (h3 : T2 H a q) (h4 : T2 H b r) (k : Q (.bl (decide (p = q) || decide (p = r))) H) : rInT K x y H Q := by
  obtain ⟨p1, rfl, e1⟩ := h1
  obtain ⟨p2, rfl, e2⟩ := h2
  obtain ⟨p3, rfl, e3⟩ := h3
  obtain ⟨p4, rfl, e4⟩ := h4
  refine ⟨.tuple [.int p.1, .int p.2], [.tuple [.int q.1, .int q.2], .tuple [.int r.1, .int r.2]], .tup (SqT.of e1) (.cons (.int _) (.cons (.int _) .nil)),
    .tup (SqT.of e2) (.cons (.tup (SqT.of e3) (.cons (.int _) (.cons (.int _) .nil))) (.cons (.tup (SqT.of e4) (.cons (.int _) (.cons (.int _) .nil))) .nil)), rfl, rfl, ?_⟩
  rw [List.any_cons, List.any_cons, List.any_nil, Bool.or_false, eqv2, eqv2]
  exact k
section
variable {P : Program} {w : World} {K : PySem.W.Frag} {mg : Str → Option Value} {base : Heap} {c : Cs} {f : Addr} {fd : FuncData}
/-! ### methods of walls -/
def sp_line (c : Cs) : Sp := mkSp (fun a : V × WD => [a.1]) (fun a H => WAt c H a.1 a.2 ∧ WOk a.2) fun a H v H' => v = .int (lineP a.2.one a.2.two) ∧ H' = H
theorem us_line {v : V} {u : WD} {H : Hp} {Q : VK} {E : XK} (h1 : WAt c H v u) (k : Q (.int (lineP u.one u.two)) H) (o : WOk u) : sp_line c [v] H Q E :=
  ⟨(v, u), rfl, ⟨h1, o⟩, fun v H' e => by
    obtain ⟨rfl, rfl⟩ := e
    exact k⟩
abbrev N_Wall_line : List Str := ["self"]
theorem sc_Wall_line : FnScope ["self"] ["self"] (defScope s_Wall_line) := ⟨rfl, rfl, rfl, by decide +kernel, rfl, by decide +kernel, by decide +kernel⟩
theorem ok_line (F : Fun K "line" "Wall.line" s_Wall_line f fd) (T : Txt K mg c) (c_line_between : Cal P w K mg base 1 "line_between" ["one", "two"] [] sp_line_between) : FnOk P w K mg base CX0 2 f fd ["self"] (sp_line c) := by
  refine F.ok sc_Wall_line (mk_len fun _ => rfl) (fun cdv A outer s H vs Q E hr h => ?_)
  obtain ⟨⟨v, u⟩, rfl, ⟨h1, o⟩, k⟩ := h
  dsimp only at h1 o k
  obtain ⟨p, q, f1, t1, f2, t2⟩ := h1.flds T
  refine ⟨_, (pss_one (ps_ret (pe_cl c_line_between (hr.mono (by decide)) rfl (pa_cons (pe_fld (pv 0) rfl) (pa_cons (pe_fld (pv 0) rfl) pa_nil))))), ?_⟩
  walk_at "go"
  exact k _ _ ⟨congrArg optI (lineO_some o), rfl⟩
structure PB (P : P3) : Prop where
  x : B 100000 P.1
  y : B 100000 P.2.1
  w : B 100000 P.2.2
def sp_holds (c : Cs) : Sp := mkSp (fun a : (V × WD) × V × P3 => [a.1.1, a.2.1]) (fun a H => WAt c H a.1.1 a.1.2 ∧ T3 H a.2.1 a.2.2 ∧ WOk a.1.2 ∧ PB a.2.2) fun a H v H' => v = .bl (holdsP a.1.2 a.2.2) ∧ H' = H
theorem us_holds {v z : V} {u : WD} {P : P3} {H : Hp} {Q : VK} {E : XK} (h1 : WAt c H v u) (h2 : T3 H z P) (k : Q (.bl (holdsP u P)) H) (o : WOk u) (b : PB P) : sp_holds c [v, z] H Q E :=
  ⟨((v, u), z, P), rfl, ⟨h1, h2, o, b⟩, fun v H' e => by
    obtain ⟨rfl, rfl⟩ := e
    exact k⟩
abbrev N_Wall_holds : List Str := ["self", "P", "right", "up", "far", "high", "x", "y", "w"]
theorem sc_Wall_holds : FnScope ["self", "P", "right", "up", "far", "high", "x", "y", "w"] ["self", "P"] (defScope s_Wall_holds) := ⟨rfl, rfl, rfl, by decide +kernel, rfl, by decide +kernel, by decide +kernel⟩
theorem ok_holds (F : Fun K "holds" "Wall.holds" s_Wall_holds f fd) (T : Txt K mg c) : FnOk P w K mg base CX0 1 f fd ["self", "P"] (sp_holds c) := by
  refine F.ok sc_Wall_holds (mk_len fun _ => rfl) (fun cdv A outer s H vs Q E hr h => ?_)
  obtain ⟨⟨⟨v, u⟩, z, P⟩, rfl, ⟨h1, h2, o, b⟩, k⟩ := h
  dsimp only at h1 h2 o b k
  obtain ⟨p, q, f1, t1, f2, t2⟩ := h1.flds T
  refine ⟨_, (pss_cons (ps_asg (pv 1) (pg_tup rfl (pgs_cons (pg_name (i := 6) sc_Wall_holds.nd rfl (by first | exact Or.inl rfl | exact Or.inr rfl)) (pgs_cons (pg_name (i := 7) sc_Wall_holds.nd rfl (by first | exact Or.inl rfl | exact Or.inr rfl)) (pgs_cons (pg_name (i := 8) sc_Wall_holds.nd rfl (by first | exact Or.inl rfl | exact Or.inr rfl)) pgs_nil)))))
      (pss_cons (ps_set (i := 2) sc_Wall_holds.nd rfl (by first | exact Or.inl rfl | exact Or.inr rfl) (pe_op op_sub (pe_ix ix_tup (pe_fld (pv 0) rfl) pe_int (fun _ _ => rfl)) (pe_ix ix_tup (pe_fld (pv 0) rfl) pe_int (fun _ _ => rfl))))
      (pss_cons (ps_set (i := 3) sc_Wall_holds.nd rfl (by first | exact Or.inl rfl | exact Or.inr rfl) (pe_op op_sub (pe_ix ix_tup (pe_fld (pv 0) rfl) pe_int (fun _ _ => rfl)) (pe_ix ix_tup (pe_fld (pv 0) rfl) pe_int (fun _ _ => rfl))))
      (pss_cons (ps_set (i := 4) sc_Wall_holds.nd rfl (by first | exact Or.inl rfl | exact Or.inr rfl) (pe_op op_sub (pv 6) (pe_op op_mulW (pv 8) (pe_ix ix_tup (pe_fld (pv 0) rfl) pe_int (fun _ _ => rfl)))))
      (pss_cons (ps_set (i := 5) sc_Wall_holds.nd rfl (by first | exact Or.inl rfl | exact Or.inr rfl) (pe_op op_sub (pv 7) (pe_op op_mulW (pv 8) (pe_ix ix_tup (pe_fld (pv 0) rfl) pe_int (fun _ _ => rfl)))))
      (pss_cons (ps_if (pt_cmpR op_ne (pe_op op_mulW (pv 2) (pv 5)) (pe_op op_mulW (pv 3) (pv 4)) (nomark _)) (pss_one (ps_ret pe_bl)) pss_nil)
      (pss_one (ps_ret (pe_chain op_le op_le pe_int (pe_op op_add (pe_op op_mulW (pv 2) (pv 4)) (pe_op op_mulW (pv 3) (pv 5))) (pe_op op_mulW (pv 8) (pe_op op_add (pe_op op_mulW (pv 2) (pv 2)) (pe_op op_mulW (pv 3) (pv 3))))))))))))), ?_⟩
  have ⟨⟨b1, b2, b3, b4⟩, b5, b6⟩ := o.B
  have m1 : B 100010 (P.1 - P.2.2 * u.one.1) := ((b.x.mono (by decide)).sub ((b.w.mul b1).mono (by decide : 100003 ≤ 100009)))
  have m2 : B 100010 (P.2.1 - P.2.2 * u.one.2) := ((b.y.mono (by decide)).sub ((b.w.mul b2).mono (by decide : 100003 ≤ 100009)))
  have w1 := (b5.mono (by decide : 3 ≤ 300000)).W (m1.mono (by decide))
  have w2 := (b5.mono (by decide : 3 ≤ 300000)).W (m2.mono (by decide))
  have w3 := (b6.mono (by decide : 3 ≤ 300000)).W (m1.mono (by decide))
  have w4 := (b6.mono (by decide : 3 ≤ 300000)).W (m2.mono (by decide))
  have w5 := (b.w.mono (by decide : 100000 ≤ 300000)).W (b1.mono (by decide))
  have w6 := (b.w.mono (by decide : 100000 ≤ 300000)).W (b2.mono (by decide))
  have w7 := (b5.mono (by decide : 3 ≤ 300000)).W (b5.mono (by decide))
  have w8 := (b6.mono (by decide : 3 ≤ 300000)).W (b6.mono (by decide))
  have w9 := (b.w.mono (by decide : 100000 ≤ 300000)).W ((((b5.mul b5).mono (by decide : 3 + 3 ≤ 10)).add ((b6.mul b6).mono (by decide))).mono (by decide))
  walk_at "go"
  · refine rd_iten (fun hn => ?_) (fun hy => ?_)
    · walk_at "go"
      refine k _ _ ⟨?_, rfl⟩
      unfold holdsP
      rw [if_neg hn]
    · walk_at "go"
      · refine rd_ite (fun h0 => ?_) (fun h0 => ?_)
        · walk_at "go"
          · refine k _ _ ⟨?_, rfl⟩
            unfold holdsP
            rw [if_pos hy, decide_eq_true h0, Bool.true_and]
          all_goals assumption
        · refine k _ _ ⟨?_, rfl⟩
          unfold holdsP
          rw [if_pos hy, decide_eq_false h0, Bool.false_and]
      all_goals assumption
  all_goals assumption
def sp_ends_at (c : Cs) : Sp := mkSp (fun a : (V × WD) × V × P3 => [a.1.1, a.2.1]) (fun a H => WAt c H a.1.1 a.1.2 ∧ T3 H a.2.1 a.2.2) fun a H v H' => v = .bl (endsP a.1.2 a.2.2) ∧ Same H H'
theorem us_ends_at {v z : V} {u : WD} {P : P3} {H : Hp} {Q : VK} {E : XK} (h1 : WAt c H v u) (h2 : T3 H z P) (k : ∀ H', Same H H' → Q (.bl (endsP u P)) H') : sp_ends_at c [v, z] H Q E :=
  ⟨((v, u), z, P), rfl, ⟨h1, h2⟩, fun v H' e => by
    obtain ⟨rfl, e⟩ := e
    exact k H' e⟩
abbrev N_Wall_ends_at : List Str := ["self", "P"]
theorem sc_Wall_ends_at : FnScope ["self", "P"] ["self", "P"] (defScope s_Wall_ends_at) := ⟨rfl, rfl, rfl, by decide +kernel, rfl, by decide +kernel, by decide +kernel⟩
theorem ok_ends_at (F : Fun K "ends_at" "Wall.ends_at" s_Wall_ends_at f fd) (T : Txt K mg c) : FnOk P w K mg base CX0 1 f fd ["self", "P"] (sp_ends_at c) := by
  refine F.ok sc_Wall_ends_at (mk_len fun _ => rfl) (fun cdv A outer s H vs Q E hr h => ?_)
  obtain ⟨⟨⟨v, u⟩, z, P⟩, rfl, ⟨h1, h2⟩, k⟩ := h
  dsimp only at h1 h2 k
  obtain ⟨p, q, f1, t1, f2, t2⟩ := h1.flds T
  refine ⟨_, (pss_one (ps_ret (pe_and (pe_cmpR op_eq (pe_ix ix_tup (pv 1) pe_int (fun _ _ => rfl)) pe_int (nomark _)) (pe_one (pe_cmpR (op_inT (hu65 hr)) (pe_tup (pa_cons (pe_ix ix_tup (pv 1) pe_int (fun _ _ => rfl)) (pa_cons (pe_ix ix_tup (pv 1) pe_int (fun _ _ => rfl)) pa_nil))) (pe_tup (pa_cons (pe_fld (pv 0) rfl) (pa_cons (pe_fld (pv 0) rfl) pa_nil))) (by rfl)))))), ?_⟩
  walk_at "go"
  refine rd_ite (fun h0 => ?_) (fun h0 => ?_)
  · walk_at "go"
    refine rd_inT (p := (P.1, P.2.1)) (q := u.one) (r := u.two) (by walk_at "hp") (by walk_at "hp") (by walk_at "hp") (by walk_at "hp") ?_
    refine k _ _ ⟨?_, Same.trans (by assumption) (by assumption)⟩
    unfold endsP
    (rw [decide_eq_true h0, Bool.true_and])
  · refine k _ _ ⟨?_, Same.refl _⟩
    unfold endsP
    rw [decide_eq_false h0, Bool.false_and]
end
end Bw
end

section
set_option Elab.async false
set_option linter.all false
set_option maxRecDepth 100000
set_option maxHeartbeats 4100000
namespace Bw
open PySem L2
-- HDR
-- what the heap knows, carried over
local macro_rules | `(tactic| walk_at "hp") => `(tactic| first
  | assumption
  | (refine' TUP.up (tk_of ?e) ?h; (case e => assumption); (case h => walk_at "hp"))
  | (refine' Fld.up ?e ?h; (case e => assumption); (case h => walk_at "hp"))
  | (refine' LST.up ?e ?h; (case e => assumption); (case h => walk_at "hp"))
  | (refine' TUP.up ?e ?h; (case e => assumption); (case h => walk_at "hp"))
  | (refine' Mth.up ?e ?h; (case e => assumption); (case h => walk_at "hp")))
-- one step of a reading
local macro_rules | `(tactic| walk_at "rd") => `(tactic| first
  | (with_reducible refine rd_var rfl ?_)
  | (with_reducible refine rd_c ?_)
  | (with_reducible refine rd_op ?_)
  | (with_reducible refine rd_mulW ?_ ?_)
  | (with_reducible refine rd_add ?_)
  | (with_reducible refine rd_sub ?_)
  | (with_reducible refine rd_cons ?_)
  | (with_reducible refine rd_nil ?_)
  | (with_reducible refine rd_seq ?_)
  | (with_reducible refine rd_asg ?_)
  | (with_reducible refine rd_name ?_)
  | (with_reducible refine rd_call ?_)
  | (with_reducible refine rd_fld ?_)
  | ((with_reducible refine' rd_fldv ?h ?_); (case h => walk_at "hp"))
  | ((with_reducible refine' rd_ixT0 ?h ?e ?_); (case h => walk_at "hp"); (case e => rfl))
  | ((with_reducible refine' rd_ixT1 ?h ?e ?_); (case h => walk_at "hp"); (case e => rfl))
  | ((with_reducible refine' rd_ixT2 ?h ?e ?_); (case h => walk_at "hp"); (case e => rfl))
  | ((with_reducible refine' rd_gtup ?h ?e ?_); (case h => walk_at "hp"); (case e => rfl))
  | (with_reducible refine rd_gcons ?_)
  | (with_reducible refine rd_gnil ?_)
  | (with_reducible refine rd_if ?_)
  | (with_reducible refine rd_test ?_)
  | (with_reducible refine rd_isbl ?_)
  | (with_reducible refine rd_iteT ?_)
  | (with_reducible refine rd_iteF ?_)
  | (with_reducible refine rd_ret ?_)
  | (with_reducible refine rd_next ?_)
  | (with_reducible refine rd_lt ?_)
  | (with_reducible refine rd_gt ?_)
  | (with_reducible refine rd_eqI ?_)
  | (with_reducible refine rd_neI ?_)
  | (with_reducible refine rd_un ?_)
  | (with_reducible refine rd_neg ?_)
  | (with_reducible refine rd_tup ?_)
  | (with_reducible refine rd_lst ?_)
  | (with_reducible refine rd_lstN (Nat.le_of_ble_eq_true rfl) ?_; intro _ _ _ _ _)
  | (with_reducible refine rd_tupN (Nat.le_of_ble_eq_true rfl) ?_; intro _ _ _ _)
  | (with_reducible refine rd_mod ?_ ?_)
  | (with_reducible refine rd_modN ?_ ?_)
  | (with_reducible refine rd_mul ?_ ?_)
  | (with_reducible refine rd_fdiv ?_ ?_)
  | (with_reducible refine rd_fdivZ ?_ ?_ ?_)
  | (with_reducible refine rd_tB ?_)
  | (with_reducible refine rd_CB ?_)
  | (with_reducible refine rd_le ?_)
  | (with_reducible refine rd_ge ?_)
  | (with_reducible refine rd_eqS ?_)
  | (with_reducible refine rd_neS ?_)
  | (with_reducible refine rd_isN0 ?_)
  | (with_reducible refine rd_isN1 ?_)
  | (with_reducible refine rd_notN0 ?_)
  | (with_reducible refine rd_notN1 ?_)
  | (with_reducible refine rd_abs ?_)
  | (with_reducible refine rd_max2 ?_)
  | (with_reducible refine rd_min2 ?_)
  | (with_reducible refine rd_mx ?_)
  | ((with_reducible refine' rd_mx1 ?h ?_); (case h => walk_at "hp"))
  | (with_reducible refine rd_and ?_)
  | (with_reducible refine rd_or ?_)
  | (with_reducible refine rd_not ?_)
  | (with_reducible refine rd_drop ?_)
  | (with_reducible refine rd_chain ?_)
  | (with_reducible refine rd_orV ?_)
  | (with_reducible refine rd_andV ?_)
  | (with_reducible refine rd_notV ?_)
  | (with_reducible refine rd_sfld ?_)
  | (with_reducible refine rd_for ?_)
  | (with_reducible refine rd_iL ?_)
  | (with_reducible refine rd_lc ?_)
  | (with_reducible refine rd_iE ?_)
  | ((with_reducible refine' rd_lenL ?h ?_); (case h => walk_at "hp"))
  | ((with_reducible refine' rd_lenT ?h ?_); (case h => walk_at "hp"))
  | (with_reducible refine rd_yes ?_)
  | (with_reducible refine rd_iZ ?_)
  | (with_reducible refine rd_iT ?_)
  | (with_reducible refine rd_break ?_)
  | ((with_reducible refine' rd_ixT3 ?h ?e ?_); (case h => walk_at "hp"); (case e => rfl))
  | ((with_reducible refine' rd_ixT4 ?h ?e ?_); (case h => walk_at "hp"); (case e => rfl))
  | ((with_reducible refine' rd_ixT5 ?h ?e ?_); (case h => walk_at "hp"); (case e => rfl))
  | ((with_reducible refine' rd_ixL0 ?h ?e ?_); (case h => walk_at "hp"); (case e => rfl))
  | ((with_reducible refine' rd_ixL1 ?h ?e ?_); (case h => walk_at "hp"); (case e => rfl))
  | ((with_reducible refine' rd_ixL2 ?h ?e ?_); (case h => walk_at "hp"); (case e => rfl))
  | ((with_reducible refine' rd_ixL3 ?h ?e ?_); (case h => walk_at "hp"); (case e => rfl))
  | ((with_reducible refine' rd_ixL4 ?h ?e ?_); (case h => walk_at "hp"); (case e => rfl))
  | ((with_reducible refine' rd_ixL5 ?h ?e ?_); (case h => walk_at "hp"); (case e => rfl)))
-- steps, with the callees' promises
local macro_rules | `(tactic| walk_at "go") => `(tactic| repeat first | walk_at "rd" | walk_at "us")
-- every way
local macro_rules | `(tactic| walk_at "all") => `(tactic| repeat' first
  | walk_at "rd"
  | walk_at "us"
  | (with_reducible refine rd_ite (fun _ => ?_) (fun _ => ?_))
  | (with_reducible refine rd_iten (fun _ => ?_) (fun _ => ?_)))
-- END
-- HDR1
local macro_rules | `(tactic| walk_at "us") => `(tactic| first
  | (with_reducible refine us_divisor ?_)
  | (with_reducible refine us_point_of ?_ ?_ ?_; intro _ _ _ _)
  | (with_reducible refine us_time_of ?_ ?_ ?_; intro _ _ _ _))
-- END
-- HDR2
local macro_rules | `(tactic| walk_at "us") => `(tactic| first
  | ((with_reducible refine' us_sooner ?h ?g ?_ ?_ ?_); (case h => walk_at "hp"); (case g => walk_at "hp"))
  | ((with_reducible refine' us_added ?h ?g ?_ ?_ ?_ ?_ ?_); (case h => walk_at "hp"); (case g => walk_at "hp"); intro _ _ _ _)
  | ((with_reducible refine' us_spot_at ?h ?g ?i ?_ ?_ ?_ ?_ ?_); (case h => walk_at "hp"); (case g => walk_at "hp"); (case i => walk_at "hp"); intro _ _ _ _)
  | ((with_reducible refine' us_time_along ?h ?g ?i ?_ ?_ ?_ ?_); (case h => walk_at "hp"); (case g => walk_at "hp"); (case i => walk_at "hp"); intro _ _ _ _))
-- END
-- HDR3
local macro_rules | `(tactic| walk_at "us") => `(tactic| first
  | ((with_reducible refine' us_line_between ?h ?g ?_); (case h => walk_at "hp"); (case g => walk_at "hp"))
  | ((with_reducible refine' us_is_far ?h ?_); (case h => walk_at "hp"))
  | ((with_reducible refine' us_mirrored ?h ?_); (case h => walk_at "hp"); intro _ _ _ _))
local macro_rules | `(tactic| walk_at "hp") => `(tactic| (refine' WAt.up (nl_of ?e) ?h; (case e => assumption); (case h => walk_at "hp")))
local macro_rules | `(tactic| walk_at "hp") => `(tactic| (refine' WAt.up ?e ?h; (case e => assumption); (case h => walk_at "hp")))
-- END
-- HDR4
local macro_rules | `(tactic| walk_at "us") => `(tactic| first
  | ((with_reducible refine' us_line ?h ?_ ?_); (case h => walk_at "hp"))
  | ((with_reducible refine' us_holds ?h ?g ?_ ?_ ?_); (case h => walk_at "hp"); (case g => walk_at "hp"))
  | ((with_reducible refine' us_ends_at ?h ?g ?_); (case h => walk_at "hp"); (case g => walk_at "hp"); intro _ _))
-- END
/-- a pair, or None -/
def O2 (H : Hp) (v : V) : Option P2 → Prop
  | none => v = .non
  | some t => T2 H v t
theorem O2.up {H H' : Hp} {v : V} {o : Option P2} (e : TK H H') (h : O2 H v o) : O2 H' v o := by
  cases o with
  | none => exact h
  | some t => exact TUP.up e h
section
variable {P : Program} {w : World} {K : PySem.W.Frag} {mg : Str → Option Value} {base : Heap} {c : Cs} {f : Addr} {fd : FuncData}
/-! ### behind a hit, kinds of walls -/
def sp_behind (c : Cs) (kd : Nat) : Sp := mkSp (fun a : (V × WD) × (V × P2) × Int => [a.1.1, a.2.1.1, .int a.2.2]) (fun a H => WAt c H a.1.1 a.1.2 ∧ T2 H a.2.1.1 a.2.1.2 ∧ WOk a.1.2 ∧ a.1.2.kind = kd) fun a H v H' => Same H H' ∧ O2 H' v (behindP a.1.2 a.2.1.2 a.2.2)
theorem us_behind {v z : V} {u : WD} {h : P2} {n : Int} {H : Hp} {Q : VK} {E : XK} (h1 : WAt c H v u) (h2 : T2 H z h) (k : ∀ v H', Same H H' → O2 H' v (behindP u h n) → Q v H') (o : WOk u) : sp_behind c u.kind [v, z, .int n] H Q E :=
  ⟨((v, u), (z, h), n), rfl, ⟨h1, h2, o, rfl⟩, fun v H' e => k v H' e.1 e.2⟩
abbrev N_Wall_behind : List Str := ["self", "heading", "count"]
theorem sc_Wall_behind : FnScope ["self", "heading", "count"] ["self", "heading", "count"] (defScope s_Wall_behind) := ⟨rfl, rfl, rfl, by decide +kernel, rfl, by decide +kernel, by decide +kernel⟩
theorem ok_behind0 (F : Fun K "behind" "Wall.behind" s_Wall_behind f fd) (T : Txt K mg c) (c_mirrored : Cal P w K mg base 1 "mirrored" ["heading", "line"] [] sp_mirrored) (m_line : Mts P w K mg base 2 "line" ["self"] (One (IsW c) (sp_line c))) :
    FnOk P w K mg base CX0 3 f fd ["self", "heading", "count"] (sp_behind c 0) := by
  refine F.ok sc_Wall_behind (mk_len fun _ => rfl) (fun cdv A outer s H vs Q E hr h => ?_)
  obtain ⟨⟨⟨v, u⟩, ⟨z, h⟩, n⟩, rfl, ⟨h1, h2, o, hk⟩, k⟩ := h
  dsimp only at h1 h2 o hk k
  have ml := h1.isw o.kind (no_line u)
  refine ⟨_, (pss_one (ps_ret (pe_cl c_mirrored (hr.mono (by decide)) rfl (pa_cons (pv 1) (pa_cons (pe_mx0 (pv 0) m_line (hr.mono (by decide))) pa_nil))))), ?_⟩
  walk_at "go"
  · refine k _ _ ⟨by assumption, ?_⟩
    unfold behindP
    rw [if_pos hk]
    assumption
  · exact o
abbrev N_Glass_behind : List Str := ["self", "heading", "count"]
theorem sc_Glass_behind : FnScope ["self", "heading", "count"] ["self", "heading", "count"] (defScope s_Glass_behind) := ⟨rfl, rfl, rfl, by decide +kernel, rfl, by decide +kernel, by decide +kernel⟩
theorem ok_behind1 (F : Fun K "behind" "Glass.behind" s_Glass_behind f fd) : FnOk P w K mg base CX0 3 f fd ["self", "heading", "count"] (sp_behind c 1) := by
  refine F.ok sc_Glass_behind (mk_len fun _ => rfl) (fun cdv A outer s H vs Q E hr h => ?_)
  obtain ⟨⟨⟨v, u⟩, ⟨z, h⟩, n⟩, rfl, ⟨h1, h2, o, hk⟩, k⟩ := h
  dsimp only at h1 h2 o hk k
  refine ⟨_, (pss_one (ps_ret (pv 1))), ?_⟩
  walk_at "go"
  refine k _ _ ⟨Same.refl _, ?_⟩
  unfold behindP
  rw [if_neg (by omega), if_pos hk]
  exact h2
abbrev N_Hole_behind : List Str := ["self", "heading", "count"]
theorem sc_Hole_behind : FnScope ["self", "heading", "count"] ["self", "heading", "count"] (defScope s_Hole_behind) := ⟨rfl, rfl, rfl, by decide +kernel, rfl, by decide +kernel, by decide +kernel⟩
theorem ok_behind2 (F : Fun K "behind" "Hole.behind" s_Hole_behind f fd) : FnOk P w K mg base CX0 3 f fd ["self", "heading", "count"] (sp_behind c 2) := by
  refine F.ok sc_Hole_behind (mk_len fun _ => rfl) (fun cdv A outer s H vs Q E hr h => ?_)
  obtain ⟨⟨⟨v, u⟩, ⟨z, h⟩, n⟩, rfl, ⟨h1, h2, o, hk⟩, k⟩ := h
  dsimp only at h1 h2 o hk k
  refine ⟨_, (pss_one (ps_ret pe_non)), ?_⟩
  walk_at "go"
  refine k _ _ ⟨Same.refl _, ?_⟩
  unfold behindP
  rw [if_neg (by omega), if_neg (by omega), if_pos hk]
  rfl
abbrev N_Door_behind : List Str := ["self", "heading", "count"]
theorem sc_Door_behind : FnScope ["self", "heading", "count"] ["self", "heading", "count"] (defScope s_Door_behind) := ⟨rfl, rfl, rfl, by decide +kernel, rfl, by decide +kernel, by decide +kernel⟩
theorem ok_behind3 (F : Fun K "behind" "Door.behind" s_Door_behind f fd) (T : Txt K mg c) (c_mirrored : Cal P w K mg base 1 "mirrored" ["heading", "line"] [] sp_mirrored) (m_line : Mts P w K mg base 2 "line" ["self"] (One (IsW c) (sp_line c))) :
    FnOk P w K mg base CX0 3 f fd ["self", "heading", "count"] (sp_behind c 3) := by
  refine F.ok sc_Door_behind (mk_len fun _ => rfl) (fun cdv A outer s H vs Q E hr h => ?_)
  obtain ⟨⟨⟨v, u⟩, ⟨z, h⟩, n⟩, rfl, ⟨h1, h2, o, hk⟩, k⟩ := h
  dsimp only at h1 h2 o hk k
  have ml := h1.isw o.kind (no_line u)
  have fc := h1.cyc T hk
  refine ⟨_, (pss_cons (ps_if (pt_cmpR op_eq (pe_op op_modN (pv 2) (pe_fld (pv 0) rfl)) pe_int (nomark _)) (pss_one (ps_ret (pv 1))) pss_nil)
      (pss_one (ps_ret (pe_cl c_mirrored (hr.mono (by decide)) rfl (pa_cons (pv 1) (pa_cons (pe_mx0 (pv 0) m_line (hr.mono (by decide))) pa_nil)))))), ?_⟩
  have k' : ∀ z r H', Same H H' → behindP u h n = some r → T2 H' z r → Q z H' := fun z r H' e q t => k z H' ⟨e, by rw [q]; exact t⟩
  walk_at "go"
  · refine rd_ite (fun e0 => ?_) (fun e0 => ?_)
    · walk_at "go"
      refine k' _ h _ (Same.refl _) ?_ h2
      unfold behindP
      rw [if_neg (by omega), if_neg (by omega), if_neg (by omega), if_pos e0]
    · walk_at "go"
      · refine k' _ _ _ (by assumption) ?_ (by assumption)
        unfold behindP
        rw [if_neg (by omega), if_neg (by omega), if_neg (by omega), if_neg e0]
      · exact o
  · have := o.ev
    omega
def everyP (u : WD) : Int := if u.kind = 3 then u.every else 1
def sp_every (c : Cs) (d : Bool) : Sp := mkSp (fun a : V × WD => [a.1]) (fun a H => WAt c H a.1 a.2 ∧ decide (a.2.kind = 3) = d) fun a H v H' => v = .int (everyP a.2) ∧ H' = H
theorem us_every {v : V} {u : WD} {H : Hp} {Q : VK} {E : XK} (h1 : WAt c H v u) (k : Q (.int (everyP u)) H) : sp_every c (decide (u.kind = 3)) [v] H Q E :=
  ⟨(v, u), rfl, ⟨h1, rfl⟩, fun v H' e => by
    obtain ⟨rfl, rfl⟩ := e
    exact k⟩
abbrev N_Wall_every : List Str := ["self"]
theorem sc_Wall_every : FnScope ["self"] ["self"] (defScope s_Wall_every) := ⟨rfl, rfl, rfl, by decide +kernel, rfl, by decide +kernel, by decide +kernel⟩
theorem ok_every0 (F : Fun K "every" "Wall.every" s_Wall_every f fd) : FnOk P w K mg base CX0 1 f fd ["self"] (sp_every c false) := by
  refine F.ok sc_Wall_every (mk_len fun _ => rfl) (fun cdv A outer s H vs Q E hr h => ?_)
  obtain ⟨⟨v, u⟩, rfl, ⟨h1, hk⟩, k⟩ := h
  dsimp only at h1 hk k
  refine ⟨_, (pss_one (ps_ret pe_int)), ?_⟩
  walk_at "go"
  refine k _ _ ⟨?_, rfl⟩
  unfold everyP
  rw [if_neg (of_decide_eq_false hk)]
abbrev N_Door_every : List Str := ["self"]
theorem sc_Door_every : FnScope ["self"] ["self"] (defScope s_Door_every) := ⟨rfl, rfl, rfl, by decide +kernel, rfl, by decide +kernel, by decide +kernel⟩
theorem ok_every3 (F : Fun K "every" "Door.every" s_Door_every f fd) (T : Txt K mg c) : FnOk P w K mg base CX0 1 f fd ["self"] (sp_every c true) := by
  refine F.ok sc_Door_every (mk_len fun _ => rfl) (fun cdv A outer s H vs Q E hr h => ?_)
  obtain ⟨⟨v, u⟩, rfl, ⟨h1, hk⟩, k⟩ := h
  dsimp only at h1 hk k
  have fc := h1.cyc T (of_decide_eq_true hk)
  refine ⟨_, (pss_one (ps_ret (pe_fld (pv 0) rfl))), ?_⟩
  walk_at "go"
  refine k _ _ ⟨?_, rfl⟩
  unfold everyP
  rw [if_pos (of_decide_eq_true hk)]
def wordP (k : Nat) : Str := if k = 0 then "mirror" else if k = 1 then "glass" else if k = 2 then "hole" else "door"
def sp_word (c : Cs) (kd : Nat) : Sp := mkSp (fun a : V × WD => [a.1]) (fun a H => WAt c H a.1 a.2 ∧ a.2.kind = kd) fun a H v H' => v = .str (wordP kd) ∧ H' = H
theorem us_word {v : V} {u : WD} {H : Hp} {Q : VK} {E : XK} (h1 : WAt c H v u) (k : Q (.str (wordP u.kind)) H) : sp_word c u.kind [v] H Q E :=
  ⟨(v, u), rfl, ⟨h1, rfl⟩, fun v H' e => by
    obtain ⟨rfl, rfl⟩ := e
    exact k⟩
abbrev N_Mirror_word : List Str := ["self"]
theorem sc_Mirror_word : FnScope ["self"] ["self"] (defScope s_Mirror_word) := ⟨rfl, rfl, rfl, by decide +kernel, rfl, by decide +kernel, by decide +kernel⟩
theorem ok_word0 (F : Fun K "word" "Mirror.word" s_Mirror_word f fd) : FnOk P w K mg base CX0 1 f fd ["self"] (sp_word c 0) := by
  refine F.ok sc_Mirror_word (mk_len fun _ => rfl) (fun cdv A outer s H vs Q E hr h => ?_)
  obtain ⟨⟨v, u⟩, rfl, ⟨h1, hk⟩, k⟩ := h
  refine ⟨_, (pss_one (ps_ret pe_str)), ?_⟩
  exact k _ _ ⟨rfl, rfl⟩
abbrev N_Glass_word : List Str := ["self"]
theorem sc_Glass_word : FnScope ["self"] ["self"] (defScope s_Glass_word) := ⟨rfl, rfl, rfl, by decide +kernel, rfl, by decide +kernel, by decide +kernel⟩
theorem ok_word1 (F : Fun K "word" "Glass.word" s_Glass_word f fd) : FnOk P w K mg base CX0 1 f fd ["self"] (sp_word c 1) := by
  refine F.ok sc_Glass_word (mk_len fun _ => rfl) (fun cdv A outer s H vs Q E hr h => ?_)
  obtain ⟨⟨v, u⟩, rfl, ⟨h1, hk⟩, k⟩ := h
  refine ⟨_, (pss_one (ps_ret pe_str)), ?_⟩
  exact k _ _ ⟨rfl, rfl⟩
abbrev N_Hole_word : List Str := ["self"]
theorem sc_Hole_word : FnScope ["self"] ["self"] (defScope s_Hole_word) := ⟨rfl, rfl, rfl, by decide +kernel, rfl, by decide +kernel, by decide +kernel⟩
theorem ok_word2 (F : Fun K "word" "Hole.word" s_Hole_word f fd) : FnOk P w K mg base CX0 1 f fd ["self"] (sp_word c 2) := by
  refine F.ok sc_Hole_word (mk_len fun _ => rfl) (fun cdv A outer s H vs Q E hr h => ?_)
  obtain ⟨⟨v, u⟩, rfl, ⟨h1, hk⟩, k⟩ := h
  refine ⟨_, (pss_one (ps_ret pe_str)), ?_⟩
  exact k _ _ ⟨rfl, rfl⟩
abbrev N_Door_word : List Str := ["self"]
theorem sc_Door_word : FnScope ["self"] ["self"] (defScope s_Door_word) := ⟨rfl, rfl, rfl, by decide +kernel, rfl, by decide +kernel, by decide +kernel⟩
theorem ok_word3 (F : Fun K "word" "Door.word" s_Door_word f fd) : FnOk P w K mg base CX0 1 f fd ["self"] (sp_word c 3) := by
  refine F.ok sc_Door_word (mk_len fun _ => rfl) (fun cdv A outer s H vs Q E hr h => ?_)
  obtain ⟨⟨v, u⟩, rfl, ⟨h1, hk⟩, k⟩ := h
  refine ⟨_, (pss_one (ps_ret pe_str)), ?_⟩
  exact k _ _ ⟨rfl, rfl⟩
end
end Bw
end

section
set_option linter.all false
set_option maxRecDepth 100000
set_option maxHeartbeats 4100000
namespace Bw
/-! ### sizes of times and places -/
theorem abs_mul_le {a b : Int} {m n : Nat} (h : a.natAbs ≤ m) (g : b.natAbs ≤ n) : (a * b).natAbs ≤ m * n := by
  rw [Int.natAbs_mul]
  exact Nat.mul_le_mul h g
theorem abs_add_le {a b : Int} {m n : Nat} (h : a.natAbs ≤ m) (g : b.natAbs ≤ n) : (a + b).natAbs ≤ m + n := Nat.le_trans (Int.natAbs_add_le a b) (Nat.add_le_add h g)
theorem abs_sub_le {a b : Int} {m n : Nat} (h : a.natAbs ≤ m) (g : b.natAbs ≤ n) : (a - b).natAbs ≤ m + n := by
  rw [Int.sub_eq_add_neg]
  exact abs_add_le h (by rw [Int.natAbs_neg]; exact g)
/-- how a time to a wall is made -/
structure TimeIs (P : P3) (t : P2) : Prop where
  ex : ∃ off q : Int, q ≠ 0 ∧ q.natAbs ≤ 24 ∧ t = tmOf off (q * P.2.2) ∧ off.natAbs ≤ 32 * P.2.2.natAbs + 4 * P.1.natAbs + 4 * P.2.1.natAbs
  pos : 0 < t.1
theorem WOk.abs {u : WD} (h : WOk u) : u.one.1.natAbs ≤ 4 ∧ u.one.2.natAbs ≤ 4 ∧ u.two.1.natAbs ≤ 4 ∧ u.two.2.natAbs ≤ 4 ∧ (u.two.1 - u.one.1).natAbs ≤ 4 ∧ (u.two.2 - u.one.2).natAbs ≤ 4 := by
  have := h.a1
  have := h.a2
  have := h.b1
  have := h.b2
  omega
theorem HdOk.abs {h : P2} (d : HdOk h) : h.1.natAbs ≤ 3 ∧ h.2.natAbs ≤ 3 := by
  have := d.a
  have := d.b
  omega
theorem alongP_is {P : P3} {h : P2} {e : P2} (p : 0 < P.2.2) (d : HdOk h) (e1 : e.1.natAbs ≤ 4) (e2 : e.2.natAbs ≤ 4) : ∃ off q : Int, q ≠ 0 ∧ q.natAbs ≤ 24 ∧ alongP P h e = tmOf off (q * P.2.2) ∧ off.natAbs ≤ 32 * P.2.2.natAbs + 4 * P.1.natAbs + 4 * P.2.1.natAbs := by
  have da := d.abs
  unfold alongP
  by_cases h0 : h.1 ≠ 0
  · rw [if_pos h0]
    refine ⟨e.1 * P.2.2 - P.1, h.1, h0, by omega, rfl, ?_⟩
    have := abs_sub_le (abs_mul_le e1 (Nat.le_refl P.2.2.natAbs)) (Nat.le_refl P.1.natAbs)
    omega
  · rw [if_neg h0]
    refine ⟨e.2 * P.2.2 - P.2.1, h.2, fun z => d.n ⟨by omega, z⟩, by omega, rfl, ?_⟩
    have := abs_sub_le (abs_mul_le e2 (Nat.le_refl P.2.2.natAbs)) (Nat.le_refl P.2.1.natAbs)
    omega
theorem aheadStep_is {P : P3} {h : P2} {acc : Option P2} {e t : P2} (k : aheadStep P h acc e = some t) : acc = some t ∨ (t = alongP P h e ∧ 0 < t.1) := by
  unfold aheadStep at k
  split at k
  · rename_i c
    rw [Bool.and_eq_true] at c
    have z := of_decide_eq_true c.1
    cases k
    exact .inr ⟨rfl, z⟩
  · exact .inl k
theorem endAheadP_is {u : WD} {P : P3} {h : P2} {t : P2} (k : endAheadP u P h = some t) : (t = alongP P h u.one ∨ t = alongP P h u.two) ∧ 0 < t.1 := by
  have k' : aheadStep P h (aheadStep P h none u.one) u.two = some t := k
  rcases aheadStep_is k' with q | ⟨q, p⟩
  · rcases aheadStep_is q with r | ⟨r, p⟩
    · cases r
    · exact ⟨.inl r, p⟩
  · exact ⟨.inr q, p⟩
theorem acrossP_abs {u : WD} {h : P2} (o : WOk u) (d : HdOk h) : (acrossP u h).natAbs ≤ 24 := by
  have a := o.abs
  have b := d.abs
  have := abs_sub_le (abs_mul_le b.1 a.2.2.2.2.2) (abs_mul_le b.2 a.2.2.2.2.1)
  exact this
theorem offP_abs {u : WD} {P : P3} (o : WOk u) : (offP u P).natAbs ≤ 32 * P.2.2.natAbs + 4 * P.1.natAbs + 4 * P.2.1.natAbs := by
  have a := o.abs
  have := abs_sub_le (abs_mul_le (abs_sub_le (abs_mul_le a.1 (Nat.le_refl P.2.2.natAbs)) (Nat.le_refl P.1.natAbs)) a.2.2.2.2.2) (abs_mul_le (abs_sub_le (abs_mul_le a.2.1 (Nat.le_refl P.2.2.natAbs)) (Nat.le_refl P.2.1.natAbs)) a.2.2.2.2.1)
  unfold offP
  omega
theorem timeToP_is {u : WD} {P : P3} {h : P2} {t : P2} (o : WOk u) (p : 0 < P.2.2) (d : HdOk h) (k : timeToP u P h = some t) : TimeIs P t := by
  have a := o.abs
  unfold timeToP at k
  split at k
  · split at k
    · cases k
    · obtain ⟨z, q⟩ := endAheadP_is k
      rcases z with z | z
      · exact ⟨by rw [z]; exact alongP_is p d a.1 a.2.1, q⟩
      · exact ⟨by rw [z]; exact alongP_is p d a.2.2.1 a.2.2.2.1, q⟩
  · rename_i hq
    split at k
    · cases k
    · rename_i hp
      split at k
      · cases k
        exact ⟨⟨_, _, hq, acrossP_abs o d, rfl, offP_abs o⟩, by omega⟩
      · cases k
theorem leastStep_is {u : WD} {P : P3} {h : P2} {acc : Option P2} {t : P2} (k : leastStep P h acc u = some t) : acc = some t ∨ timeToP u P h = some t := by
  unfold leastStep at k
  cases e : timeToP u P h with
  | none =>
    rw [e] at k
    exact .inl k
  | some s =>
    rw [e] at k
    dsimp only at k
    split at k
    · exact .inr k
    · exact .inl k
theorem leastF_is {P : P3} {h : P2} {t : P2} : ∀ {us : List WD} {acc : Option P2}, us.foldl (leastStep P h) acc = some t → acc = some t ∨ ∃ u ∈ us, timeToP u P h = some t
  | [], acc, k => .inl k
  | u :: us, acc, k => by
    rcases leastF_is (us := us) (acc := leastStep P h acc u) k with q | ⟨v, hv, q⟩
    · rcases leastStep_is q with r | r
      · exact .inl r
      · exact .inr ⟨u, List.mem_cons_self, r⟩
    · exact .inr ⟨v, List.mem_cons_of_mem _ hv, q⟩
theorem leastP_is {us : List WD} {P : P3} {h : P2} {t : P2} (k : leastP us P h = some t) : ∃ u ∈ us, timeToP u P h = some t := by
  rcases leastF_is k with q | q
  · cases q
  · exact q
structure WsOk (us : List WD) : Prop where
  all : ∀ u ∈ us, WOk u
  len : us.length ≤ 40
/-- sizes of a time: by those of the point -/
structure TmB (P : P3) (t : P2) : Prop where
  p1 : 0 < t.1
  p2 : 0 < t.2
  b1 : t.1.natAbs ≤ 32 * P.2.2.natAbs + 4 * P.1.natAbs + 4 * P.2.1.natAbs
  b2 : t.2.natAbs ≤ 24 * P.2.2.natAbs
theorem TimeIs.B {P : P3} {t : P2} (p : 0 < P.2.2) (k : TimeIs P t) : TmB P t := by
  obtain ⟨⟨off, q, hq, lq, rfl, lo⟩, hp⟩ := k
  have n : q * P.2.2 ≠ 0 := Int.mul_ne_zero hq (by omega)
  have ok := tmOf_ok (t := off) n
  refine ⟨hp, ok.pos, Nat.le_trans ok.le1 lo, Nat.le_trans ok.le2 ?_⟩
  exact abs_mul_le lq (Nat.le_refl _)
/-- the place at such a time: its third number grows by 24 at most -/
theorem spot_w {P : P3} {h t : P2} (p : 0 < P.2.2) (k : TimeIs P t) : 0 < (spotP P h t).2.2 ∧ (spotP P h t).2.2.natAbs ≤ 24 * P.2.2.natAbs := by
  obtain ⟨⟨off, q, hq, lq, rfl, lo⟩, hp⟩ := k
  have n : q * P.2.2 ≠ 0 := Int.mul_ne_zero hq (by omega)
  have ok := tmOf_ok (t := off) n
  generalize tmOf off (q * P.2.2) = t at *
  obtain ⟨T, C⟩ := t
  obtain ⟨x, y, w⟩ := P
  obtain ⟨a, b⟩ := h
  have c0 : 0 < C := ok.pos
  have e : T * (q * w) = off * C := ok.eq
  dsimp only at *
  have nw : w * C ≠ 0 := Int.mul_ne_zero (by omega) (by omega)
  have pk := ptOf_ok (x := x * C + a * T * w) (y := y * C + b * T * w) nw
  have es : spotP (x, y, w) (a, b) (T, C) = ptOf (x * C + a * T * w) (y * C + b * T * w) (w * C) := rfl
  rw [es]
  refine ⟨pk.pos, ?_⟩
  -- g: the divisor of the three
  have g0 : 0 < gc (gc (x * C + a * T * w) (y * C + b * T * w)) (w * C) := gc_pos nw
  have ge : (sgn (gc (gc (x * C + a * T * w) (y * C + b * T * w)) (w * C)) (w * C)).natAbs = (gc (gc (x * C + a * T * w) (y * C + b * T * w)) (w * C)).natAbs := by
    unfold sgn
    split
    · exact Int.natAbs_neg _
    · rfl
  -- C divides each of them times q
  have d1 : C ∣ (x * C + a * T * w) * q := by
    refine ⟨x * q + a * off, ?_⟩
    grind
  have d2 : C ∣ (y * C + b * T * w) * q := by
    refine ⟨y * q + b * off, ?_⟩
    grind
  have d3 : C ∣ (w * C) * q := ⟨w * q, by rw [Int.mul_comm w C, Int.mul_assoc]⟩
  have dg : C ∣ gc (gc (x * C + a * T * w) (y * C + b * T * w)) (w * C) * q := by
    have z1 : C ∣ gc (x * C + a * T * w) (y * C + b * T * w) * q := by
      have := Int.dvd_coe_gcd d1 d2
      rw [Int.gcd_mul_right] at this
      unfold gc
      have z := Int.dvd_natAbs.mpr (Int.dvd_trans this (show ((_ : Nat) : Int) ∣ _ from Int.dvd_refl _))
      rw [Int.natCast_mul] at this
      exact Int.dvd_trans this (Int.mul_dvd_mul (Int.dvd_refl _) (Int.natAbs_dvd.mpr (Int.dvd_refl _)))
    have := Int.dvd_coe_gcd z1 d3
    rw [Int.gcd_mul_right, Int.natCast_mul] at this
    exact Int.dvd_trans this (Int.mul_dvd_mul (Int.dvd_refl _) (Int.natAbs_dvd.mpr (Int.dvd_refl _)))
  generalize gc (gc (x * C + a * T * w) (y * C + b * T * w)) (w * C) = g at *
  have ew := pk.ew
  generalize (ptOf (x * C + a * T * w) (y * C + b * T * w) (w * C)).2.2 = W at *
  -- |W| * g = w * C, C * m = g * |q|
  obtain ⟨m, hm⟩ := dg
  have m0 : m ≠ 0 := fun z => by
    rw [z, Int.mul_zero] at hm
    exact Int.mul_ne_zero (by omega) hq hm
  have h1 : g.natAbs * W.natAbs = w.natAbs * C.natAbs := by
    rw [← ge, ← Int.natAbs_mul, ew, Int.natAbs_mul]
  have h2 : g.natAbs * q.natAbs = C.natAbs * m.natAbs := by
    rw [← Int.natAbs_mul, hm, Int.natAbs_mul]
  have c1 : 0 < C.natAbs := by omega
  have m1 : 0 < m.natAbs := by omega
  -- W * m * C = w * |q| * C
  have h3 : (W.natAbs * m.natAbs) * C.natAbs = (w.natAbs * q.natAbs) * C.natAbs := by
    calc (W.natAbs * m.natAbs) * C.natAbs = W.natAbs * (C.natAbs * m.natAbs) := by rw [Nat.mul_assoc, Nat.mul_comm m.natAbs]
      _ = W.natAbs * (g.natAbs * q.natAbs) := by rw [h2]
      _ = (g.natAbs * W.natAbs) * q.natAbs := by rw [← Nat.mul_assoc, Nat.mul_comm W.natAbs]
      _ = (w.natAbs * C.natAbs) * q.natAbs := by rw [h1]
      _ = (w.natAbs * q.natAbs) * C.natAbs := by rw [Nat.mul_assoc, Nat.mul_comm C.natAbs, ← Nat.mul_assoc]
  have h4 : W.natAbs * m.natAbs = w.natAbs * q.natAbs := Nat.eq_of_mul_eq_mul_right c1 h3
  have h5 : W.natAbs ≤ W.natAbs * m.natAbs := Nat.le_mul_of_pos_right _ m1
  have h6 : w.natAbs * q.natAbs ≤ w.natAbs * 24 := Nat.mul_le_mul_left _ lq
  omega
theorem spot_xy {P : P3} {h t : P2} (p : 0 < P.2.2) (d : HdOk h) (k : TmB P t) :
    (spotP P h t).1.natAbs ≤ P.1.natAbs * t.2.natAbs + 3 * t.1.natAbs * P.2.2.natAbs ∧ (spotP P h t).2.1.natAbs ≤ P.2.1.natAbs * t.2.natAbs + 3 * t.1.natAbs * P.2.2.natAbs := by
  have nw : P.2.2 * t.2 ≠ 0 := Int.mul_ne_zero (by omega) (by have := k.p2; omega)
  have pk := ptOf_ok (x := P.1 * t.2 + h.1 * t.1 * P.2.2) (y := P.2.1 * t.2 + h.2 * t.1 * P.2.2) nw
  have da := d.abs
  refine ⟨Nat.le_trans (le_of_mul pk.sn pk.ex) ?_, Nat.le_trans (le_of_mul pk.sn pk.ey) ?_⟩
  · exact abs_add_le (abs_mul_le (Nat.le_refl _) (Nat.le_refl _)) (abs_mul_le (abs_mul_le da.1 (Nat.le_refl _)) (Nat.le_refl _))
  · exact abs_add_le (abs_mul_le (Nat.le_refl _) (Nat.le_refl _)) (abs_mul_le (abs_mul_le da.2 (Nat.le_refl _)) (Nat.le_refl _))
end Bw
end

section
set_option linter.all false
set_option maxRecDepth 100000
set_option maxHeartbeats 4100000
namespace Bw
/-! ### the place of a meeting lies on the wall met -/
theorem holds_at {u : WD} {e : P2} (he : e = u.one ∨ e = u.two) {P : P3} (hx : P.1 = e.1 * P.2.2) (hy : P.2.1 = e.2 * P.2.2) (hw : 0 < P.2.2) : holdsP u P = true := by
  obtain ⟨x, y, w⟩ := P
  dsimp only at hx hy hw
  subst hx hy
  unfold holdsP
  dsimp only
  generalize u.one = o at *
  generalize u.two = t at *
  obtain ⟨o1, o2⟩ := o
  obtain ⟨t1, t2⟩ := t
  dsimp only
  have sq : 0 ≤ (t1 - o1) * (t1 - o1) + (t2 - o2) * (t2 - o2) := by
    have h1 : 0 ≤ (t1 - o1) * (t1 - o1) := by
      rcases Int.le_total 0 (t1 - o1) with h | h
      · exact Int.mul_nonneg h h
      · exact Int.mul_nonneg_of_nonpos_of_nonpos h h
    have h2 : 0 ≤ (t2 - o2) * (t2 - o2) := by
      rcases Int.le_total 0 (t2 - o2) with h | h
      · exact Int.mul_nonneg h h
      · exact Int.mul_nonneg_of_nonpos_of_nonpos h h
    omega
  have sw := Int.mul_nonneg (Int.le_of_lt hw) sq
  rcases he with rfl | rfl
  · have e1 : o1 * w - w * o1 = 0 := by grind
    have e2 : o2 * w - w * o2 = 0 := by grind
    dsimp only
    rw [e1, e2, Int.mul_zero, Int.mul_zero, if_pos rfl, Bool.and_eq_true]
    exact ⟨decide_eq_true (by decide), decide_eq_true (by simpa using sw)⟩
  · have e1 : t1 * w - w * o1 = w * (t1 - o1) := by grind
    have e2 : t2 * w - w * o2 = w * (t2 - o2) := by grind
    dsimp only
    rw [e1, e2, if_pos (by grind), Bool.and_eq_true]
    have e3 : (t1 - o1) * (w * (t1 - o1)) + (t2 - o2) * (w * (t2 - o2)) = w * ((t1 - o1) * (t1 - o1) + (t2 - o2) * (t2 - o2)) := by grind
    rw [e3]
    exact ⟨decide_eq_true sw, decide_eq_true (Int.le_refl _)⟩
theorem WOk.ne {u : WD} (o : WOk u) : ¬ (u.two.1 - u.one.1 = 0 ∧ u.two.2 - u.one.2 = 0) := by
  obtain ⟨l, h1, h2⟩ := o.dir
  omega
/-- flying along a wall's own line to an end -/
theorem along_at {u : WD} {P : P3} {h : P2} {e : P2} (o : WOk u) (p : 0 < P.2.2) (d : HdOk h) (ha : acrossP u h = 0) (hf : offP u P = 0) (he : e = u.one ∨ e = u.two) :
    (spotP P h (alongP P h e)).1 = e.1 * (spotP P h (alongP P h e)).2.2 ∧ (spotP P h (alongP P h e)).2.1 = e.2 * (spotP P h (alongP P h e)).2.2 := by
  have nz := o.ne
  have d0 := d.n
  unfold acrossP at ha
  unfold offP at hf
  obtain ⟨x, y, w⟩ := P
  obtain ⟨a, b⟩ := h
  obtain ⟨e1, e2⟩ := e
  dsimp only at *
  -- the end lies on the line of flight
  have col : (e1 * w - x) * (u.two.2 - u.one.2) = (e2 * w - y) * (u.two.1 - u.one.1) := by
    rcases he with z | z
    · rw [← z] at hf ⊢
      dsimp only at hf ⊢
      omega
    · have z1 : u.two.1 = e1 := by rw [← z]
      have z2 : u.two.2 = e2 := by rw [← z]
      rw [z1, z2] at hf ⊢
      grind
  have key : a * (e2 * w - y) = b * (e1 * w - x) := by
    generalize u.two.1 - u.one.1 = dx at *
    generalize u.two.2 - u.one.2 = dy at *
    by_cases h0 : dx = 0
    · have hy : dy ≠ 0 := fun z => nz ⟨h0, z⟩
      subst h0
      have ha0 : a = 0 := by
        have : a * dy = 0 := by omega
        exact (Int.mul_eq_zero.mp this).resolve_right hy
      have hx : e1 * w - x = 0 := by
        have : (e1 * w - x) * dy = 0 := by rw [col, Int.mul_zero]
        exact (Int.mul_eq_zero.mp this).resolve_right hy
      rw [ha0, hx, Int.zero_mul, Int.mul_zero]
    · have : dx * (a * (e2 * w - y)) = dx * (b * (e1 * w - x)) := by grind
      exact Int.eq_of_mul_eq_mul_left h0 this
  -- the time
  have fin : ∀ off q : Int, q ≠ 0 → (∀ T C : Int, T * (q * w) = off * C → x * C + a * T * w = e1 * (w * C) ∧ y * C + b * T * w = e2 * (w * C)) →
      (spotP (x, y, w) (a, b) (tmOf off (q * w))).1 = e1 * (spotP (x, y, w) (a, b) (tmOf off (q * w))).2.2 ∧ (spotP (x, y, w) (a, b) (tmOf off (q * w))).2.1 = e2 * (spotP (x, y, w) (a, b) (tmOf off (q * w))).2.2 := by
    intro off q hq hh
    have ok := tmOf_ok (t := off) (Int.mul_ne_zero hq (show w ≠ 0 by omega))
    obtain ⟨g1, g2⟩ := hh _ _ ok.eq
    have c0 := ok.pos
    generalize tmOf off (q * w) = t at *
    obtain ⟨T, C⟩ := t
    dsimp only at *
    have nw : w * C ≠ 0 := Int.mul_ne_zero (by omega) (by omega)
    have pk := ptOf_ok (x := x * C + a * T * w) (y := y * C + b * T * w) nw
    have es : spotP (x, y, w) (a, b) (T, C) = ptOf (x * C + a * T * w) (y * C + b * T * w) (w * C) := rfl
    rw [es]
    have ex := pk.ex
    have ey := pk.ey
    have ew := pk.ew
    have sn := pk.sn
    generalize ptOf (x * C + a * T * w) (y * C + b * T * w) (w * C) = R at *
    generalize sgn (gc (gc (x * C + a * T * w) (y * C + b * T * w)) (w * C)) (w * C) = s at *
    constructor
    · refine Int.eq_of_mul_eq_mul_left sn ?_
      rw [ex, g1, ← ew]
      grind
    · refine Int.eq_of_mul_eq_mul_left sn ?_
      rw [ey, g2, ← ew]
      grind
  unfold alongP
  dsimp only
  by_cases h0 : a ≠ 0
  · rw [if_pos h0]
    refine fin _ _ h0 fun T C e => ?_
    have c1 : x * C + a * T * w = e1 * (w * C) := by grind
    refine ⟨c1, ?_⟩
    have : a * (y * C + b * T * w) = a * (e2 * (w * C)) := by grind
    exact Int.eq_of_mul_eq_mul_left h0 this
  · rw [if_neg h0]
    have a0 : a = 0 := by omega
    have hb : b ≠ 0 := fun z => d0 ⟨a0, z⟩
    subst a0
    have hx : e1 * w - x = 0 := by
      have : b * (e1 * w - x) = 0 := by omega
      exact (Int.mul_eq_zero.mp this).resolve_left hb
    refine fin _ _ hb fun T C e => ⟨?_, ?_⟩
    · grind
    · grind
theorem meets_holds {u : WD} {P : P3} {h : P2} {t : P2} (o : WOk u) (p : 0 < P.2.2) (d : HdOk h) (k : timeToP u P h = some t) : holdsP u (spotP P h t) = true := by
  have sw := (spot_w (h := h) p (timeToP_is o p d k)).1
  unfold timeToP at k
  split at k
  · rename_i ha
    split at k
    · cases k
    · rename_i hf
      obtain ⟨z, q⟩ := endAheadP_is k
      have hf0 : offP u P = 0 := by omega
      rcases z with z | z
      · subst z
        obtain ⟨g1, g2⟩ := along_at o p d ha hf0 (.inl rfl)
        exact holds_at (.inl rfl) g1 g2 sw
      · subst z
        obtain ⟨g1, g2⟩ := along_at o p d ha hf0 (.inr rfl)
        exact holds_at (.inr rfl) g1 g2 sw
  · split at k
    · cases k
    · split at k
      · rename_i hh
        cases k
        exact hh
      · cases k
theorem onP_mem {us : List WD} {P : P3} {k : Nat} : k ∈ onP us P ↔ ∃ u, us[k]? = some u ∧ holdsP u P = true := by
  unfold onP onTo
  rw [List.mem_filter, List.mem_range]
  constructor
  · rintro ⟨h1, h2⟩
    obtain ⟨u, e⟩ : ∃ u, us[k]? = some u := ⟨us[k], by simp [h1]⟩
    rw [e] at h2
    exact ⟨u, e, h2⟩
  · rintro ⟨u, e, h⟩
    refine ⟨(List.getElem?_eq_some_iff.mp e).1, ?_⟩
    rw [e]
    exact h
theorem leastP_on {us : List WD} {P : P3} {h : P2} {t : P2} (o : WsOk us) (p : 0 < P.2.2) (d : HdOk h) (k : leastP us P h = some t) : onP us (spotP P h t) ≠ [] := by
  obtain ⟨u, hu, q⟩ := leastP_is k
  have hh := meets_holds (o.all u hu) p d q
  obtain ⟨i, hi⟩ := List.mem_iff_getElem?.mp hu
  intro z
  have : i ∈ onP us (spotP P h t) := onP_mem.mpr ⟨u, hi, hh⟩
  rw [z] at this
  cases this
end Bw
end

section
set_option Elab.async false
set_option linter.all false
set_option maxRecDepth 100000
set_option maxHeartbeats 4100000
set_option exponentiation.threshold 1000000
namespace Bw
open PySem L2
-- HDR
-- what the heap knows, carried over
local macro_rules | `(tactic| walk_at "hp") => `(tactic| first
  | assumption
  | (refine' TUP.up (tk_of ?e) ?h; (case e => assumption); (case h => walk_at "hp"))
  | (refine' Fld.up ?e ?h; (case e => assumption); (case h => walk_at "hp"))
  | (refine' LST.up ?e ?h; (case e => assumption); (case h => walk_at "hp"))
  | (refine' TUP.up ?e ?h; (case e => assumption); (case h => walk_at "hp"))
  | (refine' Mth.up ?e ?h; (case e => assumption); (case h => walk_at "hp")))
-- one step of a reading
local macro_rules | `(tactic| walk_at "rd") => `(tactic| first
  | (with_reducible refine rd_var rfl ?_)
  | (with_reducible refine rd_c ?_)
  | (with_reducible refine rd_op ?_)
  | (with_reducible refine rd_mulW ?_ ?_)
  | (with_reducible refine rd_add ?_)
  | (with_reducible refine rd_sub ?_)
  | (with_reducible refine rd_cons ?_)
  | (with_reducible refine rd_nil ?_)
  | (with_reducible refine rd_seq ?_)
  | (with_reducible refine rd_asg ?_)
  | (with_reducible refine rd_name ?_)
  | (with_reducible refine rd_call ?_)
  | (with_reducible refine rd_fld ?_)
  | ((with_reducible refine' rd_fldv ?h ?_); (case h => walk_at "hp"))
  | ((with_reducible refine' rd_ixT0 ?h ?e ?_); (case h => walk_at "hp"); (case e => rfl))
  | ((with_reducible refine' rd_ixT1 ?h ?e ?_); (case h => walk_at "hp"); (case e => rfl))
  | ((with_reducible refine' rd_ixT2 ?h ?e ?_); (case h => walk_at "hp"); (case e => rfl))
  | ((with_reducible refine' rd_gtup ?h ?e ?_); (case h => walk_at "hp"); (case e => rfl))
  | (with_reducible refine rd_gcons ?_)
  | (with_reducible refine rd_gnil ?_)
  | (with_reducible refine rd_if ?_)
  | (with_reducible refine rd_test ?_)
  | (with_reducible refine rd_isbl ?_)
  | (with_reducible refine rd_iteT ?_)
  | (with_reducible refine rd_iteF ?_)
  | (with_reducible refine rd_ret ?_)
  | (with_reducible refine rd_next ?_)
  | (with_reducible refine rd_lt ?_)
  | (with_reducible refine rd_gt ?_)
  | (with_reducible refine rd_eqI ?_)
  | (with_reducible refine rd_neI ?_)
  | (with_reducible refine rd_un ?_)
  | (with_reducible refine rd_neg ?_)
  | (with_reducible refine rd_tup ?_)
  | (with_reducible refine rd_lst ?_)
  | (with_reducible refine rd_lstN (Nat.le_of_ble_eq_true rfl) ?_; intro _ _ _ _ _)
  | (with_reducible refine rd_tupN (Nat.le_of_ble_eq_true rfl) ?_; intro _ _ _ _)
  | (with_reducible refine rd_mod ?_ ?_)
  | (with_reducible refine rd_modN ?_ ?_)
  | (with_reducible refine rd_mul ?_ ?_)
  | (with_reducible refine rd_fdiv ?_ ?_)
  | (with_reducible refine rd_fdivZ ?_ ?_ ?_)
  | (with_reducible refine rd_tB ?_)
  | (with_reducible refine rd_CB ?_)
  | (with_reducible refine rd_le ?_)
  | (with_reducible refine rd_ge ?_)
  | (with_reducible refine rd_eqS ?_)
  | (with_reducible refine rd_neS ?_)
  | (with_reducible refine rd_isN0 ?_)
  | (with_reducible refine rd_isN1 ?_)
  | (with_reducible refine rd_notN0 ?_)
  | (with_reducible refine rd_notN1 ?_)
  | (with_reducible refine rd_abs ?_)
  | (with_reducible refine rd_max2 ?_)
  | (with_reducible refine rd_min2 ?_)
  | (with_reducible refine rd_mx ?_)
  | ((with_reducible refine' rd_mx1 ?h ?_); (case h => walk_at "hp"))
  | (with_reducible refine rd_and ?_)
  | (with_reducible refine rd_or ?_)
  | (with_reducible refine rd_not ?_)
  | (with_reducible refine rd_drop ?_)
  | (with_reducible refine rd_chain ?_)
  | (with_reducible refine rd_orV ?_)
  | (with_reducible refine rd_andV ?_)
  | (with_reducible refine rd_notV ?_)
  | (with_reducible refine rd_sfld ?_)
  | (with_reducible refine rd_for ?_)
  | (with_reducible refine rd_iL ?_)
  | (with_reducible refine rd_lc ?_)
  | (with_reducible refine rd_iE ?_)
  | ((with_reducible refine' rd_lenL ?h ?_); (case h => walk_at "hp"))
  | ((with_reducible refine' rd_lenT ?h ?_); (case h => walk_at "hp"))
  | (with_reducible refine rd_yes ?_)
  | (with_reducible refine rd_iZ ?_)
  | (with_reducible refine rd_iT ?_)
  | (with_reducible refine rd_break ?_)
  | ((with_reducible refine' rd_ixT3 ?h ?e ?_); (case h => walk_at "hp"); (case e => rfl))
  | ((with_reducible refine' rd_ixT4 ?h ?e ?_); (case h => walk_at "hp"); (case e => rfl))
  | ((with_reducible refine' rd_ixT5 ?h ?e ?_); (case h => walk_at "hp"); (case e => rfl))
  | ((with_reducible refine' rd_ixL0 ?h ?e ?_); (case h => walk_at "hp"); (case e => rfl))
  | ((with_reducible refine' rd_ixL1 ?h ?e ?_); (case h => walk_at "hp"); (case e => rfl))
  | ((with_reducible refine' rd_ixL2 ?h ?e ?_); (case h => walk_at "hp"); (case e => rfl))
  | ((with_reducible refine' rd_ixL3 ?h ?e ?_); (case h => walk_at "hp"); (case e => rfl))
  | ((with_reducible refine' rd_ixL4 ?h ?e ?_); (case h => walk_at "hp"); (case e => rfl))
  | ((with_reducible refine' rd_ixL5 ?h ?e ?_); (case h => walk_at "hp"); (case e => rfl)))
-- steps, with the callees' promises
local macro_rules | `(tactic| walk_at "go") => `(tactic| repeat first | walk_at "rd" | walk_at "us")
-- every way
local macro_rules | `(tactic| walk_at "all") => `(tactic| repeat' first
  | walk_at "rd"
  | walk_at "us"
  | (with_reducible refine rd_ite (fun _ => ?_) (fun _ => ?_))
  | (with_reducible refine rd_iten (fun _ => ?_) (fun _ => ?_)))
-- END
-- HDR1
local macro_rules | `(tactic| walk_at "us") => `(tactic| first
  | (with_reducible refine us_divisor ?_)
  | (with_reducible refine us_point_of ?_ ?_ ?_; intro _ _ _ _)
  | (with_reducible refine us_time_of ?_ ?_ ?_; intro _ _ _ _))
-- END
-- HDR2
local macro_rules | `(tactic| walk_at "us") => `(tactic| first
  | ((with_reducible refine' us_sooner ?h ?g ?_ ?_ ?_); (case h => walk_at "hp"); (case g => walk_at "hp"))
  | ((with_reducible refine' us_added ?h ?g ?_ ?_ ?_ ?_ ?_); (case h => walk_at "hp"); (case g => walk_at "hp"); intro _ _ _ _)
  | ((with_reducible refine' us_spot_at ?h ?g ?i ?_ ?_ ?_ ?_ ?_); (case h => walk_at "hp"); (case g => walk_at "hp"); (case i => walk_at "hp"); intro _ _ _ _)
  | ((with_reducible refine' us_time_along ?h ?g ?i ?_ ?_ ?_ ?_); (case h => walk_at "hp"); (case g => walk_at "hp"); (case i => walk_at "hp"); intro _ _ _ _))
-- END
-- HDR3
local macro_rules | `(tactic| walk_at "us") => `(tactic| first
  | ((with_reducible refine' us_line_between ?h ?g ?_); (case h => walk_at "hp"); (case g => walk_at "hp"))
  | ((with_reducible refine' us_is_far ?h ?_); (case h => walk_at "hp"))
  | ((with_reducible refine' us_mirrored ?h ?_); (case h => walk_at "hp"); intro _ _ _ _))
local macro_rules | `(tactic| walk_at "hp") => `(tactic| (refine' WAt.up (nl_of ?e) ?h; (case e => assumption); (case h => walk_at "hp")))
local macro_rules | `(tactic| walk_at "hp") => `(tactic| (refine' WAt.up ?e ?h; (case e => assumption); (case h => walk_at "hp")))
-- END
-- HDR4
local macro_rules | `(tactic| walk_at "us") => `(tactic| first
  | ((with_reducible refine' us_line ?h ?_ ?_); (case h => walk_at "hp"))
  | ((with_reducible refine' us_holds ?h ?g ?_ ?_ ?_); (case h => walk_at "hp"); (case g => walk_at "hp"))
  | ((with_reducible refine' us_ends_at ?h ?g ?_); (case h => walk_at "hp"); (case g => walk_at "hp"); intro _ _))
-- END
/-! ### sizes, in twos -/
theorem t_mul {a b m n : Nat} (h : a < 2 ^ m) (g : b < 2 ^ n) : a * b < 2 ^ (m + n) := by
  rw [Nat.pow_add]
  exact Nat.mul_lt_mul'' h g
theorem t_add {a b n : Nat} (h : a < 2 ^ n) (g : b < 2 ^ n) : a + b < 2 ^ (n + 1) := by
  rw [Nat.pow_succ]
  omega
theorem t_mono {a m n : Nat} (h : a < 2 ^ m) (l : m ≤ n) : a < 2 ^ n := Nat.lt_of_lt_of_le h (Nat.pow_le_pow_right (by decide) l)
theorem TmB.Bs {P : P3} {t : P2} (p : PtOk P) (k : TmB P t) : B 20010 t.1 ∧ B 305 t.2 ∧ t.2 ≠ 0 := by
  have hw : P.2.2.natAbs < 2 ^ 300 := p.w
  have hx : P.1.natAbs < 2 ^ 20000 := p.x
  have hy : P.2.1.natAbs < 2 ^ 20000 := p.y
  refine ⟨?_, ?_, by have := k.p2; omega⟩
  · have h1 : 32 * P.2.2.natAbs < 2 ^ 20002 := t_mono (t_mul (show 32 < 2 ^ 6 by decide) hw) (by decide)
    have h2 : 4 * P.1.natAbs < 2 ^ 20003 := t_mono (t_mul (show 4 < 2 ^ 3 by decide) hx) (by decide)
    have h3 : 4 * P.2.1.natAbs < 2 ^ 20004 := t_mono (t_mul (show 4 < 2 ^ 3 by decide) hy) (by decide)
    exact Nat.lt_of_le_of_lt k.b1 (t_mono (t_add (t_add (t_mono h1 (by decide : 20002 ≤ 20003)) h2) (t_mono h3 (by decide : 20004 ≤ 20004))) (by decide))
  · exact Nat.lt_of_le_of_lt k.b2 (t_mul (show 24 < 2 ^ 5 by decide) hw)
theorem spot_PB {P : P3} {h t : P2} (p : PtOk P) (d : HdOk h) (k : TimeIs P t) : PB (spotP P h t) := by
  have tb := k.B p.pos
  obtain ⟨b1, b2, _⟩ := tb.Bs p
  have hw : P.2.2.natAbs < 2 ^ 300 := p.w
  have hx : P.1.natAbs < 2 ^ 20000 := p.x
  have hy : P.2.1.natAbs < 2 ^ 20000 := p.y
  obtain ⟨s1, s2⟩ := spot_xy p.pos d tb
  have m : 3 * t.1.natAbs * P.2.2.natAbs < 2 ^ 20312 := t_mul (t_mul (show 3 < 2 ^ 2 by decide) b1) hw
  refine ⟨Nat.lt_of_le_of_lt s1 ?_, Nat.lt_of_le_of_lt s2 ?_, Nat.lt_of_le_of_lt (spot_w p.pos k).2 ?_⟩
  · exact t_mono (t_add (t_mono (t_mul hx b2) (by decide : 20000 + 305 ≤ 20312)) m) (by decide)
  · exact t_mono (t_add (t_mono (t_mul hy b2) (by decide : 20000 + 305 ≤ 20312)) m) (by decide)
  · exact t_mono (t_mul (show 24 < 2 ^ 5 by decide) hw) (by decide)
theorem WOk.co {u : WD} (o : WOk u) : CoOk u.one ∧ CoOk u.two := by
  have := o.a1
  have := o.a2
  have := o.b1
  have := o.b2
  unfold CoOk
  omega
section
variable {P : Program} {w : World} {K : PySem.W.Frag} {mg : Str → Option Value} {base : Heap} {c : Cs} {f : Addr} {fd : FuncData}
/-! ### the first wall met -/
def sp_end_ahead (c : Cs) : Sp := mkSp (fun a : (V × WD) × (V × P3) × V × P2 => [a.1.1, a.2.1.1, a.2.2.1]) (fun a H => WAt c H a.1.1 a.1.2 ∧ T3 H a.2.1.1 a.2.1.2 ∧ T2 H a.2.2.1 a.2.2.2 ∧ WOk a.1.2 ∧ PtOk a.2.1.2 ∧ HdOk a.2.2.2)
  fun a H v H' => Same H H' ∧ O2 H' v (endAheadP a.1.2 a.2.1.2 a.2.2.2)
theorem us_end_ahead {v y z : V} {u : WD} {P : P3} {h : P2} {H : Hp} {Q : VK} {E : XK} (h1 : WAt c H v u) (h2 : T3 H y P) (h3 : T2 H z h) (k : ∀ v H', Same H H' → O2 H' v (endAheadP u P h) → Q v H') (o : WOk u) (p : PtOk P) (d : HdOk h) :
    sp_end_ahead c ([v, y, z] ++ []) H Q E := ⟨((v, u), (y, P), z, h), rfl, ⟨h1, h2, h3, o, p, d⟩, fun v H' e => k v H' e.1 e.2⟩
theorem accB {P : P3} {h : P2} {u : WD} (o : WOk u) (p : PtOk P) (d : HdOk h) {e t : P2} (he : e = u.one ∨ e = u.two) (k : t = alongP P h e) (hp : 0 < t.1) : B 300000 t.1 ∧ B 300000 t.2 := by
  have a := o.abs
  have ti : TimeIs P t := by
    subst k
    rcases he with rfl | rfl
    · exact ⟨alongP_is p.pos d a.1 a.2.1, hp⟩
    · exact ⟨alongP_is p.pos d a.2.2.1 a.2.2.2.1, hp⟩
  obtain ⟨b1, b2, _⟩ := (ti.B p.pos).Bs p
  exact ⟨b1.mono (by decide), b2.mono (by decide)⟩
abbrev N_end_ahead : List Str := ["wall", "P", "heading", "ahead", "end", "t"]
theorem sc_end_ahead : FnScope ["wall", "P", "heading", "ahead", "end", "t"] ["wall", "P", "heading"] (defScope s_end_ahead) := ⟨rfl, rfl, rfl, by decide +kernel, rfl, by decide +kernel, by decide +kernel⟩
theorem ok_end_ahead (F : Fun K "end_ahead" "end_ahead" s_end_ahead f fd) (T : Txt K mg c) (c_time_along : Cal P w K mg base 3 "time_along" ["P", "heading", "end"] [] sp_time_along) (c_sooner : Cal P w K mg base 1 "sooner" ["one", "other"] [] sp_sooner) :
    FnOk P w K mg base CX0 4 f fd ["wall", "P", "heading"] (sp_end_ahead c) := by
  refine F.ok sc_end_ahead (mk_len fun _ => rfl) (fun cdv A outer s H vs Q E hr h => ?_)
  obtain ⟨⟨⟨v, u⟩, ⟨y, P⟩, ⟨z, h⟩⟩, rfl, ⟨h1, h2, h3, o, p, d⟩, k⟩ := h
  dsimp only at h1 h2 h3 o p d k
  obtain ⟨o1, o2, f1, t1, f2, t2⟩ := h1.flds T
  refine ⟨_, (pss_cons (ps_set (i := 3) sc_end_ahead.nd rfl (by first | exact Or.inl rfl | exact Or.inr rfl) pe_non)
      (pss_cons (ps_for PassesOwn.never rfl (pi_list (pe_lst (pa_cons (pe_fld (pv 0) rfl) (pa_cons (pe_fld (pv 0) rfl) pa_nil)))) (pg_name (i := 4) sc_end_ahead.nd rfl (by first | exact Or.inl rfl | exact Or.inr rfl)) (pss_cons (ps_set (i := 5) sc_end_ahead.nd rfl (by first | exact Or.inl rfl | exact Or.inr rfl) (pe_cl c_time_along (hr.mono (by decide)) rfl (pa_cons (pv 1) (pa_cons (pv 2) (pa_cons (pv 4) pa_nil)))))
      (pss_one (ps_if (PW.pt (pw_and (pt_cmpR op_gt (pe_ix ix_tup (pv 5) pe_int (fun _ _ => rfl)) pe_int (nomark _)) (pw_and1 (PW.pt (pw_or (pt_cmpR op_isNb (pv 3) pe_non (nomark _)) (pw_or1 (pt_val (pe_cl c_sooner (hr.mono (by decide)) rfl (pa_cons (pv 5) (pa_cons (pv 3) pa_nil)))))))))) (pss_one (ps_set (i := 3) sc_end_ahead.nd rfl (by first | exact Or.inl rfl | exact Or.inr rfl) (pv 5))) pss_nil))))
      (pss_one (ps_ret (pv 3))))), ?_⟩
  walk_at "go"
  rename_i l H1 e1 nl hl
  refine for_L ⟨l, rfl, hl⟩ (fun i σ H' => ∃ av ev tv, σ = [some v, some y, some z, some av, ev, tv] ∧ Same H1 H' ∧ O2 H' av (([u.one, u.two].take i).foldl (aheadStep P h) none)) ⟨.non, none, none, rfl, Same.refl _, rfl⟩
    (fun i σ H' q => by obtain ⟨_, _, _, _, e, _⟩ := q; exact ⟨l, rfl, e _ _ hl⟩) ?_ ?_
  · rintro i x σ H2 hx ⟨av, ev, tv, rfl, e2, ha⟩
    -- the end that is looked at
    obtain ⟨e, he, ht, hi⟩ : ∃ e, (e = u.one ∨ e = u.two) ∧ T2 H x e ∧ [u.one, u.two][i]? = some e := by
      match i, hx with
      | 0, hx => cases hx; exact ⟨u.one, .inl rfl, t1, rfl⟩
      | 1, hx => cases hx; exact ⟨u.two, .inr rfl, t2, rfl⟩
    have co : CoOk e := by
      rcases he with rfl | rfl
      · exact o.co.1
      · exact o.co.2
    have fs : ([u.one, u.two].take (i + 1)).foldl (aheadStep P h) none = aheadStep P h (([u.one, u.two].take i).foldl (aheadStep P h) none) e := by
      rw [List.take_succ, hi, List.foldl_append]
      rfl
    rw [fs]
    generalize hac : ([u.one, u.two].take i).foldl (aheadStep P h) none = acc at ha
    -- what acc is
    have hacB : ∀ s, acc = some s → B 300000 s.1 ∧ B 300000 s.2 := fun s es => by
      match i, hac with
      | 0, hac => rw [es] at hac; cases hac
      | 1, hac =>
        rw [es] at hac
        rcases aheadStep_is (show aheadStep P h none u.one = some s from hac) with q | ⟨q, r⟩
        · cases q
        · exact accB o p d (.inl rfl) q r
      | i + 2, _ => simp at hi
    refine rd_name ?_
    have so : ∀ sa, acc = some sa → 0 < (alongP P h e).1 → (B 300000 (alongP P h e).1 ∧ B 300000 (alongP P h e).2) ∧ B 300000 sa.1 ∧ B 300000 sa.2 := fun sa es hp => ⟨accB o p d he rfl hp, hacB sa es⟩
    cases acc with
    | none =>
      have ea : av = .non := ha
      subst ea
      walk_at "go"
      any_goals first | exact p | exact d | exact co
      rename_i tv' H3 e3 tt
      refine rd_ite (fun hp => ?_) (fun hp => ?_)
      · walk_at "go"
        refine ⟨_, _, _, rfl, e2.trans e3, ?_⟩
        unfold aheadStep
        rw [decide_eq_true hp]
        exact tt
      · walk_at "go"
        refine ⟨_, _, _, rfl, e2.trans e3, ?_⟩
        unfold aheadStep
        rw [decide_eq_false hp]
        rfl
    | some sa =>
      obtain ⟨pa, rfl, ea⟩ := ha
      have ta : T2 H2 (.ref pa) sa := ⟨pa, rfl, ea⟩
      walk_at "go"
      any_goals first | exact p | exact d | exact co
      rename_i tv' H3 e3 tt
      refine rd_ite (fun hp => ?_) (fun hp => ?_)
      · obtain ⟨b1, b2⟩ := so sa rfl hp
        walk_at "go"
        any_goals first | exact b1 | exact b2
        refine rd_iteb (fun hb => ?_) (fun hb => ?_)
        · walk_at "go"
          refine ⟨_, _, _, rfl, e2.trans e3, ?_⟩
          unfold aheadStep
          rw [decide_eq_true hp, show better (alongP P h e) (some sa) = true from hb]
          exact tt
        · walk_at "go"
          refine ⟨_, _, _, rfl, e2.trans e3, ?_⟩
          unfold aheadStep
          rw [decide_eq_true hp, show better (alongP P h e) (some sa) = false from hb]
          exact ta.up (tk_of e3)
      · walk_at "go"
        refine ⟨_, _, _, rfl, e2.trans e3, ?_⟩
        unfold aheadStep
        rw [decide_eq_false hp]
        exact ta.up (tk_of e3)
  · rintro σ H2 ⟨av, ev, tv, rfl, e2, ha⟩
    walk_at "go"
    exact k _ _ ⟨e1.trans e2, ha⟩
theorem spotOk {P : P3} {h : P2} {off q : Int} (p : PtOk P) (d : HdOk h) (hq : q ≠ 0) (lq : q.natAbs ≤ 24) (lo : off.natAbs ≤ 32 * P.2.2.natAbs + 4 * P.1.natAbs + 4 * P.2.1.natAbs) (hp : 0 < (tmOf off (q * P.2.2)).1) : TimeIs P (tmOf off (q * P.2.2)) :=
  ⟨⟨off, q, hq, lq, rfl, lo⟩, hp⟩
def sp_time_to (c : Cs) : Sp := mkSp (fun a : (V × WD) × (V × P3) × V × P2 => [a.1.1, a.2.1.1, a.2.2.1]) (fun a H => WAt c H a.1.1 a.1.2 ∧ T3 H a.2.1.1 a.2.1.2 ∧ T2 H a.2.2.1 a.2.2.2 ∧ WOk a.1.2 ∧ PtOk a.2.1.2 ∧ HdOk a.2.2.2)
  fun a H v H' => Same H H' ∧ O2 H' v (timeToP a.1.2 a.2.1.2 a.2.2.2)
theorem us_time_to {v y z : V} {u : WD} {P : P3} {h : P2} {H : Hp} {Q : VK} {E : XK} (h1 : WAt c H v u) (h2 : T3 H y P) (h3 : T2 H z h) (k : ∀ v H', Same H H' → O2 H' v (timeToP u P h) → Q v H') (o : WOk u) (p : PtOk P) (d : HdOk h) :
    sp_time_to c ([v, y, z] ++ []) H Q E := ⟨((v, u), (y, P), z, h), rfl, ⟨h1, h2, h3, o, p, d⟩, fun v H' e => k v H' e.1 e.2⟩
abbrev N_time_to : List Str := ["wall", "P", "heading", "dx", "dy", "across", "off", "t", "x", "y", "w", "a", "b"]
theorem sc_time_to : FnScope ["wall", "P", "heading", "dx", "dy", "across", "off", "t", "x", "y", "w", "a", "b"] ["wall", "P", "heading"] (defScope s_time_to) := ⟨rfl, rfl, rfl, by decide +kernel, rfl, by decide +kernel, by decide +kernel⟩
theorem ok_time_to (F : Fun K "time_to" "time_to" s_time_to f fd) (T : Txt K mg c) (c_time_of : Cal P w K mg base 2 "time_of" ["top", "bottom"] [] sp_time_of) (c_spot_at : Cal P w K mg base 3 "spot_at" ["P", "heading", "t"] [] sp_spot_at)
    (c_end_ahead : Cal P w K mg base 4 "end_ahead" ["wall", "P", "heading"] [] (sp_end_ahead c)) (m_holds : Mts P w K mg base 1 "holds" ["self", "P"] (One (IsW c) (sp_holds c))) :
    FnOk P w K mg base CX0 5 f fd ["wall", "P", "heading"] (sp_time_to c) := by
  refine F.ok sc_time_to (mk_len fun _ => rfl) (fun cdv A outer s H vs Q E hr h => ?_)
  obtain ⟨⟨⟨v, u⟩, ⟨y, P⟩, ⟨z, h⟩⟩, rfl, ⟨h1, h2, h3, o, p, d⟩, k⟩ := h
  dsimp only at h1 h2 h3 o p d k
  obtain ⟨o1, o2, f1, t1, f2, t2⟩ := h1.flds T
  have mh := h1.isw o.kind (no_holds u)
  refine ⟨_, (pss_cons (ps_asg (pv 1) (pg_tup rfl (pgs_cons (pg_name (i := 8) sc_time_to.nd rfl (by first | exact Or.inl rfl | exact Or.inr rfl)) (pgs_cons (pg_name (i := 9) sc_time_to.nd rfl (by first | exact Or.inl rfl | exact Or.inr rfl)) (pgs_cons (pg_name (i := 10) sc_time_to.nd rfl (by first | exact Or.inl rfl | exact Or.inr rfl)) pgs_nil)))))
      (pss_cons (ps_asg (pv 2) (pg_tup rfl (pgs_cons (pg_name (i := 11) sc_time_to.nd rfl (by first | exact Or.inl rfl | exact Or.inr rfl)) (pgs_cons (pg_name (i := 12) sc_time_to.nd rfl (by first | exact Or.inl rfl | exact Or.inr rfl)) pgs_nil))))
      (pss_cons (ps_set (i := 3) sc_time_to.nd rfl (by first | exact Or.inl rfl | exact Or.inr rfl) (pe_op op_sub (pe_ix ix_tup (pe_fld (pv 0) rfl) pe_int (fun _ _ => rfl)) (pe_ix ix_tup (pe_fld (pv 0) rfl) pe_int (fun _ _ => rfl))))
      (pss_cons (ps_set (i := 4) sc_time_to.nd rfl (by first | exact Or.inl rfl | exact Or.inr rfl) (pe_op op_sub (pe_ix ix_tup (pe_fld (pv 0) rfl) pe_int (fun _ _ => rfl)) (pe_ix ix_tup (pe_fld (pv 0) rfl) pe_int (fun _ _ => rfl))))
      (pss_cons (ps_set (i := 5) sc_time_to.nd rfl (by first | exact Or.inl rfl | exact Or.inr rfl) (pe_op op_sub (pe_op op_mulW (pv 11) (pv 4)) (pe_op op_mulW (pv 12) (pv 3))))
      (pss_cons (ps_set (i := 6) sc_time_to.nd rfl (by first | exact Or.inl rfl | exact Or.inr rfl) (pe_op op_sub (pe_op op_mulW (pe_op op_sub (pe_op op_mulW (pe_ix ix_tup (pe_fld (pv 0) rfl) pe_int (fun _ _ => rfl)) (pv 10)) (pv 8)) (pv 4)) (pe_op op_mulW (pe_op op_sub (pe_op op_mulW (pe_ix ix_tup (pe_fld (pv 0) rfl) pe_int (fun _ _ => rfl)) (pv 10)) (pv 9)) (pv 3))))
      (pss_cons (ps_if (pt_cmpR op_eq (pv 5) pe_int (nomark _)) (pss_cons (ps_if (pt_cmpR op_ne (pv 6) pe_int (nomark _)) (pss_one (ps_ret pe_non)) pss_nil)
      (pss_one (ps_ret (pe_cl c_end_ahead (hr.mono (by decide)) rfl (pa_cons (pv 0) (pa_cons (pv 1) (pa_cons (pv 2) pa_nil))))))) pss_nil)
      (pss_cons (ps_set (i := 7) sc_time_to.nd rfl (by first | exact Or.inl rfl | exact Or.inr rfl) (pe_cl c_time_of (hr.mono (by decide)) rfl (pa_cons (pv 6) (pa_cons (pe_op op_mulW (pv 5) (pv 10)) pa_nil))))
      (pss_cons (ps_if (PW.pt (pw_or (pt_cmpR op_le (pe_ix ix_tup (pv 7) pe_int (fun _ _ => rfl)) pe_int (nomark _)) (pw_or1 (pt_not (pt_val (pe_mx (pv 0) m_holds (hr.mono (by decide)) (pa_cons (pe_cl c_spot_at (hr.mono (by decide)) rfl (pa_cons (pv 1) (pa_cons (pv 2) (pa_cons (pv 7) pa_nil)))) pa_nil))))))) (pss_one (ps_ret pe_non)) pss_nil)
      (pss_one (ps_ret (pv 7)))))))))))), ?_⟩
  have ⟨⟨b1, b2, b3, b4⟩, b5, b6⟩ := o.B
  have d1 := d.B1
  have d2 := d.B2
  have m1 : B 20010 (u.one.1 * P.2.2 - P.1) := (((b1.mul p.w).mono (by decide : 3 + 300 ≤ 20000)).sub p.x).mono (by decide)
  have m2 : B 20010 (u.one.2 * P.2.2 - P.2.1) := (((b2.mul p.w).mono (by decide : 3 + 300 ≤ 20000)).sub p.y).mono (by decide)
  have w1 := (d1.mono (by decide : 2 ≤ 300000)).W (b6.mono (by decide))
  have w2 := (d2.mono (by decide : 2 ≤ 300000)).W (b5.mono (by decide))
  have w3 := (b1.mono (by decide : 3 ≤ 300000)).W (p.w.mono (by decide))
  have w4 := (b2.mono (by decide : 3 ≤ 300000)).W (p.w.mono (by decide))
  have w5 := (m1.mono (by decide : 20010 ≤ 300000)).W (b6.mono (by decide))
  have w6 := (m2.mono (by decide : 20010 ≤ 300000)).W (b5.mono (by decide))
  have aa := acrossP_abs o d
  have ab : B 5 (acrossP u h) := Nat.lt_of_le_of_lt aa (by decide)
  have w7 : CMulW (acrossP u h) P.2.2 := (ab.mono (by decide : 5 ≤ 300000)).W (p.w.mono (by decide))
  have k' : ∀ v H' r, timeToP u P h = r → Same H H' → O2 H' v r → Q v H' := fun v H' r er e t => k v H' ⟨e, by rw [er]; exact t⟩
  walk_at "go"
  any_goals assumption
  refine rd_ite (fun ha => ?_) (fun ha => ?_)
  · walk_at "go"
    refine rd_iten (fun hf => ?_) (fun hf => ?_)
    · walk_at "go"
      refine k' _ _ none ?_ (Same.refl _) rfl
      unfold timeToP
      rw [if_pos (show acrossP u h = 0 from ha), if_pos (show offP u P ≠ 0 from hf)]
    · walk_at "go"
      refine us_end_ahead h1 h2 h3 (fun v' H' e t => ?_) o p d
      refine k' _ _ _ ?_ e t
      unfold timeToP
      rw [if_pos (show acrossP u h = 0 from ha), if_neg (show ¬ offP u P ≠ 0 from fun z => z hf)]
  · have hn : acrossP u h ≠ 0 := ha
    walk_at "go"
    rotate_left
    · exact Int.mul_ne_zero hn (Int.ne_of_gt p.pos)
    · exact (ab.mul p.w).mono (by decide)
    · exact w7
    rename_i tv H1 e1 tt
    refine rd_ite (fun hp => ?_) (fun hp => ?_)
    · walk_at "go"
      refine k' _ _ none ?_ e1 rfl
      unfold timeToP
      rw [if_neg hn]
      exact if_pos hp
    · have ti : TimeIs P (tmOf (offP u P) (acrossP u h * P.2.2)) := spotOk p d hn aa (offP_abs o) (by have : ¬ (tmOf (offP u P) (acrossP u h * P.2.2)).1 ≤ 0 := hp; omega)
      obtain ⟨c1, c2, c3⟩ := (ti.B p.pos).Bs p
      have pb := spot_PB p d ti
      walk_at "go"
      rotate_left
      · exact o
      · exact pb
      · exact p
      · exact d
      · exact ⟨c1.mono (by decide), c2.mono (by decide)⟩
      · exact c3
      rename_i sv H2 e2 ts
      refine rd_iteb (fun hb => ?_) (fun hb => ?_)
      · walk_at "go"
        refine k' _ _ none ?_ (e1.trans e2) rfl
        unfold timeToP
        rw [if_neg hn, if_neg (show ¬ (tmOf (offP u P) (acrossP u h * P.2.2)).1 ≤ 0 from hp), if_neg]
        intro z
        have hb' : (!holdsP u (spotP P h (tmOf (offP u P) (acrossP u h * P.2.2)))) = true := hb
        rw [z] at hb'
        cases hb'
      · walk_at "go"
        refine k' _ _ _ ?_ (e1.trans e2) (show O2 H2 tv (some (tmOf (offP u P) (acrossP u h * P.2.2))) from TUP.up (tk_of e2) tt)
        unfold timeToP
        rw [if_neg hn, if_neg (show ¬ (tmOf (offP u P) (acrossP u h * P.2.2)).1 ≤ 0 from hp), if_pos]
        have hb' : (!holdsP u (spotP P h (tmOf (offP u P) (acrossP u h * P.2.2)))) = false := hb
        cases z : holdsP u (spotP P h (tmOf (offP u P) (acrossP u h * P.2.2))) with
        | true => rfl
        | false => rw [z] at hb'; cases hb'
end
end Bw
end

section
set_option Elab.async false
set_option linter.all false
set_option maxRecDepth 100000
set_option maxHeartbeats 4100000
set_option exponentiation.threshold 1000000
namespace Bw
open PySem L2
-- HDR
-- what the heap knows, carried over
local macro_rules | `(tactic| walk_at "hp") => `(tactic| first
  | assumption
  | (refine' TUP.up (tk_of ?e) ?h; (case e => assumption); (case h => walk_at "hp"))
  | (refine' Fld.up ?e ?h; (case e => assumption); (case h => walk_at "hp"))
  | (refine' LST.up ?e ?h; (case e => assumption); (case h => walk_at "hp"))
  | (refine' TUP.up ?e ?h; (case e => assumption); (case h => walk_at "hp"))
  | (refine' Mth.up ?e ?h; (case e => assumption); (case h => walk_at "hp")))
-- one step of a reading
local macro_rules | `(tactic| walk_at "rd") => `(tactic| first
  | (with_reducible refine rd_var rfl ?_)
  | (with_reducible refine rd_c ?_)
  | (with_reducible refine rd_op ?_)
  | (with_reducible refine rd_mulW ?_ ?_)
  | (with_reducible refine rd_add ?_)
  | (with_reducible refine rd_sub ?_)
  | (with_reducible refine rd_cons ?_)
  | (with_reducible refine rd_nil ?_)
  | (with_reducible refine rd_seq ?_)
  | (with_reducible refine rd_asg ?_)
  | (with_reducible refine rd_name ?_)
  | (with_reducible refine rd_call ?_)
  | (with_reducible refine rd_fld ?_)
  | ((with_reducible refine' rd_fldv ?h ?_); (case h => walk_at "hp"))
  | ((with_reducible refine' rd_ixT0 ?h ?e ?_); (case h => walk_at "hp"); (case e => rfl))
  | ((with_reducible refine' rd_ixT1 ?h ?e ?_); (case h => walk_at "hp"); (case e => rfl))
  | ((with_reducible refine' rd_ixT2 ?h ?e ?_); (case h => walk_at "hp"); (case e => rfl))
  | ((with_reducible refine' rd_gtup ?h ?e ?_); (case h => walk_at "hp"); (case e => rfl))
  | (with_reducible refine rd_gcons ?_)
  | (with_reducible refine rd_gnil ?_)
  | (with_reducible refine rd_if ?_)
  | (with_reducible refine rd_test ?_)
  | (with_reducible refine rd_isbl ?_)
  | (with_reducible refine rd_iteT ?_)
  | (with_reducible refine rd_iteF ?_)
  | (with_reducible refine rd_ret ?_)
  | (with_reducible refine rd_next ?_)
  | (with_reducible refine rd_lt ?_)
  | (with_reducible refine rd_gt ?_)
  | (with_reducible refine rd_eqI ?_)
  | (with_reducible refine rd_neI ?_)
  | (with_reducible refine rd_un ?_)
  | (with_reducible refine rd_neg ?_)
  | (with_reducible refine rd_tup ?_)
  | (with_reducible refine rd_lst ?_)
  | (with_reducible refine rd_lstN (Nat.le_of_ble_eq_true rfl) ?_; intro _ _ _ _ _)
  | (with_reducible refine rd_tupN (Nat.le_of_ble_eq_true rfl) ?_; intro _ _ _ _)
  | (with_reducible refine rd_mod ?_ ?_)
  | (with_reducible refine rd_modN ?_ ?_)
  | (with_reducible refine rd_mul ?_ ?_)
  | (with_reducible refine rd_fdiv ?_ ?_)
  | (with_reducible refine rd_fdivZ ?_ ?_ ?_)
  | (with_reducible refine rd_tB ?_)
  | (with_reducible refine rd_CB ?_)
  | (with_reducible refine rd_le ?_)
  | (with_reducible refine rd_ge ?_)
  | (with_reducible refine rd_eqS ?_)
  | (with_reducible refine rd_neS ?_)
  | (with_reducible refine rd_isN0 ?_)
  | (with_reducible refine rd_isN1 ?_)
  | (with_reducible refine rd_notN0 ?_)
  | (with_reducible refine rd_notN1 ?_)
  | (with_reducible refine rd_abs ?_)
  | (with_reducible refine rd_max2 ?_)
  | (with_reducible refine rd_min2 ?_)
  | (with_reducible refine rd_mx ?_)
  | ((with_reducible refine' rd_mx1 ?h ?_); (case h => walk_at "hp"))
  | (with_reducible refine rd_and ?_)
  | (with_reducible refine rd_or ?_)
  | (with_reducible refine rd_not ?_)
  | (with_reducible refine rd_drop ?_)
  | (with_reducible refine rd_chain ?_)
  | (with_reducible refine rd_orV ?_)
  | (with_reducible refine rd_andV ?_)
  | (with_reducible refine rd_notV ?_)
  | (with_reducible refine rd_sfld ?_)
  | (with_reducible refine rd_for ?_)
  | (with_reducible refine rd_iL ?_)
  | (with_reducible refine rd_lc ?_)
  | (with_reducible refine rd_iE ?_)
  | ((with_reducible refine' rd_lenL ?h ?_); (case h => walk_at "hp"))
  | ((with_reducible refine' rd_lenT ?h ?_); (case h => walk_at "hp"))
  | (with_reducible refine rd_yes ?_)
  | (with_reducible refine rd_iZ ?_)
  | (with_reducible refine rd_iT ?_)
  | (with_reducible refine rd_break ?_)
  | ((with_reducible refine' rd_ixT3 ?h ?e ?_); (case h => walk_at "hp"); (case e => rfl))
  | ((with_reducible refine' rd_ixT4 ?h ?e ?_); (case h => walk_at "hp"); (case e => rfl))
  | ((with_reducible refine' rd_ixT5 ?h ?e ?_); (case h => walk_at "hp"); (case e => rfl))
  | ((with_reducible refine' rd_ixL0 ?h ?e ?_); (case h => walk_at "hp"); (case e => rfl))
  | ((with_reducible refine' rd_ixL1 ?h ?e ?_); (case h => walk_at "hp"); (case e => rfl))
  | ((with_reducible refine' rd_ixL2 ?h ?e ?_); (case h => walk_at "hp"); (case e => rfl))
  | ((with_reducible refine' rd_ixL3 ?h ?e ?_); (case h => walk_at "hp"); (case e => rfl))
  | ((with_reducible refine' rd_ixL4 ?h ?e ?_); (case h => walk_at "hp"); (case e => rfl))
  | ((with_reducible refine' rd_ixL5 ?h ?e ?_); (case h => walk_at "hp"); (case e => rfl)))
-- steps, with the callees' promises
local macro_rules | `(tactic| walk_at "go") => `(tactic| repeat first | walk_at "rd" | walk_at "us")
-- every way
local macro_rules | `(tactic| walk_at "all") => `(tactic| repeat' first
  | walk_at "rd"
  | walk_at "us"
  | (with_reducible refine rd_ite (fun _ => ?_) (fun _ => ?_))
  | (with_reducible refine rd_iten (fun _ => ?_) (fun _ => ?_)))
-- END
-- HDR1
local macro_rules | `(tactic| walk_at "us") => `(tactic| first
  | (with_reducible refine us_divisor ?_)
  | (with_reducible refine us_point_of ?_ ?_ ?_; intro _ _ _ _)
  | (with_reducible refine us_time_of ?_ ?_ ?_; intro _ _ _ _))
-- END
-- HDR2
local macro_rules | `(tactic| walk_at "us") => `(tactic| first
  | ((with_reducible refine' us_sooner ?h ?g ?_ ?_ ?_); (case h => walk_at "hp"); (case g => walk_at "hp"))
  | ((with_reducible refine' us_added ?h ?g ?_ ?_ ?_ ?_ ?_); (case h => walk_at "hp"); (case g => walk_at "hp"); intro _ _ _ _)
  | ((with_reducible refine' us_spot_at ?h ?g ?i ?_ ?_ ?_ ?_ ?_); (case h => walk_at "hp"); (case g => walk_at "hp"); (case i => walk_at "hp"); intro _ _ _ _)
  | ((with_reducible refine' us_time_along ?h ?g ?i ?_ ?_ ?_ ?_); (case h => walk_at "hp"); (case g => walk_at "hp"); (case i => walk_at "hp"); intro _ _ _ _))
-- END
-- HDR3
local macro_rules | `(tactic| walk_at "us") => `(tactic| first
  | ((with_reducible refine' us_line_between ?h ?g ?_); (case h => walk_at "hp"); (case g => walk_at "hp"))
  | ((with_reducible refine' us_is_far ?h ?_); (case h => walk_at "hp"))
  | ((with_reducible refine' us_mirrored ?h ?_); (case h => walk_at "hp"); intro _ _ _ _))
local macro_rules | `(tactic| walk_at "hp") => `(tactic| (refine' WAt.up (nl_of ?e) ?h; (case e => assumption); (case h => walk_at "hp")))
local macro_rules | `(tactic| walk_at "hp") => `(tactic| (refine' WAt.up ?e ?h; (case e => assumption); (case h => walk_at "hp")))
-- END
-- HDR4
local macro_rules | `(tactic| walk_at "us") => `(tactic| first
  | ((with_reducible refine' us_line ?h ?_ ?_); (case h => walk_at "hp"))
  | ((with_reducible refine' us_holds ?h ?g ?_ ?_ ?_); (case h => walk_at "hp"); (case g => walk_at "hp"))
  | ((with_reducible refine' us_ends_at ?h ?g ?_); (case h => walk_at "hp"); (case g => walk_at "hp"); intro _ _))
-- END
-- HDR6
local macro_rules | `(tactic| walk_at "us") => `(tactic| first
  | ((with_reducible refine' us_end_ahead ?h ?g ?i ?_ ?_ ?_ ?_); (case h => walk_at "hp"); (case g => walk_at "hp"); (case i => walk_at "hp"); intro _ _ _ _)
  | ((with_reducible refine' us_time_to ?h ?g ?i ?_ ?_ ?_ ?_); (case h => walk_at "hp"); (case g => walk_at "hp"); (case i => walk_at "hp"); intro _ _ _ _))
-- END
/-! ### rooms as objects -/
theorem Paired.up {α : Type} {R R' : V → α → Prop} (f : ∀ v a, R v a → R' v a) : ∀ {vs : List V} {as : List α}, Paired R vs as → Paired R' vs as
  | _, _, .nil => .nil
  | _, _, .cons h t => .cons (f _ _ h) (Paired.up f t)
theorem Paired.at {α : Type} {R : V → α → Prop} : ∀ {vs : List V} {as : List α} {i : Nat} {v : V}, Paired R vs as → vs[i]? = some v → ∃ a, as[i]? = some a ∧ R v a
  | _, _, i, v, .nil, e => by simp at e
  | _, _, 0, v, .cons h _, e => by
    cases e
    exact ⟨_, rfl, h⟩
  | _, _, i + 1, v, .cons _ t, e => by
    obtain ⟨a, h1, h2⟩ := Paired.at (i := i) (v := v) t (by simpa using e)
    exact ⟨a, by simpa using h1, h2⟩
theorem Paired.at2 {α : Type} {R : V → α → Prop} : ∀ {vs : List V} {as : List α} {i : Nat} {a : α}, Paired R vs as → as[i]? = some a → ∃ v, vs[i]? = some v ∧ R v a
  | _, _, i, v, .nil, e => by simp at e
  | _, _, 0, v, .cons h _, e => by
    cases e
    exact ⟨_, rfl, h⟩
  | _, _, i + 1, v, .cons _ t, e => by
    obtain ⟨a, h1, h2⟩ := Paired.at2 (i := i) (a := v) t (by simpa using e)
    exact ⟨a, by simpa using h1, h2⟩
theorem onP_len (us : List WD) (P : P3) : (onP us P).length ≤ us.length := Nat.le_trans (List.length_filter_le _ _) (Nat.le_of_eq List.length_range)
theorem Paired.len {α : Type} {R : V → α → Prop} : ∀ {vs : List V} {as : List α}, Paired R vs as → vs.length = as.length
  | _, _, .nil => rfl
  | _, _, .cons _ t => congrArg Nat.succ (Paired.len t)
theorem Paired.snoc {α : Type} {R : V → α → Prop} {v : V} {a : α} (h : R v a) : ∀ {vs : List V} {as : List α}, Paired R vs as → Paired R (vs ++ [v]) (as ++ [a])
  | _, _, .nil => .cons h .nil
  | _, _, .cons g t => .cons g (Paired.snoc h t)
/-- walls in a row -/
abbrev WsAt (c : Cs) (H : Hp) (vs : List V) (us : List WD) : Prop := Paired (WAt c H) vs us
theorem WsAt.up {c : Cs} {H H' : Hp} {vs : List V} {us : List WD} (e : NL H H') (h : WsAt c H vs us) : WsAt c H' vs us := Paired.up (fun _ _ k => WAt.up e k) h
/-- the room of the walls us stands at v -/
def RAt (c : Cs) (H : Hp) (v : V) (us : List WD) : Prop := ∃ a dx l vs, v = .ref a ∧ H a = some (.ins c.R dx [("some", .ref l)]) ∧ H l = some (.lst vs) ∧ WsAt c H vs us
theorem RAt.up {c : Cs} {H H' : Hp} {v : V} {us : List WD} (e : Same H H') (h : RAt c H v us) : RAt c H' v us := by
  obtain ⟨a, dx, l, vs, h1, h2, h3, h4⟩ := h
  exact ⟨a, dx, l, vs, h1, e _ _ h2, e _ _ h3, WsAt.up (nl_of e) h4⟩
def IsR (c : Cs) (C : Addr) : Prop := C = c.R
section
variable {K : PySem.W.Frag} {mg : Str → Option Value} {c : Cs} {H : Hp} {v : V} {us : List WD}
theorem RAt.flds (T : Txt K mg c) (h : RAt c H v us) : ∃ lv vs, Fld K H v "some" lv ∧ LST H lv vs ∧ WsAt c H vs us := by
  obtain ⟨a, dx, l, vs, h1, h2, h3, h4⟩ := h
  exact ⟨.ref l, vs, ⟨a, _, dx, _, h1, h2, T.clR, T.someR, rfl⟩, ⟨l, rfl, h3⟩, h4⟩
theorem RAt.mth (h : RAt c H v us) {m : Str} (hm : ∀ x : V, List.lookup m [(("some" : Str), x)] = none) : Mth (IsR c) H v m := by
  obtain ⟨a, dx, l, vs, h1, h2, h3, h4⟩ := h
  exact ⟨a, _, dx, _, h1, h2, hm _, rfl⟩
end
local macro_rules | `(tactic| walk_at "hp") => `(tactic| (refine' RAt.up ?e ?h; (case e => assumption); (case h => walk_at "hp")))
section
variable {P : Program} {w : World} {K : PySem.W.Frag} {mg : Str → Option Value} {base : Heap} {c : Cs} {f : Addr} {fd : FuncData}
def sp_walls (c : Cs) : Sp := mkSp (fun a : V × List WD => [a.1]) (fun a H => RAt c H a.1 a.2) fun a H v H' => ∃ p vs, v = .ref p ∧ Same H H' ∧ H p = none ∧ H' p = some (.lst vs) ∧ WsAt c H' vs a.2
theorem us_walls {v : V} {us : List WD} {H : Hp} {Q : VK} {E : XK} (h1 : RAt c H v us) (k : ∀ p vs H', Same H H' → H p = none → H' p = some (.lst vs) → WsAt c H' vs us → Q (.ref p) H') : sp_walls c [v] H Q E :=
  ⟨(v, us), rfl, h1, fun v H' e => by
    obtain ⟨p, vs, rfl, e1, e2, e3, e4⟩ := e
    exact k p vs H' e1 e2 e3 e4⟩
abbrev N_Room_walls : List Str := ["self"]
theorem sc_Room_walls : FnScope ["self"] ["self"] (defScope s_Room_walls) := ⟨rfl, rfl, rfl, by decide +kernel, rfl, by decide +kernel, by decide +kernel⟩
theorem ok_walls (F : Fun K "walls" "Room.walls" s_Room_walls f fd) (T : Txt K mg c) : FnOk P w K mg base CX0 1 f fd ["self"] (sp_walls c) := by
  refine F.ok sc_Room_walls (mk_len fun _ => rfl) (fun cdv A outer s H vs Q E hr h => ?_)
  obtain ⟨⟨v, us⟩, rfl, h1, k⟩ := h
  dsimp only at h1 k
  obtain ⟨lv, ws, f1, l1, w1⟩ := h1.flds T
  refine ⟨_, (pss_one (ps_ret (pe_callTy cl_list rfl T.n_list (by decide +kernel) (pa_cons (pe_fld (pv 0) rfl) pa_nil)))), ?_⟩
  walk_at "go"
  refine rd_listL l1 fun p H' e n hp => ?_
  exact k _ _ ⟨p, ws, rfl, e, n, hp, WsAt.up (nl_of e) w1⟩
/-- numbers as a list -/
abbrev LI (H : Hp) (v : V) (ns : List Nat) : Prop := LST H v (ns.map fun k => V.int (k : Nat))
def sp_on (c : Cs) : Sp := mkSp (fun a : (V × List WD) × V × P3 => [a.1.1, a.2.1]) (fun a H => RAt c H a.1.1 a.1.2 ∧ T3 H a.2.1 a.2.2 ∧ WsOk a.1.2 ∧ PB a.2.2) fun a H v H' => Same H H' ∧ LI H' v (onP a.1.2 a.2.2)
theorem us_on {v z : V} {us : List WD} {P : P3} {H : Hp} {Q : VK} {E : XK} (h1 : RAt c H v us) (h2 : T3 H z P) (k : ∀ v H', Same H H' → LI H' v (onP us P) → Q v H') (o : WsOk us) (b : PB P) : sp_on c [v, z] H Q E :=
  ⟨((v, us), z, P), rfl, ⟨h1, h2, o, b⟩, fun v H' e => k v H' e.1 e.2⟩
abbrev N_Room_on : List Str := ["self", "P", "k", "wall"]
theorem sc_Room_on : FnScope ["self", "P", "k", "wall"] ["self", "P"] (defScope s_Room_on) := ⟨rfl, rfl, rfl, by decide +kernel, rfl, by decide +kernel, by decide +kernel⟩
theorem ok_on (F : Fun K "on" "Room.on" s_Room_on f fd) (T : Txt K mg c) (m_holds : Mts P w K mg base 1 "holds" ["self", "P"] (One (IsW c) (sp_holds c))) : FnOk P w K mg base CX0 2 f fd ["self", "P"] (sp_on c) := by
  refine F.ok sc_Room_on (mk_len fun _ => rfl) (fun cdv A outer s H vs Q E hr h => ?_)
  obtain ⟨⟨⟨v, us⟩, z, P⟩, rfl, ⟨h1, h2, o, b⟩, k⟩ := h
  dsimp only at h1 h2 o b k
  obtain ⟨lv, ws, f1, l1, w1⟩ := h1.flds T
  refine ⟨_, (pss_one (ps_ret (pe_lc (own := [("k", 2), ("wall", 3)]) (g := gTup K 2 (gCons (gName 2) (gCons (gName 3) gNil))) (tt := tTest (tMx (One (IsW c) (sp_holds c)) "holds" (tVar 3) (tCons (tVar 1) tNil))) (te := tVar 2) rfl sc_Room_on.nd (pi_enum rfl T.n_enumerate (pa_cons (pe_fld (pv 0) rfl) pa_nil)) (blkOk_by (own := [("k", 2), ("wall", 3)]) (N := ["self", "P", "k", "wall"]) (sc := defScope s_Room_on) (by decide +kernel)) (fun _ _ _ _ _ => (pg_tup rfl (pgs_cons (pg_name (i := 2) sc_Room_on.nd rfl (by first | exact Or.inl rfl | exact Or.inr rfl)) (pgs_cons (pg_name (i := 3) sc_Room_on.nd rfl (by first | exact Or.inl rfl | exact Or.inr rfl)) pgs_nil)))) (fun _ _ _ _ _ => pts_one (pt_val (pe_mx (pv 3) m_holds (hr.mono (by decide)) (pa_cons (pv 1) pa_nil)))) (fun _ _ _ _ _ => (pv 2))))), ?_⟩
  walk_at "go"
  refine lc_E l1 (fun D i H' => Same H H' ∧ H' D = some (.lst ((onTo us P i).map fun k => V.int (k : Nat)))) (fun D hD => ⟨same_new hD, upd_same⟩) (fun D i H' hD q => l1.up q.1) ?_ ?_
  · rintro D i x T' H' H2 hD hx ⟨e, hd⟩ e2 tt
    obtain ⟨u, hu, wu⟩ := Paired.at w1 hx
    have ou : WOk u := o.1 u (List.mem_of_getElem? hu)
    have wu2 : WAt c H2 x u := wu.up (nl_of (e.trans e2))
    have mh := wu2.isw ou.kind (no_holds u)
    have hz : T3 H2 z P := TUP.up (tk_of (e.trans e2)) h2
    have hd2 := e2 _ _ hd
    have ho : onTo us P (i + 1) = onTo us P i ++ if holdsP u P = true then [i] else [] := by
      rw [onTo_succ, hu]
      rfl
    unfold LcTurn
    walk_at "go"
    refine ⟨rfl, ?_⟩
    walk_at "go"
    any_goals assumption
    refine rd_iteb (fun hb => ?_) (fun hb => ?_)
    · walk_at "go"
      refine ⟨_, hd2, ?_, Same.put (e.trans e2) hD, ?_⟩
      · rw [List.length_map]
        exact Nat.lt_of_le_of_lt (Nat.le_trans (List.length_filter_le _ _) (Nat.le_of_eq List.length_range)) (by
          have := (List.getElem?_eq_some_iff.mp hu).1
          have := o.2
          exact Nat.lt_of_lt_of_le (show i < 1000 by omega) (Nat.le_of_ble_eq_true rfl))
      · rw [ho, if_pos hb, List.map_append, upd_same]
        rfl
    · refine ⟨e.trans e2, ?_⟩
      rw [ho, hb]
      simpa using hd2
  · rintro D H' hD ⟨e, hd⟩
    rw [Paired.len w1] at hd
    exact k _ _ ⟨e, D, rfl, hd⟩
/-! ### a corner -/
theorem rd_any {v : V} {H : Hp} {Q : VK} {bs : List Bool} (h : LST H v (bs.map V.bl)) (q : Q (.bl (bs.any id)) H) : rAny K [v] H Q := by
  obtain ⟨p, rfl, e⟩ := h
  exact ⟨p, bs, rfl, SqL.of e, q⟩
def sp_is_corner (c : Cs) : Sp := mkSp (fun a : (V × List WD) × V × P3 => [a.1.1, a.2.1]) (fun a H => RAt c H a.1.1 a.1.2 ∧ T3 H a.2.1 a.2.2 ∧ WsOk a.1.2 ∧ PB a.2.2) fun a H v H' => v = .bl (cornerP a.1.2 a.2.2) ∧ Same H H'
theorem us_is_corner {v z : V} {us : List WD} {P : P3} {H : Hp} {Q : VK} {E : XK} (h1 : RAt c H v us) (h2 : T3 H z P) (k : ∀ H', Same H H' → Q (.bl (cornerP us P)) H') (o : WsOk us) (b : PB P) : sp_is_corner c [v, z] H Q E :=
  ⟨((v, us), z, P), rfl, ⟨h1, h2, o, b⟩, fun v H' e => by
    obtain ⟨rfl, e⟩ := e
    exact k H' e⟩
abbrev N_Room_is_corner : List Str := ["self", "P", "numbers", "k"]
theorem sc_Room_is_corner : FnScope ["self", "P", "numbers", "k"] ["self", "P"] (defScope s_Room_is_corner) := ⟨rfl, rfl, rfl, by decide +kernel, rfl, by decide +kernel, by decide +kernel⟩
theorem ok_is_corner (F : Fun K "is_corner" "Room.is_corner" s_Room_is_corner f fd) (T : Txt K mg c) (m_on : Mts P w K mg base 2 "on" ["self", "P"] (One (IsR c) (sp_on c))) (m_ends_at : Mts P w K mg base 1 "ends_at" ["self", "P"] (One (IsW c) (sp_ends_at c))) :
    FnOk P w K mg base CX0 3 f fd ["self", "P"] (sp_is_corner c) := by
  refine F.ok sc_Room_is_corner (mk_len fun _ => rfl) (fun cdv A outer s H vs Q E hr h => ?_)
  obtain ⟨⟨⟨v, us⟩, z, P⟩, rfl, ⟨h1, h2, o, b⟩, k⟩ := h
  dsimp only at h1 h2 o b k
  obtain ⟨lv, ws, f1, l1, w1⟩ := h1.flds T
  have mo : Mth (IsR c) H v "on" := h1.mth fun _ => rfl
  refine ⟨_, (pss_cons (ps_set (i := 2) sc_Room_is_corner.nd rfl (by first | exact Or.inl rfl | exact Or.inr rfl) (pe_mx (pv 0) m_on (hr.mono (by decide)) (pa_cons (pv 1) pa_nil)))
      (pss_one (ps_ret (pe_or (pe_cmpR op_gt (pe_callB cl_len rfl T.n_len (by decide +kernel) (pa_cons (pv 2) pa_nil)) pe_int (nomark _)) (pe_one (pe_callB (cr_any rfl) rfl T.n_any (by decide +kernel) (pa_cons (pe_lc (own := [("k", 3)]) (g := gName 3) (tt := tYes) (te := tMx (One (IsW c) (sp_ends_at c)) "ends_at" (tOp (rIxL K) (tFld K (tVar 0) "some") (tVar 3)) (tCons (tVar 1) tNil)) rfl sc_Room_is_corner.nd (pi_list (pv 2)) (blkOk_by (own := [("k", 3)]) (N := ["self", "P", "numbers", "k"]) (sc := defScope s_Room_is_corner) (by decide +kernel)) (fun _ _ _ _ _ => (pg_name (i := 3) sc_Room_is_corner.nd rfl (by first | exact Or.inl rfl | exact Or.inr rfl))) (fun _ _ _ _ _ => pts_nil) (fun _ _ _ _ _ => (pe_mx (pe_ix ix_list (pe_fld (pv 0) rfl) (pv 3) (fun _ _ => rfl)) m_ends_at (hr.mono (by decide)) (pa_cons (pv 1) pa_nil)))) pa_nil))))))), ?_⟩
  walk_at "go"
  refine us_on h1 h2 (fun nv H1 e1 hn => ?_) o b
  walk_at "go"
  refine rd_ite (fun hn1 => ?_) (fun hn1 => ?_)
  · refine k _ _ ⟨?_, e1⟩
    unfold cornerP
    rw [List.length_map] at hn1
    rw [decide_eq_true (show 1 < (onP us P).length by omega)]
    rfl
  · have hc : decide (1 < (onP us P).length) = false := by
      rw [List.length_map] at hn1
      (exact decide_eq_false (by omega))
    walk_at "go"
    refine lc_L hn (fun D i H' => Same H1 H' ∧ H' D = some (.lst ((((onP us P).take i).map fun k => (us[k]?).any fun u => endsP u P).map V.bl))) (fun D hD => ⟨same_new hD, upd_same⟩) (fun D i H' hD q => hn.up q.1) ?_ ?_
    · rintro D i x H' hD hx ⟨e, hd⟩
      obtain ⟨n, hi, hx'⟩ : ∃ n, (onP us P)[i]? = some n ∧ x = .int (n : Nat) := by
        rw [List.getElem?_map] at hx
        cases hk : (onP us P)[i]? with
        | none => rw [hk] at hx; cases hx
        | some n => rw [hk] at hx; cases hx; exact ⟨n, rfl, rfl⟩
      subst hx'
      obtain ⟨u, hu, ho⟩ := onP_mem.mp (List.mem_of_getElem? hi)
      obtain ⟨wv, hw, wu⟩ := Paired.at2 w1 hu
      have ou : WOk u := o.1 u (List.mem_of_getElem? hu)
      have wu2 : WAt c H' wv u := wu.up (nl_of (e1.trans e))
      have mh := wu2.isw ou.kind (no_ends u)
      have l2 := l1.up (e1.trans e)
      unfold LcTurn
      walk_at "go"
      refine ⟨rfl, ?_⟩
      walk_at "go"
      refine rd_ixL l2 hw ?_
      walk_at "go"
      rename_i H2 e2
      refine ⟨_, e2 _ _ hd, ?_, Same.put (e.trans e2) hD, ?_⟩
      · rw [List.length_map, List.length_map]
        refine Nat.lt_of_le_of_lt (Nat.le_trans (List.length_take_le ..) (Nat.le_of_lt (List.getElem?_eq_some_iff.mp hi).1)) ?_
        exact Nat.lt_of_lt_of_le (show (onP us P).length < 1000 by
          have := onP_len us P
          have := o.2
          omega) (Nat.le_of_ble_eq_true rfl)
      · rw [upd_same, List.take_succ, hi]
        simp [hu]
    · rintro D H' hD ⟨e, hd⟩
      rw [List.length_map, List.take_length] at hd
      walk_at "go"
      refine rd_any ⟨D, rfl, hd⟩ ?_
      refine k _ _ ⟨?_, e1.trans e⟩
      unfold cornerP
      rw [hc, List.any_map]
      rfl
/-! ### the first wall met -/
/-- what first_met gives -/
def MetAt (H : Hp) (v : V) (us : List WD) (P : P3) (h : P2) : Option P2 → Prop
  | none => v = .non
  | some t => ∃ tv pv ov, TUP H v [tv, pv, ov] ∧ T2 H tv t ∧ T3 H pv (spotP P h t) ∧ LI H ov (onP us (spotP P h t))
def sp_first_met (c : Cs) : Sp := mkSp (fun a : (V × List WD) × (V × P3) × V × P2 => [a.1.1, a.2.1.1, a.2.2.1]) (fun a H => RAt c H a.1.1 a.1.2 ∧ T3 H a.2.1.1 a.2.1.2 ∧ T2 H a.2.2.1 a.2.2.2 ∧ WsOk a.1.2 ∧ PtOk a.2.1.2 ∧ HdOk a.2.2.2)
  fun a H v H' => Same H H' ∧ MetAt H' v a.1.2 a.2.1.2 a.2.2.2 (leastP a.1.2 a.2.1.2 a.2.2.2)
theorem us_first_met {v y z : V} {us : List WD} {P : P3} {h : P2} {H : Hp} {Q : VK} {E : XK} (h1 : RAt c H v us) (h2 : T3 H y P) (h3 : T2 H z h) (k : ∀ v H', Same H H' → MetAt H' v us P h (leastP us P h) → Q v H') (o : WsOk us) (p : PtOk P) (d : HdOk h) :
    sp_first_met c ([v, y, z] ++ []) H Q E := ⟨((v, us), (y, P), z, h), rfl, ⟨h1, h2, h3, o, p, d⟩, fun v H' e => k v H' e.1 e.2⟩
theorem tB5 {u : WD} {P : P3} {h t : P2} (o : WOk u) (p : PtOk P) (d : HdOk h) (k : timeToP u P h = some t) : B 300000 t.1 ∧ B 300000 t.2 := by
  obtain ⟨b1, b2, _⟩ := ((timeToP_is o p.pos d k).B p.pos).Bs p
  exact ⟨b1.mono (by decide), b2.mono (by decide)⟩
abbrev N_first_met : List Str := ["room", "P", "heading", "least", "wall", "place", "t"]
theorem sc_first_met : FnScope ["room", "P", "heading", "least", "wall", "place", "t"] ["room", "P", "heading"] (defScope s_first_met) := ⟨rfl, rfl, rfl, by decide +kernel, rfl, by decide +kernel, by decide +kernel⟩
theorem ok_first_met (F : Fun K "first_met" "first_met" s_first_met f fd) (T : Txt K mg c) (c_time_to : Cal P w K mg base 5 "time_to" ["wall", "P", "heading"] [] (sp_time_to c)) (c_sooner : Cal P w K mg base 1 "sooner" ["one", "other"] [] sp_sooner)
    (c_spot_at : Cal P w K mg base 3 "spot_at" ["P", "heading", "t"] [] sp_spot_at) (m_walls : Mts P w K mg base 1 "walls" ["self"] (One (IsR c) (sp_walls c))) (m_on : Mts P w K mg base 2 "on" ["self", "P"] (One (IsR c) (sp_on c))) :
    FnOk P w K mg base CX0 6 f fd ["room", "P", "heading"] (sp_first_met c) := by
  refine F.ok sc_first_met (mk_len fun _ => rfl) (fun cdv A outer s H vs Q E hr h => ?_)
  obtain ⟨⟨⟨v, us⟩, ⟨y, P⟩, ⟨z, h⟩⟩, rfl, ⟨h1, h2, h3, o, p, d⟩, k⟩ := h
  dsimp only at h1 h2 h3 o p d k
  have mo : Mth (IsR c) H v "on" := h1.mth fun _ => rfl
  have mw : Mth (IsR c) H v "walls" := h1.mth fun _ => rfl
  refine ⟨_, (pss_cons (ps_set (i := 3) sc_first_met.nd rfl (by first | exact Or.inl rfl | exact Or.inr rfl) pe_non)
      (pss_cons (ps_for PassesOwn.never rfl (pi_list (pe_mx0 (pv 0) m_walls (hr.mono (by decide)))) (pg_name (i := 4) sc_first_met.nd rfl (by first | exact Or.inl rfl | exact Or.inr rfl)) (pss_cons (ps_set (i := 6) sc_first_met.nd rfl (by first | exact Or.inl rfl | exact Or.inr rfl) (pe_cl c_time_to (hr.mono (by decide)) rfl (pa_cons (pv 4) (pa_cons (pv 1) (pa_cons (pv 2) pa_nil)))))
      (pss_one (ps_if (PW.pt (pw_and (pt_cmpR op_notNb (pv 6) pe_non (nomark _)) (pw_and1 (PW.pt (pw_or (pt_cmpR op_isNb (pv 3) pe_non (nomark _)) (pw_or1 (pt_val (pe_cl c_sooner (hr.mono (by decide)) rfl (pa_cons (pv 6) (pa_cons (pv 3) pa_nil)))))))))) (pss_one (ps_set (i := 3) sc_first_met.nd rfl (by first | exact Or.inl rfl | exact Or.inr rfl) (pv 6))) pss_nil))))
      (pss_cons (ps_if (pt_cmpR op_isNb (pv 3) pe_non (nomark _)) (pss_one (ps_ret pe_non)) pss_nil)
      (pss_cons (ps_set (i := 5) sc_first_met.nd rfl (by first | exact Or.inl rfl | exact Or.inr rfl) (pe_cl c_spot_at (hr.mono (by decide)) rfl (pa_cons (pv 1) (pa_cons (pv 2) (pa_cons (pv 3) pa_nil)))))
      (pss_one (ps_ret (pe_tup (pa_cons (pv 3) (pa_cons (pv 5) (pa_cons (pe_mx (pv 0) m_on (hr.mono (by decide)) (pa_cons (pv 5) pa_nil)) pa_nil)))))))))), ?_⟩
  walk_at "go"
  refine us_walls h1 fun l ws H1 e1 nl hl w1 => ?_
  refine for_L ⟨l, rfl, hl⟩ (fun i σ H' => ∃ av wv pv tv, σ = [some v, some y, some z, some av, wv, pv, tv] ∧ Same H1 H' ∧ O2 H' av ((us.take i).foldl (leastStep P h) none)) ⟨.non, none, none, none, rfl, Same.refl _, rfl⟩
    (fun i σ H' q => by obtain ⟨_, _, _, _, _, e, _⟩ := q; exact ⟨l, rfl, e _ _ hl⟩) ?_ ?_
  · rintro i x σ H2 hx ⟨av, wv, pv, tv, rfl, e2, ha⟩
    obtain ⟨u, hu, wu⟩ := Paired.at w1 hx
    have hm := List.mem_of_getElem? hu
    have ou : WOk u := o.1 u hm
    have wu2 : WAt c H2 x u := wu.up (nl_of e2)
    have e12 := e1.trans e2
    have fs : (us.take (i + 1)).foldl (leastStep P h) none = leastStep P h ((us.take i).foldl (leastStep P h) none) u := by
      rw [List.take_succ, hu, List.foldl_append]
      rfl
    rw [fs]
    have hacB : ∀ s, (us.take i).foldl (leastStep P h) none = some s → B 300000 s.1 ∧ B 300000 s.2 := fun s es => by
      rcases leastF_is es with q | ⟨u', hu', q⟩
      · cases q
      · exact tB5 (o.1 u' (List.mem_of_mem_take hu')) p d q
    generalize hac : (us.take i).foldl (leastStep P h) none = acc at ha hacB
    refine rd_name ?_
    have ls : ∀ r, timeToP u P h = r → leastStep P h acc u = match r with | none => acc | some t => if better t acc then some t else acc := fun r e => by
      unfold leastStep
      rw [e]
      first | done | (cases r <;> rfl)
    walk_at "go"
    any_goals assumption
    rename_i tv' H3 e3 tt
    generalize htt : timeToP u P h = r at tt
    rw [ls r htt]
    cases r with
    | none =>
      have ea : tv' = .non := tt
      subst ea
      walk_at "go"
      refine ⟨_, _, _, _, rfl, e2.trans e3, ?_⟩
      exact O2.up (tk_of e3) ha
    | some t =>
      obtain ⟨tp, rfl, ea⟩ := tt
      have tt : T2 H3 (.ref tp) t := ⟨tp, rfl, ea⟩
      obtain ⟨b1, b2⟩ := tB5 ou p d htt
      cases acc with
      | none =>
        have ea : av = .non := ha
        subst ea
        walk_at "go"
        exact ⟨_, _, _, _, rfl, e2.trans e3, tt⟩
      | some sa =>
        obtain ⟨pa, rfl, ea⟩ := ha
        have ta : T2 H2 (.ref pa) sa := ⟨pa, rfl, ea⟩
        obtain ⟨b3, b4⟩ := hacB sa rfl
        walk_at "go"
        any_goals first | exact ⟨b1, b2⟩ | exact ⟨b3, b4⟩ | assumption
        refine rd_iteb (fun hb => ?_) (fun hb => ?_)
        · walk_at "go"
          refine ⟨_, _, _, _, rfl, e2.trans e3, ?_⟩
          show O2 H3 _ (if better t (some sa) = true then some t else some sa)
          rw [if_pos (show better t (some sa) = true from hb)]
          exact tt
        · walk_at "go"
          refine ⟨_, _, _, _, rfl, e2.trans e3, ?_⟩
          show O2 H3 _ (if better t (some sa) = true then some t else some sa)
          rw [if_neg (show ¬ better t (some sa) = true from fun z => by
            have hb' : better t (some sa) = false := hb
            rw [z] at hb'
            cases hb')]
          exact ta.up (tk_of e3)
  · rintro σ H2 ⟨av, wv, pv, tv, rfl, e2, ha⟩
    have e12 := e1.trans e2
    rw [Paired.len w1, List.take_length] at ha
    have k' : ∀ v H' r, leastP us P h = r → Same H H' → MetAt H' v us P h r → Q v H' := fun v H' r er e t => k v H' ⟨e, by rw [er]; exact t⟩
    have ha' : O2 H2 av (leastP us P h) := ha
    generalize hr : leastP us P h = r at ha'
    cases r with
    | none =>
      have ea : av = .non := ha'
      subst ea
      walk_at "go"
      exact k' _ _ none hr e12 rfl
    | some t =>
      obtain ⟨pa, rfl, ea⟩ := ha'
      have ta : T2 H2 (.ref pa) t := ⟨pa, rfl, ea⟩
      obtain ⟨u, hu, htt⟩ := leastP_is hr
      have ou := o.1 u hu
      have ti := timeToP_is ou p.pos d htt
      obtain ⟨c1, c2, c3⟩ := (ti.B p.pos).Bs p
      have pb := spot_PB p d ti
      have c4 : B 30000 t.1 ∧ B 4000 t.2 := ⟨c1.mono (by decide), c2.mono (by decide)⟩
      walk_at "go"
      any_goals assumption
      rename_i sv H3 e3 ts
      refine us_on (h1.up (e12.trans e3)) ts (fun ov H4 e4 tl => ?_) o pb
      walk_at "go"
      rename_i tp H5 e5 t5
      refine k' _ _ (some t) hr (((e12.trans e3).trans e4).trans e5) ⟨_, _, _, t5, ta.up (tk_of ((e3.trans e4).trans e5)), ts.up (tk_of (e4.trans e5)), tl.up e5⟩
end
end Bw
end

section
set_option Elab.async false
set_option linter.all false
set_option maxRecDepth 100000
set_option maxHeartbeats 4100000
set_option exponentiation.threshold 1000000
namespace Bw
/-! ### a flight, step by step -/
/-- how a flight ends -/
inductive Fin where
  | going
  | away
  | corner (now : P2) (pt : P3)
  | fell (n : Nat) (now : P2) (pt : P3)
/-- a hit: the wall's number, the time, the point, the way after it -/
structure Hit where
  num : Nat
  now : P2
  pt : P3
  way : P2
structure FS where
  place : P3
  way : P2
  clock : P2
  many : List Int
  ended : Fin
def hitP (s : FS) (n : Nat) (u : WD) (m : Int) (now : P2) (pt : P3) : FS × Option Hit := match behindP u s.way (m + 1) with
  | none => (⟨s.place, s.way, s.clock, s.many, .fell n now pt⟩, none)
  | some w => (⟨pt, w, now, s.many.set n (m + 1), s.ended⟩, some ⟨n, now, pt, w⟩)
def stepAt (us : List WD) (s : FS) (t : P2) : FS × Option Hit :=
  if cornerP us (spotP s.place s.way t) = true then (⟨s.place, s.way, s.clock, s.many, .corner (addP s.clock t) (spotP s.place s.way t)⟩, none) else
  match onP us (spotP s.place s.way t) with
  | [] => (s, none)
  | n :: _ => match us[n]?, s.many[n]? with
    | some u, some m => hitP s n u m (addP s.clock t) (spotP s.place s.way t)
    | _, _ => (s, none)
def stepP (us : List WD) (s : FS) : FS × Option Hit := match leastP us s.place s.way with
  | none => (⟨s.place, s.way, s.clock, s.many, .away⟩, none)
  | some t => stepAt us s t
/-- most steps from s, the hits hs behind it -/
def runP (us : List WD) : Nat → FS → List Hit → List Hit × Fin
  | 0, s, hs => (hs, s.ended)
  | n + 1, s, hs => match stepP us s with
    | (s', none) => (hs, s'.ended)
    | (s', some h) => runP us n s' (hs ++ [h])
def Cb : Nat → Nat
  | 0 => 1
  | k + 1 => Cb k + (15 + 5 * k)
theorem Cb_le : ∀ k ≤ 49, Cb k ≤ 6616 := by decide
/-- what holds after k hits -/
structure FB (k : Nat) (us : List WD) (s : FS) : Prop where
  pos : 0 < s.place.2.2
  w : B (10 + 5 * k) s.place.2.2
  x : B (270 * (k + 1)) s.place.1
  y : B (270 * (k + 1)) s.place.2.1
  hd : HdOk s.way
  c1 : B (30000 + 300 * k) s.clock.1
  c2 : B (Cb k) s.clock.2
  cp : 0 < s.clock.2
  many : s.many.length = us.length
  on : s.ended = .going
theorem FB.pt {k : Nat} {us : List WD} {s : FS} (f : FB k us s) (hk : k ≤ 49) : PtOk s.place := ⟨f.pos, f.w.mono (by omega), f.x.mono (by omega), f.y.mono (by omega)⟩
theorem mirror_hd {h : P2} (d : HdOk h) (l : Int) : HdOk (mirrorP h l) := by
  obtain ⟨a, b, n⟩ := d
  unfold mirrorP
  split
  · exact ⟨a, by show -3 ≤ -h.2 ∧ -h.2 ≤ 3; omega, by show ¬ (h.1 = 0 ∧ -h.2 = 0); omega⟩
  · split
    · exact ⟨b, a, by show ¬ (h.2 = 0 ∧ h.1 = 0); omega⟩
    · split
      · exact ⟨by show -3 ≤ -h.1 ∧ -h.1 ≤ 3; omega, b, by show ¬ (-h.1 = 0 ∧ h.2 = 0); omega⟩
      · exact ⟨by show -3 ≤ -h.2 ∧ -h.2 ≤ 3; omega, by show -3 ≤ -h.1 ∧ -h.1 ≤ 3; omega, by show ¬ (-h.2 = 0 ∧ -h.1 = 0); omega⟩
theorem behind_hd {u : WD} {h w : P2} {m : Int} (d : HdOk h) (k : behindP u h m = some w) : HdOk w := by
  unfold behindP at k
  split at k
  · cases k
    exact mirror_hd d _
  · split at k
    · cases k
      exact d
    · split at k
      · cases k
      · split at k
        · cases k
          exact d
        · cases k
          exact mirror_hd d _
/-- what a met time gives -/
structure Met (k : Nat) (us : List WD) (s : FS) (t : P2) : Prop where
  a1 : B 200000 t.1
  a2 : B 200000 t.2
  a3 : B 200000 s.clock.1
  a4 : B 200000 s.clock.2
  ne : s.clock.2 * t.2 ≠ 0
  le : B 8999 (s.clock.2 * t.2)
  pb : PB (spotP s.place s.way t)
  on : onP us (spotP s.place s.way t) ≠ []
  nxt : ∀ n w, HdOk w → FB (k + 1) us ⟨spotP s.place s.way t, w, addP s.clock t, s.many.set n ((s.many.getD n 0) + 1), .going⟩
theorem FB.met {k : Nat} {us : List WD} {s : FS} {t : P2} (f : FB k us s) (hk : k ≤ 48) (o : WsOk us) (h : leastP us s.place s.way = some t) : Met k us s t := by
  obtain ⟨u, hu, ht⟩ := leastP_is h
  have ou := o.all u hu
  have ti := timeToP_is ou f.pos f.hd ht
  have tb := ti.B f.pos
  have p := f.pt (show k ≤ 49 by omega)
  have hw : s.place.2.2.natAbs < 2 ^ (10 + 5 * k) := f.w
  have hx : s.place.1.natAbs < 2 ^ (270 * (k + 1)) := f.x
  have hy : s.place.2.1.natAbs < 2 ^ (270 * (k + 1)) := f.y
  have b2 : B (15 + 5 * k) t.2 := Nat.lt_of_le_of_lt tb.b2 (t_mono (t_mul (show 24 < 2 ^ 5 by decide) hw) (by omega))
  have b1 : B (270 * (k + 1) + 6) t.1 := by
    refine Nat.lt_of_le_of_lt tb.b1 (t_mono (t_add (t_add (n := 270 * (k + 1) + 4) ?_ ?_) (n := 270 * (k + 1) + 5) ?_) (Nat.le_refl _))
    · exact t_mono (t_mul (show 32 < 2 ^ 6 by decide) hw) (by omega)
    · exact t_mono (t_mul (show 4 < 2 ^ 3 by decide) hx) (by omega)
    · exact t_mono (t_mul (show 4 < 2 ^ 3 by decide) hy) (by omega)
  have cl := Cb_le (k + 1) (by omega)
  have cl0 := Cb_le k (by omega)
  have ce : Cb (k + 1) = Cb k + (15 + 5 * k) := rfl
  have cm : B (Cb (k + 1)) (s.clock.2 * t.2) := by
    rw [ce]
    exact f.c2.mul b2
  have ne : s.clock.2 * t.2 ≠ 0 := Int.mul_ne_zero (by have := f.cp; omega) (by have := tb.p2; omega)
  have ok := tmOf_ok (t := s.clock.1 * t.2 + t.1 * s.clock.2) ne
  refine ⟨b1.mono (by omega), b2.mono (by omega), f.c1.mono (by omega), f.c2.mono (by omega), ne, cm.mono (by omega), spot_PB p f.hd ti, leastP_on o f.pos f.hd h, fun n w hdw => ?_⟩
  obtain ⟨s1, s2⟩ := spot_xy (h := s.way) f.pos f.hd tb
  obtain ⟨w1, w2⟩ := spot_w (h := s.way) f.pos ti
  have m : 3 * t.1.natAbs * s.place.2.2.natAbs < 2 ^ (2 + (270 * (k + 1) + 6) + (10 + 5 * k)) := t_mul (t_mul (show 3 < 2 ^ 2 by decide) b1) hw
  refine ⟨w1, ?_, ?_, ?_, hdw, ?_, ?_, ok.pos, ?_, rfl⟩
  · exact Nat.lt_of_le_of_lt w2 (t_mono (t_mul (show 24 < 2 ^ 5 by decide) hw) (by omega))
  · exact Nat.lt_of_le_of_lt s1 (t_mono (t_add (t_mono (t_mul hx b2) (show _ ≤ 2 + (270 * (k + 1) + 6) + (10 + 5 * k) by omega)) m) (by omega))
  · exact Nat.lt_of_le_of_lt s2 (t_mono (t_add (t_mono (t_mul hy b2) (show _ ≤ 2 + (270 * (k + 1) + 6) + (10 + 5 * k) by omega)) m) (by omega))
  · refine Nat.lt_of_le_of_lt ok.le1 (B.mono ((f.c1.mul b2).mono (show _ ≤ 30000 + 300 * k + 265 by omega) |>.add ((b1.mul f.c2).mono (show _ ≤ 30000 + 300 * k + 265 by omega))) (by omega))
  · exact Nat.lt_of_le_of_lt ok.le2 cm
  · show (s.many.set n _).length = us.length
    rw [List.length_set]
    exact f.many
/-- one step keeps the sizes -/
theorem FB.step {k : Nat} {us : List WD} {s s' : FS} {h : Hit} (f : FB k us s) (hk : k ≤ 48) (o : WsOk us) (e : stepP us s = (s', some h)) : FB (k + 1) us s' := by
  unfold stepP at e
  cases hl : leastP us s.place s.way with
  | none => rw [hl] at e; cases e
  | some t =>
    rw [hl] at e
    have m := f.met hk o hl
    have e : stepAt us s t = (s', some h) := e
    unfold stepAt at e
    split at e
    · cases e
    · split at e
      · cases e
      · rename_i n r hn
        split at e
        · rename_i u c hu hc
          unfold hitP at e
          split at e
          · cases e
          · rename_i w hw
            cases e
            have := m.nxt n w (behind_hd f.hd hw)
            rw [List.getD_eq_getElem?_getD, hc] at this
            rw [f.on]
            exact this
        · cases e
end Bw
end

section
set_option Elab.async false
set_option linter.all false
set_option maxRecDepth 100000
set_option maxHeartbeats 4100000
namespace Bw
open PySem L2
/-! ### more readings -/
section
variable {σ : L2.St} {H : Hp} {Q : VK} {QT : Bool → Hp → Prop} {QA : List V → Hp → Prop} {QS : L2.St → Hp → Prop} {D : Ends} {K : PySem.W.Frag} {E : XK} {sp : Sp} {ta tb tc : TE} {tl : TA} {t : TT} {ts : TS} {v x y z o i : V} {xs ys : List V} {f : Str} {p : Addr} {n : Nat}
theorem rd_make {C : Addr} {dvs : List V} (q : tl σ H fun vs H1 => ∀ x dx, H1 x = none → H1 dx = none → dx ≠ x → sp (.ref x :: (vs ++ dvs)) (upd (upd H1 dx (.own x)) x (.ins C dx [])) (fun v H2 => v = .non ∧ Q (.ref x) H2) E) : tMake C sp dvs E tl σ H Q := q
theorem rd_callD {dvs : List V} (q : tl σ H fun vs H1 => sp (vs ++ dvs) H1 Q E) : tCall sp dvs E tl σ H Q := q
theorem rd_bm {T : String} {r : V → List V → Hp → VK → Prop} (q : ta σ H fun x H1 => tyV K T x H1 ∧ tl σ H1 fun vs H2 => r x vs H2 Q) : tBM K T r ta tl σ H Q := q
theorem rd_bm0 {T : String} {r : V → List V → Hp → VK → Prop} (q : ta σ H fun x H1 => tyV K T x H1 ∧ r x [] H1 Q) : tBM0 K T r ta σ H Q := q
theorem rd_ty {B : Prop} (h : LST H x xs) (q : B) : tyV K "list" x H ∧ B := by
  obtain ⟨p, rfl, e⟩ := h
  exact ⟨.inl ⟨rfl, xs, SqL.of e⟩, q⟩
theorem rd_app (h : H p = some (.lst xs)) (hn : xs.length < 1000) (q : Q .non (upd H p (.lst (xs ++ [y])))) : rAppend (.ref p) [y] H Q := ⟨p, xs, y, rfl, rfl, h, Nat.lt_of_lt_of_le hn (Nat.le_of_ble_eq_true rfl), q⟩
theorem rd_clear (h : H p = some (.lst xs)) (q : Q .non (upd H p (.lst []))) : rClear (.ref p) [] H Q := ⟨p, xs, rfl, rfl, h, q⟩
theorem rd_augS {te ti : TE} {tget : V → V → Hp → VK → Prop} {tip : TIp} {tset : TSet} (q : ta σ H fun o H1 => ti σ H1 fun i H2 => tget o i H2 fun x H3 => te σ H3 fun y H4 => tip x y H4 fun z H5 => tset o i z H5 fun H6 => D.nx σ H6) : tAugS ta ti te tget tip tset D σ H := q
theorem rd_getL (h : LST H o xs) (hx : xs[n]? = some z) (q : Q z H) : rGetL K o (.int (n : Nat)) H Q := by
  obtain ⟨p, rfl, e⟩ := h
  exact ⟨p, xs, n, z, rfl, rfl, SqL.of e, hx, q⟩
theorem rd_ipI {g : Int → Int → Int} {a b : Int} (q : Q (.int (g a b)) H) : ipI g (.int a) (.int b) H Q := ⟨a, b, rfl, rfl, q⟩
theorem rd_setL {P : Hp → Prop} (h : H p = some (.lst xs)) (hn : n < xs.length) (q : P (upd H p (.lst (xs.set n v)))) : rSetL (.ref p) (.int (n : Nat)) v H P :=
  ⟨p, xs, n, n, rfl, rfl, h, by
    unfold ixN
    (rw [if_pos (by omega), if_pos (by omega)])
    rfl, q⟩
theorem rd_rep {k : Nat} (h : LST H x [y]) (hk : k ≤ 1000) (q : ∀ p H', Same H H' → H p = none → H' p = some (.lst (List.replicate k y)) → Q (.ref p) H') : rRep x (.int (k : Nat)) H Q := by
  obtain ⟨l, rfl, e⟩ := h
  refine ⟨l, k, [y], rfl, rfl, e, by omega, by omega, ?_, fun p hp => q p _ (same_new hp) hp ?_⟩
  · rw [List.length_singleton, Nat.one_mul, Int.toNat_natCast]
    exact Nat.le_trans hk (Nat.le_of_ble_eq_true rfl)
  · rw [upd_same, Int.toNat_natCast]
    congr 2
    clear q e
    induction k with
    | zero => rfl
    | succ k ih =>
      rw [List.replicate_succ, List.replicate_succ, List.flatten_cons, ih (by omega)]
      rfl
/-- a field of an instance written -/
theorem rd_put {a C dx : Addr} {fs : List (Str × V)} {P : Hp → Prop} (h : H a = some (.ins C dx fs)) (hc : Cls K C) (hn : NoAttr K C f) (hl : fs.length < 1000) (q : P (upd H a (.ins C dx (putF f y fs)))) :
    ∃ a' C dx fs, V.ref a = .ref a' ∧ H a' = some (.ins C dx fs) ∧ Cls K C ∧ NoAttr K C f ∧ fs.length < 1000 ∧ P (upd H a' (.ins C dx (putF f y fs))) := ⟨a, C, dx, fs, rfl, h, hc, hn, hl, q⟩
end
/-! ### heaps that differ at two places -/
def Off (a l : Addr) (H H' : Hp) : Prop := ∀ b o, H b = some o → b ≠ a → b ≠ l → H' b = some o
theorem Off.of {a l : Addr} {H H' : Hp} (e : Same H H') : Off a l H H' := fun b o h _ _ => e b o h
theorem Off.trans {a l : Addr} {H H1 H2 : Hp} (e : Off a l H H1) (f : Off a l H1 H2) : Off a l H H2 := fun b o h n m => f b o (e b o h n m) n m
theorem Off.puta {a l : Addr} {H H1 : Hp} {u : HO} (e : Off a l H H1) : Off a l H (upd H1 a u) := fun b o h n m => by
  rw [upd_ne n]
  exact e b o h n m
theorem Off.putl {a l : Addr} {H H1 : Hp} {u : HO} (e : Off a l H H1) : Off a l H (upd H1 l u) := fun b o h n m => by
  rw [upd_ne m]
  exact e b o h n m
theorem Off.tk {a l C dx : Addr} {fs : List (Str × V)} {ys : List V} {H H' : Hp} (e : Off a l H H') (ha : H a = some (.ins C dx fs)) (hl : H l = some (.lst ys)) : TK H H' := fun b xs h => e b _ h
  (fun z => by
    rw [z, ha] at h
    cases h) fun z => by
    rw [z, hl] at h
    cases h
theorem Off.same {a l : Addr} {H0 H H' : Hp} (e : Off a l H H') (s : Same H0 H) (ha : H0 a = none) (hl : H0 l = none) : Same H0 H' := fun b o h => e b o (s b o h)
  (fun z => by
    rw [z, ha] at h
    cases h) fun z => by
    rw [z, hl] at h
    cases h
/-! ### methods that differ from class to class -/
def Rby (cls : Nat → Addr) (f : Nat → Sp) : Addr → Sp → Prop := fun C s => ∃ k, k ≤ 3 ∧ C = cls k ∧ s = f k
theorem rd_mxR {σ : L2.St} {H : Hp} {Q : VK} {x : V} {m : Str} {tl : TA} {cls : Nat → Addr} {fs : Nat → Sp} {k : Nat} (hk : k ≤ 3) (h : Mth (fun C => C = cls k) H x m) (q : tl σ H fun vs H2 => fs k (x :: vs) H2 Q E0) :
    ∃ a C dx gs s, x = .ref a ∧ H a = some (.ins C dx gs) ∧ gs.lookup m = none ∧ Rby cls fs C s ∧ tl σ H fun vs H2 => s (x :: vs) H2 Q E0 := by
  obtain ⟨a, C, dx, gs, h1, h2, h3, rfl⟩ := h
  exact ⟨a, _, dx, gs, fs k, h1, h2, h3, ⟨k, hk, rfl, rfl⟩, q⟩
end Bw
end

section
set_option Elab.async false
set_option linter.all false
set_option maxRecDepth 100000
set_option maxHeartbeats 4100000
set_option exponentiation.threshold 1000000
namespace Bw
open PySem L2
-- HDR
-- what the heap knows, carried over
local macro_rules | `(tactic| walk_at "hp") => `(tactic| first
  | assumption
  | (refine' TUP.up (tk_of ?e) ?h; (case e => assumption); (case h => walk_at "hp"))
  | (refine' Fld.up ?e ?h; (case e => assumption); (case h => walk_at "hp"))
  | (refine' LST.up ?e ?h; (case e => assumption); (case h => walk_at "hp"))
  | (refine' TUP.up ?e ?h; (case e => assumption); (case h => walk_at "hp"))
  | (refine' Mth.up ?e ?h; (case e => assumption); (case h => walk_at "hp")))
-- one step of a reading
local macro_rules | `(tactic| walk_at "rd") => `(tactic| first
  | (with_reducible refine rd_var rfl ?_)
  | (with_reducible refine rd_c ?_)
  | (with_reducible refine rd_op ?_)
  | (with_reducible refine rd_mulW ?_ ?_)
  | (with_reducible refine rd_add ?_)
  | (with_reducible refine rd_sub ?_)
  | (with_reducible refine rd_cons ?_)
  | (with_reducible refine rd_nil ?_)
  | (with_reducible refine rd_seq ?_)
  | (with_reducible refine rd_asg ?_)
  | (with_reducible refine rd_name ?_)
  | (with_reducible refine rd_call ?_)
  | (with_reducible refine rd_fld ?_)
  | ((with_reducible refine' rd_fldv ?h ?_); (case h => walk_at "hp"))
  | ((with_reducible refine' rd_ixT0 ?h ?e ?_); (case h => walk_at "hp"); (case e => rfl))
  | ((with_reducible refine' rd_ixT1 ?h ?e ?_); (case h => walk_at "hp"); (case e => rfl))
  | ((with_reducible refine' rd_ixT2 ?h ?e ?_); (case h => walk_at "hp"); (case e => rfl))
  | ((with_reducible refine' rd_gtup ?h ?e ?_); (case h => walk_at "hp"); (case e => rfl))
  | (with_reducible refine rd_gcons ?_)
  | (with_reducible refine rd_gnil ?_)
  | (with_reducible refine rd_if ?_)
  | (with_reducible refine rd_test ?_)
  | (with_reducible refine rd_isbl ?_)
  | (with_reducible refine rd_iteT ?_)
  | (with_reducible refine rd_iteF ?_)
  | (with_reducible refine rd_ret ?_)
  | (with_reducible refine rd_next ?_)
  | (with_reducible refine rd_lt ?_)
  | (with_reducible refine rd_gt ?_)
  | (with_reducible refine rd_eqI ?_)
  | (with_reducible refine rd_neI ?_)
  | (with_reducible refine rd_un ?_)
  | (with_reducible refine rd_neg ?_)
  | (with_reducible refine rd_tup ?_)
  | (with_reducible refine rd_lst ?_)
  | (with_reducible refine rd_lstN (Nat.le_of_ble_eq_true rfl) ?_; intro _ _ _ _ _)
  | (with_reducible refine rd_tupN (Nat.le_of_ble_eq_true rfl) ?_; intro _ _ _ _)
  | (with_reducible refine rd_mod ?_ ?_)
  | (with_reducible refine rd_modN ?_ ?_)
  | (with_reducible refine rd_mul ?_ ?_)
  | (with_reducible refine rd_fdiv ?_ ?_)
  | (with_reducible refine rd_fdivZ ?_ ?_ ?_)
  | (with_reducible refine rd_tB ?_)
  | (with_reducible refine rd_CB ?_)
  | (with_reducible refine rd_le ?_)
  | (with_reducible refine rd_ge ?_)
  | (with_reducible refine rd_eqS ?_)
  | (with_reducible refine rd_neS ?_)
  | (with_reducible refine rd_isN0 ?_)
  | (with_reducible refine rd_isN1 ?_)
  | (with_reducible refine rd_notN0 ?_)
  | (with_reducible refine rd_notN1 ?_)
  | (with_reducible refine rd_abs ?_)
  | (with_reducible refine rd_max2 ?_)
  | (with_reducible refine rd_min2 ?_)
  | (with_reducible refine rd_mx ?_)
  | ((with_reducible refine' rd_mx1 ?h ?_); (case h => walk_at "hp"))
  | (with_reducible refine rd_and ?_)
  | (with_reducible refine rd_or ?_)
  | (with_reducible refine rd_not ?_)
  | (with_reducible refine rd_drop ?_)
  | (with_reducible refine rd_chain ?_)
  | (with_reducible refine rd_orV ?_)
  | (with_reducible refine rd_andV ?_)
  | (with_reducible refine rd_notV ?_)
  | (with_reducible refine rd_sfld ?_)
  | (with_reducible refine rd_for ?_)
  | (with_reducible refine rd_iL ?_)
  | (with_reducible refine rd_lc ?_)
  | (with_reducible refine rd_iE ?_)
  | ((with_reducible refine' rd_lenL ?h ?_); (case h => walk_at "hp"))
  | ((with_reducible refine' rd_lenT ?h ?_); (case h => walk_at "hp"))
  | (with_reducible refine rd_yes ?_)
  | (with_reducible refine rd_iZ ?_)
  | (with_reducible refine rd_iT ?_)
  | (with_reducible refine rd_break ?_)
  | ((with_reducible refine' rd_ixT3 ?h ?e ?_); (case h => walk_at "hp"); (case e => rfl))
  | ((with_reducible refine' rd_ixT4 ?h ?e ?_); (case h => walk_at "hp"); (case e => rfl))
  | ((with_reducible refine' rd_ixT5 ?h ?e ?_); (case h => walk_at "hp"); (case e => rfl))
  | ((with_reducible refine' rd_ixL0 ?h ?e ?_); (case h => walk_at "hp"); (case e => rfl))
  | ((with_reducible refine' rd_ixL1 ?h ?e ?_); (case h => walk_at "hp"); (case e => rfl))
  | ((with_reducible refine' rd_ixL2 ?h ?e ?_); (case h => walk_at "hp"); (case e => rfl))
  | ((with_reducible refine' rd_ixL3 ?h ?e ?_); (case h => walk_at "hp"); (case e => rfl))
  | ((with_reducible refine' rd_ixL4 ?h ?e ?_); (case h => walk_at "hp"); (case e => rfl))
  | ((with_reducible refine' rd_ixL5 ?h ?e ?_); (case h => walk_at "hp"); (case e => rfl)))
-- steps, with the callees' promises
local macro_rules | `(tactic| walk_at "go") => `(tactic| repeat first | walk_at "rd" | walk_at "us")
-- every way
local macro_rules | `(tactic| walk_at "all") => `(tactic| repeat' first
  | walk_at "rd"
  | walk_at "us"
  | (with_reducible refine rd_ite (fun _ => ?_) (fun _ => ?_))
  | (with_reducible refine rd_iten (fun _ => ?_) (fun _ => ?_)))
-- END
-- HDR1
local macro_rules | `(tactic| walk_at "us") => `(tactic| first
  | (with_reducible refine us_divisor ?_)
  | (with_reducible refine us_point_of ?_ ?_ ?_; intro _ _ _ _)
  | (with_reducible refine us_time_of ?_ ?_ ?_; intro _ _ _ _))
-- END
-- HDR2
local macro_rules | `(tactic| walk_at "us") => `(tactic| first
  | ((with_reducible refine' us_sooner ?h ?g ?_ ?_ ?_); (case h => walk_at "hp"); (case g => walk_at "hp"))
  | ((with_reducible refine' us_added ?h ?g ?_ ?_ ?_ ?_ ?_); (case h => walk_at "hp"); (case g => walk_at "hp"); intro _ _ _ _)
  | ((with_reducible refine' us_spot_at ?h ?g ?i ?_ ?_ ?_ ?_ ?_); (case h => walk_at "hp"); (case g => walk_at "hp"); (case i => walk_at "hp"); intro _ _ _ _)
  | ((with_reducible refine' us_time_along ?h ?g ?i ?_ ?_ ?_ ?_); (case h => walk_at "hp"); (case g => walk_at "hp"); (case i => walk_at "hp"); intro _ _ _ _))
-- END
-- HDR3
local macro_rules | `(tactic| walk_at "us") => `(tactic| first
  | ((with_reducible refine' us_line_between ?h ?g ?_); (case h => walk_at "hp"); (case g => walk_at "hp"))
  | ((with_reducible refine' us_is_far ?h ?_); (case h => walk_at "hp"))
  | ((with_reducible refine' us_mirrored ?h ?_); (case h => walk_at "hp"); intro _ _ _ _))
local macro_rules | `(tactic| walk_at "hp") => `(tactic| (refine' WAt.up (nl_of ?e) ?h; (case e => assumption); (case h => walk_at "hp")))
local macro_rules | `(tactic| walk_at "hp") => `(tactic| (refine' WAt.up ?e ?h; (case e => assumption); (case h => walk_at "hp")))
-- END
-- HDR4
local macro_rules | `(tactic| walk_at "us") => `(tactic| first
  | ((with_reducible refine' us_line ?h ?_ ?_); (case h => walk_at "hp"))
  | ((with_reducible refine' us_holds ?h ?g ?_ ?_ ?_); (case h => walk_at "hp"); (case g => walk_at "hp"))
  | ((with_reducible refine' us_ends_at ?h ?g ?_); (case h => walk_at "hp"); (case g => walk_at "hp"); intro _ _))
-- END
-- HDR6
local macro_rules | `(tactic| walk_at "us") => `(tactic| first
  | ((with_reducible refine' us_end_ahead ?h ?g ?i ?_ ?_ ?_ ?_); (case h => walk_at "hp"); (case g => walk_at "hp"); (case i => walk_at "hp"); intro _ _ _ _)
  | ((with_reducible refine' us_time_to ?h ?g ?i ?_ ?_ ?_ ?_); (case h => walk_at "hp"); (case g => walk_at "hp"); (case i => walk_at "hp"); intro _ _ _ _))
-- END
-- HDR7
local macro_rules | `(tactic| walk_at "rd") => `(tactic| first
  | (with_reducible refine rd_make ?_)
  | (with_reducible refine rd_bm ?_)
  | (with_reducible refine rd_bm0 ?_)
  | ((with_reducible refine' rd_ty ?h ?_); (case h => walk_at "hp"))
  | (with_reducible refine rd_augS ?_)
  | (with_reducible refine rd_ipI ?_))
local macro_rules | `(tactic| walk_at "rd") => `(tactic| first
  | (with_reducible refine rd_sl ?_)
  | (with_reducible refine rd_nopart ?_)
  | (with_reducible refine rd_part ?_)
  | (with_reducible refine rd_isint ?_)
  | ((with_reducible refine' rd_minT ?h ?g ?_); (case h => walk_at "hp"); (case g => walk_at "hp"); intro _ _)
  | ((with_reducible refine' rd_maxT ?h ?g ?_); (case h => walk_at "hp"); (case g => walk_at "hp"); intro _ _)
  | ((with_reducible refine' rd_ltT ?h ?g ?_); (case h => walk_at "hp"); (case g => walk_at "hp"))
  | ((with_reducible refine' rd_listL ?h ?_); (case h => walk_at "hp"); intro _ _ _ _ _))
-- END
/-! ### flights as objects -/
def FinAt (H : Hp) (v : V) : Fin → Prop
  | .going => v = .non
  | .away => TUP H v [.str "away"]
  | .corner now pt => ∃ nv qv, TUP H v [.str "corner", nv, qv] ∧ T2 H nv now ∧ T3 H qv pt
  | .fell n now pt => ∃ nv qv, TUP H v [.str "fell", .int (n : Nat), nv, qv] ∧ T2 H nv now ∧ T3 H qv pt
theorem FinAt.up {H H' : Hp} {v : V} {e : Fin} (k : TK H H') (h : FinAt H v e) : FinAt H' v e := by
  cases e with
  | going => exact h
  | away => exact TUP.up k h
  | corner now pt =>
    obtain ⟨nv, qv, h1, h2, h3⟩ := h
    exact ⟨nv, qv, h1.up k, h2.up k, h3.up k⟩
  | fell n now pt =>
    obtain ⟨nv, qv, h1, h2, h3⟩ := h
    exact ⟨nv, qv, h1.up k, h2.up k, h3.up k⟩
def HitAt (H : Hp) (v : V) (h : Hit) : Prop := ∃ nv qv wv, TUP H v [.int (h.num : Nat), nv, qv, wv] ∧ T2 H nv h.now ∧ T3 H qv h.pt ∧ T2 H wv h.way
theorem HitAt.up {H H' : Hp} {v : V} {h : Hit} (k : TK H H') (e : HitAt H v h) : HitAt H' v h := by
  obtain ⟨nv, qv, wv, h1, h2, h3, h4⟩ := e
  exact ⟨nv, qv, wv, h1.up k, h2.up k, h3.up k, h4.up k⟩
def HitR (H : Hp) (v : V) : Option Hit → Prop
  | none => v = .non
  | some h => HitAt H v h
/-- the flight s stands at a, its counts at l; the heap H0 is of before it -/
structure FAt (c : Cs) (H0 H : Hp) (a l : Addr) (us : List WD) (s : FS) : Prop where
  na : H0 a = none
  nl : H0 l = none
  same : Same H0 H
  at_ : ∃ dx rv qv hv cv ev, H a = some (.ins c.F dx [("room", rv), ("place", qv), ("way", hv), ("clock", cv), ("many", .ref l), ("ended", ev)]) ∧ H l = some (.lst (s.many.map V.int)) ∧ RAt c H0 rv us ∧ T3 H qv s.place ∧ T2 H hv s.way ∧ T2 H cv s.clock ∧ FinAt H ev s.ended
theorem hu64 {A : Around} {k : Nat} (hr : Room k A) : A.units + 64 < cLine := by
  have := hu65 hr
  omega
theorem putF_ne {f g : Str} {v x : V} {r : List (Str × V)} (h : (g == f) = false) : putF f v ((g, x) :: r) = (g, x) :: putF f v r := by
  have e : putF f v ((g, x) :: r) = if g = f then (g, v) :: r else (g, x) :: putF f v r := rfl
  rw [e, if_neg (ne_of_beq_false h)]
theorem putF_eq {f : Str} {v x : V} {r : List (Str × V)} : putF f v ((f, x) :: r) = (f, v) :: r := by
  have e : putF f v ((f, x) :: r) = if f = f then (f, v) :: r else (f, x) :: putF f v r := rfl
  rw [e, if_pos rfl]
theorem pf_ended (r p h k m e y : V) : putF "ended" y [("room", r), ("place", p), ("way", h), ("clock", k), ("many", m), ("ended", e)] = ([("room", r), ("place", p), ("way", h), ("clock", k), ("many", m), ("ended", y)] : List (Str × V)) := by
  rw [putF_ne (by decide), putF_ne (by decide), putF_ne (by decide), putF_ne (by decide), putF_ne (by decide), putF_eq]
theorem pf_clock (r p h k m e y : V) : putF "clock" y [("room", r), ("place", p), ("way", h), ("clock", k), ("many", m), ("ended", e)] = ([("room", r), ("place", p), ("way", h), ("clock", y), ("many", m), ("ended", e)] : List (Str × V)) := by
  rw [putF_ne (by decide), putF_ne (by decide), putF_ne (by decide), putF_eq]
theorem pf_place (r p h k m e y : V) : putF "place" y [("room", r), ("place", p), ("way", h), ("clock", k), ("many", m), ("ended", e)] = ([("room", r), ("place", y), ("way", h), ("clock", k), ("many", m), ("ended", e)] : List (Str × V)) := by
  rw [putF_ne (by decide), putF_eq]
theorem pf_way (r p h k m e y : V) : putF "way" y [("room", r), ("place", p), ("way", h), ("clock", k), ("many", m), ("ended", e)] = ([("room", r), ("place", p), ("way", y), ("clock", k), ("many", m), ("ended", e)] : List (Str × V)) := by
  rw [putF_ne (by decide), putF_ne (by decide), putF_eq]
section
variable {P : Program} {w : World} {K : PySem.W.Frag} {mg : Str → Option Value} {base : Heap} {c : Cs} {f : Addr} {fd : FuncData}
structure FlA where
  (a l : Addr) (H0 : Hp) (us : List WD) (s : FS)
structure HtA where
  (n : Nat) (u : WD) (m : Int) (now : P2) (pt : P3) (nv qv : V)
def sp_hit_at (c : Cs) : Sp := mkSp (fun a : FlA × HtA => [.ref a.1.a, .int (a.2.n : Nat), a.2.nv, a.2.qv])
  (fun a H => FAt c a.1.H0 H a.1.a a.1.l a.1.us a.1.s ∧ a.1.us[a.2.n]? = some a.2.u ∧ a.1.s.many[a.2.n]? = some a.2.m ∧ T2 H a.2.nv a.2.now ∧ T3 H a.2.qv a.2.pt ∧ WsOk a.1.us)
  fun a H v H' => FAt c a.1.H0 H' a.1.a a.1.l a.1.us (hitP a.1.s a.2.n a.2.u a.2.m a.2.now a.2.pt).1 ∧ Off a.1.a a.1.l H H' ∧ HitR H' v (hitP a.1.s a.2.n a.2.u a.2.m a.2.now a.2.pt).2
abbrev N_Flight_hit_at : List Str := ["self", "number", "now", "point", "way"]
theorem sc_Flight_hit_at : FnScope ["self", "number", "now", "point", "way"] ["self", "number", "now", "point"] (defScope s_Flight_hit_at) := ⟨rfl, rfl, rfl, by decide +kernel, rfl, by decide +kernel, by decide +kernel⟩
theorem ok_hit_at (F : Fun K "hit_at" "Flight.hit_at" s_Flight_hit_at f fd) (T : Txt K mg c) (m_walls : Mts P w K mg base 1 "walls" ["self"] (One (IsR c) (sp_walls c)))
    (m_behind : Mts P w K mg base 3 "behind" ["self", "heading", "count"] (Rby (clsOf c) (sp_behind c))) :
    FnOk P w K mg base CX0 4 f fd ["self", "number", "now", "point"] (sp_hit_at c) := by
  refine F.ok sc_Flight_hit_at (mk_len fun _ => rfl) (fun cdv A outer s H vs Q E hr h => ?_)
  obtain ⟨⟨⟨a, l, H0, us, st⟩, ⟨n, u, m, now, pt, nv, qv⟩⟩, rfl, ⟨⟨na, nl, sm, dx, rv, plv, hv, cv, ev, hi, hl, hR, tp, th, tc, te⟩, hu, hm, tn, tq, o⟩, k⟩ := h
  dsimp only at na nl sm hi hl hR tp th tc te hu hm tn tq o k
  have hk := o.all u (List.mem_of_getElem? hu)
  have hR1 : RAt c H rv us := hR.up sm
  have mw : Mth (IsR c) H rv "walls" := hR1.mth fun _ => rfl
  have g1 : Fld K H (.ref a) "room" rv := ⟨a, _, dx, _, rfl, hi, T.clF, T.roomF, rfl⟩
  have g2 : Fld K H (.ref a) "way" hv := ⟨a, _, dx, _, rfl, hi, T.clF, T.wayF, rfl⟩
  have g3 : Fld K H (.ref a) "many" (.ref l) := ⟨a, _, dx, _, rfl, hi, T.clF, T.manyF, rfl⟩
  refine ⟨_, (pss_cons (ps_set (i := 4) sc_Flight_hit_at.nd rfl (by first | exact Or.inl rfl | exact Or.inr rfl) (pe_mx (pe_ix ix_list (pe_mx0 (pe_fld (pv 0) rfl) m_walls (hr.mono (by decide))) (pv 1) (fun _ _ => rfl)) m_behind (hr.mono (by decide)) (pa_cons (pe_fld (pv 0) rfl) (pa_cons (pe_op op_add (pe_ix ix_list (pe_fld (pv 0) rfl) (pv 1) (fun _ _ => rfl)) pe_int) pa_nil))))
      (pss_cons (ps_if (pt_cmpR op_isNb (pv 4) pe_non (nomark _)) (pss_cons (ps_fld (pv 0) (pe_tup (pa_cons pe_str (pa_cons (pv 1) (pa_cons (pv 2) (pa_cons (pv 3) pa_nil))))) rfl)
      (pss_one (ps_ret pe_non))) pss_nil)
      (pss_cons (ps_augS (pe_fld (pv 0) rfl) (pv 1) get_list pe_int ip_add set_list)
      (pss_cons (ps_fld (pv 0) (pv 2) rfl)
      (pss_cons (ps_fld (pv 0) (pv 3) rfl)
      (pss_cons (ps_fld (pv 0) (pv 4) rfl)
      (pss_one (ps_ret (pe_tup (pa_cons (pv 1) (pa_cons (pv 2) (pa_cons (pv 3) (pa_cons (pv 4) pa_nil))))))))))))), ?_⟩
  walk_at "go"
  refine us_walls hR1 fun wl ws H1 e1 nwl hwl w1 => ?_
  obtain ⟨wv, hw, wu⟩ := Paired.at2 w1 hu
  walk_at "go"
  refine rd_ixL ⟨wl, rfl, hwl⟩ hw ?_
  walk_at "go"
  refine rd_mxR hk.kind (wu.cls (no_behind u)) ?_
  have g2' : Fld K H1 (.ref a) "way" hv := g2.up e1
  have g3' : Fld K H1 (.ref a) "many" (.ref l) := g3.up e1
  have hl1 : LST H1 (.ref l) (st.many.map V.int) := ⟨l, rfl, e1 _ _ hl⟩
  have hmv : (st.many.map V.int)[n]? = some (.int m) := by
    rw [List.getElem?_map, hm]
    rfl
  walk_at "go"
  refine rd_ixL hl1 hmv ?_
  walk_at "go"
  refine us_behind wu (th.up (tk_of e1)) (fun bv H2 e2 hb => ?_) hk
  have e12 := e1.trans e2
  have hi2 := e12 _ _ hi
  have hl2 := e12 _ _ hl
  have al : a ≠ l := fun z => by
    rw [z, hl] at hi
    cases hi
  have k' : ∀ v H' r, hitP st n u m now pt = r → FAt c H0 H' a l us r.1 ∧ Off a l H H' ∧ HitR H' v r.2 → Q v H' := fun v H' r er e => k v H' (by rw [er]; exact e)
  have hp : ∀ r, behindP u st.way (m + 1) = r → hitP st n u m now pt = match r with
      | none => (⟨st.place, st.way, st.clock, st.many, .fell n now pt⟩, none)
      | some w => (⟨pt, w, now, st.many.set n (m + 1), st.ended⟩, some ⟨n, now, pt, w⟩) := fun r e => by
    unfold hitP
    rw [e]
    first | done | (cases r <;> rfl)
  generalize hr0 : behindP u st.way (m + 1) = r at hb
  have hpr := hp r hr0
  cases r with
  | none =>
    have ea : bv = .non := hb
    subst ea
    walk_at "go"
    rename_i tp' H3 e3 tt
    have e123 := e12.trans e3
    refine rd_put (e123 _ _ hi) T.clF T.endedF (Nat.le_of_ble_eq_true rfl) ?_
    rw [pf_ended]
    walk_at "go"
    have of : Off a l H (upd H3 a (.ins c.F dx [("room", rv), ("place", plv), ("way", hv), ("clock", cv), ("many", .ref l), ("ended", .ref tp')])) := (Off.of e123).puta
    have tk := of.tk hi hl
    have tk3 : TK H3 (upd H3 a (.ins c.F dx [("room", rv), ("place", plv), ("way", hv), ("clock", cv), ("many", .ref l), ("ended", .ref tp')])) := TK.put (e123 _ _ hi) fun _ z => by cases z
    refine k' _ _ _ hpr ⟨⟨na, nl, of.same sm na nl, dx, rv, plv, hv, cv, .ref tp', upd_same, ?_, hR, tp.up tk, th.up tk, tc.up tk, nv, qv, tt.up tk3, tn.up tk, tq.up tk⟩, of, rfl⟩
    rw [upd_ne (Ne.symm al)]
    exact e123 _ _ hl
  | some w' =>
    obtain ⟨wp, rfl, ew⟩ := hb
    have g3'' := g3'.up e2
    walk_at "go"
    refine rd_getL ⟨l, rfl, hl2⟩ hmv ?_
    walk_at "go"
    refine rd_setL hl2 (List.getElem?_eq_some_iff.mp hmv).1 ?_
    have s3 : (st.many.map V.int).set n (.int (m + 1)) = (st.many.set n (m + 1)).map V.int := List.map_set.symm
    rw [s3]
    walk_at "go"
    refine rd_put ((upd_ne al).trans hi2) T.clF T.clockF (Nat.le_of_ble_eq_true rfl) ?_
    rw [pf_clock]
    walk_at "go"
    refine rd_put upd_same T.clF T.placeF (Nat.le_of_ble_eq_true rfl) ?_
    rw [pf_place]
    walk_at "go"
    refine rd_put upd_same T.clF T.wayF (Nat.le_of_ble_eq_true rfl) ?_
    rw [pf_way]
    walk_at "go"
    rename_i tp' H3 e3 tt
    refine k' _ _ _ hpr ?_
    have of2 : Off a l H H2 := Off.of e12
    have of : Off a l H H3 := ((((of2.putl).puta).puta).puta).trans (Off.of e3)
    have tk := of.tk hi hl
    have tw : T2 H2 (.ref wp) w' := ⟨wp, rfl, ew⟩
    have of3 : Off a l H2 H3 := (((((Off.of (Same.refl H2)).putl).puta).puta).puta).trans (Off.of e3)
    have tk2 := of3.tk hi2 hl2
    refine ⟨⟨na, nl, of.same sm na nl, dx, rv, qv, .ref wp, nv, ev, e3 _ _ upd_same, e3 _ _ ?_, hR, tq.up tk, tw.up tk2, tn.up tk, te.up tk⟩, of, nv, qv, .ref wp, tt, tn.up tk, tq.up tk, tw.up tk2⟩
    rw [upd_ne (Ne.symm al), upd_ne (Ne.symm al), upd_ne (Ne.symm al)]
    exact upd_same
theorem us_hit_at {a l : Addr} {H0 H : Hp} {us : List WD} {s : FS} {n : Nat} {u : WD} {m : Int} {now : P2} {pt : P3} {nv qv : V} {Q : VK} {E : XK} (h : FAt c H0 H a l us s) (hu : us[n]? = some u) (hm : s.many[n]? = some m) (tn : T2 H nv now) (tp : T3 H qv pt) (o : WsOk us)
    (k : ∀ v H', FAt c H0 H' a l us (hitP s n u m now pt).1 → Off a l H H' → HitR H' v (hitP s n u m now pt).2 → Q v H') : sp_hit_at c [.ref a, .int (n : Nat), nv, qv] H Q E :=
  ⟨(⟨a, l, H0, us, s⟩, ⟨n, u, m, now, pt, nv, qv⟩), rfl, ⟨h, hu, hm, tn, tp, o⟩, fun v H' e => k v H' e.1 e.2.1 e.2.2⟩
def IsF (c : Cs) (C : Addr) : Prop := C = c.F
def sp_step (c : Cs) : Sp := mkSp (fun a : FlA × Nat => [.ref a.1.a]) (fun a H => FAt c a.1.H0 H a.1.a a.1.l a.1.us a.1.s ∧ FB a.2 a.1.us a.1.s ∧ a.2 ≤ 48 ∧ WsOk a.1.us)
  fun a H v H' => FAt c a.1.H0 H' a.1.a a.1.l a.1.us (stepP a.1.us a.1.s).1 ∧ Off a.1.a a.1.l H H' ∧ HitR H' v (stepP a.1.us a.1.s).2
theorem us_step {a l : Addr} {H0 H : Hp} {us : List WD} {s : FS} {n : Nat} {Q : VK} {E : XK} (h : FAt c H0 H a l us s) (b : FB n us s) (hn : n ≤ 48) (o : WsOk us)
    (k : ∀ v H', FAt c H0 H' a l us (stepP us s).1 → Off a l H H' → HitR H' v (stepP us s).2 → Q v H') : sp_step c [.ref a] H Q E :=
  ⟨(⟨a, l, H0, us, s⟩, n), rfl, ⟨h, b, hn, o⟩, fun v H' e => k v H' e.1 e.2.1 e.2.2⟩
abbrev N_Flight_step : List Str := ["self", "met", "now"]
theorem sc_Flight_step : FnScope ["self", "met", "now"] ["self"] (defScope s_Flight_step) := ⟨rfl, rfl, rfl, by decide +kernel, rfl, by decide +kernel, by decide +kernel⟩
theorem ok_step (F : Fun K "step" "Flight.step" s_Flight_step f fd) (T : Txt K mg c) (c_first_met : Cal P w K mg base 6 "first_met" ["room", "P", "heading"] [] (sp_first_met c)) (c_added : Cal P w K mg base 3 "added" ["one", "other"] [] sp_added)
    (m_is_corner : Mts P w K mg base 3 "is_corner" ["self", "P"] (One (IsR c) (sp_is_corner c))) (m_hit_at : Mts P w K mg base 4 "hit_at" ["self", "number", "now", "point"] (One (IsF c) (sp_hit_at c))) :
    FnOk P w K mg base CX0 7 f fd ["self"] (sp_step c) := by
  refine F.ok sc_Flight_step (mk_len fun _ => rfl) (fun cdv A outer s H vs Q E hr h => ?_)
  obtain ⟨⟨⟨a, l, H0, us, st⟩, n⟩, rfl, ⟨⟨na, nl, sm, dx, rv, plv, hv, cv, ev, hi, hl, hR, tp, th, tc, te⟩, fb, hn, o⟩, k⟩ := h
  dsimp only at na nl sm hi hl hR tp th tc te fb hn o k
  have hR1 : RAt c H rv us := hR.up sm
  have g1 : Fld K H (.ref a) "room" rv := ⟨a, _, dx, _, rfl, hi, T.clF, T.roomF, rfl⟩
  have g2 : Fld K H (.ref a) "way" hv := ⟨a, _, dx, _, rfl, hi, T.clF, T.wayF, rfl⟩
  have g3 : Fld K H (.ref a) "place" plv := ⟨a, _, dx, _, rfl, hi, T.clF, T.placeF, rfl⟩
  have g4 : Fld K H (.ref a) "clock" cv := ⟨a, _, dx, _, rfl, hi, T.clF, T.clockF, rfl⟩
  have g5 : Fld K H (.ref a) "ended" ev := ⟨a, _, dx, _, rfl, hi, T.clF, T.endedF, rfl⟩
  have al : a ≠ l := fun z => by
    rw [z, hl] at hi
    cases hi
  have eg : ev = .non := by
    rw [fb.on] at te
    exact te
  subst eg
  refine ⟨_, (pss_cons (ps_if (pt_cmpR op_notNb (pe_fld (pv 0) rfl) pe_non (nomark _)) (pss_one ps_never) pss_nil)
      (pss_cons (ps_set (i := 1) sc_Flight_step.nd rfl (by first | exact Or.inl rfl | exact Or.inr rfl) (pe_cl c_first_met (hr.mono (by decide)) rfl (pa_cons (pe_fld (pv 0) rfl) (pa_cons (pe_fld (pv 0) rfl) (pa_cons (pe_fld (pv 0) rfl) pa_nil)))))
      (pss_cons (ps_if (pt_cmpR op_isNb (pv 1) pe_non (nomark _)) (pss_cons (ps_fld (pv 0) (pe_tup (pa_cons pe_str pa_nil)) rfl)
      (pss_one (ps_ret pe_non))) pss_nil)
      (pss_cons (ps_set (i := 2) sc_Flight_step.nd rfl (by first | exact Or.inl rfl | exact Or.inr rfl) (pe_cl c_added (hr.mono (by decide)) rfl (pa_cons (pe_fld (pv 0) rfl) (pa_cons (pe_ix ix_tup (pv 1) pe_int (fun _ _ => rfl)) pa_nil))))
      (pss_cons (ps_if (pt_val (pe_mx (pe_fld (pv 0) rfl) m_is_corner (hr.mono (by decide)) (pa_cons (pe_ix ix_tup (pv 1) pe_int (fun _ _ => rfl)) pa_nil))) (pss_cons (ps_fld (pv 0) (pe_tup (pa_cons pe_str (pa_cons (pv 2) (pa_cons (pe_ix ix_tup (pv 1) pe_int (fun _ _ => rfl)) pa_nil)))) rfl)
      (pss_one (ps_ret pe_non))) pss_nil)
      (pss_one (ps_ret (pe_mx (pv 0) m_hit_at (hr.mono (by decide)) (pa_cons (pe_ix ix_list (pe_ix ix_tup (pv 1) pe_int (fun _ _ => rfl)) pe_int (fun _ _ => rfl)) (pa_cons (pv 2) (pa_cons (pe_ix ix_tup (pv 1) pe_int (fun _ _ => rfl)) pa_nil))))))))))), ?_⟩
  walk_at "go"
  refine us_first_met hR1 tp th (fun mv H1 e1 hm => ?_) o (fb.pt (by omega)) fb.hd
  have k' : ∀ v H' r, stepP us st = r → FAt c H0 H' a l us r.1 ∧ Off a l H H' ∧ HitR H' v r.2 → Q v H' := fun v H' r er e => k v H' (by rw [er]; exact e)
  generalize hlp : leastP us st.place st.way = r at hm
  cases r with
  | none =>
    have ea : mv = .non := hm
    subst ea
    walk_at "go"
    rename_i tp' H3 e3 tt
    have e123 := e1.trans e3
    refine rd_put (e123 _ _ hi) T.clF T.endedF (Nat.le_of_ble_eq_true rfl) ?_
    rw [pf_ended]
    walk_at "go"
    have of : Off a l H (upd H3 a (.ins c.F dx [("room", rv), ("place", plv), ("way", hv), ("clock", cv), ("many", .ref l), ("ended", .ref tp')])) := (Off.of e123).puta
    have tk := of.tk hi hl
    have tk3 : TK H3 (upd H3 a (.ins c.F dx [("room", rv), ("place", plv), ("way", hv), ("clock", cv), ("many", .ref l), ("ended", .ref tp')])) := TK.put (e123 _ _ hi) fun _ z => by cases z
    refine k' _ _ (⟨st.place, st.way, st.clock, st.many, .away⟩, none) ?_ ⟨⟨na, nl, of.same sm na nl, dx, rv, plv, hv, cv, .ref tp', upd_same, ?_, hR, tp.up tk, th.up tk, tc.up tk, tt.up tk3⟩, of, rfl⟩
    · unfold stepP
      rw [hlp]
    · rw [upd_ne (Ne.symm al)]
      exact e123 _ _ hl
  | some t =>
    obtain ⟨tv, qv, ov, tm, t1, t2, t3⟩ := hm
    have M := fb.met hn o hlp
    have hst : stepP us st = stepAt us st t := by
      unfold stepP
      rw [hlp]
    obtain ⟨mp, rfl, hmp⟩ := tm
    have tm : TUP H1 (.ref mp) [tv, qv, ov] := ⟨mp, rfl, hmp⟩
    have g4' := g4.up e1
    have tc' := tc.up (tk_of e1)
    have mo : Mth (IsR c) H rv "is_corner" := hR1.mth fun _ => rfl
    have B1 : B 200000 st.clock.1 ∧ B 200000 st.clock.2 := ⟨M.a3, M.a4⟩
    have B2 : B 200000 t.1 ∧ B 200000 t.2 := ⟨M.a1, M.a2⟩
    have B3 := M.ne
    have B4 := M.le
    walk_at "go"
    any_goals assumption
    rename_i nv H2 e2 tn
    have t2' := t2.up (tk_of e2)
    refine us_is_corner (hR1.up (e1.trans e2)) t2' (fun H3 e3 => ?_) o M.pb
    have e13 := e2.trans e3
    have e123 := e1.trans e13
    have tn3 := tn.up (tk_of e3)
    have tm3 := tm.up (tk_of e13)
    have t23 := t2.up (tk_of e13)
    have t33 := t3.up e13
    walk_at "go"
    refine rd_iteb (fun hb => ?_) (fun hb => ?_)
    · walk_at "go"
      rename_i tp' H4 e4 tt
      have e1234 := e123.trans e4
      refine rd_put (e1234 _ _ hi) T.clF T.endedF (Nat.le_of_ble_eq_true rfl) ?_
      rw [pf_ended]
      walk_at "go"
      have of : Off a l H (upd H4 a (.ins c.F dx [("room", rv), ("place", plv), ("way", hv), ("clock", cv), ("many", .ref l), ("ended", .ref tp')])) := (Off.of e1234).puta
      have tk := of.tk hi hl
      have tk4 : TK H4 (upd H4 a (.ins c.F dx [("room", rv), ("place", plv), ("way", hv), ("clock", cv), ("many", .ref l), ("ended", .ref tp')])) := TK.put (e1234 _ _ hi) fun _ z => by cases z
      refine k' _ _ (⟨st.place, st.way, st.clock, st.many, .corner (addP st.clock t) (spotP st.place st.way t)⟩, none) ?_
        ⟨⟨na, nl, of.same sm na nl, dx, rv, plv, hv, cv, .ref tp', upd_same, ?_, hR, tp.up tk, th.up tk, tc.up tk, nv, qv, tt.up tk4, (tn3.up (tk_of e4)).up tk4, (t23.up (tk_of e4)).up tk4⟩, of, rfl⟩
      · rw [hst]
        unfold stepAt
        rw [if_pos hb]
      · rw [upd_ne (Ne.symm al)]
        exact e1234 _ _ hl
    · have hon := M.on
      have hmem : ∀ i, i ∈ onP us (spotP st.place st.way t) → ∃ u, us[i]? = some u := fun i hi => by
        obtain ⟨u, hu, _⟩ := onP_mem.mp hi
        exact ⟨u, hu⟩
      generalize hol : onP us (spotP st.place st.way t) = ol at hon hmem t33
      cases ol with
      | nil => exact absurd rfl hon
      | cons i r =>
        obtain ⟨u, hu⟩ := hmem i (List.mem_cons_self ..)
        have hi' : i < st.many.length := by
          rw [fb.many]
          exact (List.getElem?_eq_some_iff.mp hu).1
        have hm : st.many[i]? = some st.many[i] := List.getElem?_eq_getElem hi'
        have mh : Mth (IsF c) H3 (.ref a) "hit_at" := ⟨a, _, dx, _, rfl, e123 _ _ hi, rfl, rfl⟩
        walk_at "go"
        refine us_hit_at ⟨na, nl, sm.trans e123, dx, rv, plv, hv, cv, .non, e123 _ _ hi, e123 _ _ hl, hR, tp.up (tk_of e123), th.up (tk_of e123), tc.up (tk_of e123), te.up (tk_of e123)⟩ hu hm tn3 t23 o fun v' H4 f4 of4 r4 => ?_
        refine k' _ _ _ ?_ ⟨f4, (Off.of e123).trans of4, r4⟩
        rw [hst]
        unfold stepAt
        rw [if_neg (by rw [hb]; decide), hol]
        dsimp only
        rw [hu, hm]
theorem FAt.fld {H0 H : Hp} {a l : Addr} {us : List WD} {s : FS} (T : Txt K mg c) (h : FAt c H0 H a l us s) : ∃ ev, Fld K H (.ref a) "ended" ev ∧ FinAt H ev s.ended := by
  obtain ⟨na, nl, sm, dx, rv, plv, hv, cv, ev, hi, hl, hR, tp, th, tc, te⟩ := h
  exact ⟨ev, ⟨a, _, dx, _, rfl, hi, T.clF, T.endedF, rfl⟩, te⟩
theorem FAt.mth {H0 H : Hp} {a l : Addr} {us : List WD} {s : FS} (h : FAt c H0 H a l us s) {m : Str} (hm : ∀ r p h k m' e : V, List.lookup m ([("room", r), ("place", p), ("way", h), ("clock", k), ("many", m'), ("ended", e)] : List (Str × V)) = none) : Mth (IsF c) H (.ref a) m := by
  obtain ⟨na, nl, sm, dx, rv, plv, hv, cv, ev, hi, hl, hR, tp, th, tc, te⟩ := h
  exact ⟨a, _, dx, _, rfl, hi, hm .., rfl⟩
def sp_outcome (c : Cs) : Sp := mkSp (fun a : FlA => [.ref a.a]) (fun a H => FAt c a.H0 H a.a a.l a.us a.s) fun a H v H' => H' = H ∧ FinAt H v a.s.ended
theorem us_outcome {a l : Addr} {H0 H : Hp} {us : List WD} {s : FS} {Q : VK} {E : XK} (h : FAt c H0 H a l us s) (k : ∀ v, FinAt H v s.ended → Q v H) : sp_outcome c [.ref a] H Q E :=
  ⟨⟨a, l, H0, us, s⟩, rfl, h, fun v H' e => by
    obtain ⟨rfl, e⟩ := e
    exact k v e⟩
abbrev N_Flight_outcome : List Str := ["self"]
theorem sc_Flight_outcome : FnScope ["self"] ["self"] (defScope s_Flight_outcome) := ⟨rfl, rfl, rfl, by decide +kernel, rfl, by decide +kernel, by decide +kernel⟩
theorem ok_outcome (F : Fun K "outcome" "Flight.outcome" s_Flight_outcome f fd) (T : Txt K mg c) : FnOk P w K mg base CX0 1 f fd ["self"] (sp_outcome c) := by
  refine F.ok sc_Flight_outcome (mk_len fun _ => rfl) (fun cdv A outer s H vs Q E hr h => ?_)
  obtain ⟨⟨a, l, H0, us, st⟩, rfl, h1, k⟩ := h
  dsimp only at h1 k
  obtain ⟨ev, g, te⟩ := h1.fld T
  refine ⟨_, (pss_one (ps_ret (pe_fld (pv 0) rfl))), ?_⟩
  walk_at "go"
  exact k _ _ ⟨rfl, te⟩
def startP (us : List WD) (P : P3) (h : P2) : FS := ⟨P, h, (0, 1), List.replicate us.length 0, .going⟩
theorem qf1 (y : V) : putF "room" y [] = ([("room", y)] : List (Str × V)) := rfl
theorem qf2 (r y : V) : putF "place" y [("room", r)] = ([("room", r), ("place", y)] : List (Str × V)) := by
  rw [putF_ne (by decide)]
  rfl
theorem qf3 (r p y : V) : putF "way" y [("room", r), ("place", p)] = ([("room", r), ("place", p), ("way", y)] : List (Str × V)) := by
  rw [putF_ne (by decide), putF_ne (by decide)]
  rfl
theorem qf4 (r p h y : V) : putF "clock" y [("room", r), ("place", p), ("way", h)] = ([("room", r), ("place", p), ("way", h), ("clock", y)] : List (Str × V)) := by
  rw [putF_ne (by decide), putF_ne (by decide), putF_ne (by decide)]
  rfl
theorem qf5 (r p h k y : V) : putF "many" y [("room", r), ("place", p), ("way", h), ("clock", k)] = ([("room", r), ("place", p), ("way", h), ("clock", k), ("many", y)] : List (Str × V)) := by
  rw [putF_ne (by decide), putF_ne (by decide), putF_ne (by decide), putF_ne (by decide)]
  rfl
theorem qf6 (r p h k m y : V) : putF "ended" y [("room", r), ("place", p), ("way", h), ("clock", k), ("many", m)] = ([("room", r), ("place", p), ("way", h), ("clock", k), ("many", m), ("ended", y)] : List (Str × V)) := by
  rw [putF_ne (by decide), putF_ne (by decide), putF_ne (by decide), putF_ne (by decide), putF_ne (by decide)]
  rfl
structure MkA where
  (x dx : Addr) (H0 : Hp) (us : List WD) (P : P3) (h : P2) (rv zv hv : V)
def sp_Flight (c : Cs) : Sp := mkSp (fun a : MkA => [.ref a.x, a.rv, a.zv, a.hv])
  (fun a H => a.H0 a.x = none ∧ Same a.H0 H ∧ H a.x = some (.ins c.F a.dx []) ∧ RAt c a.H0 a.rv a.us ∧ T3 a.H0 a.zv a.P ∧ T2 a.H0 a.hv a.h ∧ onP a.us a.P = [] ∧ WsOk a.us ∧ PB a.P)
  fun a H v H' => v = .non ∧ ∃ l, FAt c a.H0 H' a.x l a.us (startP a.us a.P a.h)
theorem rd_neNil {x y : V} {H : Hp} {Q : VK} (h1 : LST H x []) (h2 : LST H y []) (q : Q (.bl false) H) : rNeD K x y H Q := by
  obtain ⟨p, rfl, e1⟩ := h1
  obtain ⟨p', rfl, e2⟩ := h2
  exact ⟨.list [], .list [], .lst (SqL.of e1) .nil, .lst (SqL.of e2) .nil, by decide, by decide, q⟩
abbrev N_Flight_init : List Str := ["self", "room", "P", "heading", "on"]
theorem sc_Flight_init : FnScope ["self", "room", "P", "heading", "on"] ["self", "room", "P", "heading"] (defScope s_Flight_init) := ⟨rfl, rfl, rfl, by decide +kernel, rfl, by decide +kernel, by decide +kernel⟩
theorem ok_Flight (F : Fun K "__init__" "Flight.__init__" s_Flight_init f fd) (T : Txt K mg c) (m_on : Mts P w K mg base 2 "on" ["self", "P"] (One (IsR c) (sp_on c))) (m_walls : Mts P w K mg base 1 "walls" ["self"] (One (IsR c) (sp_walls c))) :
    FnOk P w K mg base CX0 3 f fd ["self", "room", "P", "heading"] (sp_Flight c) := by
  refine F.ok sc_Flight_init (mk_len fun _ => rfl) (fun cdv A outer s H vs Q E hr h => ?_)
  obtain ⟨⟨a, dx, H0, us, P, h, rv, zv, hv⟩, rfl, ⟨na, sm, hi, hR, tp, th, ho, o, b⟩, k⟩ := h
  dsimp only at na sm hi hR tp th ho o b k
  have hR1 : RAt c H rv us := hR.up sm
  have mo : Mth (IsR c) H rv "on" := hR1.mth fun _ => rfl
  have mw : Mth (IsR c) H rv "walls" := hR1.mth fun _ => rfl
  refine ⟨_, (pss_cons (ps_set (i := 4) sc_Flight_init.nd rfl (by first | exact Or.inl rfl | exact Or.inr rfl) (pe_mx (pv 1) m_on (hr.mono (by decide)) (pa_cons (pv 2) pa_nil)))
      (pss_cons (ps_if (pt_cmpR (op_neD (hu64 hr)) (pv 4) (pe_lst pa_nil) (nomark _)) (pss_one ps_never) pss_nil)
      (pss_cons (ps_fld (pv 0) (pv 1) rfl)
      (pss_cons (ps_fld (pv 0) (pv 2) rfl)
      (pss_cons (ps_fld (pv 0) (pv 3) rfl)
      (pss_cons (ps_fld (pv 0) (pe_tup (pa_cons pe_int (pa_cons pe_int pa_nil))) rfl)
      (pss_cons (ps_fld (pv 0) (pe_op op_rep (pe_lst (pa_cons pe_int pa_nil)) (pe_callB cl_len rfl T.n_len (by decide +kernel) (pa_cons (pe_mx0 (pv 1) m_walls (hr.mono (by decide))) pa_nil))) rfl)
      (pss_one (ps_fld (pv 0) pe_non rfl))))))))), ?_⟩
  walk_at "go"
  refine us_on hR1 (tp.up (tk_of sm)) (fun v1 H1 e1 h1 => ?_) o b
  rw [ho] at h1
  walk_at "go"
  rename_i l2 H2 e2 n2 h2
  refine rd_neNil (h1.up e2) ⟨l2, rfl, h2⟩ ?_
  have e12 := e1.trans e2
  walk_at "go"
  refine rd_put (e12 _ _ hi) T.clF T.roomF (Nat.le_of_ble_eq_true rfl) ?_
  rw [qf1]
  walk_at "go"
  refine rd_put upd_same T.clF T.placeF (Nat.le_of_ble_eq_true rfl) ?_
  rw [qf2]
  walk_at "go"
  refine rd_put upd_same T.clF T.wayF (Nat.le_of_ble_eq_true rfl) ?_
  rw [qf3]
  walk_at "go"
  rename_i t3 H3 e3 h3
  refine rd_put (e3 _ _ upd_same) T.clF T.clockF (Nat.le_of_ble_eq_true rfl) ?_
  rw [qf4]
  have s4 : Same H0 (upd H3 a (.ins c.F dx [("room", rv), ("place", zv), ("way", hv), ("clock", .ref t3)])) := Same.put ((Same.put (Same.put (Same.put (sm.trans e12) na) na) na).trans e3) na
  have tk4 : TK H3 (upd H3 a (.ins c.F dx [("room", rv), ("place", zv), ("way", hv), ("clock", .ref t3)])) := TK.put (e3 _ _ upd_same) fun _ z => by cases z
  have tc4 := h3.up tk4
  have i4 : upd H3 a (.ins c.F dx [("room", rv), ("place", zv), ("way", hv), ("clock", .ref t3)]) a = some (.ins c.F dx [("room", rv), ("place", zv), ("way", hv), ("clock", .ref t3)]) := upd_same
  generalize upd H3 a (.ins c.F dx [("room", rv), ("place", zv), ("way", hv), ("clock", .ref t3)]) = H4 at s4 tc4 i4
  clear tk4 e3 h3
  walk_at "go"
  rename_i l5 H5 e5 n5 h5
  have hR5 : RAt c H5 rv us := hR.up (s4.trans e5)
  have mw5 : Mth (IsR c) H5 rv "walls" := hR5.mth fun _ => rfl
  walk_at "go"
  refine us_walls hR5 fun wl ws H6 e6 nwl hwl w6 => ?_
  have hwl' : LST H6 (.ref wl) ws := ⟨wl, rfl, hwl⟩
  walk_at "go"
  rw [Paired.len w6]
  refine rd_rep (k := us.length) ⟨l5, rfl, e6 _ _ h5⟩ (by have := o.len; omega) fun l H7 e7 n7 h7 => ?_
  have e57 := (e5.trans e6).trans e7
  have nl : H0 l = none := by
    cases z : H0 l with
    | none => rfl
    | some u =>
      have := ((s4.trans e5).trans e6) _ _ z
      rw [n7] at this
      cases this
  have al : l ≠ a := fun z => by
    have := ((e5.trans e6) _ _ i4)
    rw [← z, n7] at this
    cases this
  walk_at "go"
  refine rd_put (e57 _ _ i4) T.clF T.manyF (Nat.le_of_ble_eq_true rfl) ?_
  rw [qf5]
  walk_at "go"
  refine rd_put upd_same T.clF T.endedF (Nat.le_of_ble_eq_true rfl) ?_
  rw [qf6]
  walk_at "go"
  have s9 := Same.put (Same.put (s4.trans e57) na) na (o := .ins c.F dx [("room", rv), ("place", zv), ("way", hv), ("clock", .ref t3), ("many", .ref l), ("ended", .non)]) (H := upd H7 a (.ins c.F dx [("room", rv), ("place", zv), ("way", hv), ("clock", .ref t3), ("many", .ref l)]))
  have tk9 : TK H7 (upd (upd H7 a (.ins c.F dx [("room", rv), ("place", zv), ("way", hv), ("clock", .ref t3), ("many", .ref l)])) a (.ins c.F dx [("room", rv), ("place", zv), ("way", hv), ("clock", .ref t3), ("many", .ref l), ("ended", .non)])) :=
    (TK.put (e57 _ _ i4) fun _ z => by cases z).trans (TK.put upd_same fun _ z => by cases z)
  refine k _ _ ⟨rfl, l, na, nl, s9, dx, rv, zv, hv, .ref t3, .non, upd_same, ?_, hR, tp.up (tk_of s9), th.up (tk_of s9), (tc4.up (tk_of e57)).up tk9, rfl⟩
  rw [upd_ne al, upd_ne al, h7]
  unfold startP
  rw [List.map_replicate]
end
end Bw
end

section
set_option Elab.async false
set_option linter.all false
set_option maxRecDepth 100000
set_option maxHeartbeats 4100000
set_option exponentiation.threshold 1000000
namespace Bw
open PySem L2
-- HDR
-- what the heap knows, carried over
local macro_rules | `(tactic| walk_at "hp") => `(tactic| first
  | assumption
  | (refine' TUP.up (tk_of ?e) ?h; (case e => assumption); (case h => walk_at "hp"))
  | (refine' Fld.up ?e ?h; (case e => assumption); (case h => walk_at "hp"))
  | (refine' LST.up ?e ?h; (case e => assumption); (case h => walk_at "hp"))
  | (refine' TUP.up ?e ?h; (case e => assumption); (case h => walk_at "hp"))
  | (refine' Mth.up ?e ?h; (case e => assumption); (case h => walk_at "hp")))
-- one step of a reading
local macro_rules | `(tactic| walk_at "rd") => `(tactic| first
  | (with_reducible refine rd_var rfl ?_)
  | (with_reducible refine rd_c ?_)
  | (with_reducible refine rd_op ?_)
  | (with_reducible refine rd_mulW ?_ ?_)
  | (with_reducible refine rd_add ?_)
  | (with_reducible refine rd_sub ?_)
  | (with_reducible refine rd_cons ?_)
  | (with_reducible refine rd_nil ?_)
  | (with_reducible refine rd_seq ?_)
  | (with_reducible refine rd_asg ?_)
  | (with_reducible refine rd_name ?_)
  | (with_reducible refine rd_call ?_)
  | (with_reducible refine rd_fld ?_)
  | ((with_reducible refine' rd_fldv ?h ?_); (case h => walk_at "hp"))
  | ((with_reducible refine' rd_ixT0 ?h ?e ?_); (case h => walk_at "hp"); (case e => rfl))
  | ((with_reducible refine' rd_ixT1 ?h ?e ?_); (case h => walk_at "hp"); (case e => rfl))
  | ((with_reducible refine' rd_ixT2 ?h ?e ?_); (case h => walk_at "hp"); (case e => rfl))
  | ((with_reducible refine' rd_gtup ?h ?e ?_); (case h => walk_at "hp"); (case e => rfl))
  | (with_reducible refine rd_gcons ?_)
  | (with_reducible refine rd_gnil ?_)
  | (with_reducible refine rd_if ?_)
  | (with_reducible refine rd_test ?_)
  | (with_reducible refine rd_isbl ?_)
  | (with_reducible refine rd_iteT ?_)
  | (with_reducible refine rd_iteF ?_)
  | (with_reducible refine rd_ret ?_)
  | (with_reducible refine rd_next ?_)
  | (with_reducible refine rd_lt ?_)
  | (with_reducible refine rd_gt ?_)
  | (with_reducible refine rd_eqI ?_)
  | (with_reducible refine rd_neI ?_)
  | (with_reducible refine rd_un ?_)
  | (with_reducible refine rd_neg ?_)
  | (with_reducible refine rd_tup ?_)
  | (with_reducible refine rd_lst ?_)
  | (with_reducible refine rd_lstN (Nat.le_of_ble_eq_true rfl) ?_; intro _ _ _ _ _)
  | (with_reducible refine rd_tupN (Nat.le_of_ble_eq_true rfl) ?_; intro _ _ _ _)
  | (with_reducible refine rd_mod ?_ ?_)
  | (with_reducible refine rd_modN ?_ ?_)
  | (with_reducible refine rd_mul ?_ ?_)
  | (with_reducible refine rd_fdiv ?_ ?_)
  | (with_reducible refine rd_fdivZ ?_ ?_ ?_)
  | (with_reducible refine rd_tB ?_)
  | (with_reducible refine rd_CB ?_)
  | (with_reducible refine rd_le ?_)
  | (with_reducible refine rd_ge ?_)
  | (with_reducible refine rd_eqS ?_)
  | (with_reducible refine rd_neS ?_)
  | (with_reducible refine rd_isN0 ?_)
  | (with_reducible refine rd_isN1 ?_)
  | (with_reducible refine rd_notN0 ?_)
  | (with_reducible refine rd_notN1 ?_)
  | (with_reducible refine rd_abs ?_)
  | (with_reducible refine rd_max2 ?_)
  | (with_reducible refine rd_min2 ?_)
  | (with_reducible refine rd_mx ?_)
  | ((with_reducible refine' rd_mx1 ?h ?_); (case h => walk_at "hp"))
  | (with_reducible refine rd_and ?_)
  | (with_reducible refine rd_or ?_)
  | (with_reducible refine rd_not ?_)
  | (with_reducible refine rd_drop ?_)
  | (with_reducible refine rd_chain ?_)
  | (with_reducible refine rd_orV ?_)
  | (with_reducible refine rd_andV ?_)
  | (with_reducible refine rd_notV ?_)
  | (with_reducible refine rd_sfld ?_)
  | (with_reducible refine rd_for ?_)
  | (with_reducible refine rd_iL ?_)
  | (with_reducible refine rd_lc ?_)
  | (with_reducible refine rd_iE ?_)
  | ((with_reducible refine' rd_lenL ?h ?_); (case h => walk_at "hp"))
  | ((with_reducible refine' rd_lenT ?h ?_); (case h => walk_at "hp"))
  | (with_reducible refine rd_yes ?_)
  | (with_reducible refine rd_iZ ?_)
  | (with_reducible refine rd_iT ?_)
  | (with_reducible refine rd_break ?_)
  | ((with_reducible refine' rd_ixT3 ?h ?e ?_); (case h => walk_at "hp"); (case e => rfl))
  | ((with_reducible refine' rd_ixT4 ?h ?e ?_); (case h => walk_at "hp"); (case e => rfl))
  | ((with_reducible refine' rd_ixT5 ?h ?e ?_); (case h => walk_at "hp"); (case e => rfl))
  | ((with_reducible refine' rd_ixL0 ?h ?e ?_); (case h => walk_at "hp"); (case e => rfl))
  | ((with_reducible refine' rd_ixL1 ?h ?e ?_); (case h => walk_at "hp"); (case e => rfl))
  | ((with_reducible refine' rd_ixL2 ?h ?e ?_); (case h => walk_at "hp"); (case e => rfl))
  | ((with_reducible refine' rd_ixL3 ?h ?e ?_); (case h => walk_at "hp"); (case e => rfl))
  | ((with_reducible refine' rd_ixL4 ?h ?e ?_); (case h => walk_at "hp"); (case e => rfl))
  | ((with_reducible refine' rd_ixL5 ?h ?e ?_); (case h => walk_at "hp"); (case e => rfl)))
-- steps, with the callees' promises
local macro_rules | `(tactic| walk_at "go") => `(tactic| repeat first | walk_at "rd" | walk_at "us")
-- every way
local macro_rules | `(tactic| walk_at "all") => `(tactic| repeat' first
  | walk_at "rd"
  | walk_at "us"
  | (with_reducible refine rd_ite (fun _ => ?_) (fun _ => ?_))
  | (with_reducible refine rd_iten (fun _ => ?_) (fun _ => ?_)))
-- END
-- HDR7
local macro_rules | `(tactic| walk_at "rd") => `(tactic| first
  | (with_reducible refine rd_make ?_)
  | (with_reducible refine rd_bm ?_)
  | (with_reducible refine rd_bm0 ?_)
  | ((with_reducible refine' rd_ty ?h ?_); (case h => walk_at "hp"))
  | (with_reducible refine rd_augS ?_)
  | (with_reducible refine rd_ipI ?_))
local macro_rules | `(tactic| walk_at "rd") => `(tactic| first
  | (with_reducible refine rd_sl ?_)
  | (with_reducible refine rd_nopart ?_)
  | (with_reducible refine rd_part ?_)
  | (with_reducible refine rd_isint ?_)
  | ((with_reducible refine' rd_minT ?h ?g ?_); (case h => walk_at "hp"); (case g => walk_at "hp"); intro _ _)
  | ((with_reducible refine' rd_maxT ?h ?g ?_); (case h => walk_at "hp"); (case g => walk_at "hp"); intro _ _)
  | ((with_reducible refine' rd_ltT ?h ?g ?_); (case h => walk_at "hp"); (case g => walk_at "hp"))
  | ((with_reducible refine' rd_listL ?h ?_); (case h => walk_at "hp"); intro _ _ _ _ _))
-- END
/-- a def of the text, with its defaults -/
def FunX (K : PySem.W.Frag) (x qual : Str) (st : Stmt) (f : Addr) (fd : FuncData) : Prop := ∃ dvs kws, FunD K x qual (defArgs st) (defBody st) (defScope st) dvs kws f fd
theorem FunX.ok {P : Program} {w : World} {K : PySem.W.Frag} {mg : Str → Option Value} {base : Heap} {x qual : Str} {st : Stmt} {f : Addr} {fd : FuncData} {N ps : List Str} {k : Nat} {sp : Sp} (F : FunX K x qual st f fd) (S : FnScope N ps (defScope st)) (len : ∀ vs H Q E, sp vs H Q E → vs.length = ps.length)
    (hbody : ∀ (cdv : Value) (A : Around) (outer : List Env) (s : Shared) (H : Hp) (vs : List V) (Q : VK) (E : XK), Room k (A.deeper (PyProof.Rows.envOfC qual (defScope st) s.heap.objs.size f cdv)) → sp vs H Q E → ∃ t, PSs (cxOf CX0 P w K mg base N qual (defScope st) f cdv A outer s H E).nox (defBody st) t ∧ t { nx := fun _ H' => Q .non H', rt := Q } (start N vs) H) : FnOk P w K mg base CX0 (k + 1) f fd ps sp := by
  obtain ⟨dvs, kws, F⟩ := F
  refine FunD.ok F S len fun cdv A outer s H vs Q E hr hsp => ?_
  (obtain ⟨t, h, q⟩ := hbody cdv A outer s H vs Q E hr hsp)
  exact ⟨t, h.nox, q⟩
theorem FAt.other {c : Cs} {H0 H : Hp} {a l b : Addr} {us : List WD} {s : FS} {xs : List V} {o : HO} (h : FAt c H0 H a l us s) (n0 : H0 b = none) (na : b ≠ a) (nl : b ≠ l) (hb : H b = some (.lst xs)) : FAt c H0 (upd H b o) a l us s := by
  obtain ⟨n1, n2, sm, dx, rv, plv, hv, cv, ev, hi, hl, hR, tp, th, tc, te⟩ := h
  have tk : TK H (upd H b o) := TK.put hb fun _ z => by cases z
  refine ⟨n1, n2, Same.put sm n0, dx, rv, plv, hv, cv, ev, ?_, ?_, hR, tp.up tk, th.up tk, tc.up tk, te.up tk⟩
  · rw [upd_ne (Ne.symm na)]
    exact hi
  · rw [upd_ne (Ne.symm nl)]
    exact hl
theorem FAt.ne {c : Cs} {H0 H : Hp} {a l b : Addr} {us : List WD} {s : FS} (h : FAt c H0 H a l us s) (n : H b = none) : b ≠ a ∧ b ≠ l := by
  obtain ⟨n1, n2, sm, dx, rv, plv, hv, cv, ev, hi, hl, hR, tp, th, tc, te⟩ := h
  (refine ⟨fun z => ?_, fun z => ?_⟩)
  · rw [z, hi] at n
    cases n
  · rw [z, hl] at n
    cases n
theorem FAt.up {c : Cs} {H0 H H' : Hp} {a l : Addr} {us : List WD} {s : FS} (e : Same H H') (h : FAt c H0 H a l us s) : FAt c H0 H' a l us s := by
  obtain ⟨n1, n2, sm, dx, rv, plv, hv, cv, ev, hi, hl, hR, tp, th, tc, te⟩ := h
  have tk := tk_of e
  exact ⟨n1, n2, sm.trans e, dx, rv, plv, hv, cv, ev, e _ _ hi, e _ _ hl, hR, tp.up tk, th.up tk, tc.up tk, te.up tk⟩
theorem FAt.otk {c : Cs} {H0 H H' : Hp} {a l : Addr} {us : List WD} {s : FS} (h : FAt c H0 H a l us s) (of : Off a l H H') : TK H H' := by
  obtain ⟨n1, n2, sm, dx, rv, plv, hv, cv, ev, hi, hl, hR, tp, th, tc, te⟩ := h
  exact of.tk hi hl
abbrev HitsAt (H : Hp) (xs : List V) (hs : List Hit) : Prop := Paired (HitAt H) xs hs
theorem HitsAt.up {H H' : Hp} {xs : List V} {hs : List Hit} (k : TK H H') (h : HitsAt H xs hs) : HitsAt H' xs hs := Paired.up (fun _ _ q => HitAt.up k q) h
/-- what a flight of steps gives, its list at l -/
def OutAt (H : Hp) (l : Addr) (v : V) (r : List Hit × Fin) : Prop := ∃ ev xs, TUP H v [.ref l, ev] ∧ H l = some (.lst xs) ∧ HitsAt H xs r.1 ∧ FinAt H ev r.2
theorem OutAt.up {H H' : Hp} {l : Addr} {v : V} {r : List Hit × Fin} (e : Same H H') (h : OutAt H l v r) : OutAt H' l v r := by
  obtain ⟨ev, xs, h1, h2, h3, h4⟩ := h
  exact ⟨ev, xs, h1.up (tk_of e), e _ _ h2, HitsAt.up (tk_of e) h3, h4.up (tk_of e)⟩
theorem none_of {H H' : Hp} {b : Addr} (e : Same H H') (n : H' b = none) : H b = none := by
  cases z : H b with
  | none => rfl
  | some u =>
    have := e _ _ z
    rw [n] at this
    cases this
section
variable {P : Program} {w : World} {K : PySem.W.Frag} {mg : Str → Option Value} {base : Heap} {c : Cs} {f : Addr} {fd : FuncData}
structure FwA where
  (us : List WD) (P : P3) (h : P2) (rv zv hv : V) (most : Nat)
def sp_flown (c : Cs) : Sp := mkSp (fun a : FwA => [a.rv, a.zv, a.hv, .int (a.most : Nat)])
  (fun a H => RAt c H a.rv a.us ∧ T3 H a.zv a.P ∧ T2 H a.hv a.h ∧ onP a.us a.P = [] ∧ WsOk a.us ∧ PB a.P ∧ FB 0 a.us (startP a.us a.P a.h) ∧ a.most ≤ 49)
  fun a H v H' => Same H H' ∧ ∃ l, H l = none ∧ OutAt H' l v (runP a.us a.most (startP a.us a.P a.h) [])
abbrev N_flown : List Str := ["room", "P", "heading", "most", "flight", "hits", "hit"]
theorem sc_flown : FnScope ["room", "P", "heading", "most", "flight", "hits", "hit"] ["room", "P", "heading", "most"] (defScope s_flown) := ⟨rfl, rfl, rfl, by decide +kernel, rfl, by decide +kernel, by decide +kernel⟩
theorem ok_flown (F : FunX K "flown" "flown" s_flown f fd) (T : Txt K mg c) (c_Flight : Mak P w K mg base 3 c.F "Flight" ["self", "room", "P", "heading"] [] (sp_Flight c)) (m_step : Mts P w K mg base 7 "step" ["self"] (One (IsF c) (sp_step c)))
    (m_outcome : Mts P w K mg base 1 "outcome" ["self"] (One (IsF c) (sp_outcome c))) : FnOk P w K mg base CX0 8 f fd ["room", "P", "heading", "most"] (sp_flown c) := by
  refine F.ok sc_flown (mk_len fun _ => rfl) (fun cdv A outer s H vs Q E hr h => ?_)
  obtain ⟨⟨us, P, h, rv, zv, hv, most⟩, rfl, ⟨hR, tp, th, ho, o, b, fb, hm⟩, k⟩ := h
  dsimp only at hR tp th ho o b fb hm k
  refine ⟨_, (pss_cons (ps_set (i := 4) sc_flown.nd rfl (by first | exact Or.inl rfl | exact Or.inr rfl) (pe_mk c_Flight (hr.mono (by decide)) rfl (pa_cons (pv 0) (pa_cons (pv 1) (pa_cons (pv 2) pa_nil)))))
      (pss_cons (ps_set (i := 5) sc_flown.nd rfl (by first | exact Or.inl rfl | exact Or.inr rfl) (pe_lst pa_nil))
      (pss_cons (ps_while PassesOwn.never (pt_cmpR op_lt (pe_callB cl_len rfl T.n_len (by decide +kernel) (pa_cons (pv 5) pa_nil)) (pv 3) (nomark _)) (pss_cons (ps_set (i := 6) sc_flown.nd rfl (by first | exact Or.inl rfl | exact Or.inr rfl) (pe_mx0 (pv 4) m_step (hr.mono (by decide))))
      (pss_cons (ps_if (pt_cmpR op_isNb (pv 6) pe_non (nomark _)) (pss_one ps_break) pss_nil)
      (pss_one (ps_expr (pe_bm PySem.F.plainAttrs_list PySem.F.slot_list_append PySem.F.type_list_append mt_append (pv 5) (pa_cons (pv 6) pa_nil)))))))
      (pss_one (ps_ret (pe_tup (pa_cons (pv 5) (pa_cons (pe_mx0 (pv 4) m_outcome (hr.mono (by decide))) pa_nil)))))))), ?_⟩
  walk_at "go"
  intro x dx nx ndx ne
  refine ⟨⟨x, dx, H, us, P, h, rv, zv, hv⟩, rfl, ⟨nx, Same.put (Same.put (Same.refl H) ndx) nx, upd_same, hR, tp, th, ho, o, b⟩, ?_⟩
  rintro v H1 ⟨rfl, l, f1⟩
  refine ⟨rfl, ?_⟩
  walk_at "go"
  rename_i lh H2 e2 n2 h2
  dsimp only at f1
  have ⟨nea, nel⟩ := f1.ne n2
  have n0 : H lh = none := none_of f1.same n2
  refine rd_while (fun m σ H' => ∃ s hs xs gv, σ = [some rv, some zv, some hv, some (.int (most : Nat)), some (.ref x), some (.ref lh), gv] ∧ FAt c H H' x l us s ∧ H' lh = some (.lst xs) ∧ HitsAt H' xs hs ∧ hs.length + m = most ∧ FB hs.length us s ∧
      runP us m s hs = runP us most (startP us P h) []) most ⟨_, _, _, none, rfl, f1.up e2, h2, .nil, Nat.zero_add _, fb, rfl⟩ ?_
  rintro m σ H3 ⟨s, hs, xs, gv, rfl, f3, h3, p3, hl, fb3, hrun⟩
  have LN : LST H3 (.ref lh) xs := ⟨lh, rfl, h3⟩
  have ln := Paired.len p3
  walk_at "go"
  refine rd_ite (fun hlt => ?_) (fun hge => ?_)
  · refine rd_turn ?_
    obtain ⟨m, rfl⟩ : ∃ m', m = m' + 1 := ⟨m - 1, by omega⟩
    have ms := f3.mth (m := "step") fun _ _ _ _ _ _ => rfl
    have mo := f3.mth (m := "outcome") fun _ _ _ _ _ _ => rfl
    walk_at "go"
    refine us_step f3 fb3 (by omega) o fun v4 H4 f4 of4 r4 => ?_
    have h4 := of4 _ _ h3 nea nel
    have p4 := HitsAt.up (f3.otk of4) p3
    generalize hst : stepP us s = q at f4 r4
    obtain ⟨s', o'⟩ := q
    cases o' with
    | none =>
      have ea : v4 = .non := r4
      subst ea
      have mo4 := f4.mth (m := "outcome") fun _ _ _ _ _ _ => rfl
      walk_at "go"
      refine us_outcome f4 fun ev he => ?_
      walk_at "go"
      rename_i tq H5 e5 t5
      refine k _ _ ⟨f4.same.trans e5, lh, n0, ?_⟩
      rw [← hrun, show runP us (m + 1) s hs = (hs, s'.ended) by
        show (match stepP us s with
          | (s', none) => (hs, s'.ended)
          | (s', some h) => runP us m s' (hs ++ [h])) = _
        rw [hst]]
      exact ⟨ev, xs, t5, e5 _ _ h4, HitsAt.up (tk_of e5) p4, he.up (tk_of e5)⟩
    | some h' =>
      obtain ⟨nv, qv, wv, ⟨hp, rfl, hh⟩, t1, t2, t3⟩ := r4
      have r4 : HitAt H4 (.ref hp) h' := ⟨nv, qv, wv, ⟨hp, rfl, hh⟩, t1, t2, t3⟩
      have LN4 : LST H4 (.ref lh) xs := ⟨lh, rfl, h4⟩
      walk_at "go"
      refine rd_app h4 (by omega) ?_
      have tk5 : TK H4 (upd H4 lh (.lst (xs ++ [.ref hp]))) := TK.put h4 fun _ z => by cases z
      refine ⟨m, Nat.lt_succ_self m, s', hs ++ [h'], xs ++ [.ref hp], _, rfl, f4.other n0 nea nel h4, upd_same, Paired.snoc (r4.up tk5) (HitsAt.up tk5 p4), ?_, ?_, ?_⟩
      · (rw [List.length_append, List.length_singleton])
        omega
      · (rw [List.length_append, List.length_singleton])
        exact fb3.step (by omega) o hst
      · rw [← hrun]
        show _ = (match stepP us s with
          | (s', none) => (hs, s'.ended)
          | (s', some h) => runP us m s' (hs ++ [h]))
        rw [hst]
  · obtain rfl : m = 0 := by omega
    have mo := f3.mth (m := "outcome") fun _ _ _ _ _ _ => rfl
    walk_at "go"
    refine us_outcome f3 fun ev he => ?_
    walk_at "go"
    rename_i tq H5 e5 t5
    refine k _ _ ⟨f3.same.trans e5, lh, n0, ?_⟩
    rw [← hrun]
    exact ⟨ev, xs, t5, e5 _ _ h3, HitsAt.up (tk_of e5) p3, he.up (tk_of e5)⟩
end
end Bw
end

section
set_option Elab.async false
set_option linter.all false
set_option maxRecDepth 100000
set_option maxHeartbeats 4100000
namespace Bw
open PySem L2
/-! ### slices, tuples compared -/
section
variable {σ : L2.St} {H : Hp} {Q : VK} {K : PySem.W.Frag} {ta : TE} {v x y : V} {xs ys : List V}
theorem rd_sl {r : V → Option Int → Option Int → Hp → VK → Prop} {tl th : TO} (q : ta σ H fun x H1 => tl σ H1 fun l H2 => th σ H2 fun u H3 => r x l u H3 Q) : tSl r ta tl th σ H Q := q
theorem rd_nopart {P : Option Int → Hp → Prop} (q : P none H) : tNoPart σ H P := q
theorem rd_part {P : Option Int → Hp → Prop} (q : ta σ H fun x H1 => ∃ i, x = .int i ∧ P (some i) H1) : tPart ta σ H P := q
theorem rd_isint {i : Int} {P : Int → Prop} (q : P i) : ∃ j, V.int i = .int j ∧ P j := ⟨i, rfl, q⟩
theorem sIx_nat (n d k : Nat) : HT.sIx n d (some (k : Int)) = min k n := by
  unfold HT.sIx
  simp only []
  split <;> omega
theorem rd_cutTo {k : Nat} (h : LST H v xs) (hk : k ≤ xs.length) (q : ∀ p H', Same H H' → H p = none → H' p = some (.lst (xs.take k)) → Q (.ref p) H') : rSlL K v none (some (k : Nat)) H Q := by
  obtain ⟨p, rfl, e⟩ := h
  refine ⟨p, xs, rfl, SqL.of e, fun l hl => q l _ (same_new hl) hl ?_⟩
  rw [upd_same]
  unfold cutV
  rw [sIx_nat, show HT.sIx xs.length 0 none = 0 from rfl, List.drop_zero, Nat.min_eq_left hk, Nat.sub_zero]
theorem rd_cut {i j : Nat} (h : LST H v xs) (q : ∀ p H', Same H H' → H p = none → H' p = some (.lst ((xs.drop (min i xs.length)).take (min j xs.length - min i xs.length))) → Q (.ref p) H') : rSlL K v (some (i : Nat)) (some (j : Nat)) H Q := by
  obtain ⟨p, rfl, e⟩ := h
  refine ⟨p, xs, rfl, SqL.of e, fun l hl => q l _ (same_new hl) hl ?_⟩
  rw [upd_same]
  unfold cutV
  rw [sIx_nat, sIx_nat]
theorem lex_lt2 (p q : P2) : HT.lexLt [p.1, p.2] [q.1, q.2] = lt2 p q := by
  unfold lt2
  rw [HT.lexLt_cons, HT.lexLt_cons, HT.lexLt_nil_nil]
  by_cases h : p.1 = q.1
  · rw [if_pos h, decide_eq_true h, decide_eq_false (show ¬ p.1 < q.1 by omega)]
    by_cases g : p.2 = q.2
    · rw [if_pos g, decide_eq_false (show ¬ p.2 < q.2 by omega)]
      rfl
    · rw [if_neg g]
      simp
  · rw [if_neg h, decide_eq_false h]
    simp
theorem rd_ltT {p q : P2} (h1 : T2 H x p) (h2 : T2 H y q) (k : Q (.bl (lt2 p q)) H) : rLtT K x y H Q := by
  obtain ⟨a, rfl, e1⟩ := h1
  obtain ⟨b, rfl, e2⟩ := h2
  refine ⟨a, b, [p.1, p.2], [q.1, q.2], rfl, rfl, SqT.of e1, SqT.of e2, ?_⟩
  rw [lex_lt2]
  exact k
end
end Bw
end

section
set_option Elab.async false
set_option linter.all false
set_option maxRecDepth 100000
set_option maxHeartbeats 4100000
set_option exponentiation.threshold 1000000
namespace Bw
open PySem L2
-- HDR
-- what the heap knows, carried over
local macro_rules | `(tactic| walk_at "hp") => `(tactic| first
  | assumption
  | (refine' TUP.up (tk_of ?e) ?h; (case e => assumption); (case h => walk_at "hp"))
  | (refine' Fld.up ?e ?h; (case e => assumption); (case h => walk_at "hp"))
  | (refine' LST.up ?e ?h; (case e => assumption); (case h => walk_at "hp"))
  | (refine' TUP.up ?e ?h; (case e => assumption); (case h => walk_at "hp"))
  | (refine' Mth.up ?e ?h; (case e => assumption); (case h => walk_at "hp")))
-- one step of a reading
local macro_rules | `(tactic| walk_at "rd") => `(tactic| first
  | (with_reducible refine rd_var rfl ?_)
  | (with_reducible refine rd_c ?_)
  | (with_reducible refine rd_op ?_)
  | (with_reducible refine rd_mulW ?_ ?_)
  | (with_reducible refine rd_add ?_)
  | (with_reducible refine rd_sub ?_)
  | (with_reducible refine rd_cons ?_)
  | (with_reducible refine rd_nil ?_)
  | (with_reducible refine rd_seq ?_)
  | (with_reducible refine rd_asg ?_)
  | (with_reducible refine rd_name ?_)
  | (with_reducible refine rd_call ?_)
  | (with_reducible refine rd_fld ?_)
  | ((with_reducible refine' rd_fldv ?h ?_); (case h => walk_at "hp"))
  | ((with_reducible refine' rd_ixT0 ?h ?e ?_); (case h => walk_at "hp"); (case e => rfl))
  | ((with_reducible refine' rd_ixT1 ?h ?e ?_); (case h => walk_at "hp"); (case e => rfl))
  | ((with_reducible refine' rd_ixT2 ?h ?e ?_); (case h => walk_at "hp"); (case e => rfl))
  | ((with_reducible refine' rd_gtup ?h ?e ?_); (case h => walk_at "hp"); (case e => rfl))
  | (with_reducible refine rd_gcons ?_)
  | (with_reducible refine rd_gnil ?_)
  | (with_reducible refine rd_if ?_)
  | (with_reducible refine rd_test ?_)
  | (with_reducible refine rd_isbl ?_)
  | (with_reducible refine rd_iteT ?_)
  | (with_reducible refine rd_iteF ?_)
  | (with_reducible refine rd_ret ?_)
  | (with_reducible refine rd_next ?_)
  | (with_reducible refine rd_lt ?_)
  | (with_reducible refine rd_gt ?_)
  | (with_reducible refine rd_eqI ?_)
  | (with_reducible refine rd_neI ?_)
  | (with_reducible refine rd_un ?_)
  | (with_reducible refine rd_neg ?_)
  | (with_reducible refine rd_tup ?_)
  | (with_reducible refine rd_lst ?_)
  | (with_reducible refine rd_lstN (Nat.le_of_ble_eq_true rfl) ?_; intro _ _ _ _ _)
  | (with_reducible refine rd_tupN (Nat.le_of_ble_eq_true rfl) ?_; intro _ _ _ _)
  | (with_reducible refine rd_mod ?_ ?_)
  | (with_reducible refine rd_modN ?_ ?_)
  | (with_reducible refine rd_mul ?_ ?_)
  | (with_reducible refine rd_fdiv ?_ ?_)
  | (with_reducible refine rd_fdivZ ?_ ?_ ?_)
  | (with_reducible refine rd_tB ?_)
  | (with_reducible refine rd_CB ?_)
  | (with_reducible refine rd_le ?_)
  | (with_reducible refine rd_ge ?_)
  | (with_reducible refine rd_eqS ?_)
  | (with_reducible refine rd_neS ?_)
  | (with_reducible refine rd_isN0 ?_)
  | (with_reducible refine rd_isN1 ?_)
  | (with_reducible refine rd_notN0 ?_)
  | (with_reducible refine rd_notN1 ?_)
  | (with_reducible refine rd_abs ?_)
  | (with_reducible refine rd_max2 ?_)
  | (with_reducible refine rd_min2 ?_)
  | (with_reducible refine rd_mx ?_)
  | ((with_reducible refine' rd_mx1 ?h ?_); (case h => walk_at "hp"))
  | (with_reducible refine rd_and ?_)
  | (with_reducible refine rd_or ?_)
  | (with_reducible refine rd_not ?_)
  | (with_reducible refine rd_drop ?_)
  | (with_reducible refine rd_chain ?_)
  | (with_reducible refine rd_orV ?_)
  | (with_reducible refine rd_andV ?_)
  | (with_reducible refine rd_notV ?_)
  | (with_reducible refine rd_sfld ?_)
  | (with_reducible refine rd_for ?_)
  | (with_reducible refine rd_iL ?_)
  | (with_reducible refine rd_lc ?_)
  | (with_reducible refine rd_iE ?_)
  | ((with_reducible refine' rd_lenL ?h ?_); (case h => walk_at "hp"))
  | ((with_reducible refine' rd_lenT ?h ?_); (case h => walk_at "hp"))
  | (with_reducible refine rd_yes ?_)
  | (with_reducible refine rd_iZ ?_)
  | (with_reducible refine rd_iT ?_)
  | (with_reducible refine rd_break ?_)
  | ((with_reducible refine' rd_ixT3 ?h ?e ?_); (case h => walk_at "hp"); (case e => rfl))
  | ((with_reducible refine' rd_ixT4 ?h ?e ?_); (case h => walk_at "hp"); (case e => rfl))
  | ((with_reducible refine' rd_ixT5 ?h ?e ?_); (case h => walk_at "hp"); (case e => rfl))
  | ((with_reducible refine' rd_ixL0 ?h ?e ?_); (case h => walk_at "hp"); (case e => rfl))
  | ((with_reducible refine' rd_ixL1 ?h ?e ?_); (case h => walk_at "hp"); (case e => rfl))
  | ((with_reducible refine' rd_ixL2 ?h ?e ?_); (case h => walk_at "hp"); (case e => rfl))
  | ((with_reducible refine' rd_ixL3 ?h ?e ?_); (case h => walk_at "hp"); (case e => rfl))
  | ((with_reducible refine' rd_ixL4 ?h ?e ?_); (case h => walk_at "hp"); (case e => rfl))
  | ((with_reducible refine' rd_ixL5 ?h ?e ?_); (case h => walk_at "hp"); (case e => rfl)))
-- steps, with the callees' promises
local macro_rules | `(tactic| walk_at "go") => `(tactic| repeat first | walk_at "rd" | walk_at "us")
-- every way
local macro_rules | `(tactic| walk_at "all") => `(tactic| repeat' first
  | walk_at "rd"
  | walk_at "us"
  | (with_reducible refine rd_ite (fun _ => ?_) (fun _ => ?_))
  | (with_reducible refine rd_iten (fun _ => ?_) (fun _ => ?_)))
-- END
-- HDR3
local macro_rules | `(tactic| walk_at "us") => `(tactic| first
  | ((with_reducible refine' us_line_between ?h ?g ?_); (case h => walk_at "hp"); (case g => walk_at "hp"))
  | ((with_reducible refine' us_is_far ?h ?_); (case h => walk_at "hp"))
  | ((with_reducible refine' us_mirrored ?h ?_); (case h => walk_at "hp"); intro _ _ _ _))
local macro_rules | `(tactic| walk_at "hp") => `(tactic| (refine' WAt.up (nl_of ?e) ?h; (case e => assumption); (case h => walk_at "hp")))
local macro_rules | `(tactic| walk_at "hp") => `(tactic| (refine' WAt.up ?e ?h; (case e => assumption); (case h => walk_at "hp")))
-- END
-- HDR4
local macro_rules | `(tactic| walk_at "us") => `(tactic| first
  | ((with_reducible refine' us_line ?h ?_ ?_); (case h => walk_at "hp"))
  | ((with_reducible refine' us_holds ?h ?g ?_ ?_ ?_); (case h => walk_at "hp"); (case g => walk_at "hp"))
  | ((with_reducible refine' us_ends_at ?h ?g ?_); (case h => walk_at "hp"); (case g => walk_at "hp"); intro _ _))
-- END
-- HDR7
local macro_rules | `(tactic| walk_at "rd") => `(tactic| first
  | (with_reducible refine rd_make ?_)
  | (with_reducible refine rd_bm ?_)
  | (with_reducible refine rd_bm0 ?_)
  | ((with_reducible refine' rd_ty ?h ?_); (case h => walk_at "hp"))
  | (with_reducible refine rd_augS ?_)
  | (with_reducible refine rd_ipI ?_))
local macro_rules | `(tactic| walk_at "rd") => `(tactic| first
  | (with_reducible refine rd_sl ?_)
  | (with_reducible refine rd_nopart ?_)
  | (with_reducible refine rd_part ?_)
  | (with_reducible refine rd_isint ?_)
  | ((with_reducible refine' rd_minT ?h ?g ?_); (case h => walk_at "hp"); (case g => walk_at "hp"); intro _ _)
  | ((with_reducible refine' rd_maxT ?h ?g ?_); (case h => walk_at "hp"); (case g => walk_at "hp"); intro _ _)
  | ((with_reducible refine' rd_ltT ?h ?g ?_); (case h => walk_at "hp"); (case g => walk_at "hp"))
  | ((with_reducible refine' rd_listL ?h ?_); (case h => walk_at "hp"); intro _ _ _ _ _))
-- END
/-! ### two walls upon each other -/
def minT (p q : P2) : P2 := if lt2 q p then q else p
def maxT (p q : P2) : P2 := if lt2 p q then q else p
def uponP (u v : WD) : Bool :=
  if lineP u.one u.two = lineP v.one v.two then
    (if (u.two.1 - u.one.1) * (v.one.2 - u.one.2) = (u.two.2 - u.one.2) * (v.one.1 - u.one.1) then lt2 (maxT u.one v.one) (minT u.two v.two) else false)
  else false
section
variable {P : Program} {w : World} {K : PySem.W.Frag} {mg : Str → Option Value} {base : Heap} {c : Cs} {f : Addr} {fd : FuncData}
def sp_are_upon (c : Cs) : Sp := mkSp (fun a : (V × WD) × V × WD => [a.1.1, a.2.1]) (fun a H => WAt c H a.1.1 a.1.2 ∧ WAt c H a.2.1 a.2.2 ∧ WOk a.1.2 ∧ WOk a.2.2) fun a H v H' => v = .bl (uponP a.1.2 a.2.2) ∧ H' = H
theorem us_are_upon {v v' : V} {u u' : WD} {H : Hp} {Q : VK} {E : XK} (h1 : WAt c H v u) (h2 : WAt c H v' u') (o : WOk u) (o' : WOk u') (k : Q (.bl (uponP u u')) H) : sp_are_upon c ([v, v'] ++ []) H Q E :=
  ⟨((v, u), (v', u')), rfl, ⟨h1, h2, o, o'⟩, fun v H' e => by
    obtain ⟨rfl, rfl⟩ := e
    exact k⟩
abbrev N_are_upon : List Str := ["wall", "other", "right", "up"]
theorem sc_are_upon : FnScope ["wall", "other", "right", "up"] ["wall", "other"] (defScope s_are_upon) := ⟨rfl, rfl, rfl, by decide +kernel, rfl, by decide +kernel, by decide +kernel⟩
theorem ok_are_upon (F : Fun K "are_upon" "are_upon" s_are_upon f fd) (T : Txt K mg c) (m_line : Mts P w K mg base 2 "line" ["self"] (One (IsW c) (sp_line c))) : FnOk P w K mg base CX0 3 f fd ["wall", "other"] (sp_are_upon c) := by
  refine F.ok sc_are_upon (mk_len fun _ => rfl) (fun cdv A outer s H vs Q E hr h => ?_)
  obtain ⟨⟨⟨v, u⟩, v', u'⟩, rfl, ⟨h1, h2, o, o'⟩, k⟩ := h
  dsimp only at h1 h2 o o' k
  obtain ⟨o1, o2, f1, t1, f2, t2⟩ := h1.flds T
  obtain ⟨p1, p2, g1, r1, g2, r2⟩ := h2.flds T
  have ml := h1.isw o.kind (no_line u)
  have ml' := h2.isw o'.kind (no_line u')
  refine ⟨_, (pss_cons (ps_if (pt_cmpR op_ne (pe_mx0 (pv 0) m_line (hr.mono (by decide))) (pe_mx0 (pv 1) m_line (hr.mono (by decide))) (nomark _)) (pss_one (ps_ret pe_bl)) pss_nil)
      (pss_cons (ps_set (i := 2) sc_are_upon.nd rfl (by first | exact Or.inl rfl | exact Or.inr rfl) (pe_op op_sub (pe_ix ix_tup (pe_fld (pv 0) rfl) pe_int (fun _ _ => rfl)) (pe_ix ix_tup (pe_fld (pv 0) rfl) pe_int (fun _ _ => rfl))))
      (pss_cons (ps_set (i := 3) sc_are_upon.nd rfl (by first | exact Or.inl rfl | exact Or.inr rfl) (pe_op op_sub (pe_ix ix_tup (pe_fld (pv 0) rfl) pe_int (fun _ _ => rfl)) (pe_ix ix_tup (pe_fld (pv 0) rfl) pe_int (fun _ _ => rfl))))
      (pss_cons (ps_if (pt_cmpR op_ne (pe_op op_mulW (pv 2) (pe_op op_sub (pe_ix ix_tup (pe_fld (pv 1) rfl) pe_int (fun _ _ => rfl)) (pe_ix ix_tup (pe_fld (pv 0) rfl) pe_int (fun _ _ => rfl)))) (pe_op op_mulW (pv 3) (pe_op op_sub (pe_ix ix_tup (pe_fld (pv 1) rfl) pe_int (fun _ _ => rfl)) (pe_ix ix_tup (pe_fld (pv 0) rfl) pe_int (fun _ _ => rfl)))) (nomark _)) (pss_one (ps_ret pe_bl)) pss_nil)
      (pss_one (ps_ret (pe_cmpR (op_ltT (Nat.lt_of_le_of_lt (Nat.le_add_right _ 64) (hu64 hr))) (pe_callB (cl_maxT rfl (hu8 hr)) rfl T.n_max (by decide +kernel) (pa_cons (pe_fld (pv 0) rfl) (pa_cons (pe_fld (pv 1) rfl) pa_nil))) (pe_callB (cl_minT rfl (hu8 hr)) rfl T.n_min (by decide +kernel) (pa_cons (pe_fld (pv 0) rfl) (pa_cons (pe_fld (pv 1) rfl) pa_nil))) (nomark _)))))))), ?_⟩
  have a := o.abs
  have a' := o'.abs
  have k' : ∀ r, uponP u u' = r → Q (.bl r) H := fun r e => k _ _ ⟨by rw [e], rfl⟩
  have sm : ∀ x y : Int, x.natAbs ≤ 8 → y.natAbs ≤ 8 → CMulW x y := fun x y hx hy => (show B 300000 x from B.mono (m := 4) (Nat.lt_of_le_of_lt hx (by decide)) (by decide)).W (B.mono (m := 4) (Nat.lt_of_le_of_lt hy (by decide)) (by decide))
  walk_at "go"
  any_goals assumption
  refine rd_iten (fun hn => ?_) (fun he => ?_)
  · walk_at "go"
    refine k' _ ?_
    unfold uponP
    rw [if_neg hn]
  · walk_at "go"
    rotate_left
    · exact sm _ _ (by omega) (by omega)
    · exact sm _ _ (by omega) (by omega)
    refine rd_iten (fun hn => ?_) (fun he2 => ?_)
    · walk_at "go"
      refine k' _ ?_
      unfold uponP
      rw [if_pos he, if_neg hn]
    · walk_at "go"
      refine k' _ ?_
      unfold uponP
      rw [if_pos he, if_pos he2]
      rfl
/-! ### rooms made -/
structure RmA where
  (x dx : Addr) (H0 : Hp) (us : List WD) (wv : V)
def sp_Room (c : Cs) : Sp := mkSp (fun a : RmA => [.ref a.x, a.wv])
  (fun a H => a.H0 a.x = none ∧ Same a.H0 H ∧ H a.x = some (.ins c.R a.dx []) ∧ (∃ ws, LST a.H0 a.wv ws ∧ WsAt c a.H0 ws a.us) ∧ WsOk a.us ∧ ∀ (i j : Nat) (u v : WD), a.us[i]? = some u → a.us[j]? = some v → i < j → uponP u v = false)
  fun a H v H' => v = .non ∧ Same a.H0 H' ∧ RAt c H' (.ref a.x) a.us
abbrev N_Room_init : List Str := ["self", "walls", "k", "other", "m", "wall"]
theorem sc_Room_init : FnScope ["self", "walls", "k", "other", "m", "wall"] ["self", "walls"] (defScope s_Room_init) := ⟨rfl, rfl, rfl, by decide +kernel, rfl, by decide +kernel, by decide +kernel⟩
theorem ok_Room (F : Fun K "__init__" "Room.__init__" s_Room_init f fd) (T : Txt K mg c) (c_are_upon : Cal P w K mg base 3 "are_upon" ["wall", "other"] [] (sp_are_upon c)) : FnOk P w K mg base CX0 4 f fd ["self", "walls"] (sp_Room c) := by
  refine F.ok sc_Room_init (mk_len fun _ => rfl) (fun cdv A outer s H vs Q E hr h => ?_)
  obtain ⟨⟨a, dx, H0, us, wv⟩, rfl, ⟨na, sm, hi, ⟨ws, l0, w0⟩, o, hu⟩, k⟩ := h
  dsimp only at na sm hi l0 w0 o hu k
  have l1 := l0.up sm
  have w1 := WsAt.up (nl_of sm) w0
  have ln := Paired.len w1
  refine ⟨_, (pss_cons (ps_if (pt_cmpR op_gt (pe_callB cl_len rfl T.n_len (by decide +kernel) (pa_cons (pv 1) pa_nil)) (pe_gi rfl T.g_MOST) (nomark _)) (pss_one ps_never) pss_nil)
      (pss_cons (ps_for PassesOwn.never rfl (pi_enum rfl T.n_enumerate (pa_cons (pv 1) pa_nil)) (pg_tup rfl (pgs_cons (pg_name (i := 2) sc_Room_init.nd rfl (by first | exact Or.inl rfl | exact Or.inr rfl)) (pgs_cons (pg_name (i := 3) sc_Room_init.nd rfl (by first | exact Or.inl rfl | exact Or.inr rfl)) pgs_nil))) (pss_one (ps_for PassesOwn.never rfl (pi_enum rfl T.n_enumerate (pa_cons (pe_slice sl_list (pv 1) po_none (po_some (pv 2))) pa_nil)) (pg_tup rfl (pgs_cons (pg_name (i := 4) sc_Room_init.nd rfl (by first | exact Or.inl rfl | exact Or.inr rfl)) (pgs_cons (pg_name (i := 5) sc_Room_init.nd rfl (by first | exact Or.inl rfl | exact Or.inr rfl)) pgs_nil))) (pss_one (ps_if (pt_val (pe_cl c_are_upon (hr.mono (by decide)) rfl (pa_cons (pv 5) (pa_cons (pv 3) pa_nil)))) (pss_one ps_never) pss_nil)))))
      (pss_one (ps_fld (pv 0) (pe_callTy cl_list rfl T.n_list (by decide +kernel) (pa_cons (pv 1) pa_nil)) rfl)))), ?_⟩
  walk_at "go"
  refine rd_iteN (by have := o.len; omega) ?_
  walk_at "go"
  refine for_E l1 (fun i σ H' => ∃ x1 x2 x3 x4, σ = [some (.ref a), some wv, x1, x2, x3, x4] ∧ Same H H') ⟨none, none, none, none, rfl, Same.refl _⟩ (fun i σ H' q => by
    obtain ⟨_, _, _, _, _, e⟩ := q
    exact l1.up e) ?_ ?_
  · rintro i x T' σ H1 H2 hx ⟨x1, x2, x3, x4, rfl, e1⟩ e2 tt
    have e12 := e1.trans e2
    have l2 := l1.up e12
    obtain ⟨v, hv, wv'⟩ := Paired.at w1 hx
    have il := (List.getElem?_eq_some_iff.mp hx).1
    walk_at "go"
    refine rd_cutTo l2 (by omega) fun cp H3 e3 nc hc => ?_
    walk_at "go"
    have lc : LST H3 (.ref cp) (ws.take i) := ⟨cp, rfl, hc⟩
    have e123 := e12.trans e3
    refine for_E lc (fun j σ H' => ∃ x3 x4, σ = [some (.ref a), some wv, some (.int (i : Nat)), some x, x3, x4] ∧ Same H3 H') ⟨x3, x4, rfl, Same.refl _⟩ (fun i σ H' q => by
      obtain ⟨_, _, _, e⟩ := q
      exact lc.up e) ?_ ?_
    · rintro j y T2' σ H4 H5 hy ⟨x3, x4, rfl, e4⟩ e5 tt2
      have hij : j < i := by
        have := (List.getElem?_eq_some_iff.mp hy).1
        rw [List.length_take] at this
        omega
      rw [List.getElem?_take_of_lt hij] at hy
      obtain ⟨u, hu', wu'⟩ := Paired.at w1 hy
      have e15 := (e123.trans e4).trans e5
      walk_at "go"
      refine us_are_upon (wu'.up (nl_of e15)) (wv'.up (nl_of e15)) (o.all u (List.mem_of_getElem? hu')) (o.all v (List.mem_of_getElem? hv)) ?_
      rw [hu j i u v hu' hv hij]
      walk_at "go"
      exact ⟨_, _, rfl, e4.trans e5⟩
    · rintro σ H4 ⟨x3, x4, rfl, e4⟩
      exact ⟨_, _, _, _, rfl, e123.trans e4⟩
  · rintro σ H1 ⟨x1, x2, x3, x4, rfl, e1⟩
    have l2 := l1.up e1
    walk_at "go"
    rename_i lp H2 e2 n2 h2
    refine rd_put ((e1.trans e2) _ _ hi) T.clR T.someR (Nat.le_of_ble_eq_true rfl) ?_
    walk_at "go"
    have al : lp ≠ a := fun z => by
      have := e1 _ _ hi
      rw [← z, n2] at this
      cases this
    have s3 : Same H0 (upd H2 a (.ins c.R dx (putF "some" (.ref lp) []))) := Same.put ((sm.trans e1).trans e2) na
    exact k _ _ ⟨rfl, s3, a, dx, lp, ws, rfl, upd_same, (upd_ne al).trans h2, WsAt.up (nl_of s3) w0⟩
end
end Bw
end

section
set_option Elab.async false
set_option linter.all false
set_option maxRecDepth 100000
set_option maxHeartbeats 4100000
set_option exponentiation.threshold 1000000
namespace Bw
open PySem L2
-- HDR
-- what the heap knows, carried over
local macro_rules | `(tactic| walk_at "hp") => `(tactic| first
  | assumption
  | (refine' TUP.up (tk_of ?e) ?h; (case e => assumption); (case h => walk_at "hp"))
  | (refine' Fld.up ?e ?h; (case e => assumption); (case h => walk_at "hp"))
  | (refine' LST.up ?e ?h; (case e => assumption); (case h => walk_at "hp"))
  | (refine' TUP.up ?e ?h; (case e => assumption); (case h => walk_at "hp"))
  | (refine' Mth.up ?e ?h; (case e => assumption); (case h => walk_at "hp")))
-- one step of a reading
local macro_rules | `(tactic| walk_at "rd") => `(tactic| first
  | (with_reducible refine rd_var rfl ?_)
  | (with_reducible refine rd_c ?_)
  | (with_reducible refine rd_op ?_)
  | (with_reducible refine rd_mulW ?_ ?_)
  | (with_reducible refine rd_add ?_)
  | (with_reducible refine rd_sub ?_)
  | (with_reducible refine rd_cons ?_)
  | (with_reducible refine rd_nil ?_)
  | (with_reducible refine rd_seq ?_)
  | (with_reducible refine rd_asg ?_)
  | (with_reducible refine rd_name ?_)
  | (with_reducible refine rd_call ?_)
  | (with_reducible refine rd_fld ?_)
  | ((with_reducible refine' rd_fldv ?h ?_); (case h => walk_at "hp"))
  | ((with_reducible refine' rd_ixT0 ?h ?e ?_); (case h => walk_at "hp"); (case e => rfl))
  | ((with_reducible refine' rd_ixT1 ?h ?e ?_); (case h => walk_at "hp"); (case e => rfl))
  | ((with_reducible refine' rd_ixT2 ?h ?e ?_); (case h => walk_at "hp"); (case e => rfl))
  | ((with_reducible refine' rd_gtup ?h ?e ?_); (case h => walk_at "hp"); (case e => rfl))
  | (with_reducible refine rd_gcons ?_)
  | (with_reducible refine rd_gnil ?_)
  | (with_reducible refine rd_if ?_)
  | (with_reducible refine rd_test ?_)
  | (with_reducible refine rd_isbl ?_)
  | (with_reducible refine rd_iteT ?_)
  | (with_reducible refine rd_iteF ?_)
  | (with_reducible refine rd_ret ?_)
  | (with_reducible refine rd_next ?_)
  | (with_reducible refine rd_lt ?_)
  | (with_reducible refine rd_gt ?_)
  | (with_reducible refine rd_eqI ?_)
  | (with_reducible refine rd_neI ?_)
  | (with_reducible refine rd_un ?_)
  | (with_reducible refine rd_neg ?_)
  | (with_reducible refine rd_tup ?_)
  | (with_reducible refine rd_lst ?_)
  | (with_reducible refine rd_lstN (Nat.le_of_ble_eq_true rfl) ?_; intro _ _ _ _ _)
  | (with_reducible refine rd_tupN (Nat.le_of_ble_eq_true rfl) ?_; intro _ _ _ _)
  | (with_reducible refine rd_mod ?_ ?_)
  | (with_reducible refine rd_modN ?_ ?_)
  | (with_reducible refine rd_mul ?_ ?_)
  | (with_reducible refine rd_fdiv ?_ ?_)
  | (with_reducible refine rd_fdivZ ?_ ?_ ?_)
  | (with_reducible refine rd_tB ?_)
  | (with_reducible refine rd_CB ?_)
  | (with_reducible refine rd_le ?_)
  | (with_reducible refine rd_ge ?_)
  | (with_reducible refine rd_eqS ?_)
  | (with_reducible refine rd_neS ?_)
  | (with_reducible refine rd_isN0 ?_)
  | (with_reducible refine rd_isN1 ?_)
  | (with_reducible refine rd_notN0 ?_)
  | (with_reducible refine rd_notN1 ?_)
  | (with_reducible refine rd_abs ?_)
  | (with_reducible refine rd_max2 ?_)
  | (with_reducible refine rd_min2 ?_)
  | (with_reducible refine rd_mx ?_)
  | ((with_reducible refine' rd_mx1 ?h ?_); (case h => walk_at "hp"))
  | (with_reducible refine rd_and ?_)
  | (with_reducible refine rd_or ?_)
  | (with_reducible refine rd_not ?_)
  | (with_reducible refine rd_drop ?_)
  | (with_reducible refine rd_chain ?_)
  | (with_reducible refine rd_orV ?_)
  | (with_reducible refine rd_andV ?_)
  | (with_reducible refine rd_notV ?_)
  | (with_reducible refine rd_sfld ?_)
  | (with_reducible refine rd_for ?_)
  | (with_reducible refine rd_iL ?_)
  | (with_reducible refine rd_lc ?_)
  | (with_reducible refine rd_iE ?_)
  | ((with_reducible refine' rd_lenL ?h ?_); (case h => walk_at "hp"))
  | ((with_reducible refine' rd_lenT ?h ?_); (case h => walk_at "hp"))
  | (with_reducible refine rd_yes ?_)
  | (with_reducible refine rd_iZ ?_)
  | (with_reducible refine rd_iT ?_)
  | (with_reducible refine rd_break ?_)
  | ((with_reducible refine' rd_ixT3 ?h ?e ?_); (case h => walk_at "hp"); (case e => rfl))
  | ((with_reducible refine' rd_ixT4 ?h ?e ?_); (case h => walk_at "hp"); (case e => rfl))
  | ((with_reducible refine' rd_ixT5 ?h ?e ?_); (case h => walk_at "hp"); (case e => rfl))
  | ((with_reducible refine' rd_ixL0 ?h ?e ?_); (case h => walk_at "hp"); (case e => rfl))
  | ((with_reducible refine' rd_ixL1 ?h ?e ?_); (case h => walk_at "hp"); (case e => rfl))
  | ((with_reducible refine' rd_ixL2 ?h ?e ?_); (case h => walk_at "hp"); (case e => rfl))
  | ((with_reducible refine' rd_ixL3 ?h ?e ?_); (case h => walk_at "hp"); (case e => rfl))
  | ((with_reducible refine' rd_ixL4 ?h ?e ?_); (case h => walk_at "hp"); (case e => rfl))
  | ((with_reducible refine' rd_ixL5 ?h ?e ?_); (case h => walk_at "hp"); (case e => rfl)))
-- steps, with the callees' promises
local macro_rules | `(tactic| walk_at "go") => `(tactic| repeat first | walk_at "rd" | walk_at "us")
-- every way
local macro_rules | `(tactic| walk_at "all") => `(tactic| repeat' first
  | walk_at "rd"
  | walk_at "us"
  | (with_reducible refine rd_ite (fun _ => ?_) (fun _ => ?_))
  | (with_reducible refine rd_iten (fun _ => ?_) (fun _ => ?_)))
-- END
-- HDR3
local macro_rules | `(tactic| walk_at "us") => `(tactic| first
  | ((with_reducible refine' us_line_between ?h ?g ?_); (case h => walk_at "hp"); (case g => walk_at "hp"))
  | ((with_reducible refine' us_is_far ?h ?_); (case h => walk_at "hp"))
  | ((with_reducible refine' us_mirrored ?h ?_); (case h => walk_at "hp"); intro _ _ _ _))
local macro_rules | `(tactic| walk_at "hp") => `(tactic| (refine' WAt.up (nl_of ?e) ?h; (case e => assumption); (case h => walk_at "hp")))
local macro_rules | `(tactic| walk_at "hp") => `(tactic| (refine' WAt.up ?e ?h; (case e => assumption); (case h => walk_at "hp")))
-- END
-- HDR4
local macro_rules | `(tactic| walk_at "us") => `(tactic| first
  | ((with_reducible refine' us_line ?h ?_ ?_); (case h => walk_at "hp"))
  | ((with_reducible refine' us_holds ?h ?g ?_ ?_ ?_); (case h => walk_at "hp"); (case g => walk_at "hp"))
  | ((with_reducible refine' us_ends_at ?h ?g ?_); (case h => walk_at "hp"); (case g => walk_at "hp"); intro _ _))
-- END
-- HDR7
local macro_rules | `(tactic| walk_at "rd") => `(tactic| first
  | (with_reducible refine rd_make ?_)
  | (with_reducible refine rd_bm ?_)
  | (with_reducible refine rd_bm0 ?_)
  | ((with_reducible refine' rd_ty ?h ?_); (case h => walk_at "hp"))
  | (with_reducible refine rd_augS ?_)
  | (with_reducible refine rd_ipI ?_))
local macro_rules | `(tactic| walk_at "rd") => `(tactic| first
  | (with_reducible refine rd_sl ?_)
  | (with_reducible refine rd_nopart ?_)
  | (with_reducible refine rd_part ?_)
  | (with_reducible refine rd_isint ?_)
  | ((with_reducible refine' rd_minT ?h ?g ?_); (case h => walk_at "hp"); (case g => walk_at "hp"); intro _ _)
  | ((with_reducible refine' rd_maxT ?h ?g ?_); (case h => walk_at "hp"); (case g => walk_at "hp"); intro _ _)
  | ((with_reducible refine' rd_ltT ?h ?g ?_); (case h => walk_at "hp"); (case g => walk_at "hp"))
  | ((with_reducible refine' rd_listL ?h ?_); (case h => walk_at "hp"); intro _ _ _ _ _))
-- END
theorem rd_isNi {i : Int} {H : Hp} {Q : VK} (q : Q (.bl false) H) : rIsN (.int i) .non H Q := ⟨rfl, q⟩
section
variable {P : Program} {w : World} {K : PySem.W.Frag} {mg : Str → Option Value} {base : Heap} {c : Cs} {f : Addr} {fd : FuncData}
structure WlA where
  (k : Nat) (x dx : Addr) (H0 : Hp) (p q : P2) (v v' : V)
structure WlOk (p q : P2) : Prop where
  line : ∃ l, lineO p q = some l
  far : farP p = false
  far' : farP q = false
def sp_Wall (c : Cs) : Sp := mkSp (fun a : WlA => [.ref a.x, a.v, a.v']) (fun a H => a.H0 a.x = none ∧ Same a.H0 H ∧ H a.x = some (.ins (clsOf c a.k) a.dx []) ∧ T2 a.H0 a.v a.p ∧ T2 a.H0 a.v' a.q ∧ WlOk a.p a.q)
  fun a H v H' => v = .non ∧ Same a.H0 H' ∧ ∃ o t, H' a.x = some (.ins (clsOf c a.k) a.dx [("one", o), ("two", t)]) ∧ T2 H' o (minT a.p a.q) ∧ T2 H' t (maxT a.p a.q)
theorem us_Wall {k : Nat} {x dx : Addr} {H0 H : Hp} {p q : P2} {v v' : V} {Q : VK} {E : XK} (n : H0 x = none) (e : Same H0 H) (hi : H x = some (.ins (clsOf c k) dx [])) (h1 : T2 H0 v p) (h2 : T2 H0 v' q) (o : WlOk p q)
    (kk : ∀ o t H', Same H0 H' → H' x = some (.ins (clsOf c k) dx [("one", o), ("two", t)]) → T2 H' o (minT p q) → T2 H' t (maxT p q) → Q .non H') : sp_Wall c [.ref x, v, v'] H Q E :=
  ⟨⟨k, x, dx, H0, p, q, v, v'⟩, rfl, ⟨n, e, hi, h1, h2, o⟩, fun v H' g => by
    obtain ⟨rfl, g1, o, t, g2, g3, g4⟩ := g
    exact kk o t H' g1 g2 g3 g4⟩
abbrev N_Wall_init : List Str := ["self", "one", "two"]
theorem sc_Wall_init : FnScope ["self", "one", "two"] ["self", "one", "two"] (defScope s_Wall_init) := ⟨rfl, rfl, rfl, by decide +kernel, rfl, by decide +kernel, by decide +kernel⟩
theorem ok_Wall (F : Fun K "__init__" "Wall.__init__" s_Wall_init f fd) (T : Txt K mg c) (c_line_between : Cal P w K mg base 1 "line_between" ["one", "two"] [] sp_line_between) (c_is_far : Cal P w K mg base 1 "is_far" ["spot"] [] sp_is_far) :
    FnOk P w K mg base CX0 2 f fd ["self", "one", "two"] (sp_Wall c) := by
  refine F.ok sc_Wall_init (mk_len fun _ => rfl) (fun cdv A outer s H vs Q E hr h => ?_)
  obtain ⟨⟨kd, a, dx, H0, p, q, v, v'⟩, rfl, ⟨na, sm, hi, h1, h2, ⟨l, hl⟩, f1, f2⟩, k⟩ := h
  dsimp only at na sm hi h1 h2 hl f1 f2 k
  have g1 := h1.up (tk_of sm)
  have g2 := h2.up (tk_of sm)
  refine ⟨_, (pss_cons (ps_if (PW.pt (pw_or (pt_cmpR op_isNb (pe_cl c_line_between (hr.mono (by decide)) rfl (pa_cons (pv 1) (pa_cons (pv 2) pa_nil))) pe_non (nomark _)) (pw_or (pt_val (pe_cl c_is_far (hr.mono (by decide)) rfl (pa_cons (pv 1) pa_nil))) (pw_or1 (pt_val (pe_cl c_is_far (hr.mono (by decide)) rfl (pa_cons (pv 2) pa_nil))))))) (pss_one ps_never) pss_nil)
      (pss_cons (ps_fld (pv 0) (pe_callB (cl_minT rfl (hu8 hr)) rfl T.n_min (by decide +kernel) (pa_cons (pv 1) (pa_cons (pv 2) pa_nil))) rfl)
      (pss_one (ps_fld (pv 0) (pe_callB (cl_maxT rfl (hu8 hr)) rfl T.n_max (by decide +kernel) (pa_cons (pv 1) (pa_cons (pv 2) pa_nil))) rfl)))), ?_⟩
  walk_at "go"
  rw [hl]
  refine rd_isNi ?_
  walk_at "go"
  rw [f1]
  walk_at "go"
  rw [f2]
  walk_at "go"
  rename_i z hz
  refine rd_put hi (cls_of T _) (one_of T _) (Nat.le_of_ble_eq_true rfl) ?_
  have s3 : Same H0 (upd H a (.ins (clsOf c kd) dx (putF "one" z []))) := Same.put sm na
  have g3 := h1.up (tk_of s3)
  have g4 := h2.up (tk_of s3)
  have tk3 : TK H (upd H a (.ins (clsOf c kd) dx (putF "one" z []))) := TK.put hi fun _ z => by cases z
  have hz3 := hz.up tk3
  walk_at "go"
  rename_i z' hz'
  refine rd_put upd_same (cls_of T _) (two_of T _) (Nat.le_of_ble_eq_true rfl) ?_
  walk_at "go"
  have tk4 : TK (upd H a (.ins (clsOf c kd) dx (putF "one" z []))) (upd (upd H a (.ins (clsOf c kd) dx (putF "one" z []))) a (.ins (clsOf c kd) dx (putF "two" z' (putF "one" z [])))) := TK.put upd_same fun _ z => by cases z
  have e : putF "two" z' (putF "one" z []) = ([("one", z), ("two", z')] : List (Str × V)) := by
    rw [show putF "one" z [] = ([("one", z)] : List (Str × V)) from rfl, putF_ne (by decide)]
    rfl
  refine k _ _ ⟨rfl, Same.put s3 na, z, z', ?_, hz3.up tk4, hz'.up tk4⟩
  rw [upd_same, e]
structure DrA where
  (x dx : Addr) (H0 : Hp) (p q : P2) (v v' : V) (ev : Int)
def sp_Door (c : Cs) : Sp := mkSp (fun a : DrA => [.ref a.x, a.v, a.v', .int a.ev]) (fun a H => a.H0 a.x = none ∧ Same a.H0 H ∧ H a.x = some (.ins c.D a.dx []) ∧ T2 a.H0 a.v a.p ∧ T2 a.H0 a.v' a.q ∧ WlOk a.p a.q ∧ 1 ≤ a.ev ∧ a.ev ≤ 9)
  fun a H v H' => v = .non ∧ Same a.H0 H' ∧ WAt c H' (.ref a.x) ⟨3, minT a.p a.q, maxT a.p a.q, a.ev⟩
abbrev N_Door_init : List Str := ["self", "one", "two", "every"]
theorem sc_Door_init : FnScope ["self", "one", "two", "every"] ["self", "one", "two", "every"] (defScope s_Door_init) := ⟨rfl, rfl, rfl, by decide +kernel, rfl, by decide +kernel, by decide +kernel⟩
theorem ok_Door (F : FunX K "__init__" "Door.__init__" s_Door_init f fd) (T : Txt K mg c) (c_Wall_init : Cin P w K mg base 2 "Wall" "__init__" ["self", "one", "two"] (sp_Wall c)) :
    FnOk P w K mg base CX0 3 f fd ["self", "one", "two", "every"] (sp_Door c) := by
  refine F.ok sc_Door_init (mk_len fun _ => rfl) (fun cdv A outer s H vs Q E hr h => ?_)
  obtain ⟨⟨a, dx, H0, p, q, v, v', ev⟩, rfl, ⟨na, sm, hi, h1, h2, ok, ev1, ev2⟩, k⟩ := h
  dsimp only at na sm hi h1 h2 ok ev1 ev2 k
  refine ⟨_, (pss_cons (ps_expr (pe_ci c_Wall_init (hr.mono (by decide)) rfl (pa_cons (pv 0) (pa_cons (pv 1) (pa_cons (pv 2) pa_nil)))))
      (pss_cons (ps_if (PW.pt (pw_or (pt_cmpR op_lt (pv 3) pe_int (nomark _)) (pw_or1 (pt_cmpR op_gt (pv 3) pe_int (nomark _))))) (pss_one ps_never) pss_nil)
      (pss_one (ps_fld (pv 0) (pv 3) rfl)))), ?_⟩
  walk_at "go"
  refine us_Wall (k := 3) na sm hi h1 h2 ok fun o t H1 e1 i1 t1 t2 => ?_
  walk_at "go"
  refine rd_iteN (Int.not_lt.mpr ev1) ?_
  walk_at "go"
  refine rd_iteN (Int.not_lt.mpr ev2) ?_
  walk_at "go"
  refine rd_put i1 (cls_of T _) T.cycD (Nat.le_of_ble_eq_true rfl) ?_
  walk_at "go"
  have e : putF "cycle" (.int ev) ([("one", o), ("two", t)] : List (Str × V)) = ([("one", o), ("two", t), ("cycle", .int ev)] : List (Str × V)) := by
    rw [putF_ne (by decide), putF_ne (by decide)]
    rfl
  have tk4 : TK H1 (upd H1 a (.ins (clsOf c 3) dx (putF "cycle" (.int ev) ([("one", o), ("two", t)] : List (Str × V))))) := TK.put i1 fun _ z => by cases z
  refine k _ _ ⟨rfl, Same.put e1 na, a, dx, o, t, rfl, ?_, t1.up tk4, t2.up tk4⟩
  rw [upd_same, e]
  rfl
end
end Bw
end

section
set_option Elab.async false
set_option linter.all false
set_option maxRecDepth 100000
set_option maxHeartbeats 4100000
set_option exponentiation.threshold 1000000
namespace Bw
open PySem L2
/-! ### the rows of a drawn room -/
structure Row where
  (x y line long num : Int)
def dxL (l : Int) : Int := if l = 0 then 1 else if l = 1 then 1 else if l = 2 then 0 else 1
def dyL (l : Int) : Int := if l = 0 then 0 else if l = 1 then 1 else if l = 2 then 1 else -1
def piecesP (x y line : Int) (n : Nat) : List P3 := (List.range n).map fun (k : Nat) => (x + (k : Int) * dxL line, y + (k : Int) * dyL line, line)
def pcs (r : Row) : List P3 := piecesP r.x r.y r.line r.long.toNat
def reachP (wide high x y line : Int) : Int := if line = 0 then wide - x else if line = 1 then min (wide - x) (high - y) else if line = 2 then high - y else min (wide - x) y
def rowP (n wide high : Int) : Row :=
  let x := n % (wide + 1)
  let y := n / (wide + 1) % (high + 1)
  let line := n / (wide + 1) / (high + 1) % 4
  let m := n / (wide + 1) / (high + 1) / 4
  if reachP wide high x y line = 0 then ⟨x, y, line, 0, 0⟩ else ⟨x, y, line, 1 + m % reachP wide high x y line, m / 7⟩
structure RowOk (r : Row) : Prop where
  x : 0 ≤ r.x ∧ r.x ≤ 4
  y : 0 ≤ r.y ∧ r.y ≤ 4
  line : 0 ≤ r.line ∧ r.line ≤ 3
  long : 0 ≤ r.long ∧ r.long ≤ 4
  num : 0 ≤ r.num
  ex : 0 ≤ r.x + r.long * dxL r.line ∧ r.x + r.long * dxL r.line ≤ 4
  ey : 0 ≤ r.y + r.long * dyL r.line ∧ r.y + r.long * dyL r.line ≤ 4
theorem line_cases {l : Int} (h : 0 ≤ l ∧ l ≤ 3) : l = 0 ∨ l = 1 ∨ l = 2 ∨ l = 3 := by omega
theorem dir0 : dxL 0 = 1 ∧ dyL 0 = 0 := ⟨rfl, rfl⟩
theorem dir1 : dxL 1 = 1 ∧ dyL 1 = 1 := ⟨rfl, rfl⟩
theorem dir2 : dxL 2 = 0 ∧ dyL 2 = 1 := ⟨rfl, rfl⟩
theorem dir3 : dxL 3 = 1 ∧ dyL 3 = -1 := ⟨rfl, rfl⟩
theorem rowP_ok {n wide high : Int} (hn : 0 ≤ n) (hw : 1 ≤ wide ∧ wide ≤ 4) (hh : 1 ≤ high ∧ high ≤ 4) : RowOk (rowP n wide high) := by
  have x0 := Int.emod_nonneg n (show wide + 1 ≠ 0 by omega)
  have x1 := Int.emod_lt_of_pos n (show 0 < wide + 1 by omega)
  have n1 : 0 ≤ n / (wide + 1) := Int.ediv_nonneg hn (by omega)
  have y0 := Int.emod_nonneg (n / (wide + 1)) (show high + 1 ≠ 0 by omega)
  have y1 := Int.emod_lt_of_pos (n / (wide + 1)) (show 0 < high + 1 by omega)
  have n2 : 0 ≤ n / (wide + 1) / (high + 1) := Int.ediv_nonneg n1 (by omega)
  have l0 := Int.emod_nonneg (n / (wide + 1) / (high + 1)) (show (4 : Int) ≠ 0 by omega)
  have l1 := Int.emod_lt_of_pos (n / (wide + 1) / (high + 1)) (show (0 : Int) < 4 by omega)
  have m0 : 0 ≤ n / (wide + 1) / (high + 1) / 4 := Int.ediv_nonneg n2 (by omega)
  unfold rowP
  dsimp only
  generalize n % (wide + 1) = x at *
  generalize n / (wide + 1) % (high + 1) = y at *
  generalize n / (wide + 1) / (high + 1) % 4 = l at *
  generalize n / (wide + 1) / (high + 1) / 4 = m at *
  have lc := line_cases (l := l) (by omega)
  split
  · refine ⟨by dsimp only; omega, by dsimp only; omega, by dsimp only; omega, by dsimp only; omega, by dsimp only; omega, ?_, ?_⟩ <;> (dsimp only; rw [Int.zero_mul]; omega)
  · rename_i hr
    have hr0 : 0 ≤ reachP wide high x y l ∧ reachP wide high x y l ≤ 4 := by
      unfold reachP
      rcases lc with rfl | rfl | rfl | rfl <;> simp <;> omega
    have q0 := Int.emod_nonneg m hr
    have q1 := Int.emod_lt_of_pos m (show 0 < reachP wide high x y l by omega)
    have q2 : 0 ≤ m / 7 := Int.ediv_nonneg m0 (by omega)
    generalize m % reachP wide high x y l = q at *
    refine ⟨by dsimp only; omega, by dsimp only; omega, by dsimp only; omega, by dsimp only; omega, q2, ?_, ?_⟩
    · dsimp only
      unfold reachP at q1
      rcases lc with rfl | rfl | rfl | rfl <;> simp [dxL] at q1 ⊢ <;> omega
    · dsimp only
      unfold reachP at q1
      rcases lc with rfl | rfl | rfl | rfl <;> simp [dyL] at q1 ⊢ <;> omega
/-- the rows kept: no piece of an earlier one -/
def keepStep (acc : List Row) (r : Row) : List Row := if decide (0 < r.long) && (pcs r).all (fun p => !decide (p ∈ acc.flatMap pcs)) then acc ++ [r] else acc
def keepP (rs : List Row) : List Row := rs.foldl keepStep []
def Apart (r s : Row) : Prop := ∀ p ∈ pcs r, p ∉ pcs s
structure KeepOk (acc : List Row) : Prop where
  all : ∀ r ∈ acc, RowOk r ∧ 0 < r.long
  apart : acc.Pairwise Apart
theorem KeepOk.step {acc : List Row} {r : Row} (k : KeepOk acc) (h : RowOk r) : KeepOk (keepStep acc r) := by
  unfold keepStep
  split
  · rename_i hh
    rw [Bool.and_eq_true] at hh
    obtain ⟨h1, h2⟩ := hh
    have h1 := of_decide_eq_true h1
    refine ⟨fun s hs => ?_, ?_⟩
    · rcases List.mem_append.mp hs with q | q
      · exact k.all s q
      · rw [List.mem_singleton] at q
        subst q
        exact ⟨h, h1⟩
    · rw [List.pairwise_append]
      refine ⟨k.apart, List.pairwise_singleton .., fun s hs t ht p hp hq => ?_⟩
      rw [List.mem_singleton] at ht
      subst ht
      have := List.all_eq_true.mp h2 p hq
      rw [Bool.not_eq_true', decide_eq_false_iff_not] at this
      exact this (List.mem_flatMap.mpr ⟨s, hs, hp⟩)
  · exact k
theorem keepFold_ok : ∀ (rs : List Row) (acc : List Row), KeepOk acc → (∀ r ∈ rs, RowOk r) → KeepOk (rs.foldl keepStep acc)
  | [], acc, k, _ => k
  | r :: rs, acc, k, h => keepFold_ok rs _ (k.step (h r (List.mem_cons_self ..))) fun s hs => h s (List.mem_cons_of_mem _ hs)
theorem keepP_ok {rs : List Row} (h : ∀ r ∈ rs, RowOk r) : KeepOk (keepP rs) := keepFold_ok rs [] ⟨fun _ z => (nomatch z), .nil⟩ h
theorem keepFold_len : ∀ (rs acc : List Row), (rs.foldl keepStep acc).length ≤ acc.length + rs.length
  | [], acc => Nat.le_refl _
  | r :: rs, acc => by
    refine Nat.le_trans (keepFold_len rs _) ?_
    have : (keepStep acc r).length ≤ acc.length + 1 := by
      unfold keepStep
      split
      · (rw [List.length_append, List.length_singleton])
        omega
      · omega
    rw [List.length_cons]
    omega
theorem keepP_len (rs : List Row) : (keepP rs).length ≤ rs.length := by
  have := keepFold_len rs []
  rw [List.length_nil] at this
  unfold keepP
  omega
/-! ### fences, walls of them -/
structure Fence where
  (word : Str) (every : Int) (one two : P2)
def wordsL : List Str := ["mirror", "mirror", "glass", "door", "mirror", "hole"]
def numsL : List Int := [2, 3, 2, 1, 4, 5, 6, 7, 8, 9, 3, 2]
def fenceOf (r : Row) : Fence := ⟨wordsL.getD (r.num % 6).toNat "mirror", numsL.getD (r.num / 12 % 12).toNat 2, (r.x, r.y), (r.x + r.long * dxL r.line, r.y + r.long * dyL r.line)⟩
def kindOf (w : Str) : Nat := if w = "glass" then 1 else if w = "hole" then 2 else if w = "door" then 3 else 0
def wdOf (f : Fence) : WD := ⟨kindOf f.word, f.one, f.two, f.every⟩
theorem kindOf_le (w : Str) : kindOf w ≤ 3 := by
  unfold kindOf
  split
  · omega
  · split
    · omega
    · split <;> omega
theorem nums_ok (k : Nat) (h : k < 12) : 1 ≤ numsL.getD k 2 ∧ numsL.getD k 2 ≤ 9 := by
  have : ∀ k < 12, 1 ≤ numsL.getD k 2 ∧ numsL.getD k 2 ≤ 9 := by decide
  exact this k h
theorem row_wok {r : Row} (h : RowOk r) (hl : 0 < r.long) : WOk (wdOf (fenceOf r)) := by
  have q0 := Int.emod_nonneg (r.num / 12) (show (12 : Int) ≠ 0 by omega)
  have q1 := Int.emod_lt_of_pos (r.num / 12) (show (0 : Int) < 12 by omega)
  refine ⟨kindOf_le _, nums_ok _ (by omega), h.x, h.y, h.ex, h.ey, r.long, by omega, ?_⟩
  show ((r.x + r.long * dxL r.line = r.x + r.long ∧ r.y + r.long * dyL r.line = r.y) ∨ (r.x + r.long * dxL r.line = r.x + r.long ∧ r.y + r.long * dyL r.line = r.y + r.long) ∨ (r.x + r.long * dxL r.line = r.x ∧ r.y + r.long * dyL r.line = r.y + r.long) ∨
    (r.x + r.long * dxL r.line = r.x + r.long ∧ r.y + r.long * dyL r.line = r.y - r.long))
  rcases line_cases h.line with e | e | e | e <;> rw [e]
  · left
    simp [dxL, dyL]
  · right; left
    simp [dxL, dyL]
  · right; right; left
    simp [dxL, dyL]
  · right; right; right
    simp [dxL, dyL]
    omega
/-- its first end is the smaller one -/
theorem row_lt {r : Row} (h : RowOk r) (hl : 0 < r.long) : lt2 (fenceOf r).one (fenceOf r).two = true ∧ lt2 (fenceOf r).two (fenceOf r).one = false := by
  unfold lt2 fenceOf
  dsimp only
  rcases line_cases h.line with e | e | e | e <;> rw [e] <;> simp [dxL, dyL] <;> omega
theorem lineP_row {r : Row} (h : RowOk r) (hl : 0 < r.long) : lineP (fenceOf r).one (fenceOf r).two = r.line := by
  unfold lineP fenceOf
  dsimp only
  rcases line_cases h.line with e | e | e | e <;> rw [e] <;> simp [dxL, dyL] <;> omega
theorem mem_pcs {r : Row} {p : P3} (h : RowOk r) : p ∈ pcs r ↔ ∃ k : Int, 0 ≤ k ∧ k < r.long ∧ p = (r.x + k * dxL r.line, r.y + k * dyL r.line, r.line) := by
  unfold pcs piecesP
  rw [List.mem_map]
  constructor
  · rintro ⟨k, hk, rfl⟩
    rw [List.mem_range] at hk
    exact ⟨k, by omega, by have := h.long; omega, rfl⟩
  · rintro ⟨k, k0, k1, rfl⟩
    refine ⟨k.toNat, List.mem_range.mpr (by omega), ?_⟩
    rw [Int.toNat_of_nonneg k0]
/-- walls of rows apart are not upon each other -/
theorem apart_upon {r s : Row} (h : RowOk r) (hl : 0 < r.long) (h' : RowOk s) (hl' : 0 < s.long) (a : Apart r s) : uponP (wdOf (fenceOf r)) (wdOf (fenceOf s)) = false := by
  have e1 : lineP (wdOf (fenceOf r)).one (wdOf (fenceOf r)).two = r.line := lineP_row h hl
  have e2 : lineP (wdOf (fenceOf s)).one (wdOf (fenceOf s)).two = s.line := lineP_row h' hl'
  unfold uponP
  rw [e1, e2]
  split
  · rename_i el
    split
    · rename_i ec
      cases z : lt2 (maxT (wdOf (fenceOf r)).one (wdOf (fenceOf s)).one) (minT (wdOf (fenceOf r)).two (wdOf (fenceOf s)).two) with
      | false => rfl
      | true =>
        exfalso
        obtain ⟨x, y, l, n, m⟩ := r
        obtain ⟨x', y', l', n', m'⟩ := s
        dsimp only [wdOf, fenceOf] at *
        subst el
        -- where the second begins on the first's line
        obtain ⟨t, tx, ty⟩ : ∃ t : Int, x' = x + t * dxL l ∧ y' = y + t * dyL l := by
          have hn : n ≠ 0 := by
            have : 0 < n := hl
            omega
          have ec2 : n * (dxL l * (y' - y)) = n * (dyL l * (x' - x)) := by
            generalize dxL l = a at *
            generalize dyL l = b at *
            have : (x + n * a - x) * (y' - y) = (y + n * b - y) * (x' - x) := ec
            rw [show x + n * a - x = n * a by omega, show y + n * b - y = n * b by omega] at this
            rw [← Int.mul_assoc, ← Int.mul_assoc]
            exact this
          have ec3 := Int.eq_of_mul_eq_mul_left hn ec2
          rcases line_cases h.line with e | e | e | e <;> (dsimp only at e; subst e)
          · rw [dir0.1, dir0.2] at ec3
            exact ⟨x' - x, by rw [dir0.1]; omega, by rw [dir0.2]; omega⟩
          · rw [dir1.1, dir1.2] at ec3
            exact ⟨x' - x, by rw [dir1.1]; omega, by rw [dir1.2]; omega⟩
          · rw [dir2.1, dir2.2] at ec3
            exact ⟨y' - y, by rw [dir2.1]; omega, by rw [dir2.2]; omega⟩
          · rw [dir3.1, dir3.2] at ec3
            exact ⟨x' - x, by rw [dir3.1]; omega, by rw [dir3.2]; omega⟩
        subst tx
        subst ty
        have key : ∃ k : Int, (0 ≤ k ∧ k < n) ∧ (t ≤ k ∧ k < t + n') := by
          refine ⟨max 0 t, ?_⟩
          unfold maxT minT lt2 at z
          rcases line_cases h.line with e | e | e | e <;> (dsimp only at e; subst e)
          all_goals
            simp [dxL, dyL] at z
            revert z
            repeat' split
            all_goals (intro z; try simp at z; omega)
        obtain ⟨k, ⟨k0, k1⟩, k2, k3⟩ := key
        refine a (x + k * dxL l, y + k * dyL l, l) ((mem_pcs h).mpr ⟨k, k0, k1, rfl⟩) ((mem_pcs h').mpr ⟨k - t, by omega, by show k - t < n'; omega, ?_⟩)
        dsimp only
        have a1 : ∀ d : Int, t * d + (k - t) * d = k * d := fun d => by rw [← Int.add_mul]; congr 1; omega
        rw [Int.add_assoc, a1, Int.add_assoc, a1]
    · rfl
  · rfl
end Bw
end

section
set_option Elab.async false
set_option linter.all false
set_option maxRecDepth 100000
set_option maxHeartbeats 4100000
set_option exponentiation.threshold 1000000
namespace Bw
open PySem L2
/-! ### where a flight begins -/
def onLaw (f : Fence) (P : P3) : Bool :=
  if (f.one.1 * P.2.2 - P.1) * (f.two.2 * P.2.2 - P.2.1) = (f.one.2 * P.2.2 - P.2.1) * (f.two.1 * P.2.2 - P.1) then
    decide ((f.one.1 * P.2.2 - P.1) * (f.two.1 * P.2.2 - P.1) + (f.one.2 * P.2.2 - P.2.1) * (f.two.2 * P.2.2 - P.2.1) ≤ 0) else false
theorem sq_nonneg (a : Int) : 0 ≤ a * a := by
  rcases Int.lt_or_le a 0 with h | h
  · exact Int.mul_nonneg_of_nonpos_of_nonpos (by omega) (by omega)
  · exact Int.mul_nonneg h h
theorem sq_zero {a b : Int} (h : a * a + b * b ≤ 0) : a = 0 ∧ b = 0 := by
  have h1 := sq_nonneg a
  have h2 := sq_nonneg b
  have e1 : a * a = 0 := by omega
  have e2 : b * b = 0 := by omega
  constructor
  · rcases Int.mul_eq_zero.mp e1 with h | h <;> exact h
  · rcases Int.mul_eq_zero.mp e2 with h | h <;> exact h
/-- two vectors on one line through 0, their product at most each one's square: apart from 0 or one and the same -/
theorem collinear {ax ay bx b' : Int} (hc : ax * b' = ay * bx) (h1 : ax * bx + ay * b' ≤ ax * ax + ay * ay) (h2 : ax * bx + ay * b' ≤ bx * bx + b' * b') : ax * bx + ay * b' ≤ 0 ∨ (ax = bx ∧ ay = b') := by
  rcases Int.lt_or_le 0 (ax * bx + ay * b') with h | h
  · right
    have e : (ax * bx + ay * b') * (ax * bx + ay * b') = (ax * ax + ay * ay) * (bx * bx + b' * b') := by grind
    have pa : (ax * ax + ay * ay) * (ax * bx + ay * b') ≤ (ax * bx + ay * b') * (ax * bx + ay * b') := by
      rw [e]
      exact Int.mul_le_mul_of_nonneg_left h2 (by have := sq_nonneg ax; have := sq_nonneg ay; omega)
    have pb : (bx * bx + b' * b') * (ax * bx + ay * b') ≤ (ax * bx + ay * b') * (ax * bx + ay * b') := by
      rw [e, Int.mul_comm (ax * ax + ay * ay)]
      exact Int.mul_le_mul_of_nonneg_left h1 (by have := sq_nonneg bx; have := sq_nonneg b'; omega)
    have qa := Int.le_of_mul_le_mul_right pa h
    have qb := Int.le_of_mul_le_mul_right pb h
    have z : (ax - bx) * (ax - bx) + (ay - b') * (ay - b') ≤ 0 := by
      have : (ax - bx) * (ax - bx) + (ay - b') * (ay - b') = (ax * ax + ay * ay) + (bx * bx + b' * b') - 2 * (ax * bx + ay * b') := by grind
      omega
    obtain ⟨z1, z2⟩ := sq_zero z
    omega
  · exact .inl h
theorem wok_ne {u : WD} (o : WOk u) : ¬ (u.one.1 = u.two.1 ∧ u.one.2 = u.two.2) := by
  obtain ⟨l, hl, h⟩ := o.dir
  omega
theorem holds_on {f : Fence} {P : P3} (o : WOk (wdOf f)) (p : 0 < P.2.2) (h : holdsP (wdOf f) P = true) : onLaw f P = true := by
  have ne := wok_ne o
  obtain ⟨word, ev, ⟨x1, y1⟩, x2, y2⟩ := f
  obtain ⟨x, y, w⟩ := P
  dsimp only [wdOf] at *
  unfold holdsP at h
  dsimp only at h
  split at h
  · rename_i hc
    rw [Bool.and_eq_true] at h
    have h1 := of_decide_eq_true h.1
    have h2 := of_decide_eq_true h.2
    have ax : ∀ t : Int, t - w * x1 = -(x1 * w - x) + (t - x) := fun t => by rw [Int.mul_comm]; omega
    have c : (x1 * w - x) * (y2 * w - y) = (y1 * w - y) * (x2 * w - x) := by grind
    have e1 : w * ((x2 - x1) * (x - w * x1) + (y2 - y1) * (y - w * y1)) = ((x1 * w - x) * (x1 * w - x) + (y1 * w - y) * (y1 * w - y)) - ((x1 * w - x) * (x2 * w - x) + (y1 * w - y) * (y2 * w - y)) := by grind
    have e2 : w * (w * ((x2 - x1) * (x2 - x1) + (y2 - y1) * (y2 - y1))) - w * ((x2 - x1) * (x - w * x1) + (y2 - y1) * (y - w * y1)) = ((x2 * w - x) * (x2 * w - x) + (y2 * w - y) * (y2 * w - y)) - ((x1 * w - x) * (x2 * w - x) + (y1 * w - y) * (y2 * w - y)) := by grind
    have g1 := Int.mul_nonneg (show 0 ≤ w by omega) h1
    have g2 := Int.mul_le_mul_of_nonneg_left h2 (show 0 ≤ w by omega)
    rcases collinear c (by omega) (by omega) with q | ⟨q1, q2⟩
    · unfold onLaw
      dsimp only
      rw [if_pos c]
      exact decide_eq_true q
    · exfalso
      have r1 : x1 * w = x2 * w := by omega
      have r2 : y1 * w = y2 * w := by omega
      exact ne ⟨Int.eq_of_mul_eq_mul_right (by omega) r1, Int.eq_of_mul_eq_mul_right (by omega) r2⟩
  · cases h
/-- the spot that lies on no wall of whole corners -/
theorem spare_off {u : WD} (o : WOk u) (a b : Int) : holdsP u (21 * a + 7, 21 * b + 3, 21) = false := by
  obtain ⟨l, hl, h⟩ := o.dir
  unfold holdsP
  rw [if_neg]
  dsimp only
  intro z
  have hn : l ≠ 0 := by omega
  rcases h with ⟨h1, h2⟩ | ⟨h1, h2⟩ | ⟨h1, h2⟩ | ⟨h1, h2⟩
  · rw [h1, h2, show u.one.1 + l - u.one.1 = l by omega, show u.one.2 - u.one.2 = 0 by omega, Int.zero_mul] at z
    rcases Int.mul_eq_zero.mp z with q | q <;> omega
  · rw [h1, h2, show u.one.1 + l - u.one.1 = l by omega, show u.one.2 + l - u.one.2 = l by omega] at z
    have := Int.eq_of_mul_eq_mul_left hn z
    omega
  · rw [h1, h2, show u.one.1 - u.one.1 = 0 by omega, show u.one.2 + l - u.one.2 = l by omega, Int.zero_mul] at z
    rcases Int.mul_eq_zero.mp z.symm with q | q <;> omega
  · rw [h1, h2, show u.one.1 + l - u.one.1 = l by omega, show u.one.2 - l - u.one.2 = -l by omega, Int.neg_mul, ← Int.mul_neg] at z
    have := Int.eq_of_mul_eq_mul_left hn z
    omega
def broughtP (x y w : Int) : P3 := (x.fdiv (gc w (gc x y)), y.fdiv (gc w (gc x y)), w.fdiv (gc w (gc x y)))
/-- the start by the cells a, b, c -/
def spot0 (a b c wide high bottom : Int) : P3 :=
  broughtP (a % ((wide + 2) * (1 + c % bottom) + 1) - (1 + c % bottom)) (b % ((high + 2) * (1 + c % bottom) + 1) - (1 + c % bottom)) (1 + c % bottom)
def startPt (fs : List Fence) (a b c wide high bottom : Int) : P3 :=
  if (fs.any fun f => onLaw f (spot0 a b c wide high bottom)) = true then (21 * (a % wide) + 7, 21 * (b % high) + 3, 21) else spot0 a b c wide high bottom
structure SpotOk (P : P3) : Prop where
  w : 1 ≤ P.2.2 ∧ P.2.2 ≤ 1000
  x : P.1.natAbs ≤ 100000
  y : P.2.1.natAbs ≤ 100000
theorem brought_ok {x y w : Int} (hw : 1 ≤ w ∧ w ≤ 1000) (hx : x.natAbs ≤ 100000) (hy : y.natAbs ≤ 100000) : SpotOk (broughtP x y w) := by
  have g0 : 0 < gc w (gc x y) := by
    unfold gc
    have := Int.gcd_pos_of_ne_zero_left ((Int.gcd x y : Nat) : Int) (show w ≠ 0 by omega)
    omega
  have d0 : gc w (gc x y) ∣ gc x y := Int.gcd_dvd_right ..
  have dw : gc w (gc x y) ∣ w := Int.gcd_dvd_left ..
  have dx : gc w (gc x y) ∣ x := Int.dvd_trans d0 (Int.gcd_dvd_left ..)
  have dy : gc w (gc x y) ∣ y := Int.dvd_trans d0 (Int.gcd_dvd_right ..)
  have ew := fdiv_ex dw
  have hn : gc w (gc x y) ≠ 0 := by omega
  have lw := le_of_mul hn ew
  have pw : 0 < w.fdiv (gc w (gc x y)) := by
    rcases Int.lt_or_le 0 (w.fdiv (gc w (gc x y))) with h | h
    · exact h
    · have := Int.mul_nonpos_of_nonneg_of_nonpos (show 0 ≤ gc w (gc x y) by omega) h
      omega
  exact ⟨⟨by show 1 ≤ w.fdiv _; omega, by show w.fdiv _ ≤ 1000; omega⟩, Nat.le_trans (le_of_mul hn (fdiv_ex dx)) hx, Nat.le_trans (le_of_mul hn (fdiv_ex dy)) hy⟩
theorem spot0_ok {a b c wide high bottom : Int} (hw : 1 ≤ wide ∧ wide ≤ 4) (hh : 1 ≤ high ∧ high ≤ 4) (hb : 1 ≤ bottom ∧ bottom ≤ 1000) : SpotOk (spot0 a b c wide high bottom) := by
  have c0 := Int.emod_nonneg c (show bottom ≠ 0 by omega)
  have c1 := Int.emod_lt_of_pos c (show 0 < bottom by omega)
  unfold spot0
  have hw0 : 1 ≤ 1 + c % bottom ∧ 1 + c % bottom ≤ 1000 := by omega
  generalize 1 + c % bottom = w at *
  have m1 : (wide + 2) * w ≤ 6 * w := Int.mul_le_mul_of_nonneg_right (by omega) (by omega)
  have m2 : (high + 2) * w ≤ 6 * w := Int.mul_le_mul_of_nonneg_right (by omega) (by omega)
  have n1 : 0 ≤ (wide + 2) * w := Int.mul_nonneg (by omega) (by omega)
  have n2 : 0 ≤ (high + 2) * w := Int.mul_nonneg (by omega) (by omega)
  generalize (wide + 2) * w = p at *
  generalize (high + 2) * w = q at *
  have a0 := Int.emod_nonneg a (show p + 1 ≠ 0 by omega)
  have a1 := Int.emod_lt_of_pos a (show 0 < p + 1 by omega)
  have b0 := Int.emod_nonneg b (show q + 1 ≠ 0 by omega)
  have b1 := Int.emod_lt_of_pos b (show 0 < q + 1 by omega)
  exact brought_ok hw0 (by omega) (by omega)
theorem startPt_ok {fs : List Fence} {a b c wide high bottom : Int} (hw : 1 ≤ wide ∧ wide ≤ 4) (hh : 1 ≤ high ∧ high ≤ 4) (hb : 1 ≤ bottom ∧ bottom ≤ 1000) : SpotOk (startPt fs a b c wide high bottom) := by
  unfold startPt
  split
  · have a0 := Int.emod_nonneg a (show wide ≠ 0 by omega)
    have a1 := Int.emod_lt_of_pos a (show 0 < wide by omega)
    have b0 := Int.emod_nonneg b (show high ≠ 0 by omega)
    have b1 := Int.emod_lt_of_pos b (show 0 < high by omega)
    exact ⟨by dsimp only; omega, by dsimp only; omega, by dsimp only; omega⟩
  · exact spot0_ok hw hh hb
theorem startPt_off {fs : List Fence} {a b c wide high bottom : Int} (hw : 1 ≤ wide ∧ wide ≤ 4) (hh : 1 ≤ high ∧ high ≤ 4) (hb : 1 ≤ bottom ∧ bottom ≤ 1000) (o : ∀ f ∈ fs, WOk (wdOf f)) : onP (fs.map wdOf) (startPt fs a b c wide high bottom) = [] := by
  (rw [List.eq_nil_iff_forall_not_mem])
  intro k hk
  obtain ⟨u, hu, hh'⟩ := onP_mem.mp hk
  obtain ⟨f, hf, rfl⟩ := List.mem_map.mp (List.mem_of_getElem? hu)
  unfold startPt at hh'
  split at hh'
  · rw [spare_off (o f hf)] at hh'
    cases hh'
  · rename_i hn
    have sp := spot0_ok (a := a) (b := b) (c := c) hw hh hb
    exact hn (List.any_eq_true.mpr ⟨f, hf, holds_on (o f hf) (by have := sp.w; omega) hh'⟩)
theorem SpotOk.pb {P : P3} (s : SpotOk P) : PB P := by
  have h := s.w
  have hx := s.x
  have hy := s.y
  exact ⟨B.mono (m := 17) (Nat.lt_of_le_of_lt hx (by decide)) (by decide), B.mono (m := 17) (Nat.lt_of_le_of_lt hy (by decide)) (by decide), B.mono (m := 10) (show P.2.2.natAbs < 2 ^ 10 by omega) (by decide)⟩
def headP (a b : Int) : P2 := if a = 0 ∧ b = 0 then (2, 1) else (a.fdiv (gc a b), b.fdiv (gc a b))
theorem headP_ok {a b : Int} (ha : -3 ≤ a ∧ a ≤ 3) (hb : -3 ≤ b ∧ b ≤ 3) : HdOk (headP a b) := by
  have : ∀ i j : _root_.Fin 7, (-3 ≤ (headP ((i : Nat) - 3) ((j : Nat) - 3)).1 ∧ (headP ((i : Nat) - 3) ((j : Nat) - 3)).1 ≤ 3) ∧ (-3 ≤ (headP ((i : Nat) - 3) ((j : Nat) - 3)).2 ∧ (headP ((i : Nat) - 3) ((j : Nat) - 3)).2 ≤ 3) ∧
      ¬ ((headP ((i : Nat) - 3) ((j : Nat) - 3)).1 = 0 ∧ (headP ((i : Nat) - 3) ((j : Nat) - 3)).2 = 0) := by decide +kernel
  have h := this ⟨(a + 3).toNat, by omega⟩ ⟨(b + 3).toNat, by omega⟩
  dsimp only at h
  rw [show (((a + 3).toNat : Nat) : Int) - 3 = a by omega, show (((b + 3).toNat : Nat) : Int) - 3 = b by omega] at h
  exact ⟨h.1, h.2.1, h.2.2⟩
theorem start_FB {us : List WD} {P : P3} {h : P2} (s : SpotOk P) (d : HdOk h) : FB 0 us (startP us P h) := by
  have hw := s.w
  have hx := s.x
  have hy := s.y
  refine ⟨by show 0 < P.2.2; omega, ?_, ?_, ?_, d, ?_, ?_, ?_, List.length_replicate, rfl⟩
  · show P.2.2.natAbs < 2 ^ 10
    omega
  · exact B.mono (m := 17) (Nat.lt_of_le_of_lt hx (by decide)) (by decide)
  · exact B.mono (m := 17) (Nat.lt_of_le_of_lt hy (by decide)) (by decide)
  · exact B.mono (m := 1) (show (0 : Int).natAbs < 2 ^ 1 by decide) (by decide)
  · show (1 : Int).natAbs < 2 ^ 1
    decide
  · show (0 : Int) < 1
    decide
end Bw
end

section
set_option Elab.async false
set_option linter.all false
set_option maxRecDepth 100000
set_option maxHeartbeats 4100000
namespace Bw
open PySem L2
/-! ### sequences that stand anywhere, ranges, comprehensions over them -/
/-- a list, laid or written -/
def SQ (K : PySem.W.Frag) (H : Hp) (v : V) (xs : List V) : Prop := ∃ p, v = .ref p ∧ SqL K H p xs
theorem SQ.up {K : PySem.W.Frag} {H H' : Hp} {v : V} {xs : List V} (e : Same H H') (h : SQ K H v xs) : SQ K H' v xs := let ⟨p, q, r⟩ := h; ⟨p, q, e.seq r⟩
theorem LST.sq {K : PySem.W.Frag} {H : Hp} {v : V} {xs : List V} (h : LST H v xs) : SQ K H v xs := let ⟨p, q, r⟩ := h; ⟨p, q, SqL.of r⟩
section
variable {σ : L2.St} {H : Hp} {Q : VK} {K : PySem.W.Frag} {ta te : TE} {tl : TA} {g : TG} {D : Ends} {ts : TS} {v x y z : V} {xs ys : List V}
theorem rd_lenS (h : SQ K H v xs) (q : Q (.int xs.length) H) : rLen K [v] H Q := by
  obtain ⟨p, rfl, e⟩ := h
  exact ⟨p, xs, rfl, .inl e, q⟩
theorem rd_ixS {n : Nat} (h : SQ K H v xs) (hx : xs[n]? = some z) (q : Q z H) : rIxL K v (.int (n : Nat)) H Q := by
  obtain ⟨p, rfl, e⟩ := h
  refine ⟨p, xs, n, z, rfl, rfl, e, ?_, q⟩
  unfold atI ixN
  have := (List.getElem?_eq_some_iff.mp hx).1
  (rw [if_pos (by omega), if_pos (by omega)])
  exact hx
/-- an item by a whole number -/
theorem rd_ixI {i : Int} (h : SQ K H v xs) (h0 : 0 ≤ i) (hx : xs[i.toNat]? = some z) (q : Q z H) : rIxL K v (.int i) H Q := by
  have e : i = ((i.toNat : Nat) : Int) := by omega
  rw [e]
  exact rd_ixS h hx q
/-- the last item -/
theorem rd_ixLast (h : LST H v (xs ++ [z])) (q : Q z H) : rIxL K v (.int (-1)) H Q := by
  obtain ⟨p, rfl, e⟩ := h
  refine ⟨p, _, _, z, rfl, rfl, SqL.of e, ?_, q⟩
  unfold atI ixN
  rw [List.length_append, List.length_singleton, if_neg (by omega), if_pos (by omega)]
  show (xs ++ [z])[(-1 + ((xs.length + 1 : Nat) : Int)).toNat]? = some z
  rw [show (-1 + ((xs.length + 1 : Nat) : Int)).toNat = xs.length by omega]
  simp
theorem rd_cutS {i j : Nat} (h : SQ K H v xs) (q : ∀ p H', Same H H' → H p = none → H' p = some (.lst ((xs.drop (min i xs.length)).take (min j xs.length - min i xs.length))) → Q (.ref p) H') : rSlL K v (some (i : Nat)) (some (j : Nat)) H Q := by
  obtain ⟨p, rfl, e⟩ := h
  refine ⟨p, xs, rfl, e, fun l hl => q l _ (same_new hl) hl ?_⟩
  rw [upd_same]
  unfold cutV
  rw [sIx_nat, sIx_nat]
theorem rd_rng {R : It → Hp → Prop} (q : ta σ H fun x H1 => ∃ j : Int, x = .int j ∧ -(2 ^ 62) ≤ j ∧ j < 2 ^ 62 ∧ R (Itr 0 j.toNat) H1) : iRng1 (tCons ta tNil) σ H R := by
  refine Eq.mpr ?_ q
  show ta σ H (fun x H1 => ∃ j : Int, [x] = [V.int j] ∧ -(2 ^ 62) ≤ j ∧ j < 2 ^ 62 ∧ R (Itr 0 j.toNat) H1) = _
  congr 1
  funext x H1
  apply propext
  constructor
  · rintro ⟨j, e, r⟩
    cases e
    exact ⟨j, rfl, r⟩
  · rintro ⟨j, rfl, r⟩
    exact ⟨j, rfl, r⟩
theorem rd_rngI {P : Int → Prop} {i : Int} (h1 : -1000000 ≤ i) (h2 : i ≤ 1000000) (q : P i) : ∃ j : Int, V.int i = .int j ∧ -(2 ^ 62) ≤ j ∧ j < 2 ^ 62 ∧ P j := ⟨i, rfl, by omega, by omega, q⟩
theorem lc_R {n : Nat} {tt : TT} {ws : List Nat} {QD : Addr → Hp → Prop} (Pv : Addr → Nat → Hp → Prop) (h0 : ∀ D, H D = none → Pv D 0 (upd H D (.lst [])))
    (hs : ∀ D i H', H D = none → i < n → Pv D i H' → LcTurn g tt te ws σ D (Pv D (i + 1)) (.int (i : Nat)) H') (hd : ∀ D H', H D = none → Pv D n H' → QD D H') :
    ∀ D, H D = none → ∃ W : Nat → Nat → Hp → Prop, (∃ m, W 0 m (upd H D (.lst []))) ∧ ∀ i m H, W i m H →
      ((Itr 0 n).stop i H ∧ QD D H) ∨ ((Itr 0 n).go i H ∧ ∃ Nx : Hp → Prop, (∀ H', Nx H' → ∃ m', m' < m ∧ W (i + 1) m' H') ∧ ∀ x H', (Itr 0 n).yld i H x H' → LcTurn g tt te ws σ D Nx x H') := by
  refine fun D hD => lc_it walk_range (Pv D) (h0 D hD) (fun _ _ _ _ => trivial) (fun i x H1 H2 hi p y => ?_) fun H' p => hd D H' hD p
  obtain ⟨rfl, rfl⟩ := y
  have e : (0 : Int) + ((i : Nat) : Int) = (i : Nat) := Int.zero_add _
  have q := hs D i _ hD hi p
  rw [← e] at q
  exact q
/-- over a list that stands anywhere -/
theorem lc_S {tt : TT} {ws : List Nat} {QD : Addr → Hp → Prop} (h : SQ K H v xs) (Pv : Addr → Nat → Hp → Prop) (h0 : ∀ D, H D = none → Pv D 0 (upd H D (.lst []))) (hl : ∀ D i H', H D = none → Pv D i H' → SQ K H' v xs)
    (hs : ∀ D i x H', H D = none → xs[i]? = some x → Pv D i H' → LcTurn g tt te ws σ D (Pv D (i + 1)) x H') (hd : ∀ D H', H D = none → Pv D xs.length H' → QD D H') :
    ∃ a, v = .ref a ∧ (∃ xs, SqL K H a xs) ∧ ∀ D, H D = none → ∃ W : Nat → Nat → Hp → Prop, (∃ m, W 0 m (upd H D (.lst []))) ∧ ∀ i m H, W i m H →
      ((Itl K a).stop i H ∧ QD D H) ∨ ((Itl K a).go i H ∧ ∃ Nx : Hp → Prop, (∀ H', Nx H' → ∃ m', m' < m ∧ W (i + 1) m' H') ∧ ∀ x H', (Itl K a).yld i H x H' → LcTurn g tt te ws σ D Nx x H') := by
  obtain ⟨a, rfl, e⟩ := h
  refine ⟨a, rfl, ⟨xs, e⟩, fun D hD => lc_it walk_list (Pv D) (h0 D hD) (fun i H' _ p => ?_) (fun i x H1 H2 _ p y => ?_) fun H' p => hd D H' hD p⟩
  · obtain ⟨a', ea, e'⟩ := hl D i H' hD p
    cases ea
    exact e'
  · obtain ⟨rfl, y⟩ := y
    exact hs D i x _ hD y p
/-- a point that several ways reach -/
theorem rd_seqG {ts' : TS} (Mid : L2.St → Hp → Prop) (h2 : ∀ σ H, Mid σ H → ts' D σ H) (q : ∀ R : L2.St → Hp → Prop, (∀ σ H, Mid σ H → R σ H) → ts { D with nx := R } σ H) : tSeq ts ts' D σ H := q (ts' D) h2
theorem rd_dnew {q : Addr → Hp → Prop} (k : ∀ p H', Same H H' → H p = none → H' p = some (.dT []) → Q (.ref p) H') : tDNewT σ H Q := fun p hp => k p _ (same_new hp) hp upd_same
/-- over a tuple -/
theorem lc_T {tt : TT} {ws : List Nat} {QD : Addr → Hp → Prop} (h : TUP H v xs) (Pv : Addr → Nat → Hp → Prop) (h0 : ∀ D, H D = none → Pv D 0 (upd H D (.lst []))) (hl : ∀ D i H', H D = none → Pv D i H' → TUP H' v xs)
    (hs : ∀ D i x H', H D = none → xs[i]? = some x → Pv D i H' → LcTurn g tt te ws σ D (Pv D (i + 1)) x H') (hd : ∀ D H', H D = none → Pv D xs.length H' → QD D H') :
    ∃ a, v = .ref a ∧ (∃ xs, SqT K H a xs) ∧ ∀ D, H D = none → ∃ W : Nat → Nat → Hp → Prop, (∃ m, W 0 m (upd H D (.lst []))) ∧ ∀ i m H, W i m H →
      ((Itt K a).stop i H ∧ QD D H) ∨ ((Itt K a).go i H ∧ ∃ Nx : Hp → Prop, (∀ H', Nx H' → ∃ m', m' < m ∧ W (i + 1) m' H') ∧ ∀ x H', (Itt K a).yld i H x H' → LcTurn g tt te ws σ D Nx x H') := by
  obtain ⟨a, rfl, e⟩ := h
  refine ⟨a, rfl, ⟨xs, SqT.of e⟩, fun D hD => lc_it walk_tup (Pv D) (h0 D hD) (fun i H' _ p => ?_) (fun i x H1 H2 _ p y => ?_) fun H' p => hd D H' hD p⟩
  · obtain ⟨a', ea, e'⟩ := hl D i H' hD p
    cases ea
    exact SqT.of e'
  · obtain ⟨rfl, y⟩ := y
    exact hs D i x _ hD y p
end
end Bw
end

section
set_option Elab.async false
set_option linter.all false
set_option maxRecDepth 100000
set_option maxHeartbeats 4100000
set_option exponentiation.threshold 1000000
namespace Bw
open PySem L2
-- HDR
-- what the heap knows, carried over
local macro_rules | `(tactic| walk_at "hp") => `(tactic| first
  | assumption
  | (refine' TUP.up (tk_of ?e) ?h; (case e => assumption); (case h => walk_at "hp"))
  | (refine' Fld.up ?e ?h; (case e => assumption); (case h => walk_at "hp"))
  | (refine' LST.up ?e ?h; (case e => assumption); (case h => walk_at "hp"))
  | (refine' TUP.up ?e ?h; (case e => assumption); (case h => walk_at "hp"))
  | (refine' Mth.up ?e ?h; (case e => assumption); (case h => walk_at "hp")))
-- one step of a reading
local macro_rules | `(tactic| walk_at "rd") => `(tactic| first
  | (with_reducible refine rd_var rfl ?_)
  | (with_reducible refine rd_c ?_)
  | (with_reducible refine rd_op ?_)
  | (with_reducible refine rd_mulW ?_ ?_)
  | (with_reducible refine rd_add ?_)
  | (with_reducible refine rd_sub ?_)
  | (with_reducible refine rd_cons ?_)
  | (with_reducible refine rd_nil ?_)
  | (with_reducible refine rd_seq ?_)
  | (with_reducible refine rd_asg ?_)
  | (with_reducible refine rd_name ?_)
  | (with_reducible refine rd_call ?_)
  | (with_reducible refine rd_fld ?_)
  | ((with_reducible refine' rd_fldv ?h ?_); (case h => walk_at "hp"))
  | ((with_reducible refine' rd_ixT0 ?h ?e ?_); (case h => walk_at "hp"); (case e => rfl))
  | ((with_reducible refine' rd_ixT1 ?h ?e ?_); (case h => walk_at "hp"); (case e => rfl))
  | ((with_reducible refine' rd_ixT2 ?h ?e ?_); (case h => walk_at "hp"); (case e => rfl))
  | ((with_reducible refine' rd_gtup ?h ?e ?_); (case h => walk_at "hp"); (case e => rfl))
  | (with_reducible refine rd_gcons ?_)
  | (with_reducible refine rd_gnil ?_)
  | (with_reducible refine rd_if ?_)
  | (with_reducible refine rd_test ?_)
  | (with_reducible refine rd_isbl ?_)
  | (with_reducible refine rd_iteT ?_)
  | (with_reducible refine rd_iteF ?_)
  | (with_reducible refine rd_ret ?_)
  | (with_reducible refine rd_next ?_)
  | (with_reducible refine rd_lt ?_)
  | (with_reducible refine rd_gt ?_)
  | (with_reducible refine rd_eqI ?_)
  | (with_reducible refine rd_neI ?_)
  | (with_reducible refine rd_un ?_)
  | (with_reducible refine rd_neg ?_)
  | (with_reducible refine rd_tup ?_)
  | (with_reducible refine rd_lst ?_)
  | (with_reducible refine rd_lstN (Nat.le_of_ble_eq_true rfl) ?_; intro _ _ _ _ _)
  | (with_reducible refine rd_tupN (Nat.le_of_ble_eq_true rfl) ?_; intro _ _ _ _)
  | (with_reducible refine rd_mod ?_ ?_)
  | (with_reducible refine rd_modN ?_ ?_)
  | (with_reducible refine rd_mul ?_ ?_)
  | (with_reducible refine rd_fdiv ?_ ?_)
  | (with_reducible refine rd_fdivZ ?_ ?_ ?_)
  | (with_reducible refine rd_tB ?_)
  | (with_reducible refine rd_CB ?_)
  | (with_reducible refine rd_le ?_)
  | (with_reducible refine rd_ge ?_)
  | (with_reducible refine rd_eqS ?_)
  | (with_reducible refine rd_neS ?_)
  | (with_reducible refine rd_isN0 ?_)
  | (with_reducible refine rd_isN1 ?_)
  | (with_reducible refine rd_notN0 ?_)
  | (with_reducible refine rd_notN1 ?_)
  | (with_reducible refine rd_abs ?_)
  | (with_reducible refine rd_max2 ?_)
  | (with_reducible refine rd_min2 ?_)
  | (with_reducible refine rd_mx ?_)
  | ((with_reducible refine' rd_mx1 ?h ?_); (case h => walk_at "hp"))
  | (with_reducible refine rd_and ?_)
  | (with_reducible refine rd_or ?_)
  | (with_reducible refine rd_not ?_)
  | (with_reducible refine rd_drop ?_)
  | (with_reducible refine rd_chain ?_)
  | (with_reducible refine rd_orV ?_)
  | (with_reducible refine rd_andV ?_)
  | (with_reducible refine rd_notV ?_)
  | (with_reducible refine rd_sfld ?_)
  | (with_reducible refine rd_for ?_)
  | (with_reducible refine rd_iL ?_)
  | (with_reducible refine rd_lc ?_)
  | (with_reducible refine rd_iE ?_)
  | ((with_reducible refine' rd_lenL ?h ?_); (case h => walk_at "hp"))
  | ((with_reducible refine' rd_lenT ?h ?_); (case h => walk_at "hp"))
  | (with_reducible refine rd_yes ?_)
  | (with_reducible refine rd_iZ ?_)
  | (with_reducible refine rd_iT ?_)
  | (with_reducible refine rd_break ?_)
  | ((with_reducible refine' rd_ixT3 ?h ?e ?_); (case h => walk_at "hp"); (case e => rfl))
  | ((with_reducible refine' rd_ixT4 ?h ?e ?_); (case h => walk_at "hp"); (case e => rfl))
  | ((with_reducible refine' rd_ixT5 ?h ?e ?_); (case h => walk_at "hp"); (case e => rfl))
  | ((with_reducible refine' rd_ixL0 ?h ?e ?_); (case h => walk_at "hp"); (case e => rfl))
  | ((with_reducible refine' rd_ixL1 ?h ?e ?_); (case h => walk_at "hp"); (case e => rfl))
  | ((with_reducible refine' rd_ixL2 ?h ?e ?_); (case h => walk_at "hp"); (case e => rfl))
  | ((with_reducible refine' rd_ixL3 ?h ?e ?_); (case h => walk_at "hp"); (case e => rfl))
  | ((with_reducible refine' rd_ixL4 ?h ?e ?_); (case h => walk_at "hp"); (case e => rfl))
  | ((with_reducible refine' rd_ixL5 ?h ?e ?_); (case h => walk_at "hp"); (case e => rfl)))
-- steps, with the callees' promises
local macro_rules | `(tactic| walk_at "go") => `(tactic| repeat first | walk_at "rd" | walk_at "us")
-- every way
local macro_rules | `(tactic| walk_at "all") => `(tactic| repeat' first
  | walk_at "rd"
  | walk_at "us"
  | (with_reducible refine rd_ite (fun _ => ?_) (fun _ => ?_))
  | (with_reducible refine rd_iten (fun _ => ?_) (fun _ => ?_)))
-- END
-- HDR7
local macro_rules | `(tactic| walk_at "rd") => `(tactic| first
  | (with_reducible refine rd_make ?_)
  | (with_reducible refine rd_bm ?_)
  | (with_reducible refine rd_bm0 ?_)
  | ((with_reducible refine' rd_ty ?h ?_); (case h => walk_at "hp"))
  | (with_reducible refine rd_augS ?_)
  | (with_reducible refine rd_ipI ?_))
local macro_rules | `(tactic| walk_at "rd") => `(tactic| first
  | (with_reducible refine rd_sl ?_)
  | (with_reducible refine rd_nopart ?_)
  | (with_reducible refine rd_part ?_)
  | (with_reducible refine rd_isint ?_)
  | ((with_reducible refine' rd_minT ?h ?g ?_); (case h => walk_at "hp"); (case g => walk_at "hp"); intro _ _)
  | ((with_reducible refine' rd_maxT ?h ?g ?_); (case h => walk_at "hp"); (case g => walk_at "hp"); intro _ _)
  | ((with_reducible refine' rd_ltT ?h ?g ?_); (case h => walk_at "hp"); (case g => walk_at "hp"))
  | ((with_reducible refine' rd_listL ?h ?_); (case h => walk_at "hp"); intro _ _ _ _ _))
-- END
-- HDR8
local macro_rules | `(tactic| walk_at "hp") => `(tactic| (refine' SQ.up ?e ?h; (case e => assumption); (case h => walk_at "hp")))
local macro_rules | `(tactic| walk_at "rd") => `(tactic| first
  | (with_reducible refine rd_rng ?_)
  | ((with_reducible refine' rd_lenS ?h ?_); (case h => walk_at "hp")))
-- END
section
variable {P : Program} {w : World} {K : PySem.W.Frag} {mg : Str → Option Value} {base : Heap} {c : Cs} {f : Addr} {fd : FuncData}
/-! ### the law's own defs: numbers -/
def sp_cell_at (K : PySem.W.Frag) : Sp := mkSp (fun a : V × List Int × Nat => [a.1, .int (a.2.2 : Nat)]) (fun a H => SQ K H a.1 (a.2.1.map V.int)) fun a H v H' => v = .int (a.2.1.getD a.2.2 0) ∧ H' = H
theorem us_cell_at {v : V} {ns : List Int} {k : Nat} {H : Hp} {Q : VK} {E : XK} (h : SQ K H v (ns.map V.int)) (q : Q (.int (ns.getD k 0)) H) : sp_cell_at K ([v, .int (k : Nat)] ++ []) H Q E :=
  ⟨(v, ns, k), rfl, h, fun v H' e => by
    obtain ⟨rfl, rfl⟩ := e
    exact q⟩
abbrev N_law_cell_at : List Str := ["_law_script", "_law_k"]
theorem sc_law_cell_at : FnScope ["_law_script", "_law_k"] ["_law_script", "_law_k"] (defScope s_law_cell_at) := ⟨rfl, rfl, rfl, by decide +kernel, rfl, by decide +kernel, by decide +kernel⟩
theorem ok_cell_at (F : Fun K "_law_cell_at" "_law_cell_at" s_law_cell_at f fd) (T : Txt K mg c) : FnOk P w K mg base CX0 1 f fd ["_law_script", "_law_k"] (sp_cell_at K) := by
  refine F.ok sc_law_cell_at (mk_len fun _ => rfl) (fun cdv A outer s H vs Q E hr h => ?_)
  obtain ⟨⟨v, ns, n⟩, rfl, h1, k⟩ := h
  dsimp only at h1 k
  refine ⟨_, (pss_cons (ps_if (pt_cmpR op_lt (pv 1) (pe_callB cl_len rfl T.n_len (by decide +kernel) (pa_cons (pv 0) pa_nil)) (nomark _)) (pss_one (ps_ret (pe_ix ix_list (pv 0) (pv 1) (fun _ _ => rfl)))) pss_nil)
      (pss_one (ps_ret pe_int))), ?_⟩
  walk_at "go"
  rw [List.length_map]
  refine rd_ite (fun hlt => ?_) (fun hge => ?_)
  · have hn : n < ns.length := by
      have : (n : Int) < (ns.length : Int) := hlt
      omega
    walk_at "go"
    refine rd_ixS h1 (z := .int (ns.getD n 0)) ?_ ?_
    · rw [List.getElem?_map, List.getElem?_eq_getElem hn, List.getD_eq_getElem?_getD, List.getElem?_eq_getElem hn]
      rfl
    · exact k _ _ ⟨rfl, rfl⟩
  · have hn : ¬ n < ns.length := fun z => hge (by show (n : Int) < (ns.length : Int); omega)
    walk_at "go"
    refine k _ _ ⟨?_, rfl⟩
    (rw [List.getD_eq_getElem?_getD, List.getElem?_eq_none (by omega)])
    rfl
def sp_common : Sp := mkSp (fun a : Int × Int => [.int a.1, .int a.2]) (fun _ _ => True) fun a H v H' => v = .int (gc a.1 a.2) ∧ H' = H
theorem us_common {a b : Int} {H : Hp} {Q : VK} {E : XK} (q : Q (.int (gc a b)) H) : sp_common ([.int a, .int b] ++ []) H Q E :=
  ⟨(a, b), rfl, trivial, fun v H' e => by
    obtain ⟨rfl, rfl⟩ := e
    exact q⟩
theorem gc_abs (a b : Int) : gc (if a < 0 then -a else a) (if b < 0 then -b else b) = gc a b := by
  unfold gc
  split <;> split <;> simp
theorem gc_modr {a b : Int} : gc a (b % a) = gc a b := by
  unfold gc
  rw [show b % a = b + a * (-(b / a)) by rw [Int.emod_def, Int.mul_neg]; omega, Int.gcd_add_mul_left_right]
theorem gc_modl {a b : Int} : gc (a % b) b = gc a b := by
  have h := gc_modr (a := b) (b := a)
  unfold gc at *
  rw [Int.gcd_comm, h, Int.gcd_comm]
theorem gc_end {a b : Int} (ha : 0 ≤ a) (hb : 0 ≤ b) (h : ¬ (0 < a ∧ 0 < b)) : gc a b = a + b := by
  unfold gc
  rcases Int.lt_or_le 0 a with h1 | h1
  · obtain rfl : b = 0 := by omega
    rw [Int.gcd_zero_right]
    omega
  · obtain rfl : a = 0 := by omega
    rw [Int.gcd_zero_left]
    omega
abbrev N_law_common : List Str := ["_law_a", "_law_b"]
theorem sc_law_common : FnScope ["_law_a", "_law_b"] ["_law_a", "_law_b"] (defScope s_law_common) := ⟨rfl, rfl, rfl, by decide +kernel, rfl, by decide +kernel, by decide +kernel⟩
theorem ok_common (F : Fun K "_law_common" "_law_common" s_law_common f fd) (T : Txt K mg c) : FnOk P w K mg base CX0 1 f fd ["_law_a", "_law_b"] sp_common := by
  refine F.ok sc_law_common (mk_len fun _ => rfl) (fun cdv A outer s H vs Q E hr h => ?_)
  obtain ⟨⟨a, b⟩, rfl, _, k⟩ := h
  dsimp only at k
  refine ⟨_, (pss_cons (ps_set (i := 0) sc_law_common.nd rfl (by first | exact Or.inl rfl | exact Or.inr rfl) (pe_callB cl_abs rfl T.n_abs (by decide +kernel) (pa_cons (pv 0) pa_nil)))
      (pss_cons (ps_set (i := 1) sc_law_common.nd rfl (by first | exact Or.inl rfl | exact Or.inr rfl) (pe_callB cl_abs rfl T.n_abs (by decide +kernel) (pa_cons (pv 1) pa_nil)))
      (pss_cons (ps_while PassesOwn.never (PW.pt (pw_and (pt_cmpR op_gt (pv 0) pe_int (nomark _)) (pw_and1 (pt_cmpR op_gt (pv 1) pe_int (nomark _))))) (pss_one (ps_if (pt_cmpR op_lt (pv 0) (pv 1) (nomark _)) (pss_one (ps_set (i := 1) sc_law_common.nd rfl (by first | exact Or.inl rfl | exact Or.inr rfl) (pe_op op_mod (pv 1) (pv 0)))) (pss_one (ps_set (i := 0) sc_law_common.nd rfl (by first | exact Or.inl rfl | exact Or.inr rfl) (pe_op op_mod (pv 0) (pv 1)))))))
      (pss_one (ps_ret (pe_op op_add (pv 0) (pv 1))))))), ?_⟩
  walk_at "go"
  rw [← gc_abs a b] at k
  have ha : 0 ≤ (if a < 0 then -a else a) := by split <;> omega
  have hb : 0 ≤ (if b < 0 then -b else b) := by split <;> omega
  refine rd_while (fun m σ H' => ∃ x y : Int, σ = [some (.int x), some (.int y)] ∧ H' = H ∧ 0 ≤ x ∧ 0 ≤ y ∧ m = x.toNat + y.toNat ∧ gc x y = gc (if a < 0 then -a else a) (if b < 0 then -b else b)) _ ⟨_, _, rfl, rfl, ha, hb, rfl, rfl⟩ ?_
  rintro m σ H' ⟨x, y, rfl, rfl, hx, hy, rfl, hg⟩
  walk_at "go"
  refine rd_ite (fun hx0 => ?_) (fun hx0 => ?_)
  · walk_at "go"
    refine rd_ite (fun hy0 => ?_) (fun hy0 => ?_)
    · refine rd_turn ?_
      walk_at "go"
      refine rd_ite (fun hl => ?_) (fun hl => ?_)
      · walk_at "go"
        · refine ⟨_, ?_, x, y % x, rfl, rfl, hx, Int.emod_nonneg _ (by omega), rfl, by rw [gc_modr]; exact hg⟩
          have := Int.emod_lt_of_pos y hx0
          have := Int.emod_nonneg y (show x ≠ 0 by omega)
          omega
        · exact hx0
      · walk_at "go"
        · refine ⟨_, ?_, x % y, y, rfl, rfl, Int.emod_nonneg _ (by omega), hy, rfl, by rw [gc_modl]; exact hg⟩
          have := Int.emod_lt_of_pos x hy0
          have := Int.emod_nonneg x (show y ≠ 0 by omega)
          omega
        · exact hy0
    · walk_at "go"
      refine k _ _ ⟨?_, rfl⟩
      rw [← hg, gc_end hx hy (fun z => hy0 z.2)]
  · walk_at "go"
    refine k _ _ ⟨?_, rfl⟩
    rw [← hg, gc_end hx hy (fun z => hx0 z.1)]
end
end Bw
end

section
set_option Elab.async false
set_option linter.all false
set_option maxRecDepth 100000
set_option maxHeartbeats 4100000
set_option exponentiation.threshold 1000000
namespace Bw
open PySem L2
-- HDR
-- what the heap knows, carried over
local macro_rules | `(tactic| walk_at "hp") => `(tactic| first
  | assumption
  | (refine' TUP.up (tk_of ?e) ?h; (case e => assumption); (case h => walk_at "hp"))
  | (refine' Fld.up ?e ?h; (case e => assumption); (case h => walk_at "hp"))
  | (refine' LST.up ?e ?h; (case e => assumption); (case h => walk_at "hp"))
  | (refine' TUP.up ?e ?h; (case e => assumption); (case h => walk_at "hp"))
  | (refine' Mth.up ?e ?h; (case e => assumption); (case h => walk_at "hp")))
-- one step of a reading
local macro_rules | `(tactic| walk_at "rd") => `(tactic| first
  | (with_reducible refine rd_var rfl ?_)
  | (with_reducible refine rd_c ?_)
  | (with_reducible refine rd_op ?_)
  | (with_reducible refine rd_mulW ?_ ?_)
  | (with_reducible refine rd_add ?_)
  | (with_reducible refine rd_sub ?_)
  | (with_reducible refine rd_cons ?_)
  | (with_reducible refine rd_nil ?_)
  | (with_reducible refine rd_seq ?_)
  | (with_reducible refine rd_asg ?_)
  | (with_reducible refine rd_name ?_)
  | (with_reducible refine rd_call ?_)
  | (with_reducible refine rd_fld ?_)
  | ((with_reducible refine' rd_fldv ?h ?_); (case h => walk_at "hp"))
  | ((with_reducible refine' rd_ixT0 ?h ?e ?_); (case h => walk_at "hp"); (case e => rfl))
  | ((with_reducible refine' rd_ixT1 ?h ?e ?_); (case h => walk_at "hp"); (case e => rfl))
  | ((with_reducible refine' rd_ixT2 ?h ?e ?_); (case h => walk_at "hp"); (case e => rfl))
  | ((with_reducible refine' rd_gtup ?h ?e ?_); (case h => walk_at "hp"); (case e => rfl))
  | (with_reducible refine rd_gcons ?_)
  | (with_reducible refine rd_gnil ?_)
  | (with_reducible refine rd_if ?_)
  | (with_reducible refine rd_test ?_)
  | (with_reducible refine rd_isbl ?_)
  | (with_reducible refine rd_iteT ?_)
  | (with_reducible refine rd_iteF ?_)
  | (with_reducible refine rd_ret ?_)
  | (with_reducible refine rd_next ?_)
  | (with_reducible refine rd_lt ?_)
  | (with_reducible refine rd_gt ?_)
  | (with_reducible refine rd_eqI ?_)
  | (with_reducible refine rd_neI ?_)
  | (with_reducible refine rd_un ?_)
  | (with_reducible refine rd_neg ?_)
  | (with_reducible refine rd_tup ?_)
  | (with_reducible refine rd_lst ?_)
  | (with_reducible refine rd_lstN (Nat.le_of_ble_eq_true rfl) ?_; intro _ _ _ _ _)
  | (with_reducible refine rd_tupN (Nat.le_of_ble_eq_true rfl) ?_; intro _ _ _ _)
  | (with_reducible refine rd_mod ?_ ?_)
  | (with_reducible refine rd_modN ?_ ?_)
  | (with_reducible refine rd_mul ?_ ?_)
  | (with_reducible refine rd_fdiv ?_ ?_)
  | (with_reducible refine rd_fdivZ ?_ ?_ ?_)
  | (with_reducible refine rd_tB ?_)
  | (with_reducible refine rd_CB ?_)
  | (with_reducible refine rd_le ?_)
  | (with_reducible refine rd_ge ?_)
  | (with_reducible refine rd_eqS ?_)
  | (with_reducible refine rd_neS ?_)
  | (with_reducible refine rd_isN0 ?_)
  | (with_reducible refine rd_isN1 ?_)
  | (with_reducible refine rd_notN0 ?_)
  | (with_reducible refine rd_notN1 ?_)
  | (with_reducible refine rd_abs ?_)
  | (with_reducible refine rd_max2 ?_)
  | (with_reducible refine rd_min2 ?_)
  | (with_reducible refine rd_mx ?_)
  | ((with_reducible refine' rd_mx1 ?h ?_); (case h => walk_at "hp"))
  | (with_reducible refine rd_and ?_)
  | (with_reducible refine rd_or ?_)
  | (with_reducible refine rd_not ?_)
  | (with_reducible refine rd_drop ?_)
  | (with_reducible refine rd_chain ?_)
  | (with_reducible refine rd_orV ?_)
  | (with_reducible refine rd_andV ?_)
  | (with_reducible refine rd_notV ?_)
  | (with_reducible refine rd_sfld ?_)
  | (with_reducible refine rd_for ?_)
  | (with_reducible refine rd_iL ?_)
  | (with_reducible refine rd_lc ?_)
  | (with_reducible refine rd_iE ?_)
  | ((with_reducible refine' rd_lenL ?h ?_); (case h => walk_at "hp"))
  | ((with_reducible refine' rd_lenT ?h ?_); (case h => walk_at "hp"))
  | (with_reducible refine rd_yes ?_)
  | (with_reducible refine rd_iZ ?_)
  | (with_reducible refine rd_iT ?_)
  | (with_reducible refine rd_break ?_)
  | ((with_reducible refine' rd_ixT3 ?h ?e ?_); (case h => walk_at "hp"); (case e => rfl))
  | ((with_reducible refine' rd_ixT4 ?h ?e ?_); (case h => walk_at "hp"); (case e => rfl))
  | ((with_reducible refine' rd_ixT5 ?h ?e ?_); (case h => walk_at "hp"); (case e => rfl))
  | ((with_reducible refine' rd_ixL0 ?h ?e ?_); (case h => walk_at "hp"); (case e => rfl))
  | ((with_reducible refine' rd_ixL1 ?h ?e ?_); (case h => walk_at "hp"); (case e => rfl))
  | ((with_reducible refine' rd_ixL2 ?h ?e ?_); (case h => walk_at "hp"); (case e => rfl))
  | ((with_reducible refine' rd_ixL3 ?h ?e ?_); (case h => walk_at "hp"); (case e => rfl))
  | ((with_reducible refine' rd_ixL4 ?h ?e ?_); (case h => walk_at "hp"); (case e => rfl))
  | ((with_reducible refine' rd_ixL5 ?h ?e ?_); (case h => walk_at "hp"); (case e => rfl)))
-- steps, with the callees' promises
local macro_rules | `(tactic| walk_at "go") => `(tactic| repeat first | walk_at "rd" | walk_at "us")
-- every way
local macro_rules | `(tactic| walk_at "all") => `(tactic| repeat' first
  | walk_at "rd"
  | walk_at "us"
  | (with_reducible refine rd_ite (fun _ => ?_) (fun _ => ?_))
  | (with_reducible refine rd_iten (fun _ => ?_) (fun _ => ?_)))
-- END
-- HDR7
local macro_rules | `(tactic| walk_at "rd") => `(tactic| first
  | (with_reducible refine rd_make ?_)
  | (with_reducible refine rd_bm ?_)
  | (with_reducible refine rd_bm0 ?_)
  | ((with_reducible refine' rd_ty ?h ?_); (case h => walk_at "hp"))
  | (with_reducible refine rd_augS ?_)
  | (with_reducible refine rd_ipI ?_))
local macro_rules | `(tactic| walk_at "rd") => `(tactic| first
  | (with_reducible refine rd_sl ?_)
  | (with_reducible refine rd_nopart ?_)
  | (with_reducible refine rd_part ?_)
  | (with_reducible refine rd_isint ?_)
  | ((with_reducible refine' rd_minT ?h ?g ?_); (case h => walk_at "hp"); (case g => walk_at "hp"); intro _ _)
  | ((with_reducible refine' rd_maxT ?h ?g ?_); (case h => walk_at "hp"); (case g => walk_at "hp"); intro _ _)
  | ((with_reducible refine' rd_ltT ?h ?g ?_); (case h => walk_at "hp"); (case g => walk_at "hp"))
  | ((with_reducible refine' rd_listL ?h ?_); (case h => walk_at "hp"); intro _ _ _ _ _))
-- END
-- HDR8
local macro_rules | `(tactic| walk_at "hp") => `(tactic| (refine' SQ.up ?e ?h; (case e => assumption); (case h => walk_at "hp")))
local macro_rules | `(tactic| walk_at "rd") => `(tactic| first
  | (with_reducible refine rd_rng ?_)
  | ((with_reducible refine' rd_lenS ?h ?_); (case h => walk_at "hp")))
-- END
-- HDR9
local macro_rules | `(tactic| walk_at "us") => `(tactic| first
  | ((with_reducible refine' us_cell_at ?h ?_); (case h => walk_at "hp"))
  | (with_reducible refine us_common ?_))
-- END
/-- an item of a list of four, by a line's number -/
theorem rd_ix4 {K : PySem.W.Frag} {H : Hp} {v a b c d : V} {l : Int} {Q : VK} (h : LST H v [a, b, c, d]) (hl : 0 ≤ l ∧ l ≤ 3) (q : Q (if l = 0 then a else if l = 1 then b else if l = 2 then c else d) H) : rIxL K v (.int l) H Q := by
  refine rd_ixI h.sq hl.1 ?_ q
  rcases line_cases hl with e | e | e | e <;> rw [e] <;> rfl
theorem ite4 (l : Int) (a b c d : Int) : (if l = 0 then V.int a else if l = 1 then V.int b else if l = 2 then V.int c else V.int d) = V.int (if l = 0 then a else if l = 1 then b else if l = 2 then c else d) := by
  split
  · rfl
  · split
    · rfl
    · split <;> rfl
section
variable {P : Program} {w : World} {K : PySem.W.Frag} {mg : Str → Option Value} {base : Heap} {c : Cs} {f : Addr} {fd : FuncData}
structure PcA where
  (x y line long : Int)
abbrev T3s (H : Hp) (xs : List V) (ps : List P3) : Prop := Paired (fun v p => T3 H v p) xs ps
theorem T3s.up {H H' : Hp} {xs : List V} {ps : List P3} (k : TK H H') (h : T3s H xs ps) : T3s H' xs ps := Paired.up (fun _ _ q => TUP.up k q) h
def sp_pieces : Sp := mkSp (fun a : PcA => [.int a.x, .int a.y, .int a.line, .int a.long]) (fun a _ => (0 ≤ a.line ∧ a.line ≤ 3) ∧ 0 ≤ a.long ∧ a.long ≤ 4)
  fun a H v H' => Same H H' ∧ ∃ p xs, v = .ref p ∧ H p = none ∧ H' p = some (.lst xs) ∧ T3s H' xs (piecesP a.x a.y a.line a.long.toNat)
theorem us_pieces {x y line long : Int} {H : Hp} {Q : VK} {E : XK} (hl : 0 ≤ line ∧ line ≤ 3) (hn : 0 ≤ long ∧ long ≤ 4) (k : ∀ p xs H', Same H H' → H p = none → H' p = some (.lst xs) → T3s H' xs (piecesP x y line long.toNat) → Q (.ref p) H') :
    sp_pieces ([.int x, .int y, .int line, .int long] ++ []) H Q E := ⟨⟨x, y, line, long⟩, rfl, ⟨hl, hn.1, hn.2⟩, fun v H' e => by
    obtain ⟨e1, p, xs, rfl, e2, e3, e4⟩ := e
    exact k p xs H' e1 e2 e3 e4⟩
theorem piecesP_succ (x y l : Int) (n : Nat) : piecesP x y l (n + 1) = piecesP x y l n ++ [(x + (n : Int) * dxL l, y + (n : Int) * dyL l, l)] := by
  unfold piecesP
  rw [List.range_succ, List.map_append]
  rfl
theorem piecesP_len (x y l : Int) (n : Nat) : (piecesP x y l n).length = n := by
  unfold piecesP
  (rw [List.length_map, List.length_range])
abbrev N_law_pieces : List Str := ["_law_x", "_law_y", "_law_line", "_law_long", "_law_across", "_law_up", "_law_k"]
theorem sc_law_pieces : FnScope ["_law_x", "_law_y", "_law_line", "_law_long", "_law_across", "_law_up", "_law_k"] ["_law_x", "_law_y", "_law_line", "_law_long"] (defScope s_law_pieces) := ⟨rfl, rfl, rfl, by decide +kernel, rfl, by decide +kernel, by decide +kernel⟩
theorem ok_pieces (F : Fun K "_law_pieces" "_law_pieces" s_law_pieces f fd) (T : Txt K mg c) : FnOk P w K mg base CX0 1 f fd ["_law_x", "_law_y", "_law_line", "_law_long"] sp_pieces := by
  refine F.ok sc_law_pieces (mk_len fun _ => rfl) (fun cdv A outer s H vs Q E hr h => ?_)
  obtain ⟨⟨x, y, l, n⟩, hv, ⟨hl, n0, n4⟩, k⟩ := h
  dsimp only at hv hl n0 n4 k
  subst hv
  refine ⟨_, (pss_cons (ps_set (i := 4) sc_law_pieces.nd rfl (by first | exact Or.inl rfl | exact Or.inr rfl) (pe_ix ix_list (pe_lst (pa_cons pe_int (pa_cons pe_int (pa_cons pe_int (pa_cons pe_int pa_nil))))) (pv 2) (fun _ _ => rfl)))
      (pss_cons (ps_set (i := 5) sc_law_pieces.nd rfl (by first | exact Or.inl rfl | exact Or.inr rfl) (pe_ix ix_list (pe_lst (pa_cons pe_int (pa_cons pe_int (pa_cons pe_int (pa_cons (pe_un un_neg pe_int) pa_nil))))) (pv 2) (fun _ _ => rfl)))
      (pss_one (ps_ret (pe_lc (own := [("_law_k", 6)]) (g := gName 6) (tt := tYes) rfl sc_law_pieces.nd (pi_range1 rfl T.n_range (pa_cons (pv 3) pa_nil)) (blkOk_by (own := [("_law_k", 6)]) (N := ["_law_x", "_law_y", "_law_line", "_law_long", "_law_across", "_law_up", "_law_k"]) (sc := defScope s_law_pieces) (by decide +kernel)) (fun _ _ _ _ _ => (pg_name (i := 6) sc_law_pieces.nd rfl (by first | exact Or.inl rfl | exact Or.inr rfl))) (fun _ _ _ _ _ => pts_nil) (fun _ _ _ _ _ => (pe_tup (pa_cons (pe_op op_add (pv 0) (pe_op op_mul (pv 6) (pv 4))) (pa_cons (pe_op op_add (pv 1) (pe_op op_mul (pv 6) (pv 5))) (pa_cons (pv 2) pa_nil)))))))))), ?_⟩
  walk_at "go"
  rename_i l1 H1 e1 n1 h1
  refine rd_ix4 ⟨l1, rfl, h1⟩ hl ?_
  rw [ite4, show (if l = 0 then 1 else if l = 1 then 1 else if l = 2 then 0 else 1) = dxL l from rfl]
  walk_at "go"
  rename_i l2 H2 e2 n2 h2
  refine rd_ix4 ⟨l2, rfl, h2⟩ hl ?_
  rw [ite4, show (if l = 0 then 0 else if l = 1 then 1 else if l = 2 then 1 else -1) = dyL l from rfl]
  walk_at "go"
  (refine ⟨by omega, by omega, ?_⟩)
  have e12 := e1.trans e2
  refine lc_R (fun D i H' => Same H H' ∧ ∃ xs, H' D = some (.lst xs) ∧ T3s H' xs (piecesP x y l i)) (fun D hD => ⟨e12.trans (same_new hD), [], upd_same, .nil⟩) ?_ ?_
  · rintro D i H' hD hi ⟨e, xs, hd, tt⟩
    have hi4 : (i : Int) < 4 := by
      have : i < n.toNat := hi
      omega
    unfold LcTurn
    walk_at "go"
    refine ⟨rfl, ?_⟩
    walk_at "go"
    rotate_left
    · exact .inl ⟨by omega, by omega⟩
    · exact .inl ⟨by omega, by omega⟩
    rename_i tp H3 e3 t3
    have hD0 := none_of e12 hD
    have tk : TK H3 (upd H3 D (.lst (xs ++ [.ref tp]))) := TK.put (e3 _ _ hd) fun _ z => by cases z
    refine ⟨xs, e3 _ _ hd, ?_, Same.put (e.trans e3) hD0, xs ++ [.ref tp], upd_same, ?_⟩
    · have := Paired.len tt
      rw [piecesP_len] at this
      exact Nat.lt_of_lt_of_le (show xs.length < 1000 by omega) (Nat.le_of_ble_eq_true rfl)
    · rw [piecesP_succ]
      exact Paired.snoc (R := fun v p => T3 (upd H3 D (.lst (xs ++ [.ref tp]))) v p) (a := (x + (i : Int) * dxL l, y + (i : Int) * dyL l, l)) (t3.up tk) (T3s.up ((tk_of e3).trans tk) tt)
  · rintro D H' hD ⟨e, xs, hd, tt⟩
    exact k _ _ ⟨e, D, xs, rfl, none_of e12 hD, hd, tt⟩
/-- a drawn row -/
def RowAt (H : Hp) (v : V) (r : Row) : Prop := TUP H v [.int r.x, .int r.y, .int r.line, .int r.long, .int r.num]
theorem RowAt.up {H H' : Hp} {v : V} {r : Row} (k : TK H H') (h : RowAt H v r) : RowAt H' v r := TUP.up k h
def sp_row_by : Sp := mkSp (fun a : Int × Int × Int => [.int a.1, .int a.2.1, .int a.2.2]) (fun a _ => 0 ≤ a.1 ∧ (1 ≤ a.2.1 ∧ a.2.1 ≤ 4) ∧ 1 ≤ a.2.2 ∧ a.2.2 ≤ 4)
  fun a H v H' => Same H H' ∧ RowAt H' v (rowP a.1 a.2.1 a.2.2)
theorem us_row_by {n wide high : Int} {H : Hp} {Q : VK} {E : XK} (h0 : 0 ≤ n) (hw : 1 ≤ wide ∧ wide ≤ 4) (hh : 1 ≤ high ∧ high ≤ 4) (k : ∀ v H', Same H H' → RowAt H' v (rowP n wide high) → Q v H') : sp_row_by ([.int n, .int wide, .int high] ++ []) H Q E :=
  ⟨(n, wide, high), rfl, ⟨h0, hw, hh⟩, fun v H' e => k v H' e.1 e.2⟩
theorem min2_eq (i j : Int) : (if j < i then j else i) = min i j := by
  rw [Int.min_def]
  split <;> split <;> omega
abbrev N_law_row_by : List Str := ["_law_number", "_law_wide", "_law_high", "_law_x", "_law_y", "_law_line", "_law_reach"]
theorem sc_law_row_by : FnScope ["_law_number", "_law_wide", "_law_high", "_law_x", "_law_y", "_law_line", "_law_reach"] ["_law_number", "_law_wide", "_law_high"] (defScope s_law_row_by) := ⟨rfl, rfl, rfl, by decide +kernel, rfl, by decide +kernel, by decide +kernel⟩
theorem ok_row_by (F : Fun K "_law_row_by" "_law_row_by" s_law_row_by f fd) (T : Txt K mg c) : FnOk P w K mg base CX0 1 f fd ["_law_number", "_law_wide", "_law_high"] sp_row_by := by
  refine F.ok sc_law_row_by (mk_len fun _ => rfl) (fun cdv A outer s H vs Q E hr h => ?_)
  obtain ⟨⟨n, wide, high⟩, hv, ⟨h0, hw, hh⟩, k⟩ := h
  dsimp only at hv h0 hw hh k
  subst hv
  refine ⟨_, (pss_cons (ps_set (i := 3) sc_law_row_by.nd rfl (by first | exact Or.inl rfl | exact Or.inr rfl) (pe_op op_mod (pv 0) (pe_op op_add (pv 1) pe_int)))
      (pss_cons (ps_set (i := 0) sc_law_row_by.nd rfl (by first | exact Or.inl rfl | exact Or.inr rfl) (pe_op op_fdiv (pv 0) (pe_op op_add (pv 1) pe_int)))
      (pss_cons (ps_set (i := 4) sc_law_row_by.nd rfl (by first | exact Or.inl rfl | exact Or.inr rfl) (pe_op op_mod (pv 0) (pe_op op_add (pv 2) pe_int)))
      (pss_cons (ps_set (i := 0) sc_law_row_by.nd rfl (by first | exact Or.inl rfl | exact Or.inr rfl) (pe_op op_fdiv (pv 0) (pe_op op_add (pv 2) pe_int)))
      (pss_cons (ps_set (i := 5) sc_law_row_by.nd rfl (by first | exact Or.inl rfl | exact Or.inr rfl) (pe_op op_mod (pv 0) pe_int))
      (pss_cons (ps_set (i := 6) sc_law_row_by.nd rfl (by first | exact Or.inl rfl | exact Or.inr rfl) (pe_ix ix_list (pe_lst (pa_cons (pe_op op_sub (pv 1) (pv 3)) (pa_cons (pe_callB (cl_min2 rfl) rfl T.n_min (by decide +kernel) (pa_cons (pe_op op_sub (pv 1) (pv 3)) (pa_cons (pe_op op_sub (pv 2) (pv 4)) pa_nil))) (pa_cons (pe_op op_sub (pv 2) (pv 4)) (pa_cons (pe_callB (cl_min2 rfl) rfl T.n_min (by decide +kernel) (pa_cons (pe_op op_sub (pv 1) (pv 3)) (pa_cons (pv 4) pa_nil))) pa_nil))))) (pv 5) (fun _ _ => rfl)))
      (pss_cons (ps_set (i := 0) sc_law_row_by.nd rfl (by first | exact Or.inl rfl | exact Or.inr rfl) (pe_op op_fdiv (pv 0) pe_int))
      (pss_cons (ps_if (pt_cmpR op_eq (pv 6) pe_int (nomark _)) (pss_one (ps_ret (pe_tup (pa_cons (pv 3) (pa_cons (pv 4) (pa_cons (pv 5) (pa_cons pe_int (pa_cons pe_int pa_nil)))))))) pss_nil)
      (pss_one (ps_ret (pe_tup (pa_cons (pv 3) (pa_cons (pv 4) (pa_cons (pv 5) (pa_cons (pe_op op_add pe_int (pe_op op_mod (pv 0) (pv 6))) (pa_cons (pe_op op_fdiv (pv 0) pe_int) pa_nil)))))))))))))))), ?_⟩
  have x0 := Int.emod_nonneg n (show wide + 1 ≠ 0 by omega)
  have x1 := Int.emod_lt_of_pos n (show 0 < wide + 1 by omega)
  have n1 : 0 ≤ n / (wide + 1) := Int.ediv_nonneg h0 (by omega)
  have y0 := Int.emod_nonneg (n / (wide + 1)) (show high + 1 ≠ 0 by omega)
  have y1 := Int.emod_lt_of_pos (n / (wide + 1)) (show 0 < high + 1 by omega)
  have n2 : 0 ≤ n / (wide + 1) / (high + 1) := Int.ediv_nonneg n1 (by omega)
  have l0 := Int.emod_nonneg (n / (wide + 1) / (high + 1)) (show (4 : Int) ≠ 0 by omega)
  have l1 := Int.emod_lt_of_pos (n / (wide + 1) / (high + 1)) (show (0 : Int) < 4 by omega)
  have k' : ∀ v H' r, rowP n wide high = r → Same H H' → RowAt H' v r → Q v H' := fun v H' r er e t => k v H' ⟨e, by rw [er]; exact t⟩
  walk_at "go"
  rotate_left
  · decide
  · exact ⟨by omega, by omega⟩
  · omega
  · exact ⟨by omega, by omega⟩
  · omega
  rename_i lp H1 e1 np hp
  rw [min2_eq, min2_eq] at hp
  refine rd_ix4 ⟨lp, rfl, hp⟩ ⟨l0, by omega⟩ ?_
  rw [ite4, show (if n / (wide + 1) / (high + 1) % 4 = 0 then wide - n % (wide + 1) else if n / (wide + 1) / (high + 1) % 4 = 1 then min (wide - n % (wide + 1)) (high - n / (wide + 1) % (high + 1)) else if n / (wide + 1) / (high + 1) % 4 = 2 then high - n / (wide + 1) % (high + 1) else min (wide - n % (wide + 1)) (n / (wide + 1) % (high + 1))) =
    reachP wide high (n % (wide + 1)) (n / (wide + 1) % (high + 1)) (n / (wide + 1) / (high + 1) % 4) from rfl]
  have hr0 : 0 ≤ reachP wide high (n % (wide + 1)) (n / (wide + 1) % (high + 1)) (n / (wide + 1) / (high + 1) % 4) := by
    unfold reachP
    split
    · omega
    · split
      · omega
      · split <;> omega
  walk_at "go"
  · refine rd_ite (fun hz => ?_) (fun hz => ?_)
    · walk_at "go"
      refine k' _ _ ⟨n % (wide + 1), n / (wide + 1) % (high + 1), n / (wide + 1) / (high + 1) % 4, 0, 0⟩ ?_ (e1.trans (by assumption)) (by assumption)
      unfold rowP
      dsimp only
      rw [if_pos hz]
    · walk_at "go"
      · refine k' _ _ ⟨n % (wide + 1), n / (wide + 1) % (high + 1), n / (wide + 1) / (high + 1) % 4, 1 + n / (wide + 1) / (high + 1) / 4 % reachP wide high (n % (wide + 1)) (n / (wide + 1) % (high + 1)) (n / (wide + 1) / (high + 1) % 4), n / (wide + 1) / (high + 1) / 4 / 7⟩ ?_ (e1.trans (by assumption)) (by assumption)
        unfold rowP
        dsimp only
        rw [if_neg hz]
      · exact ⟨by omega, by omega⟩
      · omega
  · exact ⟨by omega, by omega⟩
end
end Bw
end

section
set_option Elab.async false
set_option linter.all false
set_option maxRecDepth 100000
set_option maxHeartbeats 4100000
set_option exponentiation.threshold 1000000
namespace Bw
open PySem L2
/-! ### data compared whole -/
def Lay (n : Nat) (d : PyData) : Prop := d.canLay0 = true ∧ d.depth ≤ n
theorem Lay.all {n : Nat} : ∀ {ds : List PyData}, (∀ d ∈ ds, Lay n d) → PyData.canLayAll0 ds = true ∧ PyData.depthAll ds ≤ n
  | [], _ => by simp [PyData.canLayAll0, PyData.depthAll]
  | d :: ds, h => by
    obtain ⟨h1, h2⟩ := Lay.all (ds := ds) fun e he => h e (List.mem_cons_of_mem _ he)
    obtain ⟨g1, g2⟩ := h d (List.mem_cons_self ..)
    simp only [PyData.canLayAll0, PyData.depthAll]
    refine ⟨by rw [g1, h1]; rfl, by omega⟩
theorem Lay.list {n : Nat} {ds : List PyData} (h : ∀ d ∈ ds, Lay n d) : Lay (n + 1) (.list ds) := by
  obtain ⟨h1, h2⟩ := Lay.all h
  refine ⟨by simpa only [PyData.canLay0] using h1, ?_⟩
  simp only [PyData.depth]
  omega
theorem Lay.tup {n : Nat} {ds : List PyData} (h : ∀ d ∈ ds, Lay n d) : Lay (n + 1) (.tuple ds) := by
  obtain ⟨h1, h2⟩ := Lay.all h
  refine ⟨by simpa only [PyData.canLay0] using h1, ?_⟩
  simp only [PyData.depth]
  omega
theorem Lay.int (i : Int) : Lay 0 (.int i) := ⟨by simp [PyData.canLay0], by simp [PyData.depth]⟩
theorem Lay.none : Lay 0 .none := ⟨by simp [PyData.canLay0], by simp [PyData.depth]⟩
theorem Lay.mono {m n : Nat} {d : PyData} (h : Lay m d) (l : m ≤ n) : Lay n d := ⟨h.1, Nat.le_trans h.2 l⟩
theorem Lay.shaped {n : Nat} {d : PyData} (h : Lay n d) (l : n ≤ 64) : SeqAt.shaped d = true := by
  show (d.canLay0 && decide (d.depth ≤ 64)) = true
  rw [h.1, decide_eq_true (Nat.le_trans h.2 l)]
  rfl
theorem Lay.cons {n : Nat} {d : PyData} {ds : List PyData} (h : Lay n d) (g : ∀ e ∈ ds, Lay n e) : ∀ e ∈ d :: ds, Lay n e := fun e he => by
  rcases List.mem_cons.mp he with rfl | q
  · exact h
  · exact g e q
theorem Lay.nil {n : Nat} : ∀ e ∈ ([] : List PyData), Lay n e := fun _ z => nomatch z
/-! a datum equals itself -/
mutual
theorem eqv_same : ∀ d : PyData, d.canLay0 = true → PyData.eqv d d = true
  | .none, _ => by (simp [PyData.eqv])
  | .bool _, _ => by (simp [PyData.eqv])
  | .int _, _ => by (simp [PyData.eqv])
  | .str _, _ => by (simp [PyData.eqv])
  | .list xs, h => by
    rw [PyData.eqv]
    exact eqvAll_same xs (by simpa only [PyData.canLay0] using h)
  | .tuple xs, h => by
    rw [PyData.eqv]
    exact eqvAll_same xs (by simpa only [PyData.canLay0] using h)
  | .dict _, h => by simp [PyData.canLay0] at h
theorem eqvAll_same : ∀ ds : List PyData, PyData.canLayAll0 ds = true → PyData.eqvAll ds ds = true
  | [], _ => by (simp [PyData.eqvAll])
  | d :: ds, h => by
    simp only [PyData.canLayAll0, Bool.and_eq_true] at h
    simp only [PyData.eqvAll, eqv_same d h.1, eqvAll_same ds h.2, Bool.and_self]
end
def pd3 (a : P3) : PyData := .tuple [.int a.1, .int a.2.1, .int a.2.2]
theorem lay2 (a : P2) : Lay 1 (pd2 a) := Lay.tup (Lay.cons (Lay.int _) (Lay.cons (Lay.int _) Lay.nil))
theorem lay3 (a : P3) : Lay 1 (pd3 a) := Lay.tup (Lay.cons (Lay.int _) (Lay.cons (Lay.int _) (Lay.cons (Lay.int _) Lay.nil)))
section
variable {K : PySem.W.Frag} {H : Hp} {v : V}
theorem dp2 {a : P2} (h : T2 H v a) : Dp K H v (pd2 a) := by
  obtain ⟨p, rfl, e⟩ := h
  exact .tup (SqT.of e) (.cons (.int _) (.cons (.int _) .nil))
theorem dp3 {a : P3} (h : T3 H v a) : Dp K H v (pd3 a) := by
  obtain ⟨p, rfl, e⟩ := h
  exact .tup (SqT.of e) (.cons (.int _) (.cons (.int _) (.cons (.int _) .nil)))
theorem dpAll {α : Type} {R : V → α → Prop} {g : α → PyData} (hg : ∀ v a, R v a → Dp K H v (g a)) : ∀ {vs : List V} {as : List α}, Paired R vs as → DpAll K H vs (as.map g)
  | _, _, .nil => .nil
  | _, _, .cons h t => .cons (hg _ _ h) (dpAll hg t)
def pdHit (h : Hit) : PyData := .tuple [.int (h.num : Nat), pd2 h.now, pd3 h.pt, pd2 h.way]
theorem layHit (h : Hit) : Lay 2 (pdHit h) := Lay.tup (Lay.cons ((Lay.int _).mono (by decide)) (Lay.cons (lay2 _) (Lay.cons (lay3 _) (Lay.cons (lay2 _) Lay.nil))))
theorem dpHit {h : Hit} (e : HitAt H v h) : Dp K H v (pdHit h) := by
  obtain ⟨nv, qv, wv, ⟨p, rfl, e⟩, h1, h2, h3⟩ := e
  exact .tup (SqT.of e) (.cons (.int _) (.cons (dp2 h1) (.cons (dp3 h2) (.cons (dp2 h3) .nil))))
def pdFin : Fin → PyData
  | .going => .none
  | .away => .tuple [.str "away"]
  | .corner now pt => .tuple [.str "corner", pd2 now, pd3 pt]
  | .fell n now pt => .tuple [.str "fell", .int (n : Nat), pd2 now, pd3 pt]
theorem layStr {s : Str} (h : PyData.strOk s = true) : Lay 1 (.str s) := ⟨by simpa only [PyData.canLay0] using h, by simp [PyData.depth]⟩
theorem layFin (e : Fin) : Lay 2 (pdFin e) := by
  cases e with
  | going => exact Lay.none.mono (by decide)
  | away => exact Lay.tup (Lay.cons (layStr (by decide +kernel)) Lay.nil)
  | corner now pt => exact Lay.tup (Lay.cons (layStr (by decide +kernel)) (Lay.cons (lay2 _) (Lay.cons (lay3 _) Lay.nil)))
  | fell n now pt => exact Lay.tup (Lay.cons (layStr (by decide +kernel)) (Lay.cons ((Lay.int _).mono (by decide)) (Lay.cons (lay2 _) (Lay.cons (lay3 _) Lay.nil))))
theorem dpFin {e : Fin} (h : FinAt H v e) : Dp K H v (pdFin e) := by
  cases e with
  | going =>
    obtain rfl : v = .non := h
    exact .non
  | away =>
    obtain ⟨p, rfl, e⟩ := h
    exact .tup (SqT.of e) (.cons (.str _) .nil)
  | corner now pt =>
    obtain ⟨nv, qv, ⟨p, rfl, e⟩, h1, h2⟩ := h
    exact .tup (SqT.of e) (.cons (.str _) (.cons (dp2 h1) (.cons (dp3 h2) .nil)))
  | fell n now pt =>
    obtain ⟨nv, qv, ⟨p, rfl, e⟩, h1, h2⟩ := h
    exact .tup (SqT.of e) (.cons (.str _) (.cons (.int _) (.cons (dp2 h1) (.cons (dp3 h2) .nil))))
variable {x y : V} {Q : VK}
/-- x == y, two ways to lay one datum -/
theorem rd_eqSame {d : PyData} {n : Nat} (h1 : Dp K H x d) (h2 : Dp K H y d) (l : Lay n d) (hn : n ≤ 64) (q : Q (.bl true) H) : rEqD K x y H Q := by
  refine ⟨d, d, h1, h2, l.shaped hn, l.shaped hn, ?_⟩
  rw [eqv_same d l.1]
  exact q
theorem rd_neSame {d : PyData} {n : Nat} (h1 : Dp K H x d) (h2 : Dp K H y d) (l : Lay n d) (hn : n ≤ 64) (q : Q (.bl false) H) : rNeD K x y H Q := by
  refine ⟨d, d, h1, h2, l.shaped hn, l.shaped hn, ?_⟩
  rw [eqv_same d l.1]
  exact q
/-- a list compared with the empty one -/
theorem rd_eqNil {α : Type} {R : V → α → Prop} {g : α → PyData} {n : Nat} {vs : List V} {as : List α} (h1 : LST H x vs) (h2 : LST H y []) (p : Paired R vs as) (hg : ∀ v a, R v a → Dp K H v (g a)) (l : ∀ a ∈ as, Lay n (g a)) (hn : n ≤ 63) (q : Q (.bl as.isEmpty) H) : rEqD K x y H Q := by
  obtain ⟨a, rfl, e1⟩ := h1
  obtain ⟨b, rfl, e2⟩ := h2
  have ly : Lay (n + 1) (.list (as.map g)) := Lay.list fun d hd => by
    obtain ⟨a, ha, rfl⟩ := List.mem_map.mp hd
    exact l a ha
  refine ⟨.list (as.map g), .list [], .lst (SqL.of e1) (dpAll hg p), .lst (SqL.of e2) .nil, ly.shaped (by omega), by decide, ?_⟩
  have e : PyData.eqv (.list (as.map g)) (.list []) = as.isEmpty := by
    rw [PyData.eqv]
    cases as with
    | nil => simp [PyData.eqvAll]
    | cons a as => simp [PyData.eqvAll]
  rw [e]
  exact q
end
end Bw
end

section
set_option Elab.async false
set_option linter.all false
set_option maxRecDepth 100000
set_option maxHeartbeats 4100000
set_option exponentiation.threshold 1000000
namespace Bw
open PySem L2
-- HDR
-- what the heap knows, carried over
local macro_rules | `(tactic| walk_at "hp") => `(tactic| first
  | assumption
  | (refine' TUP.up (tk_of ?e) ?h; (case e => assumption); (case h => walk_at "hp"))
  | (refine' Fld.up ?e ?h; (case e => assumption); (case h => walk_at "hp"))
  | (refine' LST.up ?e ?h; (case e => assumption); (case h => walk_at "hp"))
  | (refine' TUP.up ?e ?h; (case e => assumption); (case h => walk_at "hp"))
  | (refine' Mth.up ?e ?h; (case e => assumption); (case h => walk_at "hp")))
-- one step of a reading
local macro_rules | `(tactic| walk_at "rd") => `(tactic| first
  | (with_reducible refine rd_var rfl ?_)
  | (with_reducible refine rd_c ?_)
  | (with_reducible refine rd_op ?_)
  | (with_reducible refine rd_mulW ?_ ?_)
  | (with_reducible refine rd_add ?_)
  | (with_reducible refine rd_sub ?_)
  | (with_reducible refine rd_cons ?_)
  | (with_reducible refine rd_nil ?_)
  | (with_reducible refine rd_seq ?_)
  | (with_reducible refine rd_asg ?_)
  | (with_reducible refine rd_name ?_)
  | (with_reducible refine rd_call ?_)
  | (with_reducible refine rd_fld ?_)
  | ((with_reducible refine' rd_fldv ?h ?_); (case h => walk_at "hp"))
  | ((with_reducible refine' rd_ixT0 ?h ?e ?_); (case h => walk_at "hp"); (case e => rfl))
  | ((with_reducible refine' rd_ixT1 ?h ?e ?_); (case h => walk_at "hp"); (case e => rfl))
  | ((with_reducible refine' rd_ixT2 ?h ?e ?_); (case h => walk_at "hp"); (case e => rfl))
  | ((with_reducible refine' rd_gtup ?h ?e ?_); (case h => walk_at "hp"); (case e => rfl))
  | (with_reducible refine rd_gcons ?_)
  | (with_reducible refine rd_gnil ?_)
  | (with_reducible refine rd_if ?_)
  | (with_reducible refine rd_test ?_)
  | (with_reducible refine rd_isbl ?_)
  | (with_reducible refine rd_iteT ?_)
  | (with_reducible refine rd_iteF ?_)
  | (with_reducible refine rd_ret ?_)
  | (with_reducible refine rd_next ?_)
  | (with_reducible refine rd_lt ?_)
  | (with_reducible refine rd_gt ?_)
  | (with_reducible refine rd_eqI ?_)
  | (with_reducible refine rd_neI ?_)
  | (with_reducible refine rd_un ?_)
  | (with_reducible refine rd_neg ?_)
  | (with_reducible refine rd_tup ?_)
  | (with_reducible refine rd_lst ?_)
  | (with_reducible refine rd_lstN (Nat.le_of_ble_eq_true rfl) ?_; intro _ _ _ _ _)
  | (with_reducible refine rd_tupN (Nat.le_of_ble_eq_true rfl) ?_; intro _ _ _ _)
  | (with_reducible refine rd_mod ?_ ?_)
  | (with_reducible refine rd_modN ?_ ?_)
  | (with_reducible refine rd_mul ?_ ?_)
  | (with_reducible refine rd_fdiv ?_ ?_)
  | (with_reducible refine rd_fdivZ ?_ ?_ ?_)
  | (with_reducible refine rd_tB ?_)
  | (with_reducible refine rd_CB ?_)
  | (with_reducible refine rd_le ?_)
  | (with_reducible refine rd_ge ?_)
  | (with_reducible refine rd_eqS ?_)
  | (with_reducible refine rd_neS ?_)
  | (with_reducible refine rd_isN0 ?_)
  | (with_reducible refine rd_isN1 ?_)
  | (with_reducible refine rd_notN0 ?_)
  | (with_reducible refine rd_notN1 ?_)
  | (with_reducible refine rd_abs ?_)
  | (with_reducible refine rd_max2 ?_)
  | (with_reducible refine rd_min2 ?_)
  | (with_reducible refine rd_mx ?_)
  | ((with_reducible refine' rd_mx1 ?h ?_); (case h => walk_at "hp"))
  | (with_reducible refine rd_and ?_)
  | (with_reducible refine rd_or ?_)
  | (with_reducible refine rd_not ?_)
  | (with_reducible refine rd_drop ?_)
  | (with_reducible refine rd_chain ?_)
  | (with_reducible refine rd_orV ?_)
  | (with_reducible refine rd_andV ?_)
  | (with_reducible refine rd_notV ?_)
  | (with_reducible refine rd_sfld ?_)
  | (with_reducible refine rd_for ?_)
  | (with_reducible refine rd_iL ?_)
  | (with_reducible refine rd_lc ?_)
  | (with_reducible refine rd_iE ?_)
  | ((with_reducible refine' rd_lenL ?h ?_); (case h => walk_at "hp"))
  | ((with_reducible refine' rd_lenT ?h ?_); (case h => walk_at "hp"))
  | (with_reducible refine rd_yes ?_)
  | (with_reducible refine rd_iZ ?_)
  | (with_reducible refine rd_iT ?_)
  | (with_reducible refine rd_break ?_)
  | ((with_reducible refine' rd_ixT3 ?h ?e ?_); (case h => walk_at "hp"); (case e => rfl))
  | ((with_reducible refine' rd_ixT4 ?h ?e ?_); (case h => walk_at "hp"); (case e => rfl))
  | ((with_reducible refine' rd_ixT5 ?h ?e ?_); (case h => walk_at "hp"); (case e => rfl))
  | ((with_reducible refine' rd_ixL0 ?h ?e ?_); (case h => walk_at "hp"); (case e => rfl))
  | ((with_reducible refine' rd_ixL1 ?h ?e ?_); (case h => walk_at "hp"); (case e => rfl))
  | ((with_reducible refine' rd_ixL2 ?h ?e ?_); (case h => walk_at "hp"); (case e => rfl))
  | ((with_reducible refine' rd_ixL3 ?h ?e ?_); (case h => walk_at "hp"); (case e => rfl))
  | ((with_reducible refine' rd_ixL4 ?h ?e ?_); (case h => walk_at "hp"); (case e => rfl))
  | ((with_reducible refine' rd_ixL5 ?h ?e ?_); (case h => walk_at "hp"); (case e => rfl)))
-- steps, with the callees' promises
local macro_rules | `(tactic| walk_at "go") => `(tactic| repeat first | walk_at "rd" | walk_at "us")
-- every way
local macro_rules | `(tactic| walk_at "all") => `(tactic| repeat' first
  | walk_at "rd"
  | walk_at "us"
  | (with_reducible refine rd_ite (fun _ => ?_) (fun _ => ?_))
  | (with_reducible refine rd_iten (fun _ => ?_) (fun _ => ?_)))
-- END
-- HDR7
local macro_rules | `(tactic| walk_at "rd") => `(tactic| first
  | (with_reducible refine rd_make ?_)
  | (with_reducible refine rd_bm ?_)
  | (with_reducible refine rd_bm0 ?_)
  | ((with_reducible refine' rd_ty ?h ?_); (case h => walk_at "hp"))
  | (with_reducible refine rd_augS ?_)
  | (with_reducible refine rd_ipI ?_))
local macro_rules | `(tactic| walk_at "rd") => `(tactic| first
  | (with_reducible refine rd_sl ?_)
  | (with_reducible refine rd_nopart ?_)
  | (with_reducible refine rd_part ?_)
  | (with_reducible refine rd_isint ?_)
  | ((with_reducible refine' rd_minT ?h ?g ?_); (case h => walk_at "hp"); (case g => walk_at "hp"); intro _ _)
  | ((with_reducible refine' rd_maxT ?h ?g ?_); (case h => walk_at "hp"); (case g => walk_at "hp"); intro _ _)
  | ((with_reducible refine' rd_ltT ?h ?g ?_); (case h => walk_at "hp"); (case g => walk_at "hp"))
  | ((with_reducible refine' rd_listL ?h ?_); (case h => walk_at "hp"); intro _ _ _ _ _))
-- END
-- HDR8
local macro_rules | `(tactic| walk_at "hp") => `(tactic| (refine' SQ.up ?e ?h; (case e => assumption); (case h => walk_at "hp")))
local macro_rules | `(tactic| walk_at "rd") => `(tactic| first
  | (with_reducible refine rd_rng ?_)
  | ((with_reducible refine' rd_lenS ?h ?_); (case h => walk_at "hp")))
-- END
-- HDR9
local macro_rules | `(tactic| walk_at "us") => `(tactic| first
  | ((with_reducible refine' us_cell_at ?h ?_); (case h => walk_at "hp"))
  | (with_reducible refine us_common ?_))
-- END
theorem hu1 {A : Around} {k : Nat} (hr : Room k A) : A.units + 1 < cLine := by
  have := hu65 hr
  omega
def FenceAt (H : Hp) (v : V) (f : Fence) : Prop := TUP H v [.str f.word, .int f.every, .int f.one.1, .int f.one.2, .int f.two.1, .int f.two.2]
theorem FenceAt.up {H H' : Hp} {v : V} {f : Fence} (k : TK H H') (h : FenceAt H v f) : FenceAt H' v f := TUP.up k h
abbrev FcsAt (H : Hp) (xs : List V) (fs : List Fence) : Prop := Paired (FenceAt H) xs fs
theorem FcsAt.up {H H' : Hp} {xs : List V} {fs : List Fence} (k : TK H H') (h : FcsAt H xs fs) : FcsAt H' xs fs := Paired.up (fun _ _ q => FenceAt.up k q) h
abbrev RwsAt (H : Hp) (xs : List V) (rs : List Row) : Prop := Paired (RowAt H) xs rs
theorem RwsAt.up {H H' : Hp} {xs : List V} {rs : List Row} (k : TK H H') (h : RwsAt H xs rs) : RwsAt H' xs rs := Paired.up (fun _ _ q => RowAt.up k q) h
def rowsP (cells : List Int) (wide high : Int) (framed : Bool) : List Row :=
  if framed = true then ⟨0, 0, 0, wide, 0⟩ :: ⟨wide, 0, 2, high, 0⟩ :: ⟨0, high, 0, wide, 0⟩ :: ⟨0, 0, 2, high, 0⟩ :: cells.map (fun cell => rowP (cell * 48271 % 2147483647) wide high)
  else cells.map (fun cell => rowP (cell * 48271 % 2147483647) wide high)
def fencesP (cells : List Int) (wide high : Int) (framed : Bool) : List Fence := (keepP (rowsP cells wide high framed)).map fenceOf
theorem rowsP_ok {cells : List Int} {wide high : Int} {framed : Bool} (hw : 1 ≤ wide ∧ wide ≤ 4) (hh : 1 ≤ high ∧ high ≤ 4) : ∀ r ∈ rowsP cells wide high framed, RowOk r := by
  have hc : ∀ r ∈ cells.map (fun cell => rowP (cell * 48271 % 2147483647) wide high), RowOk r := fun r hr => by
    obtain ⟨cell, _, rfl⟩ := List.mem_map.mp hr
    exact rowP_ok (Int.emod_nonneg _ (by omega)) hw hh
  intro r hr
  unfold rowsP at hr
  split at hr
  · rcases List.mem_cons.mp hr with rfl | hr
    · refine ⟨?_, ?_, ?_, ?_, ?_, ?_, ?_⟩ <;> simp [dxL, dyL] <;> omega
    · rcases List.mem_cons.mp hr with rfl | hr
      · refine ⟨?_, ?_, ?_, ?_, ?_, ?_, ?_⟩ <;> simp [dxL, dyL] <;> omega
      · rcases List.mem_cons.mp hr with rfl | hr
        · refine ⟨?_, ?_, ?_, ?_, ?_, ?_, ?_⟩ <;> simp [dxL, dyL] <;> omega
        · rcases List.mem_cons.mp hr with rfl | hr
          · refine ⟨?_, ?_, ?_, ?_, ?_, ?_, ?_⟩ <;> simp [dxL, dyL] <;> omega
          · exact hc r hr
  · exact hc r hr
theorem rowsP_len {cells : List Int} {wide high : Int} {framed : Bool} : (rowsP cells wide high framed).length ≤ cells.length + 4 := by
  unfold rowsP
  split
  · simp
  · simp
theorem pcs_total : ∀ {acc : List Row}, (∀ r ∈ acc, RowOk r) → (acc.flatMap pcs).length ≤ 4 * acc.length
  | [], _ => by simp
  | r :: acc, h => by
    have := pcs_total (acc := acc) fun s hs => h s (List.mem_cons_of_mem _ hs)
    have l := (h r (List.mem_cons_self ..)).long
    rw [List.flatMap_cons, List.length_append, List.length_cons]
    have : (pcs r).length = r.long.toNat := piecesP_len ..
    omega
def k3 (p : P3) : List Key := [.inl p.1, .inl p.2.1, .inl p.2.2]
theorem k3_inj {p q : P3} : k3 p = k3 q ↔ p = q := by
  obtain ⟨a, b, c⟩ := p
  obtain ⟨a', b', c'⟩ := q
  unfold k3
  simp
/-- the dict of the pieces taken -/
structure TakenAt (H : Hp) (d : Addr) (ps : List P3) : Prop where
  ex : ∃ kvs : List (List Key × V), H d = some (.dT kvs) ∧ kvs.length ≤ ps.length ∧ ∀ p : P3, (valV kvs (k3 p)).isSome = decide (p ∈ ps)
theorem putK_len {κ : Type} [DecidableEq κ] (kvs : List (κ × V)) (k : κ) (v : V) : (putK kvs k v).length ≤ kvs.length + 1 := by
  unfold putK
  split
  · rw [List.length_map]
    omega
  · (rw [List.length_append, List.length_singleton])
    omega
theorem TakenAt.same {H H' : Hp} {d : Addr} {ps : List P3} (e : Same H H') (h : TakenAt H d ps) : TakenAt H' d ps := by
  obtain ⟨kvs, h1, h2, h3⟩ := h
  exact ⟨kvs, e _ _ h1, h2, h3⟩
theorem rd_tin {ta td : TE} {σ : L2.St} {H : Hp} {Q : VK} (q : ta σ H fun y H1 => td σ H1 fun x H2 => ∃ a o, x = .ref a ∧ DGet H2 a y o ∧ Q (.bl o.isSome) H2) : tDIn ta td σ H Q := q
theorem rd_tinV {H : Hp} {d : Addr} {ps : List P3} {v : V} {p : P3} {QO : Option V → Prop} (h : TakenAt H d ps) (t : T3 H v p) (q : ∀ o : Option V, o.isSome = decide (p ∈ ps) → QO o) : ∃ a o, V.ref d = .ref a ∧ DGet H a v o ∧ QO o := by
  obtain ⟨kvs, h1, h2, h3⟩ := h
  obtain ⟨b, rfl, e⟩ := t
  exact ⟨d, _, rfl, DGet.t (k := k3 p) h1 e, q _ (h3 p)⟩
theorem rd_tput {ta td ti : TE} {σ : L2.St} {H : Hp} {D : Ends} (q : ta σ H fun v H1 => td σ H1 fun x H2 => ti σ H2 fun y H3 => ∃ a H4, x = .ref a ∧ DPut H3 a y v H4 ∧ D.nx σ H4) : sDPut td ti ta D σ H := q
theorem rd_tputV {H : Hp} {d : Addr} {ps : List P3} {v z : V} {p : P3} {Pq : Hp → Prop} (h : TakenAt H d ps) (t : T3 H v p) (hl : ps.length < 1000) (q : ∀ kvs : List (List Key × V), H d = some (.dT kvs) → ∀ kvs', TakenAt (upd H d (.dT kvs')) d (ps ++ [p]) → Pq (upd H d (.dT kvs'))) :
    ∃ a H4, V.ref d = .ref a ∧ DPut H a v z H4 ∧ Pq H4 := by
  obtain ⟨kvs, h1, h2, h3⟩ := h
  obtain ⟨b, rfl, e⟩ := t
  refine ⟨d, _, rfl, DPut.t (k := k3 p) h1 e (Nat.lt_of_lt_of_le (show kvs.length < 1000 by omega) (Nat.le_of_ble_eq_true rfl)), q kvs h1 _ ⟨_, upd_same, ?_, fun r => ?_⟩⟩
  · have := putK_len kvs (k3 p) z
    (rw [List.length_append, List.length_singleton])
    omega
  · rw [valV_put]
    by_cases hr : r = p
    · rw [if_pos (k3_inj.mpr hr), hr]
      simp
    · rw [if_neg (fun z => hr (k3_inj.mp z)), h3 r]
      simp [hr]
theorem rd_cat {H : Hp} {x y : V} {xs ys : List V} {Q : VK} (h1 : LST H x xs) (h2 : LST H y ys) (hl : xs.length + ys.length ≤ 1000) (q : ∀ p H', Same H H' → H p = none → H' p = some (.lst (xs ++ ys)) → Q (.ref p) H') : rCat x y H Q := by
  obtain ⟨l, rfl, e1⟩ := h1
  obtain ⟨b, rfl, e2⟩ := h2
  exact ⟨l, b, xs, ys, rfl, rfl, e1, e2, Nat.le_trans hl (Nat.le_of_ble_eq_true rfl), fun p hp => q p _ (same_new hp) hp upd_same⟩
theorem Paired.unsnoc {α : Type} {R : V → α → Prop} {a : α} : ∀ {vs : List V} {as : List α}, Paired R vs (as ++ [a]) → ∃ ws v, vs = ws ++ [v] ∧ R v a
  | _, [], .cons h .nil => ⟨[], _, rfl, h⟩
  | _, _ :: as, .cons h t => by
    obtain ⟨ws, v, e, r⟩ := Paired.unsnoc (as := as) t
    subst e
    exact ⟨_ :: ws, v, rfl, r⟩
section
variable {P : Program} {w : World} {K : PySem.W.Frag} {mg : Str → Option Value} {base : Heap} {c : Cs} {f : Addr} {fd : FuncData}
structure FcA where
  (cells : List Int) (wide high : Int) (framed : Bool) (cv wv nv : V)
def sp_fences (K : PySem.W.Frag) : Sp := mkSp (fun a : FcA => [a.cv, .int a.wide, .int a.high, .bl a.framed, a.wv, a.nv])
  (fun a H => SQ K H a.cv (a.cells.map V.int) ∧ a.cells.length ≤ 4 ∧ (1 ≤ a.wide ∧ a.wide ≤ 4) ∧ (1 ≤ a.high ∧ a.high ≤ 4) ∧ LST H a.wv (wordsL.map V.str) ∧ LST H a.nv (numsL.map V.int))
  fun a H v H' => Same H H' ∧ ∃ p xs, v = .ref p ∧ H p = none ∧ H' p = some (.lst xs) ∧ FcsAt H' xs (fencesP a.cells a.wide a.high a.framed)
abbrev N_law_fences : List Str := ["_law_cells", "_law_wide", "_law_high", "_law_framed", "_law_words", "_law_numbers", "_law_rows", "_law_found", "_law_taken", "_law_x", "_law_y", "_law_line", "_law_long", "_law_number", "_law_pieces_here", "_law_cell", "_law_one", "_law_far", "_law_end", "_law_every"]
theorem sc_law_fences : FnScope ["_law_cells", "_law_wide", "_law_high", "_law_framed", "_law_words", "_law_numbers", "_law_rows", "_law_found", "_law_taken", "_law_x", "_law_y", "_law_line", "_law_long", "_law_number", "_law_pieces_here", "_law_cell", "_law_one", "_law_far", "_law_end", "_law_every"] ["_law_cells", "_law_wide", "_law_high", "_law_framed", "_law_words", "_law_numbers"] (defScope s_law_fences) := ⟨rfl, rfl, rfl, by decide +kernel, rfl, by decide +kernel, by decide +kernel⟩
theorem ok_fences (F : Fun K "_law_fences" "_law_fences" s_law_fences f fd) (T : Txt K mg c) (c_law_row_by : Cal P w K mg base 1 "_law_row_by" ["_law_number", "_law_wide", "_law_high"] [] sp_row_by)
    (c_law_pieces : Cal P w K mg base 1 "_law_pieces" ["_law_x", "_law_y", "_law_line", "_law_long"] [] sp_pieces) : FnOk P w K mg base CX0 2 f fd ["_law_cells", "_law_wide", "_law_high", "_law_framed", "_law_words", "_law_numbers"] (sp_fences K) := by
  refine F.ok sc_law_fences (mk_len fun _ => rfl) (fun cdv A outer s H vs Q E hr h => ?_)
  obtain ⟨⟨cells, wide, high, framed, cv, wv, nv⟩, hv, ⟨h1, hn, hw, hh, h2, h3⟩, k⟩ := h
  dsimp only at hv h1 hn hw hh h2 h3 k
  subst hv
  refine ⟨_, (pss_cons (ps_setLc (i := 6) rfl sc_law_fences.nd rfl rfl (sw_true rfl rfl rfl (by decide +kernel)) (own := [("_law_cell", 15)]) (g := gName 15) (tt := tYes) (pi_list (pv 0)) (blkOk_by (own := [("_law_cell", 15)]) (N := ["_law_cells", "_law_wide", "_law_high", "_law_framed", "_law_words", "_law_numbers", "_law_rows", "_law_found", "_law_taken", "_law_x", "_law_y", "_law_line", "_law_long", "_law_number", "_law_pieces_here", "_law_cell", "_law_one", "_law_far", "_law_end", "_law_every"]) (sc := defScope s_law_fences) (by decide +kernel)) (fun _ _ _ _ _ => (pg_name (i := 15) sc_law_fences.nd rfl (by first | exact Or.inl rfl | exact Or.inr rfl))) (fun _ _ _ _ _ => pts_nil) (fun _ _ _ _ _ => (pe_cl c_law_row_by (hr.mono (by decide)) rfl (pa_cons (pe_op op_mod (pe_op op_mul (pv 15) pe_int) pe_int) (pa_cons (pv 1) (pa_cons (pv 2) pa_nil))))))
      (pss_cons (ps_if (pt_val (pv 3)) (pss_cons (ps_set (i := 6) sc_law_fences.nd rfl (by first | exact Or.inl rfl | exact Or.inr rfl) (pe_op op_cat (pe_lst (pa_cons (pe_tup (pa_cons pe_int (pa_cons (pv 2) (pa_cons pe_int (pa_cons (pv 1) (pa_cons pe_int pa_nil)))))) (pa_cons (pe_tup (pa_cons pe_int (pa_cons pe_int (pa_cons pe_int (pa_cons (pv 2) (pa_cons pe_int pa_nil)))))) pa_nil))) (pv 6)))
      (pss_one (ps_set (i := 6) sc_law_fences.nd rfl (by first | exact Or.inl rfl | exact Or.inr rfl) (pe_op op_cat (pe_lst (pa_cons (pe_tup (pa_cons pe_int (pa_cons pe_int (pa_cons pe_int (pa_cons (pv 1) (pa_cons pe_int pa_nil)))))) (pa_cons (pe_tup (pa_cons (pv 1) (pa_cons pe_int (pa_cons pe_int (pa_cons (pv 2) (pa_cons pe_int pa_nil)))))) pa_nil))) (pv 6))))) pss_nil)
      (pss_cons (ps_set (i := 7) sc_law_fences.nd rfl (by first | exact Or.inl rfl | exact Or.inr rfl) (pe_lst pa_nil))
      (pss_cons (ps_set (i := 8) sc_law_fences.nd rfl (by first | exact Or.inl rfl | exact Or.inr rfl) pe_dnewT)
      (pss_cons (ps_for PassesOwn.never rfl (pi_list (pv 6)) (pg_tup rfl (pgs_cons (pg_name (i := 9) sc_law_fences.nd rfl (by first | exact Or.inl rfl | exact Or.inr rfl)) (pgs_cons (pg_name (i := 10) sc_law_fences.nd rfl (by first | exact Or.inl rfl | exact Or.inr rfl)) (pgs_cons (pg_name (i := 11) sc_law_fences.nd rfl (by first | exact Or.inl rfl | exact Or.inr rfl)) (pgs_cons (pg_name (i := 12) sc_law_fences.nd rfl (by first | exact Or.inl rfl | exact Or.inr rfl)) (pgs_cons (pg_name (i := 13) sc_law_fences.nd rfl (by first | exact Or.inl rfl | exact Or.inr rfl)) pgs_nil)))))) (pss_cons (ps_set (i := 14) sc_law_fences.nd rfl (by first | exact Or.inl rfl | exact Or.inr rfl) (pe_cl c_law_pieces (hr.mono (by decide)) rfl (pa_cons (pv 9) (pa_cons (pv 10) (pa_cons (pv 11) (pa_cons (pv 12) pa_nil))))))
      (pss_one (ps_if (PW.pt (pw_and (pt_cmpR op_gt (pv 12) pe_int (nomark _)) (pw_and1 (pt_cmpR (op_eqD (hu64 hr)) (pe_lc (own := [("_law_one", 16)]) (g := gName 16) (te := tVar 16) rfl sc_law_fences.nd (pi_list (pv 14)) (blkOk_by (own := [("_law_one", 16)]) (N := ["_law_cells", "_law_wide", "_law_high", "_law_framed", "_law_words", "_law_numbers", "_law_rows", "_law_found", "_law_taken", "_law_x", "_law_y", "_law_line", "_law_long", "_law_number", "_law_pieces_here", "_law_cell", "_law_one", "_law_far", "_law_end", "_law_every"]) (sc := defScope s_law_fences) (by decide +kernel)) (fun _ _ _ _ _ => (pg_name (i := 16) sc_law_fences.nd rfl (by first | exact Or.inl rfl | exact Or.inr rfl))) (fun _ _ _ _ _ => pts_one (pt_cmp (pc_din (hu1 hr) (pv 16) (pv 8)) rfl)) (fun _ _ _ _ _ => (pv 16))) (pe_lst pa_nil) (nomark _))))) (pss_cons (ps_for PassesOwn.never rfl (pi_list (pv 14)) (pg_name (i := 16) sc_law_fences.nd rfl (by first | exact Or.inl rfl | exact Or.inr rfl)) (pss_one (ps_dput (hu1 hr) (pv 8) (pv 16) pe_bl rfl)))
      (pss_cons (ps_set (i := 17) sc_law_fences.nd rfl (by first | exact Or.inl rfl | exact Or.inr rfl) (pe_ix ix_list (pv 14) (pe_un un_neg pe_int) (fun _ _ => rfl)))
      (pss_cons (ps_set (i := 18) sc_law_fences.nd rfl (by first | exact Or.inl rfl | exact Or.inr rfl) (pe_tup (pa_cons (pe_op op_add (pe_ix ix_tup (pv 17) pe_int (fun _ _ => rfl)) (pe_ix ix_list (pe_lst (pa_cons pe_int (pa_cons pe_int (pa_cons pe_int (pa_cons pe_int pa_nil))))) (pv 11) (fun _ _ => rfl))) (pa_cons (pe_op op_add (pe_ix ix_tup (pv 17) pe_int (fun _ _ => rfl)) (pe_ix ix_list (pe_lst (pa_cons pe_int (pa_cons pe_int (pa_cons pe_int (pa_cons (pe_un un_neg pe_int) pa_nil))))) (pv 11) (fun _ _ => rfl))) pa_nil))))
      (pss_cons (ps_set (i := 19) sc_law_fences.nd rfl (by first | exact Or.inl rfl | exact Or.inr rfl) (pe_ix ix_list (pv 5) (pe_op op_mod (pe_op op_fdiv (pv 13) pe_int) (pe_callB cl_len rfl T.n_len (by decide +kernel) (pa_cons (pv 5) pa_nil))) (fun _ _ => rfl)))
      (pss_one (ps_expr (pe_bm PySem.F.plainAttrs_list PySem.F.slot_list_append PySem.F.type_list_append mt_append (pv 7) (pa_cons (pe_tup (pa_cons (pe_ix ix_list (pv 4) (pe_op op_mod (pv 13) (pe_callB cl_len rfl T.n_len (by decide +kernel) (pa_cons (pv 4) pa_nil))) (fun _ _ => rfl)) (pa_cons (pv 19) (pa_cons (pv 9) (pa_cons (pv 10) (pa_cons (pe_ix ix_tup (pv 18) pe_int (fun _ _ => rfl)) (pa_cons (pe_ix ix_tup (pv 18) pe_int (fun _ _ => rfl)) pa_nil))))))) pa_nil)))))))) pss_nil))))
      (pss_one (ps_ret (pv 7)))))))), ?_⟩
  walk_at "go"
  refine lc_S h1 (fun D i H' => Same H H' ∧ ∃ ys, H' D = some (.lst ys) ∧ RwsAt H' ys ((cells.take i).map fun cell => rowP (cell * 48271 % 2147483647) wide high)) (fun D hD => ⟨same_new hD, [], upd_same, .nil⟩) (fun D i H' hD q => h1.up q.1) ?_ ?_
  · rintro D i x H' hD hx ⟨e, ys, hd, rr⟩
    obtain ⟨cell, hi, rfl⟩ : ∃ n, cells[i]? = some n ∧ x = .int n := by
      rw [List.getElem?_map] at hx
      cases hk : cells[i]? with
      | none => rw [hk] at hx; cases hx
      | some n => rw [hk] at hx; cases hx; exact ⟨n, rfl, rfl⟩
    unfold LcTurn
    walk_at "go"
    refine ⟨rfl, ?_⟩
    walk_at "go"
    · refine us_row_by (Int.emod_nonneg _ (by decide)) hw hh fun v H2 e2 rv => ?_
      have tk : TK H2 (upd H2 D (.lst (ys ++ [v]))) := TK.put (e2 _ _ hd) fun _ z => by cases z
      refine ⟨ys, e2 _ _ hd, ?_, Same.put (e.trans e2) hD, ys ++ [v], upd_same, ?_⟩
      · have := Paired.len rr
        rw [List.length_map, List.length_take] at this
        exact Nat.lt_of_lt_of_le (show ys.length < 1000 by omega) (Nat.le_of_ble_eq_true rfl)
      · rw [List.take_succ, hi, List.map_append]
        exact Paired.snoc (R := RowAt _) (a := rowP (cell * 48271 % 2147483647) wide high) (rv.up tk) (RwsAt.up ((tk_of e2).trans tk) rr)
    · decide
    · exact .inr ⟨by decide, by decide⟩
  rintro D H1 hD ⟨e1, ys, hd, rr⟩
  rw [List.length_map, List.take_length] at rr
  refine rd_name ?_
  with_reducible refine rd_seqG (fun σ H2 => ∃ rv ys x7 x8 x9 x10 x11 x12 x13 x14 x15 x16 x17 x18 x19, σ = [some cv, some (.int wide), some (.int high), some (.bl framed), some wv, some nv, some (.ref rv), x7, x8, x9, x10, x11, x12, x13, x14, x15, x16, x17, x18, x19] ∧
    Same H H2 ∧ H2 rv = some (.lst ys) ∧ RwsAt H2 ys (rowsP cells wide high framed)) ?_ ?_
  rotate_left
  · intro R hR
    have ln := Paired.len rr
    rw [List.length_map] at ln
    cases framed with
    | false =>
      walk_at "go"
      exact hR _ _ ⟨D, ys, _, _, _, _, _, _, _, _, _, _, _, _, _, rfl, e1, hd, rr⟩
    | true =>
      walk_at "go"
      rename_i t1 H2 e2 u2 t2 H3 e3 u3 l4 H4 e4 n4 h4
      have e24 := (e2.trans e3).trans e4
      have u24 := u2.up (tk_of (e3.trans e4))
      have u34 := u3.up (tk_of e4)
      have rr4 := RwsAt.up (tk_of e24) rr
      have hd4 := e24 _ _ hd
      have e14 := e1.trans e24
      clear e2 e3 e4 e24 u2 u3 rr hd e1
      refine rd_cat ⟨l4, rfl, h4⟩ ⟨D, rfl, hd4⟩ (by simp only [List.length_cons, List.length_nil]; omega) fun l5 H5 e5 n5 h5 => ?_
      have u25 := u24.up (tk_of e5)
      have u35 := u34.up (tk_of e5)
      have rr5 := RwsAt.up (tk_of e5) rr4
      have e15 := e14.trans e5
      clear e5 e14 rr4 u24 u34
      walk_at "go"
      rename_i t6 H6 e6 u6 t7 H7 e7 u7 l8 H8 e8 n8 h8
      have e68 := (e6.trans e7).trans e8
      refine rd_cat ⟨l8, rfl, h8⟩ ⟨l5, rfl, e68 _ _ h5⟩ (by simp only [List.length_cons, List.length_nil, List.length_append]; omega) fun l9 H9 e9 n9 h9 => ?_
      walk_at "go"
      have e69 := e68.trans e9
      refine hR _ _ ⟨l9, _, _, _, _, _, _, _, _, _, _, _, _, _, _, rfl, e15.trans e69, h9, ?_⟩
      refine .cons ?_ (.cons ?_ (.cons ?_ (.cons ?_ (RwsAt.up (tk_of e69) rr5))))
      · exact u6.up (tk_of ((e7.trans e8).trans e9))
      · exact u7.up (tk_of (e8.trans e9))
      · exact u25.up (tk_of e69)
      · exact u35.up (tk_of e69)
  · rintro σ H2 ⟨rv, ys, x7, x8, x9, x10, x11, x12, x13, x14, x15, x16, x17, x18, x19, rfl, e2, hrv, rr⟩
    have RO := rowsP_ok (cells := cells) (framed := framed) hw hh
    have RL := rowsP_len (cells := cells) (wide := wide) (high := high) (framed := framed)
    generalize hrs : rowsP cells wide high framed = rs at rr RO RL
    have k' : ∀ v H', Same H H' ∧ (∃ p xs, v = .ref p ∧ H p = none ∧ H' p = some (.lst xs) ∧ FcsAt H' xs ((keepP rs).map fenceOf)) → Q v H' := fun v H' e => k v H' (by unfold fencesP; rw [hrs]; exact e)
    have h2' := h2.up e2
    have h3' := h3.up e2
    have ln := Paired.len rr
    walk_at "go"
    rename_i fl H3 e3 n3 hfl
    refine rd_dnew (q := fun _ _ => True) fun d H4 e4 n4 hd => ?_
    walk_at "go"
    have e34 := e3.trans e4
    have nd : H2 d = none := none_of e3 n4
    have nfl : H2 fl = none := n3
    have fd' : fl ≠ d := fun z => by rw [z, n4] at hfl; cases hfl
    have hfl4 := e4 _ _ hfl
    clear e3 e4 hfl
    have RV : LST H2 (.ref rv) ys := ⟨rv, rfl, hrv⟩
    have KO : ∀ i, KeepOk ((rs.take i).foldl keepStep []) := fun i => keepFold_ok _ _ ⟨fun _ z => (nomatch z), .nil⟩ fun r hr => RO r (List.mem_of_mem_take hr)
    have KL : ∀ i, ((rs.take i).foldl keepStep []).length ≤ 8 := fun i => by
      have := keepFold_len (rs.take i) []
      rw [List.length_take, List.length_nil] at this
      omega
    refine for_L (RV.up e34) (fun i σ H' => ∃ x9 x10 x11 x12 x13 x14 x15 x16 x17 x18 x19, σ = [some cv, some (.int wide), some (.int high), some (.bl framed), some wv, some nv, some (.ref rv), some (.ref fl), some (.ref d), x9, x10, x11, x12, x13, x14, x15, x16, x17, x18, x19] ∧
      Same H2 H' ∧ (∃ xs, H' fl = some (.lst xs) ∧ FcsAt H' xs (((rs.take i).foldl keepStep []).map fenceOf)) ∧ TakenAt H' d (((rs.take i).foldl keepStep []).flatMap pcs)) ⟨_, _, _, _, _, _, _, _, _, _, _, rfl, e34, ⟨[], hfl4, .nil⟩, ⟨[], hd, Nat.le_refl _, fun _ => rfl⟩⟩
      (fun i σ H' q => by obtain ⟨_, _, _, _, _, _, _, _, _, _, _, _, e, _⟩ := q; exact RV.up e) ?_ ?_
    · rintro i x σ H5 hx ⟨x9, x10, x11, x12, x13, x14, x15, x16, x17, x18, x19, rfl, e5, ⟨xs, hxs, fx⟩, tk⟩
      obtain ⟨r, hri, hr⟩ := Paired.at rr hx
      have ro := RO r (List.mem_of_getElem? hri)
      have hr5 : TUP H5 x [.int r.x, .int r.y, .int r.line, .int r.long, .int r.num] := TUP.up (tk_of e5) hr
      have fs : (rs.take (i + 1)).foldl keepStep [] = keepStep ((rs.take i).foldl keepStep []) r := by
        rw [List.take_succ, hri, List.foldl_append]
        rfl
      rw [fs]
      have ko := KO i
      have kl := KL i
      have tot := pcs_total (acc := (rs.take i).foldl keepStep []) fun s hs => (ko.all s hs).1
      generalize (rs.take i).foldl keepStep [] = acc at fx tk ko kl tot
      walk_at "go"
      refine us_pieces ro.line ro.long fun pp ps H6 e6 np hp pt => ?_
      have e56 := e5.trans e6
      have nfp : fl ≠ pp := fun z => by rw [z, np] at hxs; cases hxs
      have pt : T3s H6 ps (pcs r) := pt
      have plen := Paired.len pt
      have pl4 : (pcs r).length ≤ 4 := by
        have : (pcs r).length = r.long.toNat := piecesP_len ..
        have := ro.long
        omega
      have LP : LST H6 (.ref pp) ps := ⟨pp, rfl, hp⟩
      have tk6 := tk.same e6
      have hxs6 := e6 _ _ hxs
      have fx6 := FcsAt.up (tk_of e6) fx
      have h26 := h2'.up e56
      have h36 := h3'.up e56
      clear h2' h3' e5 e6 hxs fx tk hr5 hr
      walk_at "go"
      refine rd_ite (fun hl => ?_) (fun hl => ?_)
      · walk_at "go"
        refine lc_L LP (fun D j H' => Same H6 H' ∧ ∃ zs, H' D = some (.lst zs) ∧ T3s H' zs (((pcs r).take j).filter fun p => decide (p ∈ acc.flatMap pcs))) (fun D hD => ⟨same_new hD, [], upd_same, .nil⟩) (fun D j H' hD q => LP.up q.1) ?_ ?_
        · rintro D j y H7 hD hy ⟨e7, zs, hz, tz⟩
          obtain ⟨p, hpj, ty⟩ := Paired.at pt hy
          have ty7 := TUP.up (tk_of e7) ty
          unfold LcTurn
          walk_at "go"
          refine ⟨rfl, ?_⟩
          walk_at "go"
          refine rd_tin ?_
          walk_at "go"
          refine rd_tinV (tk6.same e7) ty7 fun o ho => ?_
          rw [ho]
          walk_at "go"
          refine rd_ite (fun hp' => ?_) (fun hp' => ?_)
          · walk_at "go"
            have tkD : TK H7 (upd H7 D (.lst (zs ++ [y]))) := TK.put hz fun _ z => by cases z
            refine ⟨zs, hz, ?_, Same.put e7 hD, zs ++ [y], upd_same, ?_⟩
            · have h1 := Paired.len tz
              have h2 := List.length_filter_le (fun p => decide (p ∈ acc.flatMap pcs)) ((pcs r).take j)
              have h3 := List.length_take_le j (pcs r)
              rw [List.length_take] at h2
              exact Nat.lt_of_lt_of_le (show zs.length < 1000 by omega) (Nat.le_of_ble_eq_true rfl)
            · rw [List.take_succ, hpj, List.filter_append]
              have : (some p).toList.filter (fun p => decide (p ∈ acc.flatMap pcs)) = [p] := by
                show List.filter _ [p] = [p]
                rw [List.filter_cons, if_pos (decide_eq_true hp')]
                rfl
              rw [this]
              exact Paired.snoc (R := fun v p => T3 (upd H7 D (.lst (zs ++ [y]))) v p) (a := p) (ty7.up tkD) (T3s.up tkD tz)
          · refine ⟨e7, zs, hz, ?_⟩
            rw [List.take_succ, hpj, List.filter_append]
            have : (some p).toList.filter (fun p => decide (p ∈ acc.flatMap pcs)) = [] := by
              show List.filter _ [p] = []
              rw [List.filter_cons, if_neg (by rw [decide_eq_false hp']; decide)]
              rfl
            rw [this, List.append_nil]
            exact tz
        · rintro D H7 hD ⟨e7, zs, hz, tz⟩
          rw [plen, List.take_length] at tz
          walk_at "go"
          rename_i l8 H8 e8 n8 h8
          refine rd_eqNil (n := 1) (g := pd3) ⟨D, rfl, e8 _ _ hz⟩ ⟨l8, rfl, h8⟩ (T3s.up (tk_of e8) tz) (fun v a q => dp3 q) (fun a _ => lay3 a) (by decide) ?_
          have e78 := e7.trans e8
          have e58 := e56.trans e78
          have hall : ((pcs r).filter fun p => decide (p ∈ acc.flatMap pcs)).isEmpty = (pcs r).all fun p => !decide (p ∈ acc.flatMap pcs) := by
            rw [Bool.eq_iff_iff, List.isEmpty_iff, List.filter_eq_nil_iff, List.all_eq_true]
            constructor
            · intro h p hp
              rw [Bool.not_eq_true']
              exact Bool.eq_false_iff.mpr (h p hp)
            · intro h p hp
              have := h p hp
              rw [Bool.not_eq_true'] at this
              rw [this]
              decide
          rw [hall]
          have hxs8 := e78 _ _ hxs6
          have fx8 := FcsAt.up (tk_of e78) fx6
          have tk8 := tk6.same e78
          have hp8 := e78 _ _ hp
          have pt8 := T3s.up (tk_of e78) pt
          have h28 := h26.up e78
          have h38 := h36.up e78
          clear e8 e7 e78 hz tz hxs6 fx6 tk6 hp pt h26 h36 e56
          walk_at "go"
          refine rd_iteb (fun ha => ?_) (fun ha => ?_)
          · have kk : keepStep acc r = acc ++ [r] := by
              unfold keepStep
              rw [decide_eq_true (show 0 < r.long from hl), ha]
              rfl
            rw [kk]
            walk_at "go"
            have hne : fl ≠ d := fd'
            have npd : pp ≠ d := fun z => by
              obtain ⟨kvs, hk, _⟩ := tk8
              rw [z, hk] at hp8
              cases hp8
            refine for_L ⟨pp, rfl, hp8⟩ (fun j σ H' => ∃ y16, σ = [some cv, some (.int wide), some (.int high), some (.bl framed), some wv, some nv, some (.ref rv), some (.ref fl), some (.ref d), some (.int r.x), some (.int r.y), some (.int r.line), some (.int r.long), some (.int r.num), some (.ref pp), x15, y16, x17, x18, x19] ∧
              Off d d H8 H' ∧ TakenAt H' d (acc.flatMap pcs ++ (pcs r).take j)) ⟨x16, rfl, Off.of (Same.refl _), by rw [List.take_zero, List.append_nil]; exact tk8⟩
              (fun j σ H' q => by obtain ⟨_, _, e, _⟩ := q; exact ⟨pp, rfl, e _ _ hp8 npd npd⟩) ?_ ?_
            · rintro j y σ H9 hy ⟨y16, rfl, of9, tk9⟩
              obtain ⟨p, hpj, ty⟩ := Paired.at pt8 hy
              obtain ⟨yb, rfl, hyb⟩ := ty
              have ybd : yb ≠ d := fun z => by
                obtain ⟨kvs, hk, _⟩ := tk8
                rw [z, hk] at hyb
                cases hyb
              have ty9 : T3 H9 (.ref yb) p := ⟨yb, rfl, of9 _ _ hyb ybd ybd⟩
              refine rd_name ?_
              refine rd_tput ?_
              walk_at "go"
              refine rd_tputV tk9 ty9 ?_ fun kvs hk kvs' tk' => ?_
              · rw [List.length_append]
                have h3 := List.length_take_le j (pcs r)
                have h4 : ((pcs r).take j).length ≤ (pcs r).length := by
                  rw [List.length_take]
                  exact Nat.min_le_right _ _
                omega
              · refine ⟨_, rfl, of9.puta, ?_⟩
                rw [List.take_succ, hpj, ← List.append_assoc]
                exact tk'
            · rintro σ H9 ⟨y16, rfl, of9, tk9⟩
              rw [plen, List.take_length] at tk9
              have hT : acc.flatMap pcs ++ pcs r = (acc ++ [r]).flatMap pcs := by
                rw [List.flatMap_append, List.flatMap_cons, List.flatMap_nil, List.append_nil]
              rw [hT] at tk9
              -- the last piece
              obtain ⟨n, hn⟩ : ∃ n : Nat, r.long = (n : Int) + 1 := ⟨(r.long - 1).toNat, by have : 0 < r.long := hl; omega⟩
              have hpc : pcs r = piecesP r.x r.y r.line n ++ [(r.x + (n : Int) * dxL r.line, r.y + (n : Int) * dyL r.line, r.line)] := by
                unfold pcs
                rw [show r.long.toNat = n + 1 by omega, piecesP_succ]
              have tkall : TK H8 H9 := fun b xs e => of9 _ _ e (fun z => by
                obtain ⟨kvs, hk, _⟩ := tk8
                rw [z, hk] at e
                cases e) (fun z => by
                obtain ⟨kvs, hk, _⟩ := tk8
                rw [z, hk] at e
                cases e)
              obtain ⟨ws, z, rfl, tz⟩ : ∃ ws z, ps = ws ++ [z] ∧ T3 H8 z (r.x + (n : Int) * dxL r.line, r.y + (n : Int) * dyL r.line, r.line) := by
                rw [hpc] at pt8
                exact Paired.unsnoc pt8
              have tz9 := tz.up tkall
              have hp9 : LST H9 (.ref pp) (ws ++ [z]) := ⟨pp, rfl, of9 _ _ hp8 npd npd⟩
              have hxs9 := of9 _ _ hxs8 hne hne
              have fx9 := FcsAt.up tkall fx8
              have s29 : Same H2 H9 := of9.same e58 nd nd
              have h29 : LST H9 wv (wordsL.map V.str) := h2.up (e2.trans s29)
              have h39 : LST H9 nv (numsL.map V.int) := h3.up (e2.trans s29)
              clear of9 tkall hxs8 fx8 hp8 pt8 tk8 h28 h38 e58 tz
              walk_at "go"
              refine rd_ixLast hp9 ?_
              have tz9 : TUP H9 z [.int (r.x + (n : Int) * dxL r.line), .int (r.y + (n : Int) * dyL r.line), .int r.line] := tz9
              walk_at "go"
              rename_i l10 H10 e10 n10 h10
              refine rd_ix4 ⟨l10, rfl, h10⟩ ro.line ?_
              rw [ite4, show (if r.line = 0 then 1 else if r.line = 1 then 1 else if r.line = 2 then 0 else 1) = dxL r.line from rfl]
              walk_at "go"
              rename_i l11 H11 e11 n11 h11
              refine rd_ix4 ⟨l11, rfl, h11⟩ ro.line ?_
              rw [ite4, show (if r.line = 0 then 0 else if r.line = 1 then 1 else if r.line = 2 then 1 else -1) = dyL r.line from rfl]
              walk_at "go"
              · rename_i t12 H12 e12 t12t
                have e912 := (e10.trans e11).trans e12
                have h39' := h39.up e912
                have h29' := h29.up e912
                have hxs12 := e912 _ _ hxs9
                have fx12 := FcsAt.up (tk_of e912) fx9
                have tk12 := tk9.same e912
                have s212 := s29.trans e912
                clear h10 h11 e10 e11 e12 tz9 hp9 hxs9 fx9 tk9 h29 h39
                rw [show ((numsL.map V.int).length : Int) = 12 from rfl]
                have q0 := Int.emod_nonneg (r.num / 12) (show (12 : Int) ≠ 0 by omega)
                have q1 := Int.emod_lt_of_pos (r.num / 12) (show (0 : Int) < 12 by omega)
                refine rd_ixI (z := .int (numsL.getD (r.num / 12 % 12).toNat 2)) h39'.sq q0 ?_ ?_
                · have : ∀ k < 12, (numsL.map V.int)[k]? = some (.int (numsL.getD k 2)) := by decide
                  exact this _ (by omega)
                have LF12 : LST H12 (.ref fl) xs := ⟨fl, rfl, hxs12⟩
                walk_at "go"
                · rw [show ((wordsL.map V.str).length : Int) = 6 from rfl]
                  have r0 := Int.emod_nonneg r.num (show (6 : Int) ≠ 0 by omega)
                  have r1 := Int.emod_lt_of_pos r.num (show (0 : Int) < 6 by omega)
                  refine rd_ixI (z := .str (wordsL.getD (r.num % 6).toNat "mirror")) h29'.sq r0 ?_ ?_
                  · have : ∀ k < 6, (wordsL.map V.str)[k]? = some (.str (wordsL.getD k "mirror")) := by decide
                    exact this _ (by omega)
                  walk_at "go"
                  rename_i t13 H13 e13 t13t
                  have hxs13 := e13 _ _ hxs12
                  have fx13 := FcsAt.up (tk_of e13) fx12
                  have tk13 := tk12.same e13
                  have fl13 : xs.length < 1000 := by
                    have := Paired.len fx13
                    rw [List.length_map] at this
                    omega
                  refine rd_app hxs13 fl13 ?_
                  have tkF : TK H13 (upd H13 fl (.lst (xs ++ [.ref t13]))) := TK.put hxs13 fun _ z => by cases z
                  refine ⟨_, _, _, _, _, _, _, _, _, _, _, rfl, Same.put (s212.trans e13) nfl, ⟨_, upd_same, ?_⟩, ?_⟩
                  · rw [List.map_append]
                    refine Paired.snoc (R := FenceAt _) (a := fenceOf r) (TUP.up tkF ?_) (FcsAt.up tkF fx13)
                    have ex : r.x + (n : Int) * dxL r.line + dxL r.line = r.x + r.long * dxL r.line := by
                      rw [hn, Int.add_mul, Int.one_mul, Int.add_assoc]
                    have ey : r.y + (n : Int) * dyL r.line + dyL r.line = r.y + r.long * dyL r.line := by
                      rw [hn, Int.add_mul, Int.one_mul, Int.add_assoc]
                    rw [ex, ey] at t13t
                    exact t13t
                  · obtain ⟨kvs, g1, g2, g3⟩ := tk13
                    exact ⟨kvs, (upd_ne (Ne.symm hne)).trans g1, g2, g3⟩
                · decide
              all_goals first
                | decide
                | exact ⟨by decide, by decide⟩
          · have kk : keepStep acc r = acc := by
              unfold keepStep
              rw [ha, Bool.and_false]
              rfl
            rw [kk]
            walk_at "go"
            exact ⟨_, _, _, _, _, _, _, _, _, _, _, rfl, e58, ⟨xs, hxs8, fx8⟩, tk8⟩
      · walk_at "go"
        have : keepStep acc r = acc := by
          unfold keepStep
          rw [decide_eq_false (show ¬ 0 < r.long from hl)]
          rfl
        rw [this]
        exact ⟨_, _, _, _, _, _, _, _, _, _, _, rfl, e56, ⟨xs, hxs6, fx6⟩, tk6⟩
    · rintro σ H5 ⟨x9, x10, x11, x12, x13, x14, x15, x16, x17, x18, x19, rfl, e5, ⟨xs, hxs, fx⟩, tk⟩
      rw [ln, List.take_length] at fx
      walk_at "go"
      exact k' _ _ ⟨e2.trans e5, fl, xs, rfl, none_of e2 n3, hxs, fx⟩
end
end Bw
end

section
set_option Elab.async false
set_option linter.all false
set_option maxRecDepth 100000
set_option maxHeartbeats 4100000
set_option exponentiation.threshold 1000000
namespace Bw
open PySem L2
-- HDR
-- what the heap knows, carried over
local macro_rules | `(tactic| walk_at "hp") => `(tactic| first
  | assumption
  | (refine' TUP.up (tk_of ?e) ?h; (case e => assumption); (case h => walk_at "hp"))
  | (refine' Fld.up ?e ?h; (case e => assumption); (case h => walk_at "hp"))
  | (refine' LST.up ?e ?h; (case e => assumption); (case h => walk_at "hp"))
  | (refine' TUP.up ?e ?h; (case e => assumption); (case h => walk_at "hp"))
  | (refine' Mth.up ?e ?h; (case e => assumption); (case h => walk_at "hp")))
-- one step of a reading
local macro_rules | `(tactic| walk_at "rd") => `(tactic| first
  | (with_reducible refine rd_var rfl ?_)
  | (with_reducible refine rd_c ?_)
  | (with_reducible refine rd_op ?_)
  | (with_reducible refine rd_mulW ?_ ?_)
  | (with_reducible refine rd_add ?_)
  | (with_reducible refine rd_sub ?_)
  | (with_reducible refine rd_cons ?_)
  | (with_reducible refine rd_nil ?_)
  | (with_reducible refine rd_seq ?_)
  | (with_reducible refine rd_asg ?_)
  | (with_reducible refine rd_name ?_)
  | (with_reducible refine rd_call ?_)
  | (with_reducible refine rd_fld ?_)
  | ((with_reducible refine' rd_fldv ?h ?_); (case h => walk_at "hp"))
  | ((with_reducible refine' rd_ixT0 ?h ?e ?_); (case h => walk_at "hp"); (case e => rfl))
  | ((with_reducible refine' rd_ixT1 ?h ?e ?_); (case h => walk_at "hp"); (case e => rfl))
  | ((with_reducible refine' rd_ixT2 ?h ?e ?_); (case h => walk_at "hp"); (case e => rfl))
  | ((with_reducible refine' rd_gtup ?h ?e ?_); (case h => walk_at "hp"); (case e => rfl))
  | (with_reducible refine rd_gcons ?_)
  | (with_reducible refine rd_gnil ?_)
  | (with_reducible refine rd_if ?_)
  | (with_reducible refine rd_test ?_)
  | (with_reducible refine rd_isbl ?_)
  | (with_reducible refine rd_iteT ?_)
  | (with_reducible refine rd_iteF ?_)
  | (with_reducible refine rd_ret ?_)
  | (with_reducible refine rd_next ?_)
  | (with_reducible refine rd_lt ?_)
  | (with_reducible refine rd_gt ?_)
  | (with_reducible refine rd_eqI ?_)
  | (with_reducible refine rd_neI ?_)
  | (with_reducible refine rd_un ?_)
  | (with_reducible refine rd_neg ?_)
  | (with_reducible refine rd_tup ?_)
  | (with_reducible refine rd_lst ?_)
  | (with_reducible refine rd_lstN (Nat.le_of_ble_eq_true rfl) ?_; intro _ _ _ _ _)
  | (with_reducible refine rd_tupN (Nat.le_of_ble_eq_true rfl) ?_; intro _ _ _ _)
  | (with_reducible refine rd_mod ?_ ?_)
  | (with_reducible refine rd_modN ?_ ?_)
  | (with_reducible refine rd_mul ?_ ?_)
  | (with_reducible refine rd_fdiv ?_ ?_)
  | (with_reducible refine rd_fdivZ ?_ ?_ ?_)
  | (with_reducible refine rd_tB ?_)
  | (with_reducible refine rd_CB ?_)
  | (with_reducible refine rd_le ?_)
  | (with_reducible refine rd_ge ?_)
  | (with_reducible refine rd_eqS ?_)
  | (with_reducible refine rd_neS ?_)
  | (with_reducible refine rd_isN0 ?_)
  | (with_reducible refine rd_isN1 ?_)
  | (with_reducible refine rd_notN0 ?_)
  | (with_reducible refine rd_notN1 ?_)
  | (with_reducible refine rd_abs ?_)
  | (with_reducible refine rd_max2 ?_)
  | (with_reducible refine rd_min2 ?_)
  | (with_reducible refine rd_mx ?_)
  | ((with_reducible refine' rd_mx1 ?h ?_); (case h => walk_at "hp"))
  | (with_reducible refine rd_and ?_)
  | (with_reducible refine rd_or ?_)
  | (with_reducible refine rd_not ?_)
  | (with_reducible refine rd_drop ?_)
  | (with_reducible refine rd_chain ?_)
  | (with_reducible refine rd_orV ?_)
  | (with_reducible refine rd_andV ?_)
  | (with_reducible refine rd_notV ?_)
  | (with_reducible refine rd_sfld ?_)
  | (with_reducible refine rd_for ?_)
  | (with_reducible refine rd_iL ?_)
  | (with_reducible refine rd_lc ?_)
  | (with_reducible refine rd_iE ?_)
  | ((with_reducible refine' rd_lenL ?h ?_); (case h => walk_at "hp"))
  | ((with_reducible refine' rd_lenT ?h ?_); (case h => walk_at "hp"))
  | (with_reducible refine rd_yes ?_)
  | (with_reducible refine rd_iZ ?_)
  | (with_reducible refine rd_iT ?_)
  | (with_reducible refine rd_break ?_)
  | ((with_reducible refine' rd_ixT3 ?h ?e ?_); (case h => walk_at "hp"); (case e => rfl))
  | ((with_reducible refine' rd_ixT4 ?h ?e ?_); (case h => walk_at "hp"); (case e => rfl))
  | ((with_reducible refine' rd_ixT5 ?h ?e ?_); (case h => walk_at "hp"); (case e => rfl))
  | ((with_reducible refine' rd_ixL0 ?h ?e ?_); (case h => walk_at "hp"); (case e => rfl))
  | ((with_reducible refine' rd_ixL1 ?h ?e ?_); (case h => walk_at "hp"); (case e => rfl))
  | ((with_reducible refine' rd_ixL2 ?h ?e ?_); (case h => walk_at "hp"); (case e => rfl))
  | ((with_reducible refine' rd_ixL3 ?h ?e ?_); (case h => walk_at "hp"); (case e => rfl))
  | ((with_reducible refine' rd_ixL4 ?h ?e ?_); (case h => walk_at "hp"); (case e => rfl))
  | ((with_reducible refine' rd_ixL5 ?h ?e ?_); (case h => walk_at "hp"); (case e => rfl)))
-- steps, with the callees' promises
local macro_rules | `(tactic| walk_at "go") => `(tactic| repeat first | walk_at "rd" | walk_at "us")
-- every way
local macro_rules | `(tactic| walk_at "all") => `(tactic| repeat' first
  | walk_at "rd"
  | walk_at "us"
  | (with_reducible refine rd_ite (fun _ => ?_) (fun _ => ?_))
  | (with_reducible refine rd_iten (fun _ => ?_) (fun _ => ?_)))
-- END
-- HDR7
local macro_rules | `(tactic| walk_at "rd") => `(tactic| first
  | (with_reducible refine rd_make ?_)
  | (with_reducible refine rd_bm ?_)
  | (with_reducible refine rd_bm0 ?_)
  | ((with_reducible refine' rd_ty ?h ?_); (case h => walk_at "hp"))
  | (with_reducible refine rd_augS ?_)
  | (with_reducible refine rd_ipI ?_))
local macro_rules | `(tactic| walk_at "rd") => `(tactic| first
  | (with_reducible refine rd_sl ?_)
  | (with_reducible refine rd_nopart ?_)
  | (with_reducible refine rd_part ?_)
  | (with_reducible refine rd_isint ?_)
  | ((with_reducible refine' rd_minT ?h ?g ?_); (case h => walk_at "hp"); (case g => walk_at "hp"); intro _ _)
  | ((with_reducible refine' rd_maxT ?h ?g ?_); (case h => walk_at "hp"); (case g => walk_at "hp"); intro _ _)
  | ((with_reducible refine' rd_ltT ?h ?g ?_); (case h => walk_at "hp"); (case g => walk_at "hp"))
  | ((with_reducible refine' rd_listL ?h ?_); (case h => walk_at "hp"); intro _ _ _ _ _))
-- END
-- HDR8
local macro_rules | `(tactic| walk_at "hp") => `(tactic| (refine' SQ.up ?e ?h; (case e => assumption); (case h => walk_at "hp")))
local macro_rules | `(tactic| walk_at "rd") => `(tactic| first
  | (with_reducible refine rd_rng ?_)
  | ((with_reducible refine' rd_lenS ?h ?_); (case h => walk_at "hp")))
-- END
-- HDR9
local macro_rules | `(tactic| walk_at "us") => `(tactic| first
  | ((with_reducible refine' us_cell_at ?h ?_); (case h => walk_at "hp"))
  | (with_reducible refine us_common ?_))
-- END
local macro_rules | `(tactic| walk_at "hp") => `(tactic| (refine' FenceAt.up (tk_of ?e) ?h; (case e => assumption); (case h => walk_at "hp")))
theorem rd_ifG {p : Prop} [Decidable p] {ts ts' : TS} {D : Ends} {σ : L2.St} {H : Hp} (Mid : L2.St → Hp → Prop) (h2 : ∀ σ H, Mid σ H → D.nx σ H) (q : ∀ R : L2.St → Hp → Prop, (∀ σ H, Mid σ H → R σ H) → if p then ts { D with nx := R } σ H else ts' { D with nx := R } σ H) :
    if p then ts D σ H else ts' D σ H := q D.nx h2
theorem rd_par {i j : Nat} {ta : TA} {D : Ends} {σ : L2.St} {H : Hp} (q : ta σ H fun vs H1 => ∃ v w, vs = [v, w] ∧ D.nx ((σ.set i (some v)).set j (some w)) H1) : tPar i j ta D σ H := q
theorem rd_two {v w : V} {B : V → V → Prop} (q : B v w) : ∃ v' w', [v, w] = [v', w'] ∧ B v' w' := ⟨v, w, rfl, q⟩
section
variable {P : Program} {w : World} {K : PySem.W.Frag} {mg : Str → Option Value} {base : Heap} {c : Cs} {f : Addr} {fd : FuncData}
/-- a fence that a wall can be made of -/
structure FcOk (f : Fence) : Prop where
  wok : WOk (wdOf f)
  lt : lt2 f.one f.two = true
  nlt : lt2 f.two f.one = false
  str : PyData.strOk f.word = true
theorem FcOk.pq {f : Fence} (o : FcOk f) : WlOk f.one f.two ∧ WlOk f.two f.one := by
  have a1 := o.wok.a1
  have a2 := o.wok.a2
  have b1 := o.wok.b1
  have b2 := o.wok.b2
  have d := o.wok.dir
  dsimp only [wdOf] at a1 a2 b1 b2 d
  obtain ⟨l, hl, d⟩ := d
  have f1 : farP f.one = false := by
    unfold farP
    rw [decide_eq_false_iff_not]
    omega
  have f2 : farP f.two = false := by
    unfold farP
    rw [decide_eq_false_iff_not]
    omega
  refine ⟨⟨?_, f1, f2⟩, ⟨?_, f2, f1⟩⟩
  · unfold lineO
    rcases d with ⟨d1, d2⟩ | ⟨d1, d2⟩ | ⟨d1, d2⟩ | ⟨d1, d2⟩
    · exact ⟨0, by rw [if_neg (by omega), if_pos (by omega)]⟩
    · exact ⟨1, by rw [if_neg (by omega), if_neg (by omega), if_pos (by omega)]⟩
    · exact ⟨2, by rw [if_neg (by omega), if_neg (by omega), if_neg (by omega), if_pos (by omega)]⟩
    · exact ⟨3, by rw [if_neg (by omega), if_neg (by omega), if_neg (by omega), if_neg (by omega), if_pos (by omega)]⟩
  · unfold lineO
    rcases d with ⟨d1, d2⟩ | ⟨d1, d2⟩ | ⟨d1, d2⟩ | ⟨d1, d2⟩
    · exact ⟨0, by rw [if_neg (by omega), if_pos (by omega)]⟩
    · exact ⟨1, by rw [if_neg (by omega), if_neg (by omega), if_pos (by omega)]⟩
    · exact ⟨2, by rw [if_neg (by omega), if_neg (by omega), if_neg (by omega), if_pos (by omega)]⟩
    · exact ⟨3, by rw [if_neg (by omega), if_neg (by omega), if_neg (by omega), if_neg (by omega), if_pos (by omega)]⟩
theorem wat_of {f : Fence} {k : Nat} {H : Hp} {x dx : Addr} {o t : V} (hk : kindOf f.word = k) (h3 : k ≠ 3) (hi : H x = some (.ins (clsOf c k) dx [("one", o), ("two", t)])) (h1 : T2 H o f.one) (h2 : T2 H t f.two) : WAt c H (.ref x) (wdOf f) := by
  refine ⟨x, dx, o, t, rfl, ?_, h1, h2⟩
  subst hk
  rw [hi]
  show _ = some (HO.ins (clsOf c (kindOf f.word)) dx (wfs (wdOf f) o t))
  have : wfs (wdOf f) o t = ([("one", o), ("two", t)] : List (Str × V)) := by
    unfold wfs
    exact if_neg h3
  rw [this]
def sp_built (c : Cs) : Sp := mkSp (fun a : V × Fence × Bool => [a.1, .bl a.2.2]) (fun a H => FenceAt H a.1 a.2.1 ∧ FcOk a.2.1) fun a H v H' => Same H H' ∧ WAt c H' v (wdOf a.2.1)
theorem us_built {v : V} {f : Fence} {b : Bool} {H : Hp} {Q : VK} {E : XK} (h : FenceAt H v f) (o : FcOk f) (k : ∀ v H', Same H H' → WAt c H' v (wdOf f) → Q v H') : sp_built c ([v, .bl b] ++ []) H Q E :=
  ⟨(v, f, b), rfl, ⟨h, o⟩, fun v H' e => k v H' e.1 e.2⟩
abbrev N_law_built : List Str := ["_law_fence", "_law_turned", "_law_one", "_law_two"]
theorem sc_law_built : FnScope ["_law_fence", "_law_turned", "_law_one", "_law_two"] ["_law_fence", "_law_turned"] (defScope s_law_built) := ⟨rfl, rfl, rfl, by decide +kernel, rfl, by decide +kernel, by decide +kernel⟩
theorem ok_built (F : Fun K "_law_built" "_law_built" s_law_built f fd) (T : Txt K mg c) (c_Mirror : Mak P w K mg base 2 c.M "Mirror" ["self", "one", "two"] [] (sp_Wall c)) (c_Glass : Mak P w K mg base 2 c.G "Glass" ["self", "one", "two"] [] (sp_Wall c))
    (c_Hole : Mak P w K mg base 2 c.H "Hole" ["self", "one", "two"] [] (sp_Wall c)) (c_Door : Mak P w K mg base 3 c.D "Door" ["self", "one", "two", "every"] [] (sp_Door c)) (c_Door2 : Mak P w K mg base 3 c.D "Door" ["self", "one", "two", "every"] [.int 2] (sp_Door c)) :
    FnOk P w K mg base CX0 5 f fd ["_law_fence", "_law_turned"] (sp_built c) := by
  refine F.ok sc_law_built (mk_len fun _ => rfl) (fun cdv A outer s H vs Q E hr h => ?_)
  obtain ⟨⟨v, fc, b⟩, hv, ⟨h1, o⟩, k⟩ := h
  dsimp only at hv h1 o k
  subst hv
  refine ⟨_, (pss_cons (ps_set (i := 2) sc_law_built.nd rfl (by first | exact Or.inl rfl | exact Or.inr rfl) (pe_tup (pa_cons (pe_ix ix_tup (pv 0) pe_int (fun _ _ => rfl)) (pa_cons (pe_ix ix_tup (pv 0) pe_int (fun _ _ => rfl)) pa_nil))))
      (pss_cons (ps_set (i := 3) sc_law_built.nd rfl (by first | exact Or.inl rfl | exact Or.inr rfl) (pe_tup (pa_cons (pe_ix ix_tup (pv 0) pe_int (fun _ _ => rfl)) (pa_cons (pe_ix ix_tup (pv 0) pe_int (fun _ _ => rfl)) pa_nil))))
      (pss_cons (ps_if (pt_val (pv 1)) (pss_one (ps_par (i := 2) (j := 3) rfl sc_law_built.nd rfl rfl (by decide) rfl rfl (pa_cons (pv 3) (pa_cons (pv 2) pa_nil)) rfl)) pss_nil)
      (pss_cons (ps_if (pt_cmpR op_eq (pe_ix ix_tup (pv 0) pe_int (fun _ _ => rfl)) pe_str (nomark _)) (pss_one (ps_ret (pe_mk c_Glass (hr.mono (by decide)) rfl (pa_cons (pv 2) (pa_cons (pv 3) pa_nil))))) pss_nil)
      (pss_cons (ps_if (pt_cmpR op_eq (pe_ix ix_tup (pv 0) pe_int (fun _ _ => rfl)) pe_str (nomark _)) (pss_one (ps_ret (pe_mk c_Hole (hr.mono (by decide)) rfl (pa_cons (pv 2) (pa_cons (pv 3) pa_nil))))) pss_nil)
      (pss_cons (ps_if (PW.pt (pw_and (pt_cmpR op_eq (pe_ix ix_tup (pv 0) pe_int (fun _ _ => rfl)) pe_str (nomark _)) (pw_and1 (pt_cmpR op_eq (pe_ix ix_tup (pv 0) pe_int (fun _ _ => rfl)) pe_int (nomark _))))) (pss_one (ps_ret (pe_mk c_Door2 (hr.mono (by decide)) rfl (pa_cons (pv 2) (pa_cons (pv 3) pa_nil))))) pss_nil)
      (pss_cons (ps_if (pt_cmpR op_eq (pe_ix ix_tup (pv 0) pe_int (fun _ _ => rfl)) pe_str (nomark _)) (pss_one (ps_ret (pe_mk c_Door (hr.mono (by decide)) rfl (pa_cons (pv 2) (pa_cons (pv 3) (pa_cons (pe_ix ix_tup (pv 0) pe_int (fun _ _ => rfl)) pa_nil)))))) pss_nil)
      (pss_one (ps_ret (pe_mk c_Mirror (hr.mono (by decide)) rfl (pa_cons (pv 2) (pa_cons (pv 3) pa_nil)))))))))))), ?_⟩
  obtain ⟨pq, qp⟩ := o.pq
  have h1 : TUP H v [.str fc.word, .int fc.every, .int fc.one.1, .int fc.one.2, .int fc.two.1, .int fc.two.2] := h1
  walk_at "go"
  rename_i p1 H1 e1 t1 p2 H2 e2 t2
  have e12 := e1.trans e2
  have t1' := t1.up (tk_of e2)
  have u1 : T2 H2 (.ref p1) fc.one := t1'
  have u2 : T2 H2 (.ref p2) fc.two := t2
  have m1 : minT fc.one fc.two = fc.one := by
    unfold minT
    rw [o.nlt]
    rfl
  have m2 : maxT fc.one fc.two = fc.two := by
    unfold maxT
    rw [o.lt]
    rfl
  have m3 : minT fc.two fc.one = fc.one := by
    unfold minT
    rw [o.lt]
    rfl
  have m4 : maxT fc.two fc.one = fc.two := by
    unfold maxT
    rw [o.nlt]
    rfl
  refine rd_ifG (fun σ H3 => ∃ ov tv p q, σ = [some v, some (.bl b), some ov, some tv] ∧ H3 = H2 ∧ T2 H2 ov p ∧ T2 H2 tv q ∧ minT p q = fc.one ∧ maxT p q = fc.two ∧ WlOk p q) ?_ ?_
  rotate_left
  · intro R hR
    refine rd_iteb (fun hb => ?_) (fun hb => ?_)
    · refine rd_par ?_
      walk_at "go"
      refine rd_two ?_
      exact hR _ _ ⟨_, _, _, _, rfl, rfl, u2, u1, m3, m4, qp⟩
    · walk_at "go"
      exact hR _ _ ⟨_, _, _, _, rfl, rfl, u1, u2, m1, m2, pq⟩
  · rintro σ H3 ⟨ov, tv, p, q, rfl, rfl, g1, g2, mm, mx, wl⟩
    have h3 := TUP.up (tk_of e12) h1
    clear e1 e2 t1 t2 t1' u1 u2 h1
    walk_at "go"
    refine rd_ite (fun hg => ?_) (fun hg => ?_)
    · walk_at "go"
      intro x dx nx ndx ne
      refine us_Wall (k := 1) nx (Same.put (Same.put (Same.refl _) ndx) nx) upd_same g1 g2 wl fun o' t' H4 e4 hi t1 t2 => ⟨rfl, ?_⟩
      rw [mm] at t1
      rw [mx] at t2
      exact k _ _ ⟨e12.trans e4, wat_of (k := 1) (by unfold kindOf; rw [if_pos hg]) (by decide) hi t1 t2⟩
    · walk_at "go"
      refine rd_ite (fun hh => ?_) (fun hh => ?_)
      · walk_at "go"
        intro x dx nx ndx ne
        refine us_Wall (k := 2) nx (Same.put (Same.put (Same.refl _) ndx) nx) upd_same g1 g2 wl fun o' t' H4 e4 hi t1 t2 => ⟨rfl, ?_⟩
        rw [mm] at t1
        rw [mx] at t2
        exact k _ _ ⟨e12.trans e4, wat_of (k := 2) (by unfold kindOf; rw [if_neg hg, if_pos hh]) (by decide) hi t1 t2⟩
      · walk_at "go"
        have ev := o.wok.ev
        have ev : 1 ≤ fc.every ∧ fc.every ≤ 9 := ev
        have door : fc.word = "door" → ∀ e H4 x, fc.every = e → WAt c H4 (.ref x) ⟨3, minT p q, maxT p q, e⟩ → WAt c H4 (.ref x) (wdOf fc) := fun hd e H4 x he w => by
          have : wdOf fc = ⟨3, minT p q, maxT p q, e⟩ := by
            unfold wdOf
            rw [mm, mx, he, show kindOf fc.word = 3 by unfold kindOf; rw [if_neg hg, if_neg hh, if_pos hd]]
          rw [this]
          exact w
        refine rd_ite (fun hd => ?_) (fun hd => ?_)
        · walk_at "go"
          refine rd_ite (fun he => ?_) (fun he => ?_)
          · walk_at "go"
            intro x dx nx ndx ne
            refine ⟨⟨x, dx, H3, p, q, ov, tv, 2⟩, rfl, ⟨nx, Same.put (Same.put (Same.refl _) ndx) nx, upd_same, g1, g2, wl, Int.le_of_lt_add_one (Int.lt_of_sub_pos (by decide : (0 : Int) < 3 - 1)), Int.le_of_lt_add_one (Int.lt_of_sub_pos (by decide : (0 : Int) < 10 - 2))⟩, ?_⟩
            rintro v' H4 ⟨rfl, e4, w4⟩
            exact ⟨rfl, k _ _ ⟨e12.trans e4, door hd _ _ _ he w4⟩⟩
          · walk_at "go"
            refine rd_iteY hd ?_
            walk_at "go"
            intro x dx nx ndx ne
            refine ⟨⟨x, dx, H3, p, q, ov, tv, fc.every⟩, rfl, ⟨nx, Same.put (Same.put (Same.refl _) ndx) nx, upd_same, g1, g2, wl, ev.1, ev.2⟩, ?_⟩
            rintro v' H4 ⟨rfl, e4, w4⟩
            exact ⟨rfl, k _ _ ⟨e12.trans e4, door hd _ _ _ rfl w4⟩⟩
        · walk_at "go"
          refine rd_iteN hd ?_
          walk_at "go"
          intro x dx nx ndx ne
          refine us_Wall (k := 0) nx (Same.put (Same.put (Same.refl _) ndx) nx) upd_same g1 g2 wl fun o' t' H4 e4 hi t1 t2 => ⟨rfl, ?_⟩
          rw [mm] at t1
          rw [mx] at t2
          exact k _ _ ⟨e12.trans e4, wat_of (k := 0) (by unfold kindOf; rw [if_neg hg, if_neg hh, if_neg hd]) (by decide) hi t1 t2⟩
end
end Bw
end

section
set_option Elab.async false
set_option linter.all false
set_option maxRecDepth 100000
set_option maxHeartbeats 4100000
set_option exponentiation.threshold 1000000
namespace Bw
open PySem L2
-- HDR
-- what the heap knows, carried over
local macro_rules | `(tactic| walk_at "hp") => `(tactic| first
  | assumption
  | (refine' TUP.up (tk_of ?e) ?h; (case e => assumption); (case h => walk_at "hp"))
  | (refine' Fld.up ?e ?h; (case e => assumption); (case h => walk_at "hp"))
  | (refine' LST.up ?e ?h; (case e => assumption); (case h => walk_at "hp"))
  | (refine' TUP.up ?e ?h; (case e => assumption); (case h => walk_at "hp"))
  | (refine' Mth.up ?e ?h; (case e => assumption); (case h => walk_at "hp")))
-- one step of a reading
local macro_rules | `(tactic| walk_at "rd") => `(tactic| first
  | (with_reducible refine rd_var rfl ?_)
  | (with_reducible refine rd_c ?_)
  | (with_reducible refine rd_op ?_)
  | (with_reducible refine rd_mulW ?_ ?_)
  | (with_reducible refine rd_add ?_)
  | (with_reducible refine rd_sub ?_)
  | (with_reducible refine rd_cons ?_)
  | (with_reducible refine rd_nil ?_)
  | (with_reducible refine rd_seq ?_)
  | (with_reducible refine rd_asg ?_)
  | (with_reducible refine rd_name ?_)
  | (with_reducible refine rd_call ?_)
  | (with_reducible refine rd_fld ?_)
  | ((with_reducible refine' rd_fldv ?h ?_); (case h => walk_at "hp"))
  | ((with_reducible refine' rd_ixT0 ?h ?e ?_); (case h => walk_at "hp"); (case e => rfl))
  | ((with_reducible refine' rd_ixT1 ?h ?e ?_); (case h => walk_at "hp"); (case e => rfl))
  | ((with_reducible refine' rd_ixT2 ?h ?e ?_); (case h => walk_at "hp"); (case e => rfl))
  | ((with_reducible refine' rd_gtup ?h ?e ?_); (case h => walk_at "hp"); (case e => rfl))
  | (with_reducible refine rd_gcons ?_)
  | (with_reducible refine rd_gnil ?_)
  | (with_reducible refine rd_if ?_)
  | (with_reducible refine rd_test ?_)
  | (with_reducible refine rd_isbl ?_)
  | (with_reducible refine rd_iteT ?_)
  | (with_reducible refine rd_iteF ?_)
  | (with_reducible refine rd_ret ?_)
  | (with_reducible refine rd_next ?_)
  | (with_reducible refine rd_lt ?_)
  | (with_reducible refine rd_gt ?_)
  | (with_reducible refine rd_eqI ?_)
  | (with_reducible refine rd_neI ?_)
  | (with_reducible refine rd_un ?_)
  | (with_reducible refine rd_neg ?_)
  | (with_reducible refine rd_tup ?_)
  | (with_reducible refine rd_lst ?_)
  | (with_reducible refine rd_lstN (Nat.le_of_ble_eq_true rfl) ?_; intro _ _ _ _ _)
  | (with_reducible refine rd_tupN (Nat.le_of_ble_eq_true rfl) ?_; intro _ _ _ _)
  | (with_reducible refine rd_mod ?_ ?_)
  | (with_reducible refine rd_modN ?_ ?_)
  | (with_reducible refine rd_mul ?_ ?_)
  | (with_reducible refine rd_fdiv ?_ ?_)
  | (with_reducible refine rd_fdivZ ?_ ?_ ?_)
  | (with_reducible refine rd_tB ?_)
  | (with_reducible refine rd_CB ?_)
  | (with_reducible refine rd_le ?_)
  | (with_reducible refine rd_ge ?_)
  | (with_reducible refine rd_eqS ?_)
  | (with_reducible refine rd_neS ?_)
  | (with_reducible refine rd_isN0 ?_)
  | (with_reducible refine rd_isN1 ?_)
  | (with_reducible refine rd_notN0 ?_)
  | (with_reducible refine rd_notN1 ?_)
  | (with_reducible refine rd_abs ?_)
  | (with_reducible refine rd_max2 ?_)
  | (with_reducible refine rd_min2 ?_)
  | (with_reducible refine rd_mx ?_)
  | ((with_reducible refine' rd_mx1 ?h ?_); (case h => walk_at "hp"))
  | (with_reducible refine rd_and ?_)
  | (with_reducible refine rd_or ?_)
  | (with_reducible refine rd_not ?_)
  | (with_reducible refine rd_drop ?_)
  | (with_reducible refine rd_chain ?_)
  | (with_reducible refine rd_orV ?_)
  | (with_reducible refine rd_andV ?_)
  | (with_reducible refine rd_notV ?_)
  | (with_reducible refine rd_sfld ?_)
  | (with_reducible refine rd_for ?_)
  | (with_reducible refine rd_iL ?_)
  | (with_reducible refine rd_lc ?_)
  | (with_reducible refine rd_iE ?_)
  | ((with_reducible refine' rd_lenL ?h ?_); (case h => walk_at "hp"))
  | ((with_reducible refine' rd_lenT ?h ?_); (case h => walk_at "hp"))
  | (with_reducible refine rd_yes ?_)
  | (with_reducible refine rd_iZ ?_)
  | (with_reducible refine rd_iT ?_)
  | (with_reducible refine rd_break ?_)
  | ((with_reducible refine' rd_ixT3 ?h ?e ?_); (case h => walk_at "hp"); (case e => rfl))
  | ((with_reducible refine' rd_ixT4 ?h ?e ?_); (case h => walk_at "hp"); (case e => rfl))
  | ((with_reducible refine' rd_ixT5 ?h ?e ?_); (case h => walk_at "hp"); (case e => rfl))
  | ((with_reducible refine' rd_ixL0 ?h ?e ?_); (case h => walk_at "hp"); (case e => rfl))
  | ((with_reducible refine' rd_ixL1 ?h ?e ?_); (case h => walk_at "hp"); (case e => rfl))
  | ((with_reducible refine' rd_ixL2 ?h ?e ?_); (case h => walk_at "hp"); (case e => rfl))
  | ((with_reducible refine' rd_ixL3 ?h ?e ?_); (case h => walk_at "hp"); (case e => rfl))
  | ((with_reducible refine' rd_ixL4 ?h ?e ?_); (case h => walk_at "hp"); (case e => rfl))
  | ((with_reducible refine' rd_ixL5 ?h ?e ?_); (case h => walk_at "hp"); (case e => rfl)))
-- steps, with the callees' promises
local macro_rules | `(tactic| walk_at "go") => `(tactic| repeat first | walk_at "rd" | walk_at "us")
-- every way
local macro_rules | `(tactic| walk_at "all") => `(tactic| repeat' first
  | walk_at "rd"
  | walk_at "us"
  | (with_reducible refine rd_ite (fun _ => ?_) (fun _ => ?_))
  | (with_reducible refine rd_iten (fun _ => ?_) (fun _ => ?_)))
-- END
-- HDR7
local macro_rules | `(tactic| walk_at "rd") => `(tactic| first
  | (with_reducible refine rd_make ?_)
  | (with_reducible refine rd_bm ?_)
  | (with_reducible refine rd_bm0 ?_)
  | ((with_reducible refine' rd_ty ?h ?_); (case h => walk_at "hp"))
  | (with_reducible refine rd_augS ?_)
  | (with_reducible refine rd_ipI ?_))
local macro_rules | `(tactic| walk_at "rd") => `(tactic| first
  | (with_reducible refine rd_sl ?_)
  | (with_reducible refine rd_nopart ?_)
  | (with_reducible refine rd_part ?_)
  | (with_reducible refine rd_isint ?_)
  | ((with_reducible refine' rd_minT ?h ?g ?_); (case h => walk_at "hp"); (case g => walk_at "hp"); intro _ _)
  | ((with_reducible refine' rd_maxT ?h ?g ?_); (case h => walk_at "hp"); (case g => walk_at "hp"); intro _ _)
  | ((with_reducible refine' rd_ltT ?h ?g ?_); (case h => walk_at "hp"); (case g => walk_at "hp"))
  | ((with_reducible refine' rd_listL ?h ?_); (case h => walk_at "hp"); intro _ _ _ _ _))
-- END
-- HDR8
local macro_rules | `(tactic| walk_at "hp") => `(tactic| (refine' SQ.up ?e ?h; (case e => assumption); (case h => walk_at "hp")))
local macro_rules | `(tactic| walk_at "rd") => `(tactic| first
  | (with_reducible refine rd_rng ?_)
  | ((with_reducible refine' rd_lenS ?h ?_); (case h => walk_at "hp")))
-- END
-- HDR9
local macro_rules | `(tactic| walk_at "us") => `(tactic| first
  | ((with_reducible refine' us_cell_at ?h ?_); (case h => walk_at "hp"))
  | (with_reducible refine us_common ?_))
-- END
def rTupOf (K : PySem.W.Frag) : List V → Hp → VK → Prop := fun xs H Q => ∃ p ys, xs = [.ref p] ∧ ((SqL K H p ys ∧ ∀ l, H l = none → Q (.ref l) (upd H l (.tup ys))) ∨ (SqT K H p ys ∧ Q (.ref p) H))
theorem cl_tuple {X : Cx} : CallR X (.type "tuple") (rTupOf X.K) := call_tuple_of
theorem rd_tupleOf {K : PySem.W.Frag} {H : Hp} {v : V} {xs : List V} {Q : VK} (h : LST H v xs) (q : ∀ p H', Same H H' → TUP H' (.ref p) xs → Q (.ref p) H') : rTupOf K [v] H Q := by
  obtain ⟨p, rfl, e⟩ := h
  exact ⟨p, xs, rfl, .inl ⟨SqL.of e, fun l hl => q l _ (same_new hl) ⟨l, rfl, upd_same⟩⟩⟩
theorem mul_in {i j : Int} (h : i.natAbs ≤ 1000000000) : CMul i j := .inl ⟨by omega, by omega⟩
section
variable {P : Program} {w : World} {K : PySem.W.Frag} {mg : Str → Option Value} {base : Heap} {c : Cs} {f : Addr} {fd : FuncData}
def sp_law_on : Sp := mkSp (fun a : (V × Fence) × V × P3 => [a.1.1, a.2.1]) (fun a H => FenceAt H a.1.1 a.1.2 ∧ T3 H a.2.1 a.2.2 ∧ FcOk a.1.2 ∧ SpotOk a.2.2) fun a H v H' => v = .bl (onLaw a.1.2 a.2.2) ∧ Same H H'
theorem us_law_on {v z : V} {f : Fence} {P : P3} {H : Hp} {Q : VK} {E : XK} (h1 : FenceAt H v f) (h2 : T3 H z P) (o : FcOk f) (s : SpotOk P) (k : ∀ H', Same H H' → Q (.bl (onLaw f P)) H') : sp_law_on ([v, z] ++ []) H Q E :=
  ⟨((v, f), (z, P)), rfl, ⟨h1, h2, o, s⟩, fun v H' e => by
    obtain ⟨rfl, e⟩ := e
    exact k H' e⟩
abbrev N_law_on : List Str := ["_law_fence", "_law_spot", "_law_one", "_law_two"]
theorem sc_law_on : FnScope ["_law_fence", "_law_spot", "_law_one", "_law_two"] ["_law_fence", "_law_spot"] (defScope s_law_on) := ⟨rfl, rfl, rfl, by decide +kernel, rfl, by decide +kernel, by decide +kernel⟩
theorem ok_law_on (F : Fun K "_law_on" "_law_on" s_law_on f fd) : FnOk P w K mg base CX0 1 f fd ["_law_fence", "_law_spot"] sp_law_on := by
  refine F.ok sc_law_on (mk_len fun _ => rfl) (fun cdv A outer s H vs Q E hr h => ?_)
  obtain ⟨⟨⟨v, f'⟩, z, P⟩, hv, ⟨h1, h2, o, sp⟩, k⟩ := h
  dsimp only at hv h1 h2 o sp k
  subst hv
  have h1 : TUP H v [.str f'.word, .int f'.every, .int f'.one.1, .int f'.one.2, .int f'.two.1, .int f'.two.2] := h1
  refine ⟨_, (pss_cons (ps_set (i := 2) sc_law_on.nd rfl (by first | exact Or.inl rfl | exact Or.inr rfl) (pe_tup (pa_cons (pe_op op_sub (pe_op op_mul (pe_ix ix_tup (pv 0) pe_int (fun _ _ => rfl)) (pe_ix ix_tup (pv 1) pe_int (fun _ _ => rfl))) (pe_ix ix_tup (pv 1) pe_int (fun _ _ => rfl))) (pa_cons (pe_op op_sub (pe_op op_mul (pe_ix ix_tup (pv 0) pe_int (fun _ _ => rfl)) (pe_ix ix_tup (pv 1) pe_int (fun _ _ => rfl))) (pe_ix ix_tup (pv 1) pe_int (fun _ _ => rfl))) pa_nil))))
      (pss_cons (ps_set (i := 3) sc_law_on.nd rfl (by first | exact Or.inl rfl | exact Or.inr rfl) (pe_tup (pa_cons (pe_op op_sub (pe_op op_mul (pe_ix ix_tup (pv 0) pe_int (fun _ _ => rfl)) (pe_ix ix_tup (pv 1) pe_int (fun _ _ => rfl))) (pe_ix ix_tup (pv 1) pe_int (fun _ _ => rfl))) (pa_cons (pe_op op_sub (pe_op op_mul (pe_ix ix_tup (pv 0) pe_int (fun _ _ => rfl)) (pe_ix ix_tup (pv 1) pe_int (fun _ _ => rfl))) (pe_ix ix_tup (pv 1) pe_int (fun _ _ => rfl))) pa_nil))))
      (pss_cons (ps_if (pt_cmpR op_ne (pe_op op_mul (pe_ix ix_tup (pv 2) pe_int (fun _ _ => rfl)) (pe_ix ix_tup (pv 3) pe_int (fun _ _ => rfl))) (pe_op op_mul (pe_ix ix_tup (pv 2) pe_int (fun _ _ => rfl)) (pe_ix ix_tup (pv 3) pe_int (fun _ _ => rfl))) (nomark _)) (pss_one (ps_ret pe_bl)) pss_nil)
      (pss_one (ps_ret (pe_cmpR op_le (pe_op op_add (pe_op op_mul (pe_ix ix_tup (pv 2) pe_int (fun _ _ => rfl)) (pe_ix ix_tup (pv 3) pe_int (fun _ _ => rfl))) (pe_op op_mul (pe_ix ix_tup (pv 2) pe_int (fun _ _ => rfl)) (pe_ix ix_tup (pv 3) pe_int (fun _ _ => rfl)))) pe_int (nomark _))))))), ?_⟩
  have a1 := o.wok.abs
  have s1 := sp.w
  have s2 := sp.x
  have s3 := sp.y
  dsimp only [wdOf] at a1
  obtain ⟨x1, x2, x3, x4, _⟩ := a1
  have sw : P.2.2.natAbs ≤ 1000 := by omega
  have n1 : (f'.one.1 * P.2.2 - P.1).natAbs ≤ 1000000 := Nat.le_trans (abs_sub_le (abs_mul_le x1 sw) s2) (by decide)
  have n2 : (f'.one.2 * P.2.2 - P.2.1).natAbs ≤ 1000000 := Nat.le_trans (abs_sub_le (abs_mul_le x2 sw) s3) (by decide)
  have k' : ∀ r H', onLaw f' P = r → Same H H' → Q (.bl r) H' := fun r H' er e => k _ _ ⟨by rw [er], e⟩
  walk_at "go"
  any_goals first
    | exact mul_in (Nat.le_trans x1 (by decide))
    | exact mul_in (Nat.le_trans x2 (by decide))
    | exact mul_in (Nat.le_trans x3 (by decide))
    | exact mul_in (Nat.le_trans x4 (by decide))
    | exact mul_in (Nat.le_trans n1 (by decide))
    | exact mul_in (Nat.le_trans n2 (by decide))
  rename_i p1 H1 e1 t1 p2 H2 e2 t2
  refine rd_iten (fun hn => ?_) (fun he => ?_)
  · walk_at "go"
    refine k' _ _ ?_ (e1.trans e2)
    unfold onLaw
    rw [if_neg hn]
  · walk_at "go"
    any_goals first
      | exact mul_in (Nat.le_trans n1 (by decide))
      | exact mul_in (Nat.le_trans n2 (by decide))
    refine k' _ _ ?_ (e1.trans e2)
    unfold onLaw
    rw [if_pos he]
def sp_brought : Sp := mkSp (fun a : Int × Int × Int => [.int a.1, .int a.2.1, .int a.2.2]) (fun a _ => 1 ≤ a.2.2 ∧ a.2.2 ≤ 1000) fun a H v H' => Same H H' ∧ T3 H' v (broughtP a.1 a.2.1 a.2.2)
theorem us_brought {x y w : Int} {H : Hp} {Q : VK} {E : XK} (h : 1 ≤ w ∧ w ≤ 1000) (k : ∀ v H', Same H H' → T3 H' v (broughtP x y w) → Q v H') : sp_brought ([.int x, .int y, .int w] ++ []) H Q E :=
  ⟨(x, y, w), rfl, h, fun v H' e => k v H' e.1 e.2⟩
abbrev N_law_brought : List Str := ["_law_x", "_law_y", "_law_w", "_law_by", "_law_part"]
theorem sc_law_brought : FnScope ["_law_x", "_law_y", "_law_w", "_law_by", "_law_part"] ["_law_x", "_law_y", "_law_w"] (defScope s_law_brought) := ⟨rfl, rfl, rfl, by decide +kernel, rfl, by decide +kernel, by decide +kernel⟩
theorem ok_brought (F : Fun K "_law_brought" "_law_brought" s_law_brought f fd) (T : Txt K mg c) (c_law_common : Cal P w K mg base 1 "_law_common" ["_law_a", "_law_b"] [] sp_common) : FnOk P w K mg base CX0 2 f fd ["_law_x", "_law_y", "_law_w"] sp_brought := by
  refine F.ok sc_law_brought (mk_len fun _ => rfl) (fun cdv A outer s H vs Q E hr h => ?_)
  obtain ⟨⟨x, y, z⟩, hv, ho, k⟩ := h
  dsimp only at hv ho k
  subst hv
  refine ⟨_, (pss_cons (ps_set (i := 3) sc_law_brought.nd rfl (by first | exact Or.inl rfl | exact Or.inr rfl) (pe_cl c_law_common (hr.mono (by decide)) rfl (pa_cons (pv 2) (pa_cons (pe_cl c_law_common (hr.mono (by decide)) rfl (pa_cons (pv 0) (pa_cons (pv 1) pa_nil))) pa_nil))))
      (pss_one (ps_ret (pe_callTy cl_tuple rfl T.n_tuple (by decide +kernel) (pa_cons (pe_lc (own := [("_law_part", 4)]) (g := gName 4) (tt := tYes) rfl sc_law_brought.nd (pi_tup (pe_tup (pa_cons (pv 0) (pa_cons (pv 1) (pa_cons (pv 2) pa_nil))))) (blkOk_by (own := [("_law_part", 4)]) (N := ["_law_x", "_law_y", "_law_w", "_law_by", "_law_part"]) (sc := defScope s_law_brought) (by decide +kernel)) (fun _ _ _ _ _ => (pg_name (i := 4) sc_law_brought.nd rfl (by first | exact Or.inl rfl | exact Or.inr rfl))) (fun _ _ _ _ _ => pts_nil) (fun _ _ _ _ _ => (pe_op op_fdiv (pv 4) (pv 3)))) pa_nil))))), ?_⟩
  have g0 : 0 < gc z (gc x y) := by
    unfold gc
    have := Int.gcd_pos_of_ne_zero_left ((Int.gcd x y : Nat) : Int) (show z ≠ 0 by omega)
    omega
  have g1 : gc z (gc x y) ≤ 1000 := by
    unfold gc
    have := Int.gcd_le_natAbs_left (a := z) ((Int.gcd x y : Nat) : Int) (show z ≠ 0 by omega)
    omega
  have fe : ∀ a : Int, a / gc z (gc x y) = a.fdiv (gc z (gc x y)) := fun a => (Int.fdiv_eq_ediv_of_nonneg a (by omega)).symm
  walk_at "go"
  rename_i tp H1 e1 t1
  have hx : ∀ (i : Nat) (v : V), [V.int x, V.int y, V.int z][i]? = some v → ∃ a, v = .int a ∧ [x, y, z][i]? = some a := fun i v h => by
    match i, h with
    | 0, h => cases h; exact ⟨x, rfl, rfl⟩
    | 1, h => cases h; exact ⟨y, rfl, rfl⟩
    | 2, h => cases h; exact ⟨z, rfl, rfl⟩
  refine lc_T t1 (fun D i H' => Same H1 H' ∧ H' D = some (.lst (([x, y, z].take i).map fun a => V.int (a.fdiv (gc z (gc x y)))))) (fun D hD => ⟨same_new hD, upd_same⟩) (fun D i H' hD q => TUP.up (tk_of q.1) t1) ?_ ?_
  · rintro D i v H' hD hv ⟨e, hd⟩
    obtain ⟨a, rfl, ha⟩ := hx i v hv
    unfold LcTurn
    walk_at "go"
    refine ⟨rfl, ?_⟩
    walk_at "go"
    · rw [fe]
      refine ⟨_, hd, ?_, Same.put e hD, ?_⟩
      · rw [List.length_map]
        exact Nat.lt_of_le_of_lt (Nat.le_trans (List.length_take_le' ..) (show [x, y, z].length ≤ 3 from Nat.le_refl _)) (Nat.lt_of_lt_of_le (by decide : 3 < 1000) (Nat.le_of_ble_eq_true rfl))
      · rw [upd_same, List.take_succ, ha, List.map_append]
        rfl
    · exact ⟨g0, by omega⟩
  · rintro D H' hD ⟨e, hd⟩
    walk_at "go"
    refine rd_tupleOf ⟨D, rfl, hd⟩ fun p H2 e2 t2 => ?_
    exact k _ _ ⟨(e1.trans e).trans e2, t2⟩
structure StrA where
  (fs : List Fence) (xs : List V) (fv cv : V) (a b c wide high bottom : Int)
def sp_start : Sp := mkSp (fun a : StrA => [a.fv, a.cv, .int a.wide, .int a.high, .int a.bottom])
  (fun a H => LST H a.fv a.xs ∧ FcsAt H a.xs a.fs ∧ (∀ f ∈ a.fs, FcOk f) ∧ a.fs.length ≤ 40 ∧ LST H a.cv [.int a.a, .int a.b, .int a.c] ∧ (1 ≤ a.wide ∧ a.wide ≤ 4) ∧ (1 ≤ a.high ∧ a.high ≤ 4) ∧ 1 ≤ a.bottom ∧ a.bottom ≤ 1000)
  fun a H v H' => Same H H' ∧ T3 H' v (startPt a.fs a.a a.b a.c a.wide a.high a.bottom)
def pdFence (f : Fence) : PyData := .tuple [.str f.word, .int f.every, .int f.one.1, .int f.one.2, .int f.two.1, .int f.two.2]
theorem layFence {f : Fence} (o : FcOk f) : Lay 2 (pdFence f) :=
  Lay.tup (Lay.cons (layStr o.str) (Lay.cons ((Lay.int _).mono (by decide)) (Lay.cons ((Lay.int _).mono (by decide)) (Lay.cons ((Lay.int _).mono (by decide)) (Lay.cons ((Lay.int _).mono (by decide)) (Lay.cons ((Lay.int _).mono (by decide)) Lay.nil))))))
theorem dpFence {H : Hp} {v : V} {f : Fence} (h : FenceAt H v f) : Dp K H v (pdFence f) := by
  obtain ⟨p, rfl, e⟩ := h
  exact .tup (SqT.of e) (.cons (.str _) (.cons (.int _) (.cons (.int _) (.cons (.int _) (.cons (.int _) (.cons (.int _) .nil))))))
abbrev N_law_start : List Str := ["_law_fences_here", "_law_cells", "_law_wide", "_law_high", "_law_bottom", "_law_w", "_law_x", "_law_y", "_law_spot", "_law_fence"]
theorem sc_law_start : FnScope ["_law_fences_here", "_law_cells", "_law_wide", "_law_high", "_law_bottom", "_law_w", "_law_x", "_law_y", "_law_spot", "_law_fence"] ["_law_fences_here", "_law_cells", "_law_wide", "_law_high", "_law_bottom"] (defScope s_law_start) := ⟨rfl, rfl, rfl, by decide +kernel, rfl, by decide +kernel, by decide +kernel⟩
theorem ok_start (F : Fun K "_law_start" "_law_start" s_law_start f fd) (c_law_brought : Cal P w K mg base 2 "_law_brought" ["_law_x", "_law_y", "_law_w"] [] sp_brought) (c_law_on : Cal P w K mg base 1 "_law_on" ["_law_fence", "_law_spot"] [] sp_law_on) :
    FnOk P w K mg base CX0 3 f fd ["_law_fences_here", "_law_cells", "_law_wide", "_law_high", "_law_bottom"] sp_start := by
  refine F.ok sc_law_start (mk_len fun _ => rfl) (fun cdv A outer s H vs Q E hr h => ?_)
  obtain ⟨⟨fs, xs, fv, cv, a, b, c, wide, high, bottom⟩, hv, ⟨h1, h2, o, hl, h3, hw, hh, hb⟩, k⟩ := h
  dsimp only at hv h1 h2 o hl h3 hw hh hb k
  subst hv
  have hb1 : 1 ≤ bottom := hb.1
  have hb2 : bottom ≤ 1000 := hb.2
  refine ⟨_, (pss_cons (ps_set (i := 5) sc_law_start.nd rfl (by first | exact Or.inl rfl | exact Or.inr rfl) (pe_op op_add pe_int (pe_op op_mod (pe_ix ix_list (pv 1) pe_int (fun _ _ => rfl)) (pv 4))))
      (pss_cons (ps_set (i := 6) sc_law_start.nd rfl (by first | exact Or.inl rfl | exact Or.inr rfl) (pe_op op_sub (pe_op op_mod (pe_ix ix_list (pv 1) pe_int (fun _ _ => rfl)) (pe_op op_add (pe_op op_mul (pe_op op_add (pv 2) pe_int) (pv 5)) pe_int)) (pv 5)))
      (pss_cons (ps_set (i := 7) sc_law_start.nd rfl (by first | exact Or.inl rfl | exact Or.inr rfl) (pe_op op_sub (pe_op op_mod (pe_ix ix_list (pv 1) pe_int (fun _ _ => rfl)) (pe_op op_add (pe_op op_mul (pe_op op_add (pv 3) pe_int) (pv 5)) pe_int)) (pv 5)))
      (pss_cons (ps_set (i := 8) sc_law_start.nd rfl (by first | exact Or.inl rfl | exact Or.inr rfl) (pe_cl c_law_brought (hr.mono (by decide)) rfl (pa_cons (pv 6) (pa_cons (pv 7) (pa_cons (pv 5) pa_nil)))))
      (pss_cons (ps_if (pt_cmpR (op_eqD (hu64 hr)) (pe_lc (own := [("_law_fence", 9)]) (g := gName 9) (te := tVar 9) rfl sc_law_start.nd (pi_list (pv 0)) (blkOk_by (own := [("_law_fence", 9)]) (N := ["_law_fences_here", "_law_cells", "_law_wide", "_law_high", "_law_bottom", "_law_w", "_law_x", "_law_y", "_law_spot", "_law_fence"]) (sc := defScope s_law_start) (by decide +kernel)) (fun _ _ _ _ _ => (pg_name (i := 9) sc_law_start.nd rfl (by first | exact Or.inl rfl | exact Or.inr rfl))) (fun _ _ _ _ _ => pts_one (pt_val (pe_cl c_law_on (hr.mono (by decide)) rfl (pa_cons (pv 9) (pa_cons (pv 8) pa_nil))))) (fun _ _ _ _ _ => (pv 9))) (pe_lst pa_nil) (nomark _)) (pss_one (ps_ret (pv 8))) pss_nil)
      (pss_one (ps_ret (pe_tup (pa_cons (pe_op op_add (pe_op op_mul pe_int (pe_op op_mod (pe_ix ix_list (pv 1) pe_int (fun _ _ => rfl)) (pv 2))) pe_int) (pa_cons (pe_op op_add (pe_op op_mul pe_int (pe_op op_mod (pe_ix ix_list (pv 1) pe_int (fun _ _ => rfl)) (pv 3))) pe_int) (pa_cons pe_int pa_nil))))))))))), ?_⟩
  have c0 := Int.emod_nonneg c (show bottom ≠ 0 by omega)
  have c1 := Int.emod_lt_of_pos c (show 0 < bottom by omega)
  have m1 : 0 ≤ (wide + 2) * (1 + c % bottom) := Int.mul_nonneg (by omega) (by omega)
  have m2 : 0 ≤ (high + 2) * (1 + c % bottom) := Int.mul_nonneg (by omega) (by omega)
  have sk := spot0_ok (a := a) (b := b) (c := c) hw hh hb
  walk_at "go"
  rotate_left
  · omega
  · exact mul_in (by omega)
  · omega
  · exact mul_in (by omega)
  · omega
  refine us_brought (by omega) fun sv H1 e1 t1 => ?_
  have t1 : T3 H1 sv (spot0 a b c wide high bottom) := t1
  have k' : ∀ v H' r, startPt fs a b c wide high bottom = r → Same H H' → T3 H' v r → Q v H' := fun v H' r er e t => k v H' ⟨e, by rw [er]; exact t⟩
  have l1 := h1.up e1
  have f1 := FcsAt.up (tk_of e1) h2
  have h3' := h3.up e1
  have ln := Paired.len h2
  have sp : startPt fs a b c wide high bottom = if (fs.any fun f => onLaw f (spot0 a b c wide high bottom)) = true then (21 * (a % wide) + 7, 21 * (b % high) + 3, 21) else spot0 a b c wide high bottom := rfl
  generalize spot0 a b c wide high bottom = S at t1 sk sp
  clear h1 h2 h3
  walk_at "go"
  refine lc_L l1 (fun D j H' => Same H1 H' ∧ ∃ zs, H' D = some (.lst zs) ∧ FcsAt H' zs ((fs.take j).filter fun f => onLaw f S)) (fun D hD => ⟨same_new hD, [], upd_same, .nil⟩) (fun D j H' hD q => l1.up q.1) ?_ ?_
  · rintro D j y H7 hD hy ⟨e7, zs, hz, tz⟩
    obtain ⟨p, hpj, ty⟩ := Paired.at f1 hy
    have ty7 := ty.up (tk_of e7)
    have t7 := TUP.up (tk_of e7) t1
    unfold LcTurn
    walk_at "go"
    refine ⟨rfl, ?_⟩
    walk_at "go"
    refine us_law_on ty7 t7 (o p (List.mem_of_getElem? hpj)) sk fun H8 e8 => ?_
    have hz8 := e8 _ _ hz
    have tz8 := FcsAt.up (tk_of e8) tz
    have ty8 := ty7.up (tk_of e8)
    have e78 := e7.trans e8
    walk_at "go"
    refine rd_iteb (fun hp' => ?_) (fun hp' => ?_)
    · walk_at "go"
      have tkD : TK H8 (upd H8 D (.lst (zs ++ [y]))) := TK.put hz8 fun _ z => by cases z
      refine ⟨zs, hz8, ?_, Same.put e78 hD, zs ++ [y], upd_same, ?_⟩
      · have h1 := Paired.len tz
        have h2 := List.length_filter_le (fun f => onLaw f S) (fs.take j)
        rw [List.length_take] at h2
        exact Nat.lt_of_lt_of_le (show zs.length < 1000 by omega) (Nat.le_of_ble_eq_true rfl)
      · rw [List.take_succ, hpj, List.filter_append]
        have : (some p).toList.filter (fun f => onLaw f S) = [p] := by
          show List.filter _ [p] = [p]
          rw [List.filter_cons, if_pos hp']
          rfl
        rw [this]
        exact Paired.snoc (R := FenceAt _) (a := p) (ty8.up tkD) (FcsAt.up tkD tz8)
    · refine ⟨e78, zs, hz8, ?_⟩
      rw [List.take_succ, hpj, List.filter_append]
      have : (some p).toList.filter (fun f => onLaw f S) = [] := by
        show List.filter _ [p] = []
        rw [List.filter_cons, if_neg (by rw [hp']; decide)]
        rfl
      rw [this, List.append_nil]
      exact tz8
  · rintro D H7 hD ⟨e7, zs, hz, tz⟩
    rw [ln, List.take_length] at tz
    walk_at "go"
    rename_i l8 H8 e8 n8 h8
    refine rd_eqNil (n := 2) (g := pdFence) ⟨D, rfl, e8 _ _ hz⟩ ⟨l8, rfl, h8⟩ (FcsAt.up (tk_of e8) tz) (fun v a q => dpFence q) (fun f hf => layFence (o f ((List.mem_filter.mp hf).1))) (by decide) ?_
    have e78 := e7.trans e8
    have t8 := t1.up (tk_of e78)
    have h38 := h3'.up e78
    have em : (fs.filter fun f => onLaw f S).isEmpty = !(fs.any fun f => onLaw f S) := by
      rw [Bool.eq_iff_iff, List.isEmpty_iff, List.filter_eq_nil_iff, Bool.not_eq_true', ← Bool.not_eq_true, List.any_eq_true]
      constructor
      · rintro h ⟨f, hf, he⟩
        exact h f hf he
      · intro h f hf he
        exact h ⟨f, hf, he⟩
    rw [em]
    have e18 := e1.trans e78
    clear h8 e8 e7 e78 hz tz h3' t1 e1
    walk_at "go"
    cases ha : (fs.any fun f => onLaw f S) with
    | false =>
      rw [ha] at sp
      refine rd_iteT ?_
      walk_at "go"
      exact k' _ _ _ sp e18 t8
    | true =>
      rw [ha] at sp
      refine rd_iteF ?_
      walk_at "go"
      any_goals first
        | omega
        | exact mul_in (by decide)
      rename_i tp H9 e9 t9
      exact k' _ _ _ sp (e18.trans e9) t9
def sp_heading : Sp := mkSp (fun a : Int × Int => [.int a.1, .int a.2]) (fun a _ => (-3 ≤ a.1 ∧ a.1 ≤ 3) ∧ -3 ≤ a.2 ∧ a.2 ≤ 3) fun a H v H' => Same H H' ∧ T2 H' v (headP a.1 a.2)
theorem us_heading {a b : Int} {H : Hp} {Q : VK} {E : XK} (ha : -3 ≤ a ∧ a ≤ 3) (hb : -3 ≤ b ∧ b ≤ 3) (k : ∀ v H', Same H H' → T2 H' v (headP a b) → Q v H') : sp_heading ([.int a, .int b] ++ []) H Q E :=
  ⟨(a, b), rfl, ⟨ha, hb⟩, fun v H' e => k v H' e.1 e.2⟩
abbrev N_law_heading : List Str := ["_law_a", "_law_b", "_law_share"]
theorem sc_law_heading : FnScope ["_law_a", "_law_b", "_law_share"] ["_law_a", "_law_b"] (defScope s_law_heading) := ⟨rfl, rfl, rfl, by decide +kernel, rfl, by decide +kernel, by decide +kernel⟩
theorem ok_heading (F : Fun K "_law_heading" "_law_heading" s_law_heading f fd) (c_law_common : Cal P w K mg base 1 "_law_common" ["_law_a", "_law_b"] [] sp_common) : FnOk P w K mg base CX0 2 f fd ["_law_a", "_law_b"] sp_heading := by
  refine F.ok sc_law_heading (mk_len fun _ => rfl) (fun cdv A outer s H vs Q E hr h => ?_)
  obtain ⟨⟨a, b⟩, hv, ⟨ha, hb⟩, k⟩ := h
  dsimp only at hv ha hb k
  subst hv
  refine ⟨_, (pss_cons (ps_if (PW.pt (pw_and (pt_cmpR op_eq (pv 0) pe_int (nomark _)) (pw_and1 (pt_cmpR op_eq (pv 1) pe_int (nomark _))))) (pss_one (ps_ret (pe_tup (pa_cons pe_int (pa_cons pe_int pa_nil))))) pss_nil)
      (pss_cons (ps_set (i := 2) sc_law_heading.nd rfl (by first | exact Or.inl rfl | exact Or.inr rfl) (pe_cl c_law_common (hr.mono (by decide)) rfl (pa_cons (pv 0) (pa_cons (pv 1) pa_nil))))
      (pss_one (ps_ret (pe_tup (pa_cons (pe_op op_fdiv (pv 0) (pv 2)) (pa_cons (pe_op op_fdiv (pv 1) (pv 2)) pa_nil))))))), ?_⟩
  have k' : ∀ v H' r, headP a b = r → Same H H' → T2 H' v r → Q v H' := fun v H' r er e t => k v H' ⟨e, by rw [er]; exact t⟩
  have rest : ¬ (a = 0 ∧ b = 0) → 0 < gc a b ∧ gc a b ≤ 3 := fun n => by
    unfold gc
    by_cases h0 : a = 0
    · have h1 := Int.gcd_pos_of_ne_zero_right a (show b ≠ 0 by omega)
      have h2 := Int.gcd_le_natAbs_right (b := b) a (show b ≠ 0 by omega)
      omega
    · have h1 := Int.gcd_pos_of_ne_zero_left b h0
      have h2 := Int.gcd_le_natAbs_left (a := a) b h0
      omega
  have fe : ¬ (a = 0 ∧ b = 0) → ∀ x : Int, x / gc a b = x.fdiv (gc a b) := fun n x => (Int.fdiv_eq_ediv_of_nonneg x (by have := rest n; omega)).symm
  have last : ¬ (a = 0 ∧ b = 0) → headP a b = (a / gc a b, b / gc a b) := fun n => by
    rw [fe n, fe n]
    unfold headP
    rw [if_neg n]
  walk_at "go"
  refine rd_ite (fun h0 => ?_) (fun h0 => ?_)
  · walk_at "go"
    refine rd_ite (fun h1 => ?_) (fun h1 => ?_)
    · walk_at "go"
      rename_i tp H1 e1 t1
      exact k' _ _ (2, 1) (by unfold headP; rw [if_pos ⟨h0, h1⟩]) e1 t1
    · have n : ¬ (a = 0 ∧ b = 0) := fun z => h1 z.2
      have r := rest n
      walk_at "go"
      · rename_i tp H1 e1 t1
        exact k' _ _ _ (last n) e1 t1
      all_goals exact ⟨by omega, by omega⟩
  · have n : ¬ (a = 0 ∧ b = 0) := fun z => h0 z.1
    have r := rest n
    walk_at "go"
    · rename_i tp H1 e1 t1
      exact k' _ _ _ (last n) e1 t1
    all_goals exact ⟨by omega, by omega⟩
end
end Bw
end

section
set_option Elab.async false
set_option linter.all false
set_option maxRecDepth 100000
set_option maxHeartbeats 4100000
set_option exponentiation.threshold 1000000
namespace Bw
open PySem L2
-- HDR
-- what the heap knows, carried over
local macro_rules | `(tactic| walk_at "hp") => `(tactic| first
  | assumption
  | (refine' TUP.up (tk_of ?e) ?h; (case e => assumption); (case h => walk_at "hp"))
  | (refine' Fld.up ?e ?h; (case e => assumption); (case h => walk_at "hp"))
  | (refine' LST.up ?e ?h; (case e => assumption); (case h => walk_at "hp"))
  | (refine' TUP.up ?e ?h; (case e => assumption); (case h => walk_at "hp"))
  | (refine' Mth.up ?e ?h; (case e => assumption); (case h => walk_at "hp")))
-- one step of a reading
local macro_rules | `(tactic| walk_at "rd") => `(tactic| first
  | (with_reducible refine rd_var rfl ?_)
  | (with_reducible refine rd_c ?_)
  | (with_reducible refine rd_op ?_)
  | (with_reducible refine rd_mulW ?_ ?_)
  | (with_reducible refine rd_add ?_)
  | (with_reducible refine rd_sub ?_)
  | (with_reducible refine rd_cons ?_)
  | (with_reducible refine rd_nil ?_)
  | (with_reducible refine rd_seq ?_)
  | (with_reducible refine rd_asg ?_)
  | (with_reducible refine rd_name ?_)
  | (with_reducible refine rd_call ?_)
  | (with_reducible refine rd_fld ?_)
  | ((with_reducible refine' rd_fldv ?h ?_); (case h => walk_at "hp"))
  | ((with_reducible refine' rd_ixT0 ?h ?e ?_); (case h => walk_at "hp"); (case e => rfl))
  | ((with_reducible refine' rd_ixT1 ?h ?e ?_); (case h => walk_at "hp"); (case e => rfl))
  | ((with_reducible refine' rd_ixT2 ?h ?e ?_); (case h => walk_at "hp"); (case e => rfl))
  | ((with_reducible refine' rd_gtup ?h ?e ?_); (case h => walk_at "hp"); (case e => rfl))
  | (with_reducible refine rd_gcons ?_)
  | (with_reducible refine rd_gnil ?_)
  | (with_reducible refine rd_if ?_)
  | (with_reducible refine rd_test ?_)
  | (with_reducible refine rd_isbl ?_)
  | (with_reducible refine rd_iteT ?_)
  | (with_reducible refine rd_iteF ?_)
  | (with_reducible refine rd_ret ?_)
  | (with_reducible refine rd_next ?_)
  | (with_reducible refine rd_lt ?_)
  | (with_reducible refine rd_gt ?_)
  | (with_reducible refine rd_eqI ?_)
  | (with_reducible refine rd_neI ?_)
  | (with_reducible refine rd_un ?_)
  | (with_reducible refine rd_neg ?_)
  | (with_reducible refine rd_tup ?_)
  | (with_reducible refine rd_lst ?_)
  | (with_reducible refine rd_lstN (Nat.le_of_ble_eq_true rfl) ?_; intro _ _ _ _ _)
  | (with_reducible refine rd_tupN (Nat.le_of_ble_eq_true rfl) ?_; intro _ _ _ _)
  | (with_reducible refine rd_mod ?_ ?_)
  | (with_reducible refine rd_modN ?_ ?_)
  | (with_reducible refine rd_mul ?_ ?_)
  | (with_reducible refine rd_fdiv ?_ ?_)
  | (with_reducible refine rd_fdivZ ?_ ?_ ?_)
  | (with_reducible refine rd_tB ?_)
  | (with_reducible refine rd_CB ?_)
  | (with_reducible refine rd_le ?_)
  | (with_reducible refine rd_ge ?_)
  | (with_reducible refine rd_eqS ?_)
  | (with_reducible refine rd_neS ?_)
  | (with_reducible refine rd_isN0 ?_)
  | (with_reducible refine rd_isN1 ?_)
  | (with_reducible refine rd_notN0 ?_)
  | (with_reducible refine rd_notN1 ?_)
  | (with_reducible refine rd_abs ?_)
  | (with_reducible refine rd_max2 ?_)
  | (with_reducible refine rd_min2 ?_)
  | (with_reducible refine rd_mx ?_)
  | ((with_reducible refine' rd_mx1 ?h ?_); (case h => walk_at "hp"))
  | (with_reducible refine rd_and ?_)
  | (with_reducible refine rd_or ?_)
  | (with_reducible refine rd_not ?_)
  | (with_reducible refine rd_drop ?_)
  | (with_reducible refine rd_chain ?_)
  | (with_reducible refine rd_orV ?_)
  | (with_reducible refine rd_andV ?_)
  | (with_reducible refine rd_notV ?_)
  | (with_reducible refine rd_sfld ?_)
  | (with_reducible refine rd_for ?_)
  | (with_reducible refine rd_iL ?_)
  | (with_reducible refine rd_lc ?_)
  | (with_reducible refine rd_iE ?_)
  | ((with_reducible refine' rd_lenL ?h ?_); (case h => walk_at "hp"))
  | ((with_reducible refine' rd_lenT ?h ?_); (case h => walk_at "hp"))
  | (with_reducible refine rd_yes ?_)
  | (with_reducible refine rd_iZ ?_)
  | (with_reducible refine rd_iT ?_)
  | (with_reducible refine rd_break ?_)
  | ((with_reducible refine' rd_ixT3 ?h ?e ?_); (case h => walk_at "hp"); (case e => rfl))
  | ((with_reducible refine' rd_ixT4 ?h ?e ?_); (case h => walk_at "hp"); (case e => rfl))
  | ((with_reducible refine' rd_ixT5 ?h ?e ?_); (case h => walk_at "hp"); (case e => rfl))
  | ((with_reducible refine' rd_ixL0 ?h ?e ?_); (case h => walk_at "hp"); (case e => rfl))
  | ((with_reducible refine' rd_ixL1 ?h ?e ?_); (case h => walk_at "hp"); (case e => rfl))
  | ((with_reducible refine' rd_ixL2 ?h ?e ?_); (case h => walk_at "hp"); (case e => rfl))
  | ((with_reducible refine' rd_ixL3 ?h ?e ?_); (case h => walk_at "hp"); (case e => rfl))
  | ((with_reducible refine' rd_ixL4 ?h ?e ?_); (case h => walk_at "hp"); (case e => rfl))
  | ((with_reducible refine' rd_ixL5 ?h ?e ?_); (case h => walk_at "hp"); (case e => rfl)))
-- steps, with the callees' promises
local macro_rules | `(tactic| walk_at "go") => `(tactic| repeat first | walk_at "rd" | walk_at "us")
-- every way
local macro_rules | `(tactic| walk_at "all") => `(tactic| repeat' first
  | walk_at "rd"
  | walk_at "us"
  | (with_reducible refine rd_ite (fun _ => ?_) (fun _ => ?_))
  | (with_reducible refine rd_iten (fun _ => ?_) (fun _ => ?_)))
-- END
-- HDR3
local macro_rules | `(tactic| walk_at "us") => `(tactic| first
  | ((with_reducible refine' us_line_between ?h ?g ?_); (case h => walk_at "hp"); (case g => walk_at "hp"))
  | ((with_reducible refine' us_is_far ?h ?_); (case h => walk_at "hp"))
  | ((with_reducible refine' us_mirrored ?h ?_); (case h => walk_at "hp"); intro _ _ _ _))
local macro_rules | `(tactic| walk_at "hp") => `(tactic| (refine' WAt.up (nl_of ?e) ?h; (case e => assumption); (case h => walk_at "hp")))
local macro_rules | `(tactic| walk_at "hp") => `(tactic| (refine' WAt.up ?e ?h; (case e => assumption); (case h => walk_at "hp")))
-- END
-- HDR7
local macro_rules | `(tactic| walk_at "rd") => `(tactic| first
  | (with_reducible refine rd_make ?_)
  | (with_reducible refine rd_bm ?_)
  | (with_reducible refine rd_bm0 ?_)
  | ((with_reducible refine' rd_ty ?h ?_); (case h => walk_at "hp"))
  | (with_reducible refine rd_augS ?_)
  | (with_reducible refine rd_ipI ?_))
local macro_rules | `(tactic| walk_at "rd") => `(tactic| first
  | (with_reducible refine rd_sl ?_)
  | (with_reducible refine rd_nopart ?_)
  | (with_reducible refine rd_part ?_)
  | (with_reducible refine rd_isint ?_)
  | ((with_reducible refine' rd_minT ?h ?g ?_); (case h => walk_at "hp"); (case g => walk_at "hp"); intro _ _)
  | ((with_reducible refine' rd_maxT ?h ?g ?_); (case h => walk_at "hp"); (case g => walk_at "hp"); intro _ _)
  | ((with_reducible refine' rd_ltT ?h ?g ?_); (case h => walk_at "hp"); (case g => walk_at "hp"))
  | ((with_reducible refine' rd_listL ?h ?_); (case h => walk_at "hp"); intro _ _ _ _ _))
-- END
-- HDR8
local macro_rules | `(tactic| walk_at "hp") => `(tactic| (refine' SQ.up ?e ?h; (case e => assumption); (case h => walk_at "hp")))
local macro_rules | `(tactic| walk_at "rd") => `(tactic| first
  | (with_reducible refine rd_rng ?_)
  | ((with_reducible refine' rd_lenS ?h ?_); (case h => walk_at "hp")))
-- END
-- HDR9
local macro_rules | `(tactic| walk_at "us") => `(tactic| first
  | ((with_reducible refine' us_cell_at ?h ?_); (case h => walk_at "hp"))
  | (with_reducible refine us_common ?_))
-- END
section
variable {P : Program} {w : World} {K : PySem.W.Frag} {mg : Str → Option Value} {base : Heap} {c : Cs} {f : Addr} {fd : FuncData}
/-! ### the law's own steps -/
abbrev N_law_steps : List Str := ["_law_room", "_law_spot", "_law_way", "_law_most", "_law_flight", "_law_hits", "_law_hit"]
theorem sc_law_steps : FnScope ["_law_room", "_law_spot", "_law_way", "_law_most", "_law_flight", "_law_hits", "_law_hit"] ["_law_room", "_law_spot", "_law_way", "_law_most"] (defScope s_law_steps) := ⟨rfl, rfl, rfl, by decide +kernel, rfl, by decide +kernel, by decide +kernel⟩
theorem ok_steps (F : Fun K "_law_steps" "_law_steps" s_law_steps f fd) (T : Txt K mg c) (c_Flight : Mak P w K mg base 3 c.F "Flight" ["self", "room", "P", "heading"] [] (sp_Flight c)) (m_step : Mts P w K mg base 7 "step" ["self"] (One (IsF c) (sp_step c)))
    (m_outcome : Mts P w K mg base 1 "outcome" ["self"] (One (IsF c) (sp_outcome c))) : FnOk P w K mg base CX0 8 f fd ["_law_room", "_law_spot", "_law_way", "_law_most"] (sp_flown c) := by
  refine F.ok sc_law_steps (mk_len fun _ => rfl) (fun cdv A outer s H vs Q E hr h => ?_)
  obtain ⟨⟨us, P, h, rv, zv, hv, most⟩, rfl, ⟨hR, tp, th, ho, o, b, fb, hm⟩, k⟩ := h
  dsimp only at hR tp th ho o b fb hm k
  refine ⟨_, (pss_cons (ps_set (i := 4) sc_law_steps.nd rfl (by first | exact Or.inl rfl | exact Or.inr rfl) (pe_mk c_Flight (hr.mono (by decide)) rfl (pa_cons (pv 0) (pa_cons (pv 1) (pa_cons (pv 2) pa_nil)))))
      (pss_cons (ps_set (i := 5) sc_law_steps.nd rfl (by first | exact Or.inl rfl | exact Or.inr rfl) (pe_lst pa_nil))
      (pss_cons (ps_while PassesOwn.never (pt_cmpR op_lt (pe_callB cl_len rfl T.n_len (by decide +kernel) (pa_cons (pv 5) pa_nil)) (pv 3) (nomark _)) (pss_cons (ps_set (i := 6) sc_law_steps.nd rfl (by first | exact Or.inl rfl | exact Or.inr rfl) (pe_mx0 (pv 4) m_step (hr.mono (by decide))))
      (pss_cons (ps_if (pt_cmpR op_isNb (pv 6) pe_non (nomark _)) (pss_one (ps_ret (pe_tup (pa_cons (pv 5) (pa_cons (pe_mx0 (pv 4) m_outcome (hr.mono (by decide))) pa_nil))))) pss_nil)
      (pss_one (ps_expr (pe_bm PySem.F.plainAttrs_list PySem.F.slot_list_append PySem.F.type_list_append mt_append (pv 5) (pa_cons (pv 6) pa_nil)))))))
      (pss_one (ps_ret (pe_tup (pa_cons (pv 5) (pa_cons pe_non pa_nil)))))))), ?_⟩
  walk_at "go"
  intro x dx nx ndx ne
  refine ⟨⟨x, dx, H, us, P, h, rv, zv, hv⟩, rfl, ⟨nx, Same.put (Same.put (Same.refl H) ndx) nx, upd_same, hR, tp, th, ho, o, b⟩, ?_⟩
  rintro v H1 ⟨rfl, l, f1⟩
  refine ⟨rfl, ?_⟩
  walk_at "go"
  rename_i lh H2 e2 n2 h2
  dsimp only at f1
  have ⟨nea, nel⟩ := f1.ne n2
  have n0 : H lh = none := none_of f1.same n2
  refine rd_while (fun m σ H' => ∃ s hs xs gv, σ = [some rv, some zv, some hv, some (.int (most : Nat)), some (.ref x), some (.ref lh), gv] ∧ FAt c H H' x l us s ∧ H' lh = some (.lst xs) ∧ HitsAt H' xs hs ∧ hs.length + m = most ∧ FB hs.length us s ∧
      runP us m s hs = runP us most (startP us P h) []) most ⟨_, _, _, none, rfl, f1.up e2, h2, .nil, Nat.zero_add _, fb, rfl⟩ ?_
  rintro m σ H3 ⟨s, hs, xs, gv, rfl, f3, h3, p3, hl, fb3, hrun⟩
  have LN : LST H3 (.ref lh) xs := ⟨lh, rfl, h3⟩
  have ln := Paired.len p3
  walk_at "go"
  refine rd_ite (fun hlt => ?_) (fun hge => ?_)
  · refine rd_turn ?_
    obtain ⟨m, rfl⟩ : ∃ m', m = m' + 1 := ⟨m - 1, by omega⟩
    have ms := f3.mth (m := "step") fun _ _ _ _ _ _ => rfl
    walk_at "go"
    refine us_step f3 fb3 (by omega) o fun v4 H4 f4 of4 r4 => ?_
    have h4 := of4 _ _ h3 nea nel
    have p4 := HitsAt.up (f3.otk of4) p3
    have run1 : runP us (m + 1) s hs = (match stepP us s with
        | (s', none) => (hs, s'.ended)
        | (s', some h) => runP us m s' (hs ++ [h])) := rfl
    generalize hst : stepP us s = q at f4 r4 run1
    obtain ⟨s', o'⟩ := q
    rw [run1] at hrun
    cases o' with
    | none =>
      have ea : v4 = .non := r4
      subst ea
      have mo4 := f4.mth (m := "outcome") fun _ _ _ _ _ _ => rfl
      walk_at "go"
      refine us_outcome f4 fun ev he => ?_
      walk_at "go"
      rename_i tq H5 e5 t5
      refine k _ _ ⟨f4.same.trans e5, lh, n0, ?_⟩
      rw [← hrun]
      exact ⟨ev, xs, t5, e5 _ _ h4, HitsAt.up (tk_of e5) p4, he.up (tk_of e5)⟩
    | some h' =>
      obtain ⟨nv, qv, wv, ⟨hp, rfl, hh⟩, t1, t2, t3⟩ := r4
      have r4 : HitAt H4 (.ref hp) h' := ⟨nv, qv, wv, ⟨hp, rfl, hh⟩, t1, t2, t3⟩
      have LN4 : LST H4 (.ref lh) xs := ⟨lh, rfl, h4⟩
      walk_at "go"
      refine rd_app h4 (by omega) ?_
      have tk5 : TK H4 (upd H4 lh (.lst (xs ++ [.ref hp]))) := TK.put h4 fun _ z => by cases z
      refine ⟨m, Nat.lt_succ_self m, s', hs ++ [h'], xs ++ [.ref hp], _, rfl, f4.other n0 nea nel h4, upd_same, Paired.snoc (r4.up tk5) (HitsAt.up tk5 p4), ?_, ?_, ?_⟩
      · (rw [List.length_append, List.length_singleton])
        omega
      · (rw [List.length_append, List.length_singleton])
        exact fb3.step (by omega) o hst
      · exact hrun
  · obtain rfl : m = 0 := by omega
    walk_at "go"
    rename_i tq H5 e5 t5
    refine k _ _ ⟨f3.same.trans e5, lh, n0, ?_⟩
    rw [← hrun]
    refine ⟨.non, xs, t5, e5 _ _ h3, HitsAt.up (tk_of e5) p3, ?_⟩
    show FinAt H5 .non s.ended
    rw [fb3.on]
    rfl
/-! ### the law's comparing -/
structure AsA where
  (lh ld : Addr) (hv dv : V) (r : List Hit × Fin)
def sp_as_steps (c : Cs) : Sp := mkSp (fun a : AsA => [a.hv, a.dv]) (fun a H => OutAt H a.lh a.hv a.r ∧ OutAt H a.ld a.dv a.r) fun a H v H' => v = .bl true ∧ Same H H'
theorem us_as_steps {lh ld : Addr} {v v' : V} {r : List Hit × Fin} {H : Hp} {Q : VK} {E : XK} (h1 : OutAt H lh v r) (h2 : OutAt H ld v' r) (k : ∀ H', Same H H' → Q (.bl true) H') : sp_as_steps c ([v, v'] ++ []) H Q E :=
  ⟨⟨lh, ld, v, v', r⟩, rfl, ⟨h1, h2⟩, fun v H' e => by
    obtain ⟨rfl, e⟩ := e
    exact k H' e⟩
theorem rd_isTup {H : Hp} {v : V} {xs : List V} {Q : VK} (h : TUP H v xs) (q : Q (.bl true) H) : rIsi K [v, .ty "tuple"] H Q := by
  obtain ⟨p, rfl, e⟩ := h
  exact ⟨.ref p, .ty "tuple", _, _, true, rfl, .ty _, .base (.tup e), rfl, q⟩
theorem rd_isLst {H : Hp} {v : V} {xs : List V} {Q : VK} (h : LST H v xs) (q : Q (.bl true) H) : rIsi K [v, .ty "list"] H Q := by
  obtain ⟨p, rfl, e⟩ := h
  exact ⟨.ref p, .ty "list", _, _, true, rfl, .ty _, .base (.lst e), rfl, q⟩
abbrev N_law_as_steps : List Str := ["_law_heard", "_law_due", "_law_hit"]
theorem sc_law_as_steps : FnScope ["_law_heard", "_law_due", "_law_hit"] ["_law_heard", "_law_due"] (defScope s_law_as_steps) := ⟨rfl, rfl, rfl, by decide +kernel, rfl, by decide +kernel, by decide +kernel⟩
theorem ok_as_steps (F : Fun K "_law_as_steps" "_law_as_steps" s_law_as_steps f fd) (T : Txt K mg c) : FnOk P w K mg base CX0 1 f fd ["_law_heard", "_law_due"] (sp_as_steps c) := by
  refine F.ok sc_law_as_steps (mk_len fun _ => rfl) (fun cdv A outer s H vs Q E hr h => ?_)
  obtain ⟨⟨lh, ld, hv, dv, r⟩, ev, ⟨h1, h2⟩, k⟩ := h
  dsimp only at ev h1 h2 k
  subst ev
  refine ⟨_, (pss_cons (ps_if (PW.pt (pw_or (pt_not (pt_val (pe_callB call_isi rfl T.n_isinstance (by decide +kernel) (pa_cons (pv 0) (pa_cons (pe_bltn (v := .ty "tuple") rfl T.n_tuple (by decide +kernel) rfl) pa_nil))))) (pw_or (pt_cmpR op_ne (pe_callB cl_len rfl T.n_len (by decide +kernel) (pa_cons (pv 0) pa_nil)) pe_int (nomark _)) (pw_or1 (pt_not (pt_val (pe_callB call_isi rfl T.n_isinstance (by decide +kernel) (pa_cons (pe_ix ix_tup (pv 0) pe_int (fun _ _ => rfl)) (pa_cons (pe_bltn (v := .ty "list") rfl T.n_list (by decide +kernel) rfl) pa_nil))))))))) (pss_one (ps_ret pe_bl)) pss_nil)
      (pss_cons (ps_if (pt_cmpR (op_neD (hu64 hr)) (pe_lc (own := [("_law_hit", 2)]) (g := gName 2) (tt := tNot (tB (tCB (rIsi K) (tCons (tVar 2) (tCons (tC (.ty "tuple")) tNil))))) (te := tVar 2) rfl sc_law_as_steps.nd (pi_list (pe_ix ix_tup (pv 0) pe_int (fun _ _ => rfl))) (blkOk_by (own := [("_law_hit", 2)]) (N := ["_law_heard", "_law_due", "_law_hit"]) (sc := defScope s_law_as_steps) (by decide +kernel)) (fun _ _ _ _ _ => (pg_name (i := 2) sc_law_as_steps.nd rfl (by first | exact Or.inl rfl | exact Or.inr rfl))) (fun _ _ _ _ _ => pts_one (pt_not (pt_val (pe_callB call_isi rfl T.n_isinstance (by decide +kernel) (pa_cons (pv 2) (pa_cons (pe_bltn (v := .ty "tuple") rfl T.n_tuple (by decide +kernel) rfl) pa_nil)))))) (fun _ _ _ _ _ => (pv 2))) (pe_lst pa_nil) (nomark _)) (pss_one (ps_ret pe_bl)) pss_nil)
      (pss_one (ps_ret (pe_and (pe_cmpR (op_eqD (hu64 hr)) (pe_ix ix_tup (pv 0) pe_int (fun _ _ => rfl)) (pe_ix ix_tup (pv 1) pe_int (fun _ _ => rfl)) (nomark _)) (pe_one (pe_cmpR (op_eqD (hu64 hr)) (pe_ix ix_tup (pv 0) pe_int (fun _ _ => rfl)) (pe_ix ix_tup (pv 1) pe_int (fun _ _ => rfl)) (nomark _)))))))), ?_⟩
  obtain ⟨e1, xs, t1, l1, p1, f1⟩ := h1
  obtain ⟨e2, ys, t2, l2, p2, f2⟩ := h2
  have LH : LST H (.ref lh) xs := ⟨lh, rfl, l1⟩
  have LD : LST H (.ref ld) ys := ⟨ld, rfl, l2⟩
  walk_at "go"
  refine rd_isTup t1 ?_
  walk_at "go"
  refine rd_iteF ?_
  walk_at "go"
  refine rd_iten (fun h => (h rfl).elim) (fun _ => ?_)
  walk_at "go"
  refine rd_isLst LH ?_
  walk_at "go"
  refine rd_iteF ?_
  walk_at "go"
  refine lc_L LH (fun D i H' => Same H H' ∧ H' D = some (.lst [])) (fun D hD => ⟨same_new hD, upd_same⟩) (fun D i H' hD q => LH.up q.1) ?_ ?_
  · rintro D i x H' hD hx ⟨e, hd⟩
    obtain ⟨g, hg, ⟨nv, qv, wv, tx, _⟩⟩ := Paired.at p1 hx
    unfold LcTurn
    walk_at "go"
    refine ⟨rfl, ?_⟩
    walk_at "go"
    refine rd_isTup (tx.up (tk_of e)) ?_
    walk_at "go"
    refine rd_iteF ?_
    exact ⟨e, hd⟩
  · rintro D H' hD ⟨e, hd⟩
    walk_at "go"
    rename_i l8 H8 e8 n8 h8
    have e08 := e.trans e8
    refine rd_neNil ⟨D, rfl, e8 _ _ hd⟩ ⟨l8, rfl, h8⟩ ?_
    have t1' := t1.up (tk_of e08)
    have t2' := t2.up (tk_of e08)
    have p1' := HitsAt.up (tk_of e08) p1
    have p2' := HitsAt.up (tk_of e08) p2
    have f1' := f1.up (tk_of e08)
    have f2' := f2.up (tk_of e08)
    have l1' := e08 _ _ l1
    have l2' := e08 _ _ l2
    clear e e8 hd h8 t1 t2 p1 p2 f1 f2 l1 l2 LH LD
    walk_at "go"
    have ly : Lay 3 (.list (r.1.map pdHit)) := Lay.list fun d hd => by
      obtain ⟨a, _, rfl⟩ := List.mem_map.mp hd
      exact layHit a
    refine rd_eqSame (d := .list (r.1.map pdHit)) (.lst (SqL.of l1') (dpAll (fun v a q => dpHit q) p1')) (.lst (SqL.of l2') (dpAll (fun v a q => dpHit q) p2')) ly (by decide) ?_
    walk_at "go"
    refine rd_eqSame (dpFin f1') (dpFin f2') (layFin r.2) (by decide) ?_
    exact k _ _ ⟨rfl, e08⟩
/-! ### the walls stay -/
structure StyA where
  (us : List WD) (xs ys : List V) (v v' : V)
def sp_stay (c : Cs) : Sp := mkSp (fun a : StyA => [a.v, a.v']) (fun a H => LST H a.v a.xs ∧ LST H a.v' a.ys ∧ WsAt c H a.xs a.us ∧ WsAt c H a.ys a.us ∧ WsOk a.us) fun a H v H' => v = .bl true ∧ Same H H'
theorem us_stay {us : List WD} {xs ys : List V} {v v' : V} {H : Hp} {Q : VK} {E : XK} (h1 : LST H v xs) (h2 : LST H v' ys) (w1 : WsAt c H xs us) (w2 : WsAt c H ys us) (o : WsOk us) (k : ∀ H', Same H H' → Q (.bl true) H') : sp_stay c ([v, v'] ++ []) H Q E :=
  ⟨⟨us, xs, ys, v, v'⟩, rfl, ⟨h1, h2, w1, w2, o⟩, fun v H' e => by
    obtain ⟨rfl, e⟩ := e
    exact k H' e⟩
abbrev N_law_stay : List Str := ["_law_stay_here", "_law_shuts", "_law_one", "_law_other"]
theorem sc_law_stay : FnScope ["_law_stay_here", "_law_shuts", "_law_one", "_law_other"] ["_law_stay_here", "_law_shuts"] (defScope s_law_stay) := ⟨rfl, rfl, rfl, by decide +kernel, rfl, by decide +kernel, by decide +kernel⟩
theorem ok_stay (F : Fun K "_law_stay" "_law_stay" s_law_stay f fd) (T : Txt K mg c) (m_word : Mts P w K mg base 1 "word" ["self"] (Rby (clsOf c) (sp_word c))) (m_every : Mts P w K mg base 1 "every" ["self"] (Rby (clsOf c) (fun k => sp_every c (decide (k = 3))))) :
    FnOk P w K mg base CX0 2 f fd ["_law_stay_here", "_law_shuts"] (sp_stay c) := by
  refine F.ok sc_law_stay (mk_len fun _ => rfl) (fun cdv A outer s H vs Q E hr h => ?_)
  obtain ⟨⟨us, xs, ys, v, v'⟩, ev, ⟨h1, h2, w1, w2, o⟩, k⟩ := h
  dsimp only at ev h1 h2 w1 w2 o k
  subst ev
  refine ⟨_, (pss_cons (ps_if (pt_cmpR op_ne (pe_callB cl_len rfl T.n_len (by decide +kernel) (pa_cons (pv 0) pa_nil)) (pe_callB cl_len rfl T.n_len (by decide +kernel) (pa_cons (pv 1) pa_nil)) (nomark _)) (pss_one (ps_ret pe_bl)) pss_nil)
      (pss_cons (ps_for PassesOwn.never rfl (pi_zip rfl T.n_zip (pa_cons (pv 0) (pa_cons (pv 1) pa_nil))) (pg_tup rfl (pgs_cons (pg_name (i := 2) sc_law_stay.nd rfl (by first | exact Or.inl rfl | exact Or.inr rfl)) (pgs_cons (pg_name (i := 3) sc_law_stay.nd rfl (by first | exact Or.inl rfl | exact Or.inr rfl)) pgs_nil))) (pss_cons (ps_if (PW.pt (pw_or (pt_cmpR op_ne (pe_mx0 (pv 2) m_word (hr.mono (by decide))) (pe_mx0 (pv 3) m_word (hr.mono (by decide))) (nomark _)) (pw_or1 (pt_cmpR op_ne (pe_mx0 (pv 2) m_every (hr.mono (by decide))) (pe_mx0 (pv 3) m_every (hr.mono (by decide))) (nomark _))))) (pss_one (ps_ret pe_bl)) pss_nil)
      (pss_one (ps_if (PW.pt (pw_or (pt_cmpR (op_neD (hu64 hr)) (pe_fld (pv 2) rfl) (pe_fld (pv 3) rfl) (nomark _)) (pw_or1 (pt_cmpR (op_neD (hu64 hr)) (pe_fld (pv 2) rfl) (pe_fld (pv 3) rfl) (nomark _))))) (pss_one (ps_ret pe_bl)) pss_nil)))) (pss_one (ps_ret pe_bl)))), ?_⟩
  have lx := Paired.len w1
  have ly := Paired.len w2
  walk_at "go"
  refine rd_iten (fun h => (h (by omega)).elim) (fun _ => ?_)
  walk_at "go"
  refine for_Z h1 h2 (by omega) (fun i σ H' => ∃ x2 x3, σ = [some v, some v', x2, x3] ∧ Same H H') ⟨_, _, rfl, Same.refl _⟩ (fun i σ H' q => by
    obtain ⟨_, _, _, e⟩ := q
    exact ⟨h1.up e, h2.up e⟩) ?_ ?_
  · rintro i x y T' σ H1 H2 hx hy ⟨x2, x3, rfl, e1⟩ e2 tt
    have e12 := e1.trans e2
    obtain ⟨u, hu, wu⟩ := Paired.at w1 hx
    obtain ⟨u', hu', wu'⟩ := Paired.at w2 hy
    obtain rfl : u = u' := by
      rw [hu] at hu'
      cases hu'
      rfl
    have ou := o.all u (List.mem_of_getElem? hu)
    have wx : WAt c H2 x u := wu.up (nl_of e12)
    have wy : WAt c H2 y u := wu'.up (nl_of e12)
    obtain ⟨a1, a2, f1, t1, f2, t2⟩ := wx.flds T
    obtain ⟨b1, b2, g1, r1, g2, r2⟩ := wy.flds T
    walk_at "go"
    refine rd_mxR ou.kind (wx.cls (no_word u)) ?_
    walk_at "go"
    refine us_word wx ?_
    walk_at "go"
    refine rd_mxR ou.kind (wy.cls (no_word u)) ?_
    walk_at "go"
    refine us_word wy ?_
    walk_at "go"
    refine rd_iten (fun h => (h rfl).elim) (fun _ => ?_)
    walk_at "go"
    refine rd_mxR ou.kind (wx.cls (no_every u)) ?_
    walk_at "go"
    refine us_every wx ?_
    walk_at "go"
    refine rd_mxR ou.kind (wy.cls (no_every u)) ?_
    walk_at "go"
    refine us_every wy ?_
    walk_at "go"
    refine rd_iten (fun h => (h rfl).elim) (fun _ => ?_)
    walk_at "go"
    refine rd_neSame (dp2 t1) (dp2 r1) (lay2 _) (by decide) ?_
    walk_at "go"
    refine rd_neSame (dp2 t2) (dp2 r2) (lay2 _) (by decide) ?_
    walk_at "go"
    exact ⟨_, _, rfl, e12⟩
  · rintro σ H1 ⟨x2, x3, rfl, e1⟩
    walk_at "go"
    exact k _ _ ⟨rfl, e1⟩
end
end Bw
end

section
set_option Elab.async false
set_option linter.all false
set_option maxRecDepth 100000
set_option maxHeartbeats 4100000
set_option exponentiation.threshold 1000000
namespace Bw
open PySem L2
-- HDR
-- what the heap knows, carried over
local macro_rules | `(tactic| walk_at "hp") => `(tactic| first
  | assumption
  | (refine' TUP.up (tk_of ?e) ?h; (case e => assumption); (case h => walk_at "hp"))
  | (refine' Fld.up ?e ?h; (case e => assumption); (case h => walk_at "hp"))
  | (refine' LST.up ?e ?h; (case e => assumption); (case h => walk_at "hp"))
  | (refine' TUP.up ?e ?h; (case e => assumption); (case h => walk_at "hp"))
  | (refine' Mth.up ?e ?h; (case e => assumption); (case h => walk_at "hp")))
-- one step of a reading
local macro_rules | `(tactic| walk_at "rd") => `(tactic| first
  | (with_reducible refine rd_var rfl ?_)
  | (with_reducible refine rd_c ?_)
  | (with_reducible refine rd_op ?_)
  | (with_reducible refine rd_mulW ?_ ?_)
  | (with_reducible refine rd_add ?_)
  | (with_reducible refine rd_sub ?_)
  | (with_reducible refine rd_cons ?_)
  | (with_reducible refine rd_nil ?_)
  | (with_reducible refine rd_seq ?_)
  | (with_reducible refine rd_asg ?_)
  | (with_reducible refine rd_name ?_)
  | (with_reducible refine rd_call ?_)
  | (with_reducible refine rd_fld ?_)
  | ((with_reducible refine' rd_fldv ?h ?_); (case h => walk_at "hp"))
  | ((with_reducible refine' rd_ixT0 ?h ?e ?_); (case h => walk_at "hp"); (case e => rfl))
  | ((with_reducible refine' rd_ixT1 ?h ?e ?_); (case h => walk_at "hp"); (case e => rfl))
  | ((with_reducible refine' rd_ixT2 ?h ?e ?_); (case h => walk_at "hp"); (case e => rfl))
  | ((with_reducible refine' rd_gtup ?h ?e ?_); (case h => walk_at "hp"); (case e => rfl))
  | (with_reducible refine rd_gcons ?_)
  | (with_reducible refine rd_gnil ?_)
  | (with_reducible refine rd_if ?_)
  | (with_reducible refine rd_test ?_)
  | (with_reducible refine rd_isbl ?_)
  | (with_reducible refine rd_iteT ?_)
  | (with_reducible refine rd_iteF ?_)
  | (with_reducible refine rd_ret ?_)
  | (with_reducible refine rd_next ?_)
  | (with_reducible refine rd_lt ?_)
  | (with_reducible refine rd_gt ?_)
  | (with_reducible refine rd_eqI ?_)
  | (with_reducible refine rd_neI ?_)
  | (with_reducible refine rd_un ?_)
  | (with_reducible refine rd_neg ?_)
  | (with_reducible refine rd_tup ?_)
  | (with_reducible refine rd_lst ?_)
  | (with_reducible refine rd_lstN (Nat.le_of_ble_eq_true rfl) ?_; intro _ _ _ _ _)
  | (with_reducible refine rd_tupN (Nat.le_of_ble_eq_true rfl) ?_; intro _ _ _ _)
  | (with_reducible refine rd_mod ?_ ?_)
  | (with_reducible refine rd_modN ?_ ?_)
  | (with_reducible refine rd_mul ?_ ?_)
  | (with_reducible refine rd_fdiv ?_ ?_)
  | (with_reducible refine rd_fdivZ ?_ ?_ ?_)
  | (with_reducible refine rd_tB ?_)
  | (with_reducible refine rd_CB ?_)
  | (with_reducible refine rd_le ?_)
  | (with_reducible refine rd_ge ?_)
  | (with_reducible refine rd_eqS ?_)
  | (with_reducible refine rd_neS ?_)
  | (with_reducible refine rd_isN0 ?_)
  | (with_reducible refine rd_isN1 ?_)
  | (with_reducible refine rd_notN0 ?_)
  | (with_reducible refine rd_notN1 ?_)
  | (with_reducible refine rd_abs ?_)
  | (with_reducible refine rd_max2 ?_)
  | (with_reducible refine rd_min2 ?_)
  | (with_reducible refine rd_mx ?_)
  | ((with_reducible refine' rd_mx1 ?h ?_); (case h => walk_at "hp"))
  | (with_reducible refine rd_and ?_)
  | (with_reducible refine rd_or ?_)
  | (with_reducible refine rd_not ?_)
  | (with_reducible refine rd_drop ?_)
  | (with_reducible refine rd_chain ?_)
  | (with_reducible refine rd_orV ?_)
  | (with_reducible refine rd_andV ?_)
  | (with_reducible refine rd_notV ?_)
  | (with_reducible refine rd_sfld ?_)
  | (with_reducible refine rd_for ?_)
  | (with_reducible refine rd_iL ?_)
  | (with_reducible refine rd_lc ?_)
  | (with_reducible refine rd_iE ?_)
  | ((with_reducible refine' rd_lenL ?h ?_); (case h => walk_at "hp"))
  | ((with_reducible refine' rd_lenT ?h ?_); (case h => walk_at "hp"))
  | (with_reducible refine rd_yes ?_)
  | (with_reducible refine rd_iZ ?_)
  | (with_reducible refine rd_iT ?_)
  | (with_reducible refine rd_break ?_)
  | ((with_reducible refine' rd_ixT3 ?h ?e ?_); (case h => walk_at "hp"); (case e => rfl))
  | ((with_reducible refine' rd_ixT4 ?h ?e ?_); (case h => walk_at "hp"); (case e => rfl))
  | ((with_reducible refine' rd_ixT5 ?h ?e ?_); (case h => walk_at "hp"); (case e => rfl))
  | ((with_reducible refine' rd_ixL0 ?h ?e ?_); (case h => walk_at "hp"); (case e => rfl))
  | ((with_reducible refine' rd_ixL1 ?h ?e ?_); (case h => walk_at "hp"); (case e => rfl))
  | ((with_reducible refine' rd_ixL2 ?h ?e ?_); (case h => walk_at "hp"); (case e => rfl))
  | ((with_reducible refine' rd_ixL3 ?h ?e ?_); (case h => walk_at "hp"); (case e => rfl))
  | ((with_reducible refine' rd_ixL4 ?h ?e ?_); (case h => walk_at "hp"); (case e => rfl))
  | ((with_reducible refine' rd_ixL5 ?h ?e ?_); (case h => walk_at "hp"); (case e => rfl)))
-- steps, with the callees' promises
local macro_rules | `(tactic| walk_at "go") => `(tactic| repeat first | walk_at "rd" | walk_at "us")
-- every way
local macro_rules | `(tactic| walk_at "all") => `(tactic| repeat' first
  | walk_at "rd"
  | walk_at "us"
  | (with_reducible refine rd_ite (fun _ => ?_) (fun _ => ?_))
  | (with_reducible refine rd_iten (fun _ => ?_) (fun _ => ?_)))
-- END
-- HDR3
local macro_rules | `(tactic| walk_at "us") => `(tactic| first
  | ((with_reducible refine' us_line_between ?h ?g ?_); (case h => walk_at "hp"); (case g => walk_at "hp"))
  | ((with_reducible refine' us_is_far ?h ?_); (case h => walk_at "hp"))
  | ((with_reducible refine' us_mirrored ?h ?_); (case h => walk_at "hp"); intro _ _ _ _))
local macro_rules | `(tactic| walk_at "hp") => `(tactic| (refine' WAt.up (nl_of ?e) ?h; (case e => assumption); (case h => walk_at "hp")))
local macro_rules | `(tactic| walk_at "hp") => `(tactic| (refine' WAt.up ?e ?h; (case e => assumption); (case h => walk_at "hp")))
-- END
-- HDR7
local macro_rules | `(tactic| walk_at "rd") => `(tactic| first
  | (with_reducible refine rd_make ?_)
  | (with_reducible refine rd_bm ?_)
  | (with_reducible refine rd_bm0 ?_)
  | ((with_reducible refine' rd_ty ?h ?_); (case h => walk_at "hp"))
  | (with_reducible refine rd_augS ?_)
  | (with_reducible refine rd_ipI ?_))
local macro_rules | `(tactic| walk_at "rd") => `(tactic| first
  | (with_reducible refine rd_sl ?_)
  | (with_reducible refine rd_nopart ?_)
  | (with_reducible refine rd_part ?_)
  | (with_reducible refine rd_isint ?_)
  | ((with_reducible refine' rd_minT ?h ?g ?_); (case h => walk_at "hp"); (case g => walk_at "hp"); intro _ _)
  | ((with_reducible refine' rd_maxT ?h ?g ?_); (case h => walk_at "hp"); (case g => walk_at "hp"); intro _ _)
  | ((with_reducible refine' rd_ltT ?h ?g ?_); (case h => walk_at "hp"); (case g => walk_at "hp"))
  | ((with_reducible refine' rd_listL ?h ?_); (case h => walk_at "hp"); intro _ _ _ _ _))
-- END
-- HDR8
local macro_rules | `(tactic| walk_at "hp") => `(tactic| (refine' SQ.up ?e ?h; (case e => assumption); (case h => walk_at "hp")))
local macro_rules | `(tactic| walk_at "rd") => `(tactic| first
  | (with_reducible refine rd_rng ?_)
  | ((with_reducible refine' rd_lenS ?h ?_); (case h => walk_at "hp")))
-- END
-- HDR9
local macro_rules | `(tactic| walk_at "us") => `(tactic| first
  | ((with_reducible refine' us_cell_at ?h ?_); (case h => walk_at "hp"))
  | (with_reducible refine us_common ?_))
-- END
/-! ### the fences of a script make a room -/
theorem word_ok (k : Nat) (h : k < 6) : PyData.strOk (wordsL.getD k "mirror") = true := by
  have : ∀ k < 6, PyData.strOk (wordsL.getD k "mirror") = true := by decide +kernel
  exact this k h
theorem fence_ok {r : Row} (h : RowOk r) (hl : 0 < r.long) : FcOk (fenceOf r) := by
  have l := row_lt h hl
  have q0 := Int.emod_nonneg r.num (show (6 : Int) ≠ 0 by omega)
  have q1 := Int.emod_lt_of_pos r.num (show (0 : Int) < 6 by omega)
  exact ⟨row_wok h hl, l.1, l.2, word_ok _ (by omega)⟩
structure RoomOk (fs : List Fence) : Prop where
  all : ∀ f ∈ fs, FcOk f
  len : fs.length ≤ 8
  upon : ∀ (i j : Nat) (u v : WD), (fs.map wdOf)[i]? = some u → (fs.map wdOf)[j]? = some v → i < j → uponP u v = false
theorem fences_ok {cells : List Int} {wide high : Int} {framed : Bool} (hn : cells.length ≤ 4) (hw : 1 ≤ wide ∧ wide ≤ 4) (hh : 1 ≤ high ∧ high ≤ 4) : RoomOk (fencesP cells wide high framed) := by
  have K := keepP_ok (rowsP_ok (cells := cells) (framed := framed) hw hh)
  have L1 := keepP_len (rowsP cells wide high framed)
  have L2 := rowsP_len (cells := cells) (wide := wide) (high := high) (framed := framed)
  unfold fencesP
  generalize keepP (rowsP cells wide high framed) = rs at *
  refine ⟨fun f hf => ?_, ?_, fun i j u v hi hj hij => ?_⟩
  · obtain ⟨r, hr, rfl⟩ := List.mem_map.mp hf
    exact fence_ok (K.all r hr).1 (K.all r hr).2
  · rw [List.length_map]
    omega
  · rw [List.map_map, List.getElem?_map] at hi hj
    cases ei : rs[i]? with
    | none => rw [ei] at hi; cases hi
    | some r =>
      cases ej : rs[j]? with
      | none => rw [ej] at hj; cases hj
      | some s =>
        rw [ei] at hi
        rw [ej] at hj
        cases hi
        cases hj
        obtain ⟨li, gi⟩ := List.getElem?_eq_some_iff.mp ei
        obtain ⟨lj, gj⟩ := List.getElem?_eq_some_iff.mp ej
        have a := (List.pairwise_iff_getElem.mp K.apart) i j li lj hij
        rw [gi, gj] at a
        exact apart_upon (K.all r (List.mem_of_getElem? ei)).1 (K.all r (List.mem_of_getElem? ei)).2 (K.all s (List.mem_of_getElem? ej)).1 (K.all s (List.mem_of_getElem? ej)).2 a
theorem RoomOk.ws {fs : List Fence} (o : RoomOk fs) : WsOk (fs.map wdOf) := ⟨fun u hu => by
  obtain ⟨f, hf, rfl⟩ := List.mem_map.mp hu
  exact (o.all f hf).wok, by
  rw [List.length_map]
  have := o.len
  omega⟩
section
variable {P : Program} {w : World} {K : PySem.W.Frag} {mg : Str → Option Value} {base : Heap} {c : Cs} {f : Addr} {fd : FuncData}
theorem us_fences {cells : List Int} {wide high : Int} {framed : Bool} {cv wv nv : V} {H : Hp} {Q : VK} {E : XK} (h1 : SQ K H cv (cells.map V.int)) (hn : cells.length ≤ 4) (hw : 1 ≤ wide ∧ wide ≤ 4) (hh : 1 ≤ high ∧ high ≤ 4) (h2 : LST H wv (wordsL.map V.str)) (h3 : LST H nv (numsL.map V.int))
    (k : ∀ p xs H', Same H H' → H p = none → H' p = some (.lst xs) → FcsAt H' xs (fencesP cells wide high framed) → Q (.ref p) H') : sp_fences K ([cv, .int wide, .int high, .bl framed, wv, nv] ++ []) H Q E :=
  ⟨⟨cells, wide, high, framed, cv, wv, nv⟩, rfl, ⟨h1, hn, hw, hh, h2, h3⟩, fun v H' e => by
    obtain ⟨e1, p, xs, rfl, e2, e3, e4⟩ := e
    exact k p xs H' e1 e2 e3 e4⟩
theorem us_flown {us : List WD} {P : P3} {h : P2} {rv zv hv : V} {m : Nat} {vs : List V} {H : Hp} {Q : VK} {E : XK} (ev : vs = [rv, zv, hv, .int (m : Nat)]) (h1 : RAt c H rv us) (h2 : T3 H zv P) (h3 : T2 H hv h) (ho : onP us P = []) (o : WsOk us) (b : PB P) (fb : FB 0 us (startP us P h)) (hm : m ≤ 49)
    (k : ∀ v l H', Same H H' → H l = none → OutAt H' l v (runP us m (startP us P h) []) → Q v H') : sp_flown c vs H Q E :=
  ⟨⟨us, P, h, rv, zv, hv, m⟩, ev, ⟨h1, h2, h3, ho, o, b, fb, hm⟩, fun v H' e => by
    obtain ⟨e1, l, e2, e3⟩ := e
    exact k v l H' e1 e2 e3⟩
def sp_law (K : PySem.W.Frag) : Sp := mkSp (fun a : V × List Int => [a.1]) (fun a H => SQ K H a.1 (a.2.map V.int)) fun _ _ v _ => v = .bl true
abbrev N_law : List Str := ["_law_script", "_law_cells", "_law_wide", "_law_high", "_law_bottom", "_law_most", "_law_words", "_law_numbers", "_law_fences_here", "_law_shuts", "_law_room", "_law_spot", "_law_way", "_law_heard", "_law_k", "_law_fence"]
theorem sc_law : FnScope ["_law_script", "_law_cells", "_law_wide", "_law_high", "_law_bottom", "_law_most", "_law_words", "_law_numbers", "_law_fences_here", "_law_shuts", "_law_room", "_law_spot", "_law_way", "_law_heard", "_law_k", "_law_fence"] ["_law_script"] (defScope s_law) := ⟨rfl, rfl, rfl, by decide +kernel, rfl, by decide +kernel, by decide +kernel⟩
theorem ok_law (F : Fun K "law" "law" s_law f fd) (T : Txt K mg c) (c_law_cell_at : Cal P w K mg base 1 "_law_cell_at" ["_law_script", "_law_k"] [] (sp_cell_at K)) (c_law_fences : Cal P w K mg base 2 "_law_fences" ["_law_cells", "_law_wide", "_law_high", "_law_framed", "_law_words", "_law_numbers"] [] (sp_fences K))
    (c_law_built : Cal P w K mg base 5 "_law_built" ["_law_fence", "_law_turned"] [] (sp_built c)) (c_Room : Mak P w K mg base 4 c.R "Room" ["self", "walls"] [] (sp_Room c)) (c_law_start : Cal P w K mg base 3 "_law_start" ["_law_fences_here", "_law_cells", "_law_wide", "_law_high", "_law_bottom"] [] sp_start)
    (c_law_heading : Cal P w K mg base 2 "_law_heading" ["_law_a", "_law_b"] [] sp_heading) (c_flown : Cal P w K mg base 8 "flown" ["room", "P", "heading", "most"] [] (sp_flown c)) (c_flown12 : Cal P w K mg base 8 "flown" ["room", "P", "heading", "most"] [.int 12] (sp_flown c))
    (c_law_steps : Cal P w K mg base 8 "_law_steps" ["_law_room", "_law_spot", "_law_way", "_law_most"] [] (sp_flown c)) (c_law_as_steps : Cal P w K mg base 1 "_law_as_steps" ["_law_heard", "_law_due"] [] (sp_as_steps c)) (c_law_stay : Cal P w K mg base 2 "_law_stay" ["_law_stay_here", "_law_shuts"] [] (sp_stay c))
    (m_walls : Mts P w K mg base 1 "walls" ["self"] (One (IsR c) (sp_walls c))) : FnOk P w K mg base CX0 9 f fd ["_law_script"] (sp_law K) := by
  refine F.ok sc_law (mk_len fun _ => rfl) (fun cdv A outer s H vs Q E hr h => ?_)
  obtain ⟨⟨sv, ns⟩, ev, h1, k⟩ := h
  dsimp only at ev h1 k
  subst ev
  refine ⟨_, (pss_cons (ps_set (i := 1) sc_law.nd rfl (by first | exact Or.inl rfl | exact Or.inr rfl) (pe_lc (own := [("_law_k", 14)]) (g := gName 14) (tt := tYes) (te := tCall (sp_cell_at K) [] E0 (tCons (tVar 0) (tCons (tVar 14) tNil))) rfl sc_law.nd (pi_range1 rfl T.n_range (pa_cons pe_int pa_nil)) (blkOk_by (own := [("_law_k", 14)]) (N := ["_law_script", "_law_cells", "_law_wide", "_law_high", "_law_bottom", "_law_most", "_law_words", "_law_numbers", "_law_fences_here", "_law_shuts", "_law_room", "_law_spot", "_law_way", "_law_heard", "_law_k", "_law_fence"]) (sc := defScope s_law) (by decide +kernel)) (fun _ _ _ _ _ => (pg_name (i := 14) sc_law.nd rfl (by first | exact Or.inl rfl | exact Or.inr rfl))) (fun _ _ _ _ _ => pts_nil) (fun _ _ _ _ _ => (pe_cl c_law_cell_at (hr.mono (by decide)) rfl (pa_cons (pv 0) (pa_cons (pv 14) pa_nil))))))
      (pss_cons (ps_set (i := 2) sc_law.nd rfl (by first | exact Or.inl rfl | exact Or.inr rfl) (pe_op op_add pe_int (pe_op op_mod (pe_ix ix_list (pv 1) pe_int (fun _ _ => rfl)) pe_int)))
      (pss_cons (ps_set (i := 3) sc_law.nd rfl (by first | exact Or.inl rfl | exact Or.inr rfl) (pe_op op_add pe_int (pe_op op_mod (pe_op op_fdiv (pe_ix ix_list (pv 1) pe_int (fun _ _ => rfl)) pe_int) pe_int)))
      (pss_cons (ps_set (i := 4) sc_law.nd rfl (by first | exact Or.inl rfl | exact Or.inr rfl) pe_int)
      (pss_cons (ps_set (i := 5) sc_law.nd rfl (by first | exact Or.inl rfl | exact Or.inr rfl) (pe_op op_mod (pe_op op_fdiv (pe_ix ix_list (pv 1) pe_int (fun _ _ => rfl)) pe_int) pe_int))
      (pss_cons (ps_set (i := 6) sc_law.nd rfl (by first | exact Or.inl rfl | exact Or.inr rfl) (pe_lst (pa_cons pe_str (pa_cons pe_str (pa_cons pe_str (pa_cons pe_str (pa_cons pe_str (pa_cons pe_str pa_nil))))))))
      (pss_cons (ps_set (i := 7) sc_law.nd rfl (by first | exact Or.inl rfl | exact Or.inr rfl) (pe_lst (pa_cons pe_int (pa_cons pe_int (pa_cons pe_int (pa_cons pe_int (pa_cons pe_int (pa_cons pe_int (pa_cons pe_int (pa_cons pe_int (pa_cons pe_int (pa_cons pe_int (pa_cons pe_int (pa_cons pe_int pa_nil))))))))))))))
      (pss_cons (ps_set (i := 8) sc_law.nd rfl (by first | exact Or.inl rfl | exact Or.inr rfl) (pe_cl c_law_fences (hr.mono (by decide)) rfl (pa_cons (pe_slice sl_list (pv 0) (po_some pe_int) (po_some pe_int)) (pa_cons (pv 2) (pa_cons (pv 3) (pa_cons (pe_cmpR op_gt (pe_op op_mod (pe_ix ix_list (pv 1) pe_int (fun _ _ => rfl)) pe_int) pe_int (nomark _)) (pa_cons (pv 6) (pa_cons (pv 7) pa_nil))))))))
      (pss_cons (ps_if (pt_cmpR op_eq (pe_op op_mod (pe_op op_fdiv (pe_ix ix_list (pv 1) pe_int (fun _ _ => rfl)) pe_int) pe_int) pe_int (nomark _)) (pss_cons (ps_set (i := 2) sc_law.nd rfl (by first | exact Or.inl rfl | exact Or.inr rfl) pe_int)
      (pss_cons (ps_set (i := 3) sc_law.nd rfl (by first | exact Or.inl rfl | exact Or.inr rfl) pe_int)
      (pss_cons (ps_set (i := 4) sc_law.nd rfl (by first | exact Or.inl rfl | exact Or.inr rfl) pe_int)
      (pss_cons (ps_set (i := 5) sc_law.nd rfl (by first | exact Or.inl rfl | exact Or.inr rfl) pe_int)
      (pss_one (ps_set (i := 8) sc_law.nd rfl (by first | exact Or.inl rfl | exact Or.inr rfl) (pe_cl c_law_fences (hr.mono (by decide)) rfl (pa_cons (pe_lst pa_nil) (pa_cons (pv 2) (pa_cons (pv 3) (pa_cons pe_bl (pa_cons (pv 6) (pa_cons (pv 7) pa_nil))))))))))))) pss_nil)
      (pss_cons (ps_setLc (i := 9) rfl sc_law.nd rfl rfl (sw_true rfl rfl rfl (by decide +kernel)) (own := [("_law_fence", 15)]) (g := gName 15) (tt := tYes) (te := tCall (sp_built c) [] E0 (tCons (tVar 15) (tCons (tOp rEq (tOp (rI (fun _ j => 0 < j) fun i j => .int (i % j)) (tOp (rI CDiv fun i j => .int (i / j)) (tOp (rIxL K) (tVar 1) (tC (.int 1))) (tC (.int 4))) (tC (.int 2))) (tC (.int 1))) tNil))) (pi_list (pv 8)) (blkOk_by (own := [("_law_fence", 15)]) (N := ["_law_script", "_law_cells", "_law_wide", "_law_high", "_law_bottom", "_law_most", "_law_words", "_law_numbers", "_law_fences_here", "_law_shuts", "_law_room", "_law_spot", "_law_way", "_law_heard", "_law_k", "_law_fence"]) (sc := defScope s_law) (by decide +kernel)) (fun _ _ _ _ _ => (pg_name (i := 15) sc_law.nd rfl (by first | exact Or.inl rfl | exact Or.inr rfl))) (fun _ _ _ _ _ => pts_nil) (fun _ _ _ _ _ => (pe_cl c_law_built (hr.mono (by decide)) rfl (pa_cons (pv 15) (pa_cons (pe_cmpR op_eq (pe_op op_mod (pe_op op_fdiv (pe_ix ix_list (pv 1) pe_int (fun _ _ => rfl)) pe_int) pe_int) pe_int (nomark _)) pa_nil)))))
      (pss_cons (ps_set (i := 10) sc_law.nd rfl (by first | exact Or.inl rfl | exact Or.inr rfl) (pe_mk c_Room (hr.mono (by decide)) rfl (pa_cons (pv 9) pa_nil)))
      (pss_cons (ps_set (i := 11) sc_law.nd rfl (by first | exact Or.inl rfl | exact Or.inr rfl) (pe_cl c_law_start (hr.mono (by decide)) rfl (pa_cons (pv 8) (pa_cons (pe_slice sl_list (pv 1) (po_some pe_int) (po_some pe_int)) (pa_cons (pv 2) (pa_cons (pv 3) (pa_cons (pv 4) pa_nil)))))))
      (pss_cons (ps_set (i := 12) sc_law.nd rfl (by first | exact Or.inl rfl | exact Or.inr rfl) (pe_cl c_law_heading (hr.mono (by decide)) rfl (pa_cons (pe_op op_sub (pe_op op_mod (pe_ix ix_list (pv 1) pe_int (fun _ _ => rfl)) pe_int) pe_int) (pa_cons (pe_op op_sub (pe_op op_mod (pe_op op_fdiv (pe_ix ix_list (pv 1) pe_int (fun _ _ => rfl)) pe_int) pe_int) pe_int) pa_nil))))
      (pss_cons (ps_set (i := 13) sc_law.nd rfl (by first | exact Or.inl rfl | exact Or.inr rfl) (pe_cl c_flown (hr.mono (by decide)) rfl (pa_cons (pv 10) (pa_cons (pv 11) (pa_cons (pv 12) (pa_cons (pv 5) pa_nil))))))
      (pss_cons (ps_if (pt_not (pt_val (pe_cl c_law_as_steps (hr.mono (by decide)) rfl (pa_cons (pv 13) (pa_cons (pe_cl c_law_steps (hr.mono (by decide)) rfl (pa_cons (pv 10) (pa_cons (pv 11) (pa_cons (pv 12) (pa_cons (pv 5) pa_nil))))) pa_nil))))) (pss_one (ps_ret pe_bl)) pss_nil)
      (pss_cons (ps_if (pt_not (pt_val (pe_cl c_law_as_steps (hr.mono (by decide)) rfl (pa_cons (pe_cl c_flown12 (hr.mono (by decide)) rfl (pa_cons (pv 10) (pa_cons (pv 11) (pa_cons (pv 12) pa_nil)))) (pa_cons (pe_cl c_law_steps (hr.mono (by decide)) rfl (pa_cons (pv 10) (pa_cons (pv 11) (pa_cons (pv 12) (pa_cons pe_int pa_nil))))) pa_nil))))) (pss_one (ps_ret pe_bl)) pss_nil)
      (pss_cons (ps_expr (pe_bm0 PySem.F.plainAttrs_list PySem.F.slot_list_clear PySem.F.type_list_clear mt_clear (pe_ix ix_tup (pv 13) pe_int (fun _ _ => rfl))))
      (pss_cons (ps_if (pt_not (pt_val (pe_cl c_law_as_steps (hr.mono (by decide)) rfl (pa_cons (pe_cl c_flown (hr.mono (by decide)) rfl (pa_cons (pv 10) (pa_cons (pv 11) (pa_cons (pv 12) (pa_cons (pv 5) pa_nil))))) (pa_cons (pe_cl c_law_steps (hr.mono (by decide)) rfl (pa_cons (pv 10) (pa_cons (pv 11) (pa_cons (pv 12) (pa_cons (pv 5) pa_nil))))) pa_nil))))) (pss_one (ps_ret pe_bl)) pss_nil)
      (pss_one (ps_ret (pe_cl c_law_stay (hr.mono (by decide)) rfl (pa_cons (pe_mx0 (pv 10) m_walls (hr.mono (by decide))) (pa_cons (pv 9) pa_nil))))))))))))))))))))))), ?_⟩
  walk_at "go"
  refine ⟨by decide, by decide, ?_⟩
  refine lc_R (fun D i H' => Same H H' ∧ H' D = some (.lst ((List.range i).map fun k => V.int (ns.getD k 0)))) (fun D hD => ⟨same_new hD, upd_same⟩) ?_ ?_
  · rintro D i H' hD hi ⟨e, hd⟩
    have h1' := h1.up e
    unfold LcTurn
    walk_at "go"
    refine ⟨rfl, ?_⟩
    walk_at "go"
    refine ⟨_, hd, ?_, Same.put e hD, ?_⟩
    · (rw [List.length_map, List.length_range])
      have : i < 6 := hi
      exact Nat.lt_of_lt_of_le (show i < 1000 by omega) (Nat.le_of_ble_eq_true rfl)
    · rw [upd_same, List.range_succ, List.map_append]
      rfl
  rintro D H1 hD ⟨e1, hd⟩
  have LC : LST H1 (.ref D) [.int (ns.getD 0 0), .int (ns.getD 1 0), .int (ns.getD 2 0), .int (ns.getD 3 0), .int (ns.getD 4 0), .int (ns.getD 5 0)] := ⟨D, rfl, hd⟩
  have h1' := h1.up e1
  clear hd h1
  generalize ns.getD 0 0 = a0 at LC
  generalize ns.getD 1 0 = a1 at LC
  generalize ns.getD 2 0 = a2 at LC
  generalize ns.getD 3 0 = a3 at LC
  generalize ns.getD 4 0 = a4 at LC
  generalize ns.getD 5 0 = a5 at LC
  refine rd_name ?_
  have z0 := Int.emod_nonneg a0 (show (4 : Int) ≠ 0 by decide)
  have z1 := Int.emod_lt_of_pos a0 (show (0 : Int) < 4 by decide)
  have y0 := Int.emod_nonneg (a0 / 4) (show (4 : Int) ≠ 0 by decide)
  have y1 := Int.emod_lt_of_pos (a0 / 4) (show (0 : Int) < 4 by decide)
  have x0 := Int.emod_nonneg (a5 / 49) (show (17 : Int) ≠ 0 by decide)
  have x1 := Int.emod_lt_of_pos (a5 / 49) (show (0 : Int) < 17 by decide)
  obtain ⟨most, hmost⟩ : ∃ m : Nat, a5 / 49 % 17 = (m : Int) := ⟨(a5 / 49 % 17).toNat, by omega⟩
  have hm17 : most ≤ 49 := by omega
  walk_at "go"
  rotate_left
  · decide
  · exact ⟨by decide, by decide⟩
  · decide
  · exact ⟨by decide, by decide⟩
  · decide
  rename_i l6 H2 e2 n2 h2 l7 H3 e3 n3 h3
  have W3 : LST H3 (.ref l6) (wordsL.map V.str) := ⟨l6, rfl, e3 _ _ h2⟩
  have N3 : LST H3 (.ref l7) (numsL.map V.int) := ⟨l7, rfl, h3⟩
  have LC3 := LC.up (e2.trans e3)
  have s3 := h1'.up (e2.trans e3)
  have e13 := e2.trans e3
  clear e2 e3 h2 h3 n2 n3
  refine rd_cutS (i := 6) (j := 10) s3 fun cp H4 e4 nc hc => ?_
  have hcs : H4 cp = some (.lst ((((ns.drop (min 6 ns.length)).take (min 10 ns.length - min 6 ns.length))).map V.int)) := by
    rw [hc, List.length_map, List.map_take, List.map_drop]
  have hcl : ((ns.drop (min 6 ns.length)).take (min 10 ns.length - min 6 ns.length)).length ≤ 4 := by
    (rw [List.length_take, List.length_drop])
    omega
  generalize (ns.drop (min 6 ns.length)).take (min 10 ns.length - min 6 ns.length) = cs at hcs hcl
  clear hc
  have C4 : LST H4 (.ref cp) (cs.map V.int) := ⟨cp, rfl, hcs⟩
  have LC4 := LC3.up e4
  have W4 := W3.up e4
  have N4 := N3.up e4
  have e14 := e13.trans e4
  clear e13 e4 LC3 W3 N3 s3
  walk_at "go"
  rotate_left
  · decide
  refine us_fences C4.sq hcl (by omega) (by omega) W4 N4 fun fp xs H5 e5 nf hf fc => ?_
  have RO := fences_ok (cells := cs) (wide := 1 + a0 % 4) (high := 1 + a0 / 4 % 4) (framed := decide (0 < a1 % 4)) hcl (by omega) (by omega)
  generalize fencesP cs (1 + a0 % 4) (1 + a0 / 4 % 4) (decide (0 < a1 % 4)) = fs at fc RO
  have LC5 := LC4.up e5
  have W5 := W4.up e5
  have N5 := N4.up e5
  have e15 := e14.trans e5
  clear e14 e5 LC4 W4 N4 C4
  refine rd_name ?_
  with_reducible refine rd_seqG (fun σ H' => ∃ (wide high bottom : Int) (m : Nat) (fs : List Fence) (fp : Addr) (xs : List V) (x9 x10 x11 x12 x13 x14 x15 : Option V), σ = [some sv, some (.ref D), some (.int wide), some (.int high), some (.int bottom), some (.int (m : Nat)), some (.ref l6), some (.ref l7), some (.ref fp), x9, x10, x11, x12, x13, x14, x15] ∧
    Same H1 H' ∧ (1 ≤ wide ∧ wide ≤ 4) ∧ (1 ≤ high ∧ high ≤ 4) ∧ (1 ≤ bottom ∧ bottom ≤ 1000) ∧ m ≤ 49 ∧ H' fp = some (.lst xs) ∧ FcsAt H' xs fs ∧ RoomOk fs) ?_ ?_
  rotate_left
  · intro R hR
    walk_at "go"
    · refine rd_ite (fun h4 => ?_) (fun h4 => ?_)
      · walk_at "go"
        rename_i l9 H6 e6 n6 h6
        have E6 : LST H6 (.ref l9) (([] : List Int).map V.int) := ⟨l9, rfl, h6⟩
        refine us_fences (cells := []) E6.sq (by decide) (by decide) (by decide) (W5.up e6) (N5.up e6) fun fp2 xs2 H7 e7 nf2 hf2 fc2 => ?_
        walk_at "go"
        refine hR _ _ ⟨1, 1, 7, 49, _, fp2, xs2, _, _, _, _, _, _, _, rfl, e15.trans (e6.trans e7), by decide, by decide, by decide, by decide, hf2, fc2, fences_ok (by decide) (by decide) (by decide)⟩
      · walk_at "go"
        rw [hmost] at *
        refine hR _ _ ⟨1 + a0 % 4, 1 + a0 / 4 % 4, 1000, most, fs, fp, xs, _, _, _, _, _, _, _, rfl, e15, by omega, by omega, by omega, hm17, hf, fc, RO⟩
    · decide
    · exact ⟨by decide, by decide⟩
  · clear LC5 W5 N5 e15 RO fc hf nf
    rintro σ H6 ⟨wide, high, bottom, m, fs, fp, xs, x9, x10, x11, x12, x13, x14, x15, rfl, e16, hw, hh, hb, hm, hf, fc, RO⟩
    have LC6 := LC.up e16
    have F6 : LST H6 (.ref fp) xs := ⟨fp, rfl, hf⟩
    have lnx := Paired.len fc
    clear LC e16 h1' e1
    refine rd_seq ?_
    refine rd_asg ?_
    walk_at "go"
    refine lc_L F6 (fun D' i H' => Same H6 H' ∧ ∃ ws, H' D' = some (.lst ws) ∧ WsAt c H' ws ((fs.take i).map wdOf)) (fun D' hD => ⟨same_new hD, [], upd_same, .nil⟩) (fun D' i H' hD q => F6.up q.1) ?_ ?_
    · rintro D' i x H' hD hx ⟨e, ws, hd, ww⟩
      obtain ⟨fe, hfe, tf⟩ := Paired.at fc hx
      have tf' := tf.up (tk_of e)
      have LC' := LC6.up e
      unfold LcTurn
      walk_at "go"
      refine ⟨rfl, ?_⟩
      walk_at "go"
      · refine us_built tf' (RO.all fe (List.mem_of_getElem? hfe)) fun v H7 e7 w7 => ?_
        have nlD : NL H7 (upd H7 D' (.lst (ws ++ [v]))) := NL.putL (e7 _ _ hd)
        refine ⟨ws, e7 _ _ hd, ?_, Same.put (e.trans e7) hD, ws ++ [v], upd_same, ?_⟩
        · have l1 := Paired.len ww
          have l2 := RO.len
          rw [List.length_map, List.length_take] at l1
          exact Nat.lt_of_lt_of_le (show ws.length < 1000 by omega) (Nat.le_of_ble_eq_true rfl)
        · rw [List.take_succ, hfe, List.map_append]
          exact Paired.snoc (R := WAt c _) (a := wdOf fe) (w7.up nlD) (WsAt.up ((nl_of e7).trans nlD) ww)
      · decide
      · exact ⟨by decide, by decide⟩
    rintro D' H7 hD' ⟨e7, ws, hd7, ww7⟩
    rw [lnx, List.take_length] at ww7
    have S7 : LST H7 (.ref D') ws := ⟨D', rfl, hd7⟩
    have LC7 := LC6.up e7
    have F7 := F6.up e7
    have fc7 := FcsAt.up (tk_of e7) fc
    have WO := RO.ws
    clear LC6 F6 fc e7 hd7
    walk_at "go"
    intro x dx nx ndx ne
    refine ⟨⟨x, dx, H7, fs.map wdOf, .ref D'⟩, rfl, ⟨nx, Same.put (Same.put (Same.refl _) ndx) nx, upd_same, ⟨ws, S7, ww7⟩, WO, RO.upon⟩, ?_⟩
    rintro v H8 ⟨rfl, e8, R8⟩
    refine ⟨rfl, ?_⟩
    have e8 : Same H7 H8 := e8
    have R8 : RAt c H8 (.ref x) (fs.map wdOf) := R8
    have S8 := S7.up e8
    have ww8 := WsAt.up (nl_of e8) ww7
    have LC8 := LC7.up e8
    have F8 := F7.up e8
    have fc8 := FcsAt.up (tk_of e8) fc7
    clear S7 ww7 LC7 F7 fc7 e8
    walk_at "go"
    refine rd_cutS (i := 2) (j := 5) LC8.sq fun cp2 H9 e9 nc9 hc9 => ?_
    have C9 : LST H9 (.ref cp2) [.int a2, .int a3, .int a4] := ⟨cp2, rfl, hc9⟩
    walk_at "go"
    refine ⟨⟨fs, xs, .ref fp, .ref cp2, a2, a3, a4, wide, high, bottom⟩, rfl, ⟨F8.up e9, FcsAt.up (tk_of e9) fc8, RO.all, by have := RO.len; show fs.length ≤ 40; omega, C9, hw, hh, hb.1, hb.2⟩, ?_⟩
    rintro zv H10 ⟨e10, tz⟩
    have e10 : Same H9 H10 := e10
    have tz : T3 H10 zv (startPt fs a2 a3 a4 wide high bottom) := tz
    have SO := startPt_ok (fs := fs) (a := a2) (b := a3) (c := a4) hw hh hb
    have OFF := startPt_off (a := a2) (b := a3) (c := a4) hw hh hb fun f hf => (RO.all f hf).wok
    generalize startPt fs a2 a3 a4 wide high bottom = Z at tz SO OFF
    have e810 := e9.trans e10
    have R10 := R8.up e810
    have S10 := S8.up e810
    have ww10 := WsAt.up (nl_of e810) ww8
    have LC10 := LC8.up e810
    clear R8 S8 ww8 LC8 F8 fc8 C9 hc9 nc9 e9 e10 e810
    generalize hus : fs.map wdOf = us at *
    have b0 := Int.emod_nonneg a5 (show (7 : Int) ≠ 0 by decide)
    have b1 := Int.emod_lt_of_pos a5 (show (0 : Int) < 7 by decide)
    have b2 := Int.emod_nonneg (a5 / 7) (show (7 : Int) ≠ 0 by decide)
    have b3 := Int.emod_lt_of_pos (a5 / 7) (show (0 : Int) < 7 by decide)
    walk_at "go"
    rotate_left
    · decide
    · exact ⟨by decide, by decide⟩
    · decide
    have HD := headP_ok (a := a5 % 7 - 3) (b := a5 / 7 % 7 - 3) (by omega) (by omega)
    refine us_heading (by omega) (by omega) fun hv H11 e11 th => ?_
    generalize headP (a5 % 7 - 3) (a5 / 7 % 7 - 3) = hd at th HD
    have FB0 := start_FB (us := us) SO HD
    have PB0 := SO.pb
    have R11 := R10.up e11
    have S11 := S10.up e11
    have ww11 := WsAt.up (nl_of e11) ww10
    have tz11 := tz.up (tk_of e11)
    clear R10 S10 ww10 LC10 tz e11
    walk_at "go"
    refine us_flown rfl R11 tz11 th OFF WO PB0 FB0 hm fun v1 l1 H12 e12 n12 o12 => ?_
    walk_at "go"
    refine us_flown rfl (R11.up e12) (tz11.up (tk_of e12)) (th.up (tk_of e12)) OFF WO PB0 FB0 hm fun v2 l2 H13 e13 n13 o13 => ?_
    walk_at "go"
    refine us_as_steps (o12.up e13) o13 fun H14 e14 => ?_
    have e1114 := (e12.trans e13).trans e14
    have o14 := (o12.up e13).up e14
    clear o13 n13 e13 e14 o12 e12
    walk_at "go"
    refine rd_iteF ?_
    walk_at "go"
    refine rd_callD ?_
    walk_at "go"
    refine us_flown (m := 12) rfl (R11.up e1114) (tz11.up (tk_of e1114)) (th.up (tk_of e1114)) OFF WO PB0 FB0 (by decide) fun v3 l3 H15 e15 n15 o15 => ?_
    have e1115 := e1114.trans e15
    walk_at "go"
    refine us_flown (m := 12) rfl (R11.up e1115) (tz11.up (tk_of e1115)) (th.up (tk_of e1115)) OFF WO PB0 FB0 (by decide) fun v4 l4 H16 e16 n16 o16 => ?_
    walk_at "go"
    refine us_as_steps (o15.up e16) o16 fun H17 e17 => ?_
    have e1117 := (e1115.trans e16).trans e17
    have o17 := ((o14.up e15).up e16).up e17
    clear o14 o15 o16 n15 n16 e15 e16 e17 e1114 e1115
    obtain ⟨ev, hs, tv, lv, _, _⟩ := o17
    have LV : LST H17 (.ref l1) hs := ⟨l1, rfl, lv⟩
    walk_at "go"
    refine rd_iteF ?_
    walk_at "go"
    refine rd_clear lv ?_
    have e1118 : Same H11 (upd H17 l1 (.lst [])) := Same.put e1117 n12
    generalize upd H17 l1 (.lst []) = H18 at e1118
    clear tv lv LV e1117
    walk_at "go"
    refine us_flown rfl (R11.up e1118) (tz11.up (tk_of e1118)) (th.up (tk_of e1118)) OFF WO PB0 FB0 hm fun v5 l5 H19 e19 n19 o19 => ?_
    have e1119 := e1118.trans e19
    walk_at "go"
    refine us_flown rfl (R11.up e1119) (tz11.up (tk_of e1119)) (th.up (tk_of e1119)) OFF WO PB0 FB0 hm fun v6 l6' H20 e20 n20 o20 => ?_
    walk_at "go"
    refine us_as_steps (o19.up e20) o20 fun H21 e21 => ?_
    have e1121 := (e1119.trans e20).trans e21
    have R21 := R11.up e1121
    have S21 := S11.up e1121
    have ww21 := WsAt.up (nl_of e1121) ww11
    have mw : Mth (IsR c) H21 (.ref x) "walls" := R21.mth fun _ => rfl
    clear o19 o20 e19 e20 e21 e1118 e1119
    walk_at "go"
    refine rd_iteF ?_
    walk_at "go"
    refine us_walls R21 fun wl ws2 H22 e22 nwl hwl w22 => ?_
    walk_at "go"
    refine us_stay ⟨wl, rfl, hwl⟩ (S21.up e22) w22 (WsAt.up (nl_of e22) ww21) WO fun H23 e23 => ?_
    exact k _ _ rfl
end
end Bw
end

section
set_option Elab.async false
set_option linter.all false
set_option maxRecDepth 100000
set_option maxHeartbeats 0
namespace Bw
open L2 PySem PySem.Spec PyProof.Rows
theorem fun_of {K : PySem.W.Frag} {x qual : Str} {st : Stmt} {f : Addr} {fd : FuncData} (F : FunD K x qual (defArgs st) (defBody st) (defScope st) [] [] f fd) : Fun K x qual st f fd := by
  (obtain ⟨oc, od, dV, kV, doc, pm, an, cdv, ct, osl, rfl, lk, hcd, hD, hK⟩ := F.ex)
  (rcases hD with ⟨_, rfl⟩ | ⟨e, _⟩)
  · exact ⟨⟨oc, od, kV, doc, pm, an, cdv, ct, osl, rfl, lk, hcd⟩, F.kp⟩
  · exact absurd rfl e
theorem fx_kp {K : PySem.W.Frag} {x qual : Str} {st : Stmt} {f : Addr} {fd : FuncData} (F : FunX K x qual st f fd) : PySem.W.keepIn K (.ref f) = true := by
  obtain ⟨_, _, F⟩ := F
  exact F.kp
def csOf (K : PySem.W.Frag) : Cs := ⟨He.ga K "Mirror", He.ga K "Glass", He.ga K "Hole", He.ga K "Door", He.ga K "Wall", He.ga K "Flight", He.ga K "Room"⟩
theorem txt_of {K : PySem.W.Frag} {h : Heap} {mg : Str → Option Value} (X : K.In h) (G : h.Ns mainGlobals mg) (cd : He.SaysD faS fnS K) : Txt K mg (csOf K) where
  n_abs := He.free_ok X G (cd.fact 0 (f := .free "abs") rfl)
  n_any := He.free_ok X G (cd.fact 1 (f := .free "any") rfl)
  n_enumerate := He.free_ok X G (cd.fact 2 (f := .free "enumerate") rfl)
  n_isinstance := He.free_ok X G (cd.fact 3 (f := .free "isinstance") rfl)
  n_len := He.free_ok X G (cd.fact 4 (f := .free "len") rfl)
  n_list := He.free_ok X G (cd.fact 5 (f := .free "list") rfl)
  n_max := He.free_ok X G (cd.fact 6 (f := .free "max") rfl)
  n_min := He.free_ok X G (cd.fact 7 (f := .free "min") rfl)
  n_range := He.free_ok X G (cd.fact 8 (f := .free "range") rfl)
  n_tuple := He.free_ok X G (cd.fact 9 (f := .free "tuple") rfl)
  n_zip := He.free_ok X G (cd.fact 10 (f := .free "zip") rfl)
  g_MOST := He.int_ok X G (cd.fact 11 (f := .int "MOST" 40) rfl)
  g_LEVEL := He.int_ok X G (cd.fact 12 (f := .int "LEVEL" 0) rfl)
  g_RISING := He.int_ok X G (cd.fact 13 (f := .int "RISING" 1) rfl)
  g_UPRIGHT := He.int_ok X G (cd.fact 14 (f := .int "UPRIGHT" 2) rfl)
  g_FARTHEST := He.int_ok X G (cd.fact 15 (f := .int "FARTHEST" 1000) rfl)
  clM := He.cls_ok (cd.fact 16 (f := .cls "Mirror") rfl)
  clG := He.cls_ok (cd.fact 17 (f := .cls "Glass") rfl)
  clH := He.cls_ok (cd.fact 18 (f := .cls "Hole") rfl)
  clD := He.cls_ok (cd.fact 19 (f := .cls "Door") rfl)
  clF := He.cls_ok (cd.fact 20 (f := .cls "Flight") rfl)
  clR := He.cls_ok (cd.fact 21 (f := .cls "Room") rfl)
  oneM := He.noat_ok (cd.fact 22 (f := .noat "Mirror" "one") rfl)
  twoM := He.noat_ok (cd.fact 26 (f := .noat "Mirror" "two") rfl)
  oneG := He.noat_ok (cd.fact 23 (f := .noat "Glass" "one") rfl)
  twoG := He.noat_ok (cd.fact 27 (f := .noat "Glass" "two") rfl)
  oneH := He.noat_ok (cd.fact 24 (f := .noat "Hole" "one") rfl)
  twoH := He.noat_ok (cd.fact 28 (f := .noat "Hole" "two") rfl)
  oneD := He.noat_ok (cd.fact 25 (f := .noat "Door" "one") rfl)
  twoD := He.noat_ok (cd.fact 29 (f := .noat "Door" "two") rfl)
  cycD := He.noat_ok (cd.fact 30 (f := .noat "Door" "cycle") rfl)
  someR := He.noat_ok (cd.fact 31 (f := .noat "Room" "some") rfl)
  roomF := He.noat_ok (cd.fact 32 (f := .noat "Flight" "room") rfl)
  placeF := He.noat_ok (cd.fact 33 (f := .noat "Flight" "place") rfl)
  wayF := He.noat_ok (cd.fact 34 (f := .noat "Flight" "way") rfl)
  clockF := He.noat_ok (cd.fact 35 (f := .noat "Flight" "clock") rfl)
  manyF := He.noat_ok (cd.fact 36 (f := .noat "Flight" "many") rfl)
  endedF := He.noat_ok (cd.fact 37 (f := .noat "Flight" "ended") rfl)
section
variable {P : Program} {w : World} {K : PySem.W.Frag} {mg : Str → Option Value} {base : Heap} {h : Heap}
theorem F_divisor (cd : He.SaysD faS fnS K) : ∃ fd, Fun K "divisor" "divisor" s_divisor (He.ga K "divisor") fd ∧ Binds K fd ["one", "other"] [] := by
  obtain ⟨fd, D⟩ := cd.def_ 0 (d := d_divisor) rfl
  have D : FunD K "divisor" "divisor" (defArgs s_divisor) (defBody s_divisor) (defScope s_divisor) [] [] (He.ga K "divisor") fd := D
  exact ⟨fd, fun_of D, FunD.bindsN D fun _ _ _ _ _ _ us hl => match us, hl with | [_, _], _ => rfl⟩
theorem F_point_of (cd : He.SaysD faS fnS K) : ∃ fd, Fun K "point_of" "point_of" s_point_of (He.ga K "point_of") fd ∧ Binds K fd ["x", "y", "w"] [] := by
  obtain ⟨fd, D⟩ := cd.def_ 1 (d := d_point_of) rfl
  have D : FunD K "point_of" "point_of" (defArgs s_point_of) (defBody s_point_of) (defScope s_point_of) [] [] (He.ga K "point_of") fd := D
  exact ⟨fd, fun_of D, FunD.bindsN D fun _ _ _ _ _ _ us hl => match us, hl with | [_, _, _], _ => rfl⟩
theorem F_time_of (cd : He.SaysD faS fnS K) : ∃ fd, Fun K "time_of" "time_of" s_time_of (He.ga K "time_of") fd ∧ Binds K fd ["top", "bottom"] [] := by
  obtain ⟨fd, D⟩ := cd.def_ 2 (d := d_time_of) rfl
  have D : FunD K "time_of" "time_of" (defArgs s_time_of) (defBody s_time_of) (defScope s_time_of) [] [] (He.ga K "time_of") fd := D
  exact ⟨fd, fun_of D, FunD.bindsN D fun _ _ _ _ _ _ us hl => match us, hl with | [_, _], _ => rfl⟩
theorem F_sooner (cd : He.SaysD faS fnS K) : ∃ fd, Fun K "sooner" "sooner" s_sooner (He.ga K "sooner") fd ∧ Binds K fd ["one", "other"] [] := by
  obtain ⟨fd, D⟩ := cd.def_ 3 (d := d_sooner) rfl
  have D : FunD K "sooner" "sooner" (defArgs s_sooner) (defBody s_sooner) (defScope s_sooner) [] [] (He.ga K "sooner") fd := D
  exact ⟨fd, fun_of D, FunD.bindsN D fun _ _ _ _ _ _ us hl => match us, hl with | [_, _], _ => rfl⟩
theorem F_added (cd : He.SaysD faS fnS K) : ∃ fd, Fun K "added" "added" s_added (He.ga K "added") fd ∧ Binds K fd ["one", "other"] [] := by
  obtain ⟨fd, D⟩ := cd.def_ 4 (d := d_added) rfl
  have D : FunD K "added" "added" (defArgs s_added) (defBody s_added) (defScope s_added) [] [] (He.ga K "added") fd := D
  exact ⟨fd, fun_of D, FunD.bindsN D fun _ _ _ _ _ _ us hl => match us, hl with | [_, _], _ => rfl⟩
theorem F_spot_at (cd : He.SaysD faS fnS K) : ∃ fd, Fun K "spot_at" "spot_at" s_spot_at (He.ga K "spot_at") fd ∧ Binds K fd ["P", "heading", "t"] [] := by
  obtain ⟨fd, D⟩ := cd.def_ 5 (d := d_spot_at) rfl
  have D : FunD K "spot_at" "spot_at" (defArgs s_spot_at) (defBody s_spot_at) (defScope s_spot_at) [] [] (He.ga K "spot_at") fd := D
  exact ⟨fd, fun_of D, FunD.bindsN D fun _ _ _ _ _ _ us hl => match us, hl with | [_, _, _], _ => rfl⟩
theorem F_time_along (cd : He.SaysD faS fnS K) : ∃ fd, Fun K "time_along" "time_along" s_time_along (He.ga K "time_along") fd ∧ Binds K fd ["P", "heading", "end"] [] := by
  obtain ⟨fd, D⟩ := cd.def_ 6 (d := d_time_along) rfl
  have D : FunD K "time_along" "time_along" (defArgs s_time_along) (defBody s_time_along) (defScope s_time_along) [] [] (He.ga K "time_along") fd := D
  exact ⟨fd, fun_of D, FunD.bindsN D fun _ _ _ _ _ _ us hl => match us, hl with | [_, _, _], _ => rfl⟩
theorem F_end_ahead (cd : He.SaysD faS fnS K) : ∃ fd, Fun K "end_ahead" "end_ahead" s_end_ahead (He.ga K "end_ahead") fd ∧ Binds K fd ["wall", "P", "heading"] [] := by
  obtain ⟨fd, D⟩ := cd.def_ 7 (d := d_end_ahead) rfl
  have D : FunD K "end_ahead" "end_ahead" (defArgs s_end_ahead) (defBody s_end_ahead) (defScope s_end_ahead) [] [] (He.ga K "end_ahead") fd := D
  exact ⟨fd, fun_of D, FunD.bindsN D fun _ _ _ _ _ _ us hl => match us, hl with | [_, _, _], _ => rfl⟩
theorem F_time_to (cd : He.SaysD faS fnS K) : ∃ fd, Fun K "time_to" "time_to" s_time_to (He.ga K "time_to") fd ∧ Binds K fd ["wall", "P", "heading"] [] := by
  obtain ⟨fd, D⟩ := cd.def_ 8 (d := d_time_to) rfl
  have D : FunD K "time_to" "time_to" (defArgs s_time_to) (defBody s_time_to) (defScope s_time_to) [] [] (He.ga K "time_to") fd := D
  exact ⟨fd, fun_of D, FunD.bindsN D fun _ _ _ _ _ _ us hl => match us, hl with | [_, _, _], _ => rfl⟩
theorem F_first_met (cd : He.SaysD faS fnS K) : ∃ fd, Fun K "first_met" "first_met" s_first_met (He.ga K "first_met") fd ∧ Binds K fd ["room", "P", "heading"] [] := by
  obtain ⟨fd, D⟩ := cd.def_ 9 (d := d_first_met) rfl
  have D : FunD K "first_met" "first_met" (defArgs s_first_met) (defBody s_first_met) (defScope s_first_met) [] [] (He.ga K "first_met") fd := D
  exact ⟨fd, fun_of D, FunD.bindsN D fun _ _ _ _ _ _ us hl => match us, hl with | [_, _, _], _ => rfl⟩
theorem F_are_upon (cd : He.SaysD faS fnS K) : ∃ fd, Fun K "are_upon" "are_upon" s_are_upon (He.ga K "are_upon") fd ∧ Binds K fd ["wall", "other"] [] := by
  obtain ⟨fd, D⟩ := cd.def_ 10 (d := d_are_upon) rfl
  have D : FunD K "are_upon" "are_upon" (defArgs s_are_upon) (defBody s_are_upon) (defScope s_are_upon) [] [] (He.ga K "are_upon") fd := D
  exact ⟨fd, fun_of D, FunD.bindsN D fun _ _ _ _ _ _ us hl => match us, hl with | [_, _], _ => rfl⟩
theorem F_mirrored (cd : He.SaysD faS fnS K) : ∃ fd, Fun K "mirrored" "mirrored" s_mirrored (He.ga K "mirrored") fd ∧ Binds K fd ["heading", "line"] [] := by
  obtain ⟨fd, D⟩ := cd.def_ 11 (d := d_mirrored) rfl
  have D : FunD K "mirrored" "mirrored" (defArgs s_mirrored) (defBody s_mirrored) (defScope s_mirrored) [] [] (He.ga K "mirrored") fd := D
  exact ⟨fd, fun_of D, FunD.bindsN D fun _ _ _ _ _ _ us hl => match us, hl with | [_, _], _ => rfl⟩
theorem F_line_between (cd : He.SaysD faS fnS K) : ∃ fd, Fun K "line_between" "line_between" s_line_between (He.ga K "line_between") fd ∧ Binds K fd ["one", "two"] [] := by
  obtain ⟨fd, D⟩ := cd.def_ 12 (d := d_line_between) rfl
  have D : FunD K "line_between" "line_between" (defArgs s_line_between) (defBody s_line_between) (defScope s_line_between) [] [] (He.ga K "line_between") fd := D
  exact ⟨fd, fun_of D, FunD.bindsN D fun _ _ _ _ _ _ us hl => match us, hl with | [_, _], _ => rfl⟩
theorem F_is_far (cd : He.SaysD faS fnS K) : ∃ fd, Fun K "is_far" "is_far" s_is_far (He.ga K "is_far") fd ∧ Binds K fd ["spot"] [] := by
  obtain ⟨fd, D⟩ := cd.def_ 13 (d := d_is_far) rfl
  have D : FunD K "is_far" "is_far" (defArgs s_is_far) (defBody s_is_far) (defScope s_is_far) [] [] (He.ga K "is_far") fd := D
  exact ⟨fd, fun_of D, FunD.bindsN D fun _ _ _ _ _ _ us hl => match us, hl with | [_], _ => rfl⟩
theorem F_flown (cd : He.SaysD faS fnS K) : ∃ fd, FunX K "flown" "flown" s_flown (He.ga K "flown") fd ∧ (∃ ds, Vals [] ds ∧ Binds K fd ["room", "P", "heading", "most"] ds) ∧ ∃ ds, Vals [V.int 12] ds ∧ Binds K fd ["room", "P", "heading", "most"] ds := by
  obtain ⟨fd, D⟩ := cd.def_ 14 (d := d_flown) rfl
  have D : FunD K "flown" "flown" (defArgs s_flown) (defBody s_flown) (defScope s_flown) [V.int 12] [] (He.ga K "flown") fd := D
  exact ⟨fd, ⟨_, _, D⟩, FunD.binds1 D 4 1 (by simp) rfl fun _ _ _ _ _ _ _ us its hl hd => match us, hl, its, hd with | [_, _, _, _], _, [_], _ => ⟨_, rfl, rfl⟩, FunD.binds1 D 3 0 (by simp) rfl fun _ _ _ _ _ _ _ us its hl hd => match us, hl, its, hd with | [_, _, _], _, [_], _ => ⟨_, rfl, rfl⟩⟩
theorem F_law_cell_at (cd : He.SaysD faS fnS K) : ∃ fd, Fun K "_law_cell_at" "_law_cell_at" s_law_cell_at (He.ga K "_law_cell_at") fd ∧ Binds K fd ["_law_script", "_law_k"] [] := by
  obtain ⟨fd, D⟩ := cd.def_ 15 (d := d_law_cell_at) rfl
  have D : FunD K "_law_cell_at" "_law_cell_at" (defArgs s_law_cell_at) (defBody s_law_cell_at) (defScope s_law_cell_at) [] [] (He.ga K "_law_cell_at") fd := D
  exact ⟨fd, fun_of D, FunD.bindsN D fun _ _ _ _ _ _ us hl => match us, hl with | [_, _], _ => rfl⟩
theorem F_law_common (cd : He.SaysD faS fnS K) : ∃ fd, Fun K "_law_common" "_law_common" s_law_common (He.ga K "_law_common") fd ∧ Binds K fd ["_law_a", "_law_b"] [] := by
  obtain ⟨fd, D⟩ := cd.def_ 16 (d := d_law_common) rfl
  have D : FunD K "_law_common" "_law_common" (defArgs s_law_common) (defBody s_law_common) (defScope s_law_common) [] [] (He.ga K "_law_common") fd := D
  exact ⟨fd, fun_of D, FunD.bindsN D fun _ _ _ _ _ _ us hl => match us, hl with | [_, _], _ => rfl⟩
theorem F_law_pieces (cd : He.SaysD faS fnS K) : ∃ fd, Fun K "_law_pieces" "_law_pieces" s_law_pieces (He.ga K "_law_pieces") fd ∧ Binds K fd ["_law_x", "_law_y", "_law_line", "_law_long"] [] := by
  obtain ⟨fd, D⟩ := cd.def_ 17 (d := d_law_pieces) rfl
  have D : FunD K "_law_pieces" "_law_pieces" (defArgs s_law_pieces) (defBody s_law_pieces) (defScope s_law_pieces) [] [] (He.ga K "_law_pieces") fd := D
  exact ⟨fd, fun_of D, FunD.bindsN D fun _ _ _ _ _ _ us hl => match us, hl with | [_, _, _, _], _ => rfl⟩
theorem F_law_row_by (cd : He.SaysD faS fnS K) : ∃ fd, Fun K "_law_row_by" "_law_row_by" s_law_row_by (He.ga K "_law_row_by") fd ∧ Binds K fd ["_law_number", "_law_wide", "_law_high"] [] := by
  obtain ⟨fd, D⟩ := cd.def_ 18 (d := d_law_row_by) rfl
  have D : FunD K "_law_row_by" "_law_row_by" (defArgs s_law_row_by) (defBody s_law_row_by) (defScope s_law_row_by) [] [] (He.ga K "_law_row_by") fd := D
  exact ⟨fd, fun_of D, FunD.bindsN D fun _ _ _ _ _ _ us hl => match us, hl with | [_, _, _], _ => rfl⟩
theorem F_law_fences (cd : He.SaysD faS fnS K) : ∃ fd, Fun K "_law_fences" "_law_fences" s_law_fences (He.ga K "_law_fences") fd ∧ Binds K fd ["_law_cells", "_law_wide", "_law_high", "_law_framed", "_law_words", "_law_numbers"] [] := by
  obtain ⟨fd, D⟩ := cd.def_ 19 (d := d_law_fences) rfl
  have D : FunD K "_law_fences" "_law_fences" (defArgs s_law_fences) (defBody s_law_fences) (defScope s_law_fences) [] [] (He.ga K "_law_fences") fd := D
  exact ⟨fd, fun_of D, FunD.bindsN D fun _ _ _ _ _ _ us hl => match us, hl with | [_, _, _, _, _, _], _ => rfl⟩
theorem F_law_built (cd : He.SaysD faS fnS K) : ∃ fd, Fun K "_law_built" "_law_built" s_law_built (He.ga K "_law_built") fd ∧ Binds K fd ["_law_fence", "_law_turned"] [] := by
  obtain ⟨fd, D⟩ := cd.def_ 20 (d := d_law_built) rfl
  have D : FunD K "_law_built" "_law_built" (defArgs s_law_built) (defBody s_law_built) (defScope s_law_built) [] [] (He.ga K "_law_built") fd := D
  exact ⟨fd, fun_of D, FunD.bindsN D fun _ _ _ _ _ _ us hl => match us, hl with | [_, _], _ => rfl⟩
theorem F_law_on (cd : He.SaysD faS fnS K) : ∃ fd, Fun K "_law_on" "_law_on" s_law_on (He.ga K "_law_on") fd ∧ Binds K fd ["_law_fence", "_law_spot"] [] := by
  obtain ⟨fd, D⟩ := cd.def_ 21 (d := d_law_on) rfl
  have D : FunD K "_law_on" "_law_on" (defArgs s_law_on) (defBody s_law_on) (defScope s_law_on) [] [] (He.ga K "_law_on") fd := D
  exact ⟨fd, fun_of D, FunD.bindsN D fun _ _ _ _ _ _ us hl => match us, hl with | [_, _], _ => rfl⟩
theorem F_law_brought (cd : He.SaysD faS fnS K) : ∃ fd, Fun K "_law_brought" "_law_brought" s_law_brought (He.ga K "_law_brought") fd ∧ Binds K fd ["_law_x", "_law_y", "_law_w"] [] := by
  obtain ⟨fd, D⟩ := cd.def_ 22 (d := d_law_brought) rfl
  have D : FunD K "_law_brought" "_law_brought" (defArgs s_law_brought) (defBody s_law_brought) (defScope s_law_brought) [] [] (He.ga K "_law_brought") fd := D
  exact ⟨fd, fun_of D, FunD.bindsN D fun _ _ _ _ _ _ us hl => match us, hl with | [_, _, _], _ => rfl⟩
theorem F_law_start (cd : He.SaysD faS fnS K) : ∃ fd, Fun K "_law_start" "_law_start" s_law_start (He.ga K "_law_start") fd ∧ Binds K fd ["_law_fences_here", "_law_cells", "_law_wide", "_law_high", "_law_bottom"] [] := by
  obtain ⟨fd, D⟩ := cd.def_ 23 (d := d_law_start) rfl
  have D : FunD K "_law_start" "_law_start" (defArgs s_law_start) (defBody s_law_start) (defScope s_law_start) [] [] (He.ga K "_law_start") fd := D
  exact ⟨fd, fun_of D, FunD.bindsN D fun _ _ _ _ _ _ us hl => match us, hl with | [_, _, _, _, _], _ => rfl⟩
theorem F_law_heading (cd : He.SaysD faS fnS K) : ∃ fd, Fun K "_law_heading" "_law_heading" s_law_heading (He.ga K "_law_heading") fd ∧ Binds K fd ["_law_a", "_law_b"] [] := by
  obtain ⟨fd, D⟩ := cd.def_ 24 (d := d_law_heading) rfl
  have D : FunD K "_law_heading" "_law_heading" (defArgs s_law_heading) (defBody s_law_heading) (defScope s_law_heading) [] [] (He.ga K "_law_heading") fd := D
  exact ⟨fd, fun_of D, FunD.bindsN D fun _ _ _ _ _ _ us hl => match us, hl with | [_, _], _ => rfl⟩
theorem F_law_steps (cd : He.SaysD faS fnS K) : ∃ fd, Fun K "_law_steps" "_law_steps" s_law_steps (He.ga K "_law_steps") fd ∧ Binds K fd ["_law_room", "_law_spot", "_law_way", "_law_most"] [] := by
  obtain ⟨fd, D⟩ := cd.def_ 25 (d := d_law_steps) rfl
  have D : FunD K "_law_steps" "_law_steps" (defArgs s_law_steps) (defBody s_law_steps) (defScope s_law_steps) [] [] (He.ga K "_law_steps") fd := D
  exact ⟨fd, fun_of D, FunD.bindsN D fun _ _ _ _ _ _ us hl => match us, hl with | [_, _, _, _], _ => rfl⟩
theorem F_law_as_steps (cd : He.SaysD faS fnS K) : ∃ fd, Fun K "_law_as_steps" "_law_as_steps" s_law_as_steps (He.ga K "_law_as_steps") fd ∧ Binds K fd ["_law_heard", "_law_due"] [] := by
  obtain ⟨fd, D⟩ := cd.def_ 26 (d := d_law_as_steps) rfl
  have D : FunD K "_law_as_steps" "_law_as_steps" (defArgs s_law_as_steps) (defBody s_law_as_steps) (defScope s_law_as_steps) [] [] (He.ga K "_law_as_steps") fd := D
  exact ⟨fd, fun_of D, FunD.bindsN D fun _ _ _ _ _ _ us hl => match us, hl with | [_, _], _ => rfl⟩
theorem F_law_stay (cd : He.SaysD faS fnS K) : ∃ fd, Fun K "_law_stay" "_law_stay" s_law_stay (He.ga K "_law_stay") fd ∧ Binds K fd ["_law_stay_here", "_law_shuts"] [] := by
  obtain ⟨fd, D⟩ := cd.def_ 27 (d := d_law_stay) rfl
  have D : FunD K "_law_stay" "_law_stay" (defArgs s_law_stay) (defBody s_law_stay) (defScope s_law_stay) [] [] (He.ga K "_law_stay") fd := D
  exact ⟨fd, fun_of D, FunD.bindsN D fun _ _ _ _ _ _ us hl => match us, hl with | [_, _], _ => rfl⟩
theorem F_law (cd : He.SaysD faS fnS K) : ∃ fd, Fun K "law" "law" s_law (He.ga K "law") fd ∧ Binds K fd ["_law_script"] [] := by
  obtain ⟨fd, D⟩ := cd.def_ 28 (d := d_law) rfl
  have D : FunD K "law" "law" (defArgs s_law) (defBody s_law) (defScope s_law) [] [] (He.ga K "law") fd := D
  exact ⟨fd, fun_of D, FunD.bindsN D fun _ _ _ _ _ _ us hl => match us, hl with | [_], _ => rfl⟩
theorem F_Finit (cd : He.SaysD faS fnS K) : ∃ fd, Fun K "__init__" "Flight.__init__" s_Flight_init (He.ma K (He.ga K "Flight") "__init__") fd ∧ Binds K fd ["self", "room", "P", "heading"] [] := by
  obtain ⟨fd, D⟩ := cd.def_ 29 (d := d_Finit) rfl
  have D : FunD K "__init__" "Flight.__init__" (defArgs s_Flight_init) (defBody s_Flight_init) (defScope s_Flight_init) [] [] (He.ma K (He.ga K "Flight") "__init__") fd := D
  exact ⟨fd, fun_of D, FunD.bindsN D fun _ _ _ _ _ _ us hl => match us, hl with | [_, _, _, _], _ => rfl⟩
theorem F_Fstep (cd : He.SaysD faS fnS K) : ∃ fd, Fun K "step" "Flight.step" s_Flight_step (He.ma K (He.ga K "Flight") "step") fd ∧ Binds K fd ["self"] [] := by
  obtain ⟨fd, D⟩ := cd.def_ 30 (d := d_Fstep) rfl
  have D : FunD K "step" "Flight.step" (defArgs s_Flight_step) (defBody s_Flight_step) (defScope s_Flight_step) [] [] (He.ma K (He.ga K "Flight") "step") fd := D
  exact ⟨fd, fun_of D, FunD.bindsN D fun _ _ _ _ _ _ us hl => match us, hl with | [_], _ => rfl⟩
theorem F_Fhit_at (cd : He.SaysD faS fnS K) : ∃ fd, Fun K "hit_at" "Flight.hit_at" s_Flight_hit_at (He.ma K (He.ga K "Flight") "hit_at") fd ∧ Binds K fd ["self", "number", "now", "point"] [] := by
  obtain ⟨fd, D⟩ := cd.def_ 31 (d := d_Fhit_at) rfl
  have D : FunD K "hit_at" "Flight.hit_at" (defArgs s_Flight_hit_at) (defBody s_Flight_hit_at) (defScope s_Flight_hit_at) [] [] (He.ma K (He.ga K "Flight") "hit_at") fd := D
  exact ⟨fd, fun_of D, FunD.bindsN D fun _ _ _ _ _ _ us hl => match us, hl with | [_, _, _, _], _ => rfl⟩
theorem F_Foutcome (cd : He.SaysD faS fnS K) : ∃ fd, Fun K "outcome" "Flight.outcome" s_Flight_outcome (He.ma K (He.ga K "Flight") "outcome") fd ∧ Binds K fd ["self"] [] := by
  obtain ⟨fd, D⟩ := cd.def_ 32 (d := d_Foutcome) rfl
  have D : FunD K "outcome" "Flight.outcome" (defArgs s_Flight_outcome) (defBody s_Flight_outcome) (defScope s_Flight_outcome) [] [] (He.ma K (He.ga K "Flight") "outcome") fd := D
  exact ⟨fd, fun_of D, FunD.bindsN D fun _ _ _ _ _ _ us hl => match us, hl with | [_], _ => rfl⟩
theorem F_Rinit (cd : He.SaysD faS fnS K) : ∃ fd, Fun K "__init__" "Room.__init__" s_Room_init (He.ma K (He.ga K "Room") "__init__") fd ∧ Binds K fd ["self", "walls"] [] := by
  obtain ⟨fd, D⟩ := cd.def_ 33 (d := d_Rinit) rfl
  have D : FunD K "__init__" "Room.__init__" (defArgs s_Room_init) (defBody s_Room_init) (defScope s_Room_init) [] [] (He.ma K (He.ga K "Room") "__init__") fd := D
  exact ⟨fd, fun_of D, FunD.bindsN D fun _ _ _ _ _ _ us hl => match us, hl with | [_, _], _ => rfl⟩
theorem F_Rwalls (cd : He.SaysD faS fnS K) : ∃ fd, Fun K "walls" "Room.walls" s_Room_walls (He.ma K (He.ga K "Room") "walls") fd ∧ Binds K fd ["self"] [] := by
  obtain ⟨fd, D⟩ := cd.def_ 34 (d := d_Rwalls) rfl
  have D : FunD K "walls" "Room.walls" (defArgs s_Room_walls) (defBody s_Room_walls) (defScope s_Room_walls) [] [] (He.ma K (He.ga K "Room") "walls") fd := D
  exact ⟨fd, fun_of D, FunD.bindsN D fun _ _ _ _ _ _ us hl => match us, hl with | [_], _ => rfl⟩
theorem F_Ron (cd : He.SaysD faS fnS K) : ∃ fd, Fun K "on" "Room.on" s_Room_on (He.ma K (He.ga K "Room") "on") fd ∧ Binds K fd ["self", "P"] [] := by
  obtain ⟨fd, D⟩ := cd.def_ 35 (d := d_Ron) rfl
  have D : FunD K "on" "Room.on" (defArgs s_Room_on) (defBody s_Room_on) (defScope s_Room_on) [] [] (He.ma K (He.ga K "Room") "on") fd := D
  exact ⟨fd, fun_of D, FunD.bindsN D fun _ _ _ _ _ _ us hl => match us, hl with | [_, _], _ => rfl⟩
theorem F_Ris_corner (cd : He.SaysD faS fnS K) : ∃ fd, Fun K "is_corner" "Room.is_corner" s_Room_is_corner (He.ma K (He.ga K "Room") "is_corner") fd ∧ Binds K fd ["self", "P"] [] := by
  obtain ⟨fd, D⟩ := cd.def_ 36 (d := d_Ris_corner) rfl
  have D : FunD K "is_corner" "Room.is_corner" (defArgs s_Room_is_corner) (defBody s_Room_is_corner) (defScope s_Room_is_corner) [] [] (He.ma K (He.ga K "Room") "is_corner") fd := D
  exact ⟨fd, fun_of D, FunD.bindsN D fun _ _ _ _ _ _ us hl => match us, hl with | [_, _], _ => rfl⟩
theorem F_Winit (cd : He.SaysD faS fnS K) : ∃ fd, Fun K "__init__" "Wall.__init__" s_Wall_init (He.ma K (He.ga K "Wall") "__init__") fd ∧ Binds K fd ["self", "one", "two"] [] := by
  obtain ⟨fd, D⟩ := cd.def_ 37 (d := d_Winit) rfl
  have D : FunD K "__init__" "Wall.__init__" (defArgs s_Wall_init) (defBody s_Wall_init) (defScope s_Wall_init) [] [] (He.ma K (He.ga K "Wall") "__init__") fd := D
  exact ⟨fd, fun_of D, FunD.bindsN D fun _ _ _ _ _ _ us hl => match us, hl with | [_, _, _], _ => rfl⟩
theorem F_Minit (cd : He.SaysD faS fnS K) : ∃ fd, Fun K "__init__" "Wall.__init__" s_Wall_init (He.ma K (He.ga K "Mirror") "__init__") fd ∧ Binds K fd ["self", "one", "two"] [] := by
  obtain ⟨fd, D⟩ := cd.def_ 38 (d := d_Minit) rfl
  have D : FunD K "__init__" "Wall.__init__" (defArgs s_Wall_init) (defBody s_Wall_init) (defScope s_Wall_init) [] [] (He.ma K (He.ga K "Mirror") "__init__") fd := D
  exact ⟨fd, fun_of D, FunD.bindsN D fun _ _ _ _ _ _ us hl => match us, hl with | [_, _, _], _ => rfl⟩
theorem F_Ginit (cd : He.SaysD faS fnS K) : ∃ fd, Fun K "__init__" "Wall.__init__" s_Wall_init (He.ma K (He.ga K "Glass") "__init__") fd ∧ Binds K fd ["self", "one", "two"] [] := by
  obtain ⟨fd, D⟩ := cd.def_ 39 (d := d_Ginit) rfl
  have D : FunD K "__init__" "Wall.__init__" (defArgs s_Wall_init) (defBody s_Wall_init) (defScope s_Wall_init) [] [] (He.ma K (He.ga K "Glass") "__init__") fd := D
  exact ⟨fd, fun_of D, FunD.bindsN D fun _ _ _ _ _ _ us hl => match us, hl with | [_, _, _], _ => rfl⟩
theorem F_Hinit (cd : He.SaysD faS fnS K) : ∃ fd, Fun K "__init__" "Wall.__init__" s_Wall_init (He.ma K (He.ga K "Hole") "__init__") fd ∧ Binds K fd ["self", "one", "two"] [] := by
  obtain ⟨fd, D⟩ := cd.def_ 40 (d := d_Hinit) rfl
  have D : FunD K "__init__" "Wall.__init__" (defArgs s_Wall_init) (defBody s_Wall_init) (defScope s_Wall_init) [] [] (He.ma K (He.ga K "Hole") "__init__") fd := D
  exact ⟨fd, fun_of D, FunD.bindsN D fun _ _ _ _ _ _ us hl => match us, hl with | [_, _, _], _ => rfl⟩
theorem F_Dinit (cd : He.SaysD faS fnS K) : ∃ fd, FunX K "__init__" "Door.__init__" s_Door_init (He.ma K (He.ga K "Door") "__init__") fd ∧ (∃ ds, Vals [] ds ∧ Binds K fd ["self", "one", "two", "every"] ds) ∧ ∃ ds, Vals [V.int 2] ds ∧ Binds K fd ["self", "one", "two", "every"] ds := by
  obtain ⟨fd, D⟩ := cd.def_ 41 (d := d_Dinit) rfl
  have D : FunD K "__init__" "Door.__init__" (defArgs s_Door_init) (defBody s_Door_init) (defScope s_Door_init) [V.int 2] [] (He.ma K (He.ga K "Door") "__init__") fd := D
  exact ⟨fd, ⟨_, _, D⟩, FunD.binds1 D 4 1 (by simp) rfl fun _ _ _ _ _ _ _ us its hl hd => match us, hl, its, hd with | [_, _, _, _], _, [_], _ => ⟨_, rfl, rfl⟩, FunD.binds1 D 3 0 (by simp) rfl fun _ _ _ _ _ _ _ us its hl hd => match us, hl, its, hd with | [_, _, _], _, [_], _ => ⟨_, rfl, rfl⟩⟩
theorem F_Mline (cd : He.SaysD faS fnS K) : ∃ fd, Fun K "line" "Wall.line" s_Wall_line (He.ma K (He.ga K "Mirror") "line") fd ∧ Binds K fd ["self"] [] := by
  obtain ⟨fd, D⟩ := cd.def_ 42 (d := d_Mline) rfl
  have D : FunD K "line" "Wall.line" (defArgs s_Wall_line) (defBody s_Wall_line) (defScope s_Wall_line) [] [] (He.ma K (He.ga K "Mirror") "line") fd := D
  exact ⟨fd, fun_of D, FunD.bindsN D fun _ _ _ _ _ _ us hl => match us, hl with | [_], _ => rfl⟩
theorem F_Gline (cd : He.SaysD faS fnS K) : ∃ fd, Fun K "line" "Wall.line" s_Wall_line (He.ma K (He.ga K "Glass") "line") fd ∧ Binds K fd ["self"] [] := by
  obtain ⟨fd, D⟩ := cd.def_ 43 (d := d_Gline) rfl
  have D : FunD K "line" "Wall.line" (defArgs s_Wall_line) (defBody s_Wall_line) (defScope s_Wall_line) [] [] (He.ma K (He.ga K "Glass") "line") fd := D
  exact ⟨fd, fun_of D, FunD.bindsN D fun _ _ _ _ _ _ us hl => match us, hl with | [_], _ => rfl⟩
theorem F_Hline (cd : He.SaysD faS fnS K) : ∃ fd, Fun K "line" "Wall.line" s_Wall_line (He.ma K (He.ga K "Hole") "line") fd ∧ Binds K fd ["self"] [] := by
  obtain ⟨fd, D⟩ := cd.def_ 44 (d := d_Hline) rfl
  have D : FunD K "line" "Wall.line" (defArgs s_Wall_line) (defBody s_Wall_line) (defScope s_Wall_line) [] [] (He.ma K (He.ga K "Hole") "line") fd := D
  exact ⟨fd, fun_of D, FunD.bindsN D fun _ _ _ _ _ _ us hl => match us, hl with | [_], _ => rfl⟩
theorem F_Dline (cd : He.SaysD faS fnS K) : ∃ fd, Fun K "line" "Wall.line" s_Wall_line (He.ma K (He.ga K "Door") "line") fd ∧ Binds K fd ["self"] [] := by
  obtain ⟨fd, D⟩ := cd.def_ 45 (d := d_Dline) rfl
  have D : FunD K "line" "Wall.line" (defArgs s_Wall_line) (defBody s_Wall_line) (defScope s_Wall_line) [] [] (He.ma K (He.ga K "Door") "line") fd := D
  exact ⟨fd, fun_of D, FunD.bindsN D fun _ _ _ _ _ _ us hl => match us, hl with | [_], _ => rfl⟩
theorem F_Mholds (cd : He.SaysD faS fnS K) : ∃ fd, Fun K "holds" "Wall.holds" s_Wall_holds (He.ma K (He.ga K "Mirror") "holds") fd ∧ Binds K fd ["self", "P"] [] := by
  obtain ⟨fd, D⟩ := cd.def_ 46 (d := d_Mholds) rfl
  have D : FunD K "holds" "Wall.holds" (defArgs s_Wall_holds) (defBody s_Wall_holds) (defScope s_Wall_holds) [] [] (He.ma K (He.ga K "Mirror") "holds") fd := D
  exact ⟨fd, fun_of D, FunD.bindsN D fun _ _ _ _ _ _ us hl => match us, hl with | [_, _], _ => rfl⟩
theorem F_Gholds (cd : He.SaysD faS fnS K) : ∃ fd, Fun K "holds" "Wall.holds" s_Wall_holds (He.ma K (He.ga K "Glass") "holds") fd ∧ Binds K fd ["self", "P"] [] := by
  obtain ⟨fd, D⟩ := cd.def_ 47 (d := d_Gholds) rfl
  have D : FunD K "holds" "Wall.holds" (defArgs s_Wall_holds) (defBody s_Wall_holds) (defScope s_Wall_holds) [] [] (He.ma K (He.ga K "Glass") "holds") fd := D
  exact ⟨fd, fun_of D, FunD.bindsN D fun _ _ _ _ _ _ us hl => match us, hl with | [_, _], _ => rfl⟩
theorem F_Hholds (cd : He.SaysD faS fnS K) : ∃ fd, Fun K "holds" "Wall.holds" s_Wall_holds (He.ma K (He.ga K "Hole") "holds") fd ∧ Binds K fd ["self", "P"] [] := by
  obtain ⟨fd, D⟩ := cd.def_ 48 (d := d_Hholds) rfl
  have D : FunD K "holds" "Wall.holds" (defArgs s_Wall_holds) (defBody s_Wall_holds) (defScope s_Wall_holds) [] [] (He.ma K (He.ga K "Hole") "holds") fd := D
  exact ⟨fd, fun_of D, FunD.bindsN D fun _ _ _ _ _ _ us hl => match us, hl with | [_, _], _ => rfl⟩
theorem F_Dholds (cd : He.SaysD faS fnS K) : ∃ fd, Fun K "holds" "Wall.holds" s_Wall_holds (He.ma K (He.ga K "Door") "holds") fd ∧ Binds K fd ["self", "P"] [] := by
  obtain ⟨fd, D⟩ := cd.def_ 49 (d := d_Dholds) rfl
  have D : FunD K "holds" "Wall.holds" (defArgs s_Wall_holds) (defBody s_Wall_holds) (defScope s_Wall_holds) [] [] (He.ma K (He.ga K "Door") "holds") fd := D
  exact ⟨fd, fun_of D, FunD.bindsN D fun _ _ _ _ _ _ us hl => match us, hl with | [_, _], _ => rfl⟩
theorem F_Mends_at (cd : He.SaysD faS fnS K) : ∃ fd, Fun K "ends_at" "Wall.ends_at" s_Wall_ends_at (He.ma K (He.ga K "Mirror") "ends_at") fd ∧ Binds K fd ["self", "P"] [] := by
  obtain ⟨fd, D⟩ := cd.def_ 50 (d := d_Mends_at) rfl
  have D : FunD K "ends_at" "Wall.ends_at" (defArgs s_Wall_ends_at) (defBody s_Wall_ends_at) (defScope s_Wall_ends_at) [] [] (He.ma K (He.ga K "Mirror") "ends_at") fd := D
  exact ⟨fd, fun_of D, FunD.bindsN D fun _ _ _ _ _ _ us hl => match us, hl with | [_, _], _ => rfl⟩
theorem F_Gends_at (cd : He.SaysD faS fnS K) : ∃ fd, Fun K "ends_at" "Wall.ends_at" s_Wall_ends_at (He.ma K (He.ga K "Glass") "ends_at") fd ∧ Binds K fd ["self", "P"] [] := by
  obtain ⟨fd, D⟩ := cd.def_ 51 (d := d_Gends_at) rfl
  have D : FunD K "ends_at" "Wall.ends_at" (defArgs s_Wall_ends_at) (defBody s_Wall_ends_at) (defScope s_Wall_ends_at) [] [] (He.ma K (He.ga K "Glass") "ends_at") fd := D
  exact ⟨fd, fun_of D, FunD.bindsN D fun _ _ _ _ _ _ us hl => match us, hl with | [_, _], _ => rfl⟩
theorem F_Hends_at (cd : He.SaysD faS fnS K) : ∃ fd, Fun K "ends_at" "Wall.ends_at" s_Wall_ends_at (He.ma K (He.ga K "Hole") "ends_at") fd ∧ Binds K fd ["self", "P"] [] := by
  obtain ⟨fd, D⟩ := cd.def_ 52 (d := d_Hends_at) rfl
  have D : FunD K "ends_at" "Wall.ends_at" (defArgs s_Wall_ends_at) (defBody s_Wall_ends_at) (defScope s_Wall_ends_at) [] [] (He.ma K (He.ga K "Hole") "ends_at") fd := D
  exact ⟨fd, fun_of D, FunD.bindsN D fun _ _ _ _ _ _ us hl => match us, hl with | [_, _], _ => rfl⟩
theorem F_Dends_at (cd : He.SaysD faS fnS K) : ∃ fd, Fun K "ends_at" "Wall.ends_at" s_Wall_ends_at (He.ma K (He.ga K "Door") "ends_at") fd ∧ Binds K fd ["self", "P"] [] := by
  obtain ⟨fd, D⟩ := cd.def_ 53 (d := d_Dends_at) rfl
  have D : FunD K "ends_at" "Wall.ends_at" (defArgs s_Wall_ends_at) (defBody s_Wall_ends_at) (defScope s_Wall_ends_at) [] [] (He.ma K (He.ga K "Door") "ends_at") fd := D
  exact ⟨fd, fun_of D, FunD.bindsN D fun _ _ _ _ _ _ us hl => match us, hl with | [_, _], _ => rfl⟩
theorem F_Mbehind (cd : He.SaysD faS fnS K) : ∃ fd, Fun K "behind" "Wall.behind" s_Wall_behind (He.ma K (He.ga K "Mirror") "behind") fd ∧ Binds K fd ["self", "heading", "count"] [] := by
  obtain ⟨fd, D⟩ := cd.def_ 54 (d := d_Mbehind) rfl
  have D : FunD K "behind" "Wall.behind" (defArgs s_Wall_behind) (defBody s_Wall_behind) (defScope s_Wall_behind) [] [] (He.ma K (He.ga K "Mirror") "behind") fd := D
  exact ⟨fd, fun_of D, FunD.bindsN D fun _ _ _ _ _ _ us hl => match us, hl with | [_, _, _], _ => rfl⟩
theorem F_Gbehind (cd : He.SaysD faS fnS K) : ∃ fd, Fun K "behind" "Glass.behind" s_Glass_behind (He.ma K (He.ga K "Glass") "behind") fd ∧ Binds K fd ["self", "heading", "count"] [] := by
  obtain ⟨fd, D⟩ := cd.def_ 55 (d := d_Gbehind) rfl
  have D : FunD K "behind" "Glass.behind" (defArgs s_Glass_behind) (defBody s_Glass_behind) (defScope s_Glass_behind) [] [] (He.ma K (He.ga K "Glass") "behind") fd := D
  exact ⟨fd, fun_of D, FunD.bindsN D fun _ _ _ _ _ _ us hl => match us, hl with | [_, _, _], _ => rfl⟩
theorem F_Hbehind (cd : He.SaysD faS fnS K) : ∃ fd, Fun K "behind" "Hole.behind" s_Hole_behind (He.ma K (He.ga K "Hole") "behind") fd ∧ Binds K fd ["self", "heading", "count"] [] := by
  obtain ⟨fd, D⟩ := cd.def_ 56 (d := d_Hbehind) rfl
  have D : FunD K "behind" "Hole.behind" (defArgs s_Hole_behind) (defBody s_Hole_behind) (defScope s_Hole_behind) [] [] (He.ma K (He.ga K "Hole") "behind") fd := D
  exact ⟨fd, fun_of D, FunD.bindsN D fun _ _ _ _ _ _ us hl => match us, hl with | [_, _, _], _ => rfl⟩
theorem F_Dbehind (cd : He.SaysD faS fnS K) : ∃ fd, Fun K "behind" "Door.behind" s_Door_behind (He.ma K (He.ga K "Door") "behind") fd ∧ Binds K fd ["self", "heading", "count"] [] := by
  obtain ⟨fd, D⟩ := cd.def_ 57 (d := d_Dbehind) rfl
  have D : FunD K "behind" "Door.behind" (defArgs s_Door_behind) (defBody s_Door_behind) (defScope s_Door_behind) [] [] (He.ma K (He.ga K "Door") "behind") fd := D
  exact ⟨fd, fun_of D, FunD.bindsN D fun _ _ _ _ _ _ us hl => match us, hl with | [_, _, _], _ => rfl⟩
theorem F_Mevery (cd : He.SaysD faS fnS K) : ∃ fd, Fun K "every" "Wall.every" s_Wall_every (He.ma K (He.ga K "Mirror") "every") fd ∧ Binds K fd ["self"] [] := by
  obtain ⟨fd, D⟩ := cd.def_ 58 (d := d_Mevery) rfl
  have D : FunD K "every" "Wall.every" (defArgs s_Wall_every) (defBody s_Wall_every) (defScope s_Wall_every) [] [] (He.ma K (He.ga K "Mirror") "every") fd := D
  exact ⟨fd, fun_of D, FunD.bindsN D fun _ _ _ _ _ _ us hl => match us, hl with | [_], _ => rfl⟩
theorem F_Gevery (cd : He.SaysD faS fnS K) : ∃ fd, Fun K "every" "Wall.every" s_Wall_every (He.ma K (He.ga K "Glass") "every") fd ∧ Binds K fd ["self"] [] := by
  obtain ⟨fd, D⟩ := cd.def_ 59 (d := d_Gevery) rfl
  have D : FunD K "every" "Wall.every" (defArgs s_Wall_every) (defBody s_Wall_every) (defScope s_Wall_every) [] [] (He.ma K (He.ga K "Glass") "every") fd := D
  exact ⟨fd, fun_of D, FunD.bindsN D fun _ _ _ _ _ _ us hl => match us, hl with | [_], _ => rfl⟩
theorem F_Hevery (cd : He.SaysD faS fnS K) : ∃ fd, Fun K "every" "Wall.every" s_Wall_every (He.ma K (He.ga K "Hole") "every") fd ∧ Binds K fd ["self"] [] := by
  obtain ⟨fd, D⟩ := cd.def_ 60 (d := d_Hevery) rfl
  have D : FunD K "every" "Wall.every" (defArgs s_Wall_every) (defBody s_Wall_every) (defScope s_Wall_every) [] [] (He.ma K (He.ga K "Hole") "every") fd := D
  exact ⟨fd, fun_of D, FunD.bindsN D fun _ _ _ _ _ _ us hl => match us, hl with | [_], _ => rfl⟩
theorem F_Devery (cd : He.SaysD faS fnS K) : ∃ fd, Fun K "every" "Door.every" s_Door_every (He.ma K (He.ga K "Door") "every") fd ∧ Binds K fd ["self"] [] := by
  obtain ⟨fd, D⟩ := cd.def_ 61 (d := d_Devery) rfl
  have D : FunD K "every" "Door.every" (defArgs s_Door_every) (defBody s_Door_every) (defScope s_Door_every) [] [] (He.ma K (He.ga K "Door") "every") fd := D
  exact ⟨fd, fun_of D, FunD.bindsN D fun _ _ _ _ _ _ us hl => match us, hl with | [_], _ => rfl⟩
theorem F_Mword (cd : He.SaysD faS fnS K) : ∃ fd, Fun K "word" "Mirror.word" s_Mirror_word (He.ma K (He.ga K "Mirror") "word") fd ∧ Binds K fd ["self"] [] := by
  obtain ⟨fd, D⟩ := cd.def_ 62 (d := d_Mword) rfl
  have D : FunD K "word" "Mirror.word" (defArgs s_Mirror_word) (defBody s_Mirror_word) (defScope s_Mirror_word) [] [] (He.ma K (He.ga K "Mirror") "word") fd := D
  exact ⟨fd, fun_of D, FunD.bindsN D fun _ _ _ _ _ _ us hl => match us, hl with | [_], _ => rfl⟩
theorem F_Gword (cd : He.SaysD faS fnS K) : ∃ fd, Fun K "word" "Glass.word" s_Glass_word (He.ma K (He.ga K "Glass") "word") fd ∧ Binds K fd ["self"] [] := by
  obtain ⟨fd, D⟩ := cd.def_ 63 (d := d_Gword) rfl
  have D : FunD K "word" "Glass.word" (defArgs s_Glass_word) (defBody s_Glass_word) (defScope s_Glass_word) [] [] (He.ma K (He.ga K "Glass") "word") fd := D
  exact ⟨fd, fun_of D, FunD.bindsN D fun _ _ _ _ _ _ us hl => match us, hl with | [_], _ => rfl⟩
theorem F_Hword (cd : He.SaysD faS fnS K) : ∃ fd, Fun K "word" "Hole.word" s_Hole_word (He.ma K (He.ga K "Hole") "word") fd ∧ Binds K fd ["self"] [] := by
  obtain ⟨fd, D⟩ := cd.def_ 64 (d := d_Hword) rfl
  have D : FunD K "word" "Hole.word" (defArgs s_Hole_word) (defBody s_Hole_word) (defScope s_Hole_word) [] [] (He.ma K (He.ga K "Hole") "word") fd := D
  exact ⟨fd, fun_of D, FunD.bindsN D fun _ _ _ _ _ _ us hl => match us, hl with | [_], _ => rfl⟩
theorem F_Dword (cd : He.SaysD faS fnS K) : ∃ fd, Fun K "word" "Door.word" s_Door_word (He.ma K (He.ga K "Door") "word") fd ∧ Binds K fd ["self"] [] := by
  obtain ⟨fd, D⟩ := cd.def_ 65 (d := d_Dword) rfl
  have D : FunD K "word" "Door.word" (defArgs s_Door_word) (defBody s_Door_word) (defScope s_Door_word) [] [] (He.ma K (He.ga K "Door") "word") fd := D
  exact ⟨fd, fun_of D, FunD.bindsN D fun _ _ _ _ _ _ us hl => match us, hl with | [_], _ => rfl⟩
end
/-- what a method of one class promises -/
def MM (P : Program) (w : World) (K : PySem.W.Frag) (mg : Str → Option Value) (base : Heap) (k : Nat) (m : Str) (ps : List Str) (C : Addr) (sp : Sp) : Prop := Cls K C ∧ ∃ f fd, Meth K C m f ∧ FnOk P w K mg base CX0 k f fd ps sp ∧ Binds K fd ps []
section
variable {P : Program} {w : World} {K : PySem.W.Frag} {mg : Str → Option Value} {base : Heap} {c : Cs} {k : Nat} {m : Str} {ps : List Str} {sp : Sp} {fs : Nat → Sp}
theorem mtsO {C : Addr} (h : MM P w K mg base k m ps C sp) : Mts P w K mg base k m ps (One (fun X => X = C) sp) := by
  rintro X s ⟨e1, e2⟩
  have e1 : X = C := e1
  subst e1 e2
  exact h
theorem mtsR (h0 : MM P w K mg base k m ps c.M (fs 0)) (h1 : MM P w K mg base k m ps c.G (fs 1)) (h2 : MM P w K mg base k m ps c.H (fs 2)) (h3 : MM P w K mg base k m ps c.D (fs 3)) : Mts P w K mg base k m ps (Rby (clsOf c) fs) := by
  rintro C s ⟨j, hj, rfl, rfl⟩
  match j, hj with
  | 0, _ => exact h0
  | 1, _ => exact h1
  | 2, _ => exact h2
  | 3, _ => exact h3
theorem mtsW (h0 : MM P w K mg base k m ps c.M sp) (h1 : MM P w K mg base k m ps c.G sp) (h2 : MM P w K mg base k m ps c.H sp) (h3 : MM P w K mg base k m ps c.D sp) : Mts P w K mg base k m ps (One (IsW c) sp) := by
  rintro C s ⟨⟨j, hj, rfl⟩, rfl⟩
  match j, hj with
  | 0, _ => exact h0
  | 1, _ => exact h1
  | 2, _ => exact h2
  | 3, _ => exact h3
end
theorem wall_of {K : PySem.W.Frag} (c : wallB K = true) : ClX.CRead K (He.ga K "Wall") (.type "type") ∧ PySem.W.findCls K (.ref (He.ga K "Wall")) (.type "type") "__init__" = some (.val (.ref (He.ma K (He.ga K "Wall") "__init__"))) := by
  unfold wallB at c
  rw [Bool.and_eq_true] at c
  obtain ⟨h, h2⟩ := c
  refine ⟨⟨h, ?_⟩, ?_⟩
  · unfold PySem.W.readsIn at h
    rw [Bool.and_eq_true, Bool.and_eq_true, Bool.and_eq_true, Bool.and_eq_true] at h
    obtain ⟨⟨⟨⟨_, g2⟩, g3⟩, _⟩, _⟩ := h
    unfold PySem.W.specialIn
    rw [beq_iff_eq.mp g2, Option.bind_some]
    exact beq_iff_eq.mp g3
  · cases e : PySem.W.findCls K (.ref (He.ga K "Wall")) (.type "type") "__init__" with
    | none =>
      rw [e] at h2
      cases h2
    | some r =>
      rw [e] at h2
      cases r with
      | get g a b t => cases h2
      | val v =>
        cases v with
        | ref a =>
          have h2 := of_decide_eq_true h2
          rw [h2]
        | _ => cases h2
theorem facts {P : Program} {w : World} {K : PySem.W.Frag} {h : Heap} {mg : Str → Option Value} {f : Addr} (X : K.In h) (G : h.Ns mainGlobals mg) (hfa : mg ("law" : Str) = some (.ref f)) (c : obsX K = valX) :
    ∃ fd : FuncData, (∀ (s : Shared) (v : Value), BindsTo s fd ⟨[v], []⟩ [("_law_script", v)]) ∧ ∀ base : Heap, K.In base → base.Ns mainGlobals mg → FnOk P w K mg base CX0 9 f fd ["_law_script"] (sp_law K) := by
  have cw : wallB K = true := congrArg (fun z : AlX => z.1) c
  have cd : He.SaysD faS fnS K := congrArg (fun z : AlX => z.2) c
  have T := txt_of X G cd
  obtain ⟨WR, WF⟩ := wall_of cw
  obtain ⟨fd_divisor, f_divisor, b_divisor⟩ := F_divisor cd
  obtain ⟨fd_point_of, f_point_of, b_point_of⟩ := F_point_of cd
  obtain ⟨fd_time_of, f_time_of, b_time_of⟩ := F_time_of cd
  obtain ⟨fd_sooner, f_sooner, b_sooner⟩ := F_sooner cd
  obtain ⟨fd_added, f_added, b_added⟩ := F_added cd
  obtain ⟨fd_spot_at, f_spot_at, b_spot_at⟩ := F_spot_at cd
  obtain ⟨fd_time_along, f_time_along, b_time_along⟩ := F_time_along cd
  obtain ⟨fd_end_ahead, f_end_ahead, b_end_ahead⟩ := F_end_ahead cd
  obtain ⟨fd_time_to, f_time_to, b_time_to⟩ := F_time_to cd
  obtain ⟨fd_first_met, f_first_met, b_first_met⟩ := F_first_met cd
  obtain ⟨fd_are_upon, f_are_upon, b_are_upon⟩ := F_are_upon cd
  obtain ⟨fd_mirrored, f_mirrored, b_mirrored⟩ := F_mirrored cd
  obtain ⟨fd_line_between, f_line_between, b_line_between⟩ := F_line_between cd
  obtain ⟨fd_is_far, f_is_far, b_is_far⟩ := F_is_far cd
  obtain ⟨fd_flown, f_flown, ⟨ds_flown, v_flown, b_flown⟩, es_flown, u_flown, a_flown⟩ := F_flown cd
  obtain ⟨fd_law_cell_at, f_law_cell_at, b_law_cell_at⟩ := F_law_cell_at cd
  obtain ⟨fd_law_common, f_law_common, b_law_common⟩ := F_law_common cd
  obtain ⟨fd_law_pieces, f_law_pieces, b_law_pieces⟩ := F_law_pieces cd
  obtain ⟨fd_law_row_by, f_law_row_by, b_law_row_by⟩ := F_law_row_by cd
  obtain ⟨fd_law_fences, f_law_fences, b_law_fences⟩ := F_law_fences cd
  obtain ⟨fd_law_built, f_law_built, b_law_built⟩ := F_law_built cd
  obtain ⟨fd_law_on, f_law_on, b_law_on⟩ := F_law_on cd
  obtain ⟨fd_law_brought, f_law_brought, b_law_brought⟩ := F_law_brought cd
  obtain ⟨fd_law_start, f_law_start, b_law_start⟩ := F_law_start cd
  obtain ⟨fd_law_heading, f_law_heading, b_law_heading⟩ := F_law_heading cd
  obtain ⟨fd_law_steps, f_law_steps, b_law_steps⟩ := F_law_steps cd
  obtain ⟨fd_law_as_steps, f_law_as_steps, b_law_as_steps⟩ := F_law_as_steps cd
  obtain ⟨fd_law_stay, f_law_stay, b_law_stay⟩ := F_law_stay cd
  obtain ⟨fd_Finit, f_Finit, b_Finit⟩ := F_Finit cd
  obtain ⟨fd_Fstep, f_Fstep, b_Fstep⟩ := F_Fstep cd
  obtain ⟨fd_Fhit_at, f_Fhit_at, b_Fhit_at⟩ := F_Fhit_at cd
  obtain ⟨fd_Foutcome, f_Foutcome, b_Foutcome⟩ := F_Foutcome cd
  obtain ⟨fd_Rinit, f_Rinit, b_Rinit⟩ := F_Rinit cd
  obtain ⟨fd_Rwalls, f_Rwalls, b_Rwalls⟩ := F_Rwalls cd
  obtain ⟨fd_Ron, f_Ron, b_Ron⟩ := F_Ron cd
  obtain ⟨fd_Ris_corner, f_Ris_corner, b_Ris_corner⟩ := F_Ris_corner cd
  obtain ⟨fd_Winit, f_Winit, b_Winit⟩ := F_Winit cd
  obtain ⟨fd_Minit, f_Minit, b_Minit⟩ := F_Minit cd
  obtain ⟨fd_Ginit, f_Ginit, b_Ginit⟩ := F_Ginit cd
  obtain ⟨fd_Hinit, f_Hinit, b_Hinit⟩ := F_Hinit cd
  obtain ⟨fd_Dinit, f_Dinit, ⟨ds_Dinit, v_Dinit, b_Dinit⟩, es_Dinit, u_Dinit, a_Dinit⟩ := F_Dinit cd
  obtain ⟨fd_Mline, f_Mline, b_Mline⟩ := F_Mline cd
  obtain ⟨fd_Gline, f_Gline, b_Gline⟩ := F_Gline cd
  obtain ⟨fd_Hline, f_Hline, b_Hline⟩ := F_Hline cd
  obtain ⟨fd_Dline, f_Dline, b_Dline⟩ := F_Dline cd
  obtain ⟨fd_Mholds, f_Mholds, b_Mholds⟩ := F_Mholds cd
  obtain ⟨fd_Gholds, f_Gholds, b_Gholds⟩ := F_Gholds cd
  obtain ⟨fd_Hholds, f_Hholds, b_Hholds⟩ := F_Hholds cd
  obtain ⟨fd_Dholds, f_Dholds, b_Dholds⟩ := F_Dholds cd
  obtain ⟨fd_Mends_at, f_Mends_at, b_Mends_at⟩ := F_Mends_at cd
  obtain ⟨fd_Gends_at, f_Gends_at, b_Gends_at⟩ := F_Gends_at cd
  obtain ⟨fd_Hends_at, f_Hends_at, b_Hends_at⟩ := F_Hends_at cd
  obtain ⟨fd_Dends_at, f_Dends_at, b_Dends_at⟩ := F_Dends_at cd
  obtain ⟨fd_Mbehind, f_Mbehind, b_Mbehind⟩ := F_Mbehind cd
  obtain ⟨fd_Gbehind, f_Gbehind, b_Gbehind⟩ := F_Gbehind cd
  obtain ⟨fd_Hbehind, f_Hbehind, b_Hbehind⟩ := F_Hbehind cd
  obtain ⟨fd_Dbehind, f_Dbehind, b_Dbehind⟩ := F_Dbehind cd
  obtain ⟨fd_Mevery, f_Mevery, b_Mevery⟩ := F_Mevery cd
  obtain ⟨fd_Gevery, f_Gevery, b_Gevery⟩ := F_Gevery cd
  obtain ⟨fd_Hevery, f_Hevery, b_Hevery⟩ := F_Hevery cd
  obtain ⟨fd_Devery, f_Devery, b_Devery⟩ := F_Devery cd
  obtain ⟨fd_Mword, f_Mword, b_Mword⟩ := F_Mword cd
  obtain ⟨fd_Gword, f_Gword, b_Gword⟩ := F_Gword cd
  obtain ⟨fd_Hword, f_Hword, b_Hword⟩ := F_Hword cd
  obtain ⟨fd_Dword, f_Dword, b_Dword⟩ := F_Dword cd
  obtain ⟨fd, D⟩ := cd.def_ 28 (d := d_law) rfl
  have D : FunD K "law" "law" (defArgs s_law) (defBody s_law) (defScope s_law) [] [] (He.ga K "law") fd := D
  have bL := FunD.bindsA (ps := ["_law_script"]) D fun _ _ _ _ _ _ us hl => match us, hl with | [_], _ => rfl
  have e := hfa.symm.trans (He.glo_ok X G (cd.fact 66 (f := .glo "law") rfl))
  cases e
  refine ⟨fd, fun s v => bL s [v] rfl, fun base _ _ => ?_⟩
  have c_divisor : Cal P w K mg base 1 "divisor" ["one", "other"] [] sp_divisor := Cal.mk f_divisor (He.glo_ok X G (cd.fact 38 (f := .glo "divisor") rfl)) b_divisor (ok_divisor f_divisor T)
  have c_point_of : Cal P w K mg base 2 "point_of" ["x", "y", "w"] [] sp_point_of := Cal.mk f_point_of (He.glo_ok X G (cd.fact 39 (f := .glo "point_of") rfl)) b_point_of (ok_point_of f_point_of c_divisor)
  have c_time_of : Cal P w K mg base 2 "time_of" ["top", "bottom"] [] sp_time_of := Cal.mk f_time_of (He.glo_ok X G (cd.fact 40 (f := .glo "time_of") rfl)) b_time_of (ok_time_of f_time_of c_divisor)
  have c_sooner : Cal P w K mg base 1 "sooner" ["one", "other"] [] sp_sooner := Cal.mk f_sooner (He.glo_ok X G (cd.fact 41 (f := .glo "sooner") rfl)) b_sooner (ok_sooner f_sooner)
  have c_added : Cal P w K mg base 3 "added" ["one", "other"] [] sp_added := Cal.mk f_added (He.glo_ok X G (cd.fact 42 (f := .glo "added") rfl)) b_added (ok_added f_added c_time_of)
  have c_spot_at : Cal P w K mg base 3 "spot_at" ["P", "heading", "t"] [] sp_spot_at := Cal.mk f_spot_at (He.glo_ok X G (cd.fact 43 (f := .glo "spot_at") rfl)) b_spot_at (ok_spot_at f_spot_at c_point_of)
  have c_time_along : Cal P w K mg base 3 "time_along" ["P", "heading", "end"] [] sp_time_along := Cal.mk f_time_along (He.glo_ok X G (cd.fact 44 (f := .glo "time_along") rfl)) b_time_along (ok_time_along f_time_along c_time_of)
  have c_line_between : Cal P w K mg base 1 "line_between" ["one", "two"] [] sp_line_between := Cal.mk f_line_between (He.glo_ok X G (cd.fact 50 (f := .glo "line_between") rfl)) b_line_between (ok_line_between f_line_between)
  have c_is_far : Cal P w K mg base 1 "is_far" ["spot"] [] sp_is_far := Cal.mk f_is_far (He.glo_ok X G (cd.fact 51 (f := .glo "is_far") rfl)) b_is_far (ok_is_far f_is_far T)
  have c_mirrored : Cal P w K mg base 1 "mirrored" ["heading", "line"] [] sp_mirrored := Cal.mk f_mirrored (He.glo_ok X G (cd.fact 49 (f := .glo "mirrored") rfl)) b_mirrored (ok_mirrored f_mirrored T)
  have m_line : Mts P w K mg base 2 "line" ["self"] (One (IsW (csOf K)) (sp_line (csOf K))) := mtsW ⟨T.clM, _, _, He.meth_ok (cd.fact 80 (f := .meth "Mirror" "line") rfl), ok_line f_Mline T c_line_between, b_Mline⟩ ⟨T.clG, _, _, He.meth_ok (cd.fact 81 (f := .meth "Glass" "line") rfl), ok_line f_Gline T c_line_between, b_Gline⟩ ⟨T.clH, _, _, He.meth_ok (cd.fact 82 (f := .meth "Hole" "line") rfl), ok_line f_Hline T c_line_between, b_Hline⟩ ⟨T.clD, _, _, He.meth_ok (cd.fact 83 (f := .meth "Door" "line") rfl), ok_line f_Dline T c_line_between, b_Dline⟩
  have m_holds : Mts P w K mg base 1 "holds" ["self", "P"] (One (IsW (csOf K)) (sp_holds (csOf K))) := mtsW ⟨T.clM, _, _, He.meth_ok (cd.fact 84 (f := .meth "Mirror" "holds") rfl), ok_holds f_Mholds T, b_Mholds⟩ ⟨T.clG, _, _, He.meth_ok (cd.fact 85 (f := .meth "Glass" "holds") rfl), ok_holds f_Gholds T, b_Gholds⟩ ⟨T.clH, _, _, He.meth_ok (cd.fact 86 (f := .meth "Hole" "holds") rfl), ok_holds f_Hholds T, b_Hholds⟩ ⟨T.clD, _, _, He.meth_ok (cd.fact 87 (f := .meth "Door" "holds") rfl), ok_holds f_Dholds T, b_Dholds⟩
  have m_ends_at : Mts P w K mg base 1 "ends_at" ["self", "P"] (One (IsW (csOf K)) (sp_ends_at (csOf K))) := mtsW ⟨T.clM, _, _, He.meth_ok (cd.fact 88 (f := .meth "Mirror" "ends_at") rfl), ok_ends_at f_Mends_at T, b_Mends_at⟩ ⟨T.clG, _, _, He.meth_ok (cd.fact 89 (f := .meth "Glass" "ends_at") rfl), ok_ends_at f_Gends_at T, b_Gends_at⟩ ⟨T.clH, _, _, He.meth_ok (cd.fact 90 (f := .meth "Hole" "ends_at") rfl), ok_ends_at f_Hends_at T, b_Hends_at⟩ ⟨T.clD, _, _, He.meth_ok (cd.fact 91 (f := .meth "Door" "ends_at") rfl), ok_ends_at f_Dends_at T, b_Dends_at⟩
  have m_behind : Mts P w K mg base 3 "behind" ["self", "heading", "count"] (Rby (clsOf (csOf K)) (sp_behind (csOf K))) := mtsR ⟨T.clM, _, _, He.meth_ok (cd.fact 92 (f := .meth "Mirror" "behind") rfl), ok_behind0 f_Mbehind T c_mirrored m_line, b_Mbehind⟩ ⟨T.clG, _, _, He.meth_ok (cd.fact 93 (f := .meth "Glass" "behind") rfl), ok_behind1 f_Gbehind, b_Gbehind⟩ ⟨T.clH, _, _, He.meth_ok (cd.fact 94 (f := .meth "Hole" "behind") rfl), ok_behind2 f_Hbehind, b_Hbehind⟩ ⟨T.clD, _, _, He.meth_ok (cd.fact 95 (f := .meth "Door" "behind") rfl), ok_behind3 f_Dbehind T c_mirrored m_line, b_Dbehind⟩
  have m_every : Mts P w K mg base 1 "every" ["self"] (Rby (clsOf (csOf K)) fun k => sp_every (csOf K) (decide (k = 3))) := mtsR ⟨T.clM, _, _, He.meth_ok (cd.fact 96 (f := .meth "Mirror" "every") rfl), ok_every0 f_Mevery, b_Mevery⟩ ⟨T.clG, _, _, He.meth_ok (cd.fact 97 (f := .meth "Glass" "every") rfl), ok_every0 f_Gevery, b_Gevery⟩ ⟨T.clH, _, _, He.meth_ok (cd.fact 98 (f := .meth "Hole" "every") rfl), ok_every0 f_Hevery, b_Hevery⟩ ⟨T.clD, _, _, He.meth_ok (cd.fact 99 (f := .meth "Door" "every") rfl), ok_every3 f_Devery T, b_Devery⟩
  have m_word : Mts P w K mg base 1 "word" ["self"] (Rby (clsOf (csOf K)) (sp_word (csOf K))) := mtsR ⟨T.clM, _, _, He.meth_ok (cd.fact 100 (f := .meth "Mirror" "word") rfl), ok_word0 f_Mword, b_Mword⟩ ⟨T.clG, _, _, He.meth_ok (cd.fact 101 (f := .meth "Glass" "word") rfl), ok_word1 f_Gword, b_Gword⟩ ⟨T.clH, _, _, He.meth_ok (cd.fact 102 (f := .meth "Hole" "word") rfl), ok_word2 f_Hword, b_Hword⟩ ⟨T.clD, _, _, He.meth_ok (cd.fact 103 (f := .meth "Door" "word") rfl), ok_word3 f_Dword, b_Dword⟩
  have c_end_ahead : Cal P w K mg base 4 "end_ahead" ["wall", "P", "heading"] [] (sp_end_ahead (csOf K)) := Cal.mk f_end_ahead (He.glo_ok X G (cd.fact 45 (f := .glo "end_ahead") rfl)) b_end_ahead (ok_end_ahead f_end_ahead T c_time_along c_sooner)
  have c_time_to : Cal P w K mg base 5 "time_to" ["wall", "P", "heading"] [] (sp_time_to (csOf K)) := Cal.mk f_time_to (He.glo_ok X G (cd.fact 46 (f := .glo "time_to") rfl)) b_time_to (ok_time_to f_time_to T c_time_of c_spot_at c_end_ahead m_holds)
  have m_walls : Mts P w K mg base 1 "walls" ["self"] (One (IsR (csOf K)) (sp_walls (csOf K))) := mtsO ⟨T.clR, _, _, He.meth_ok (cd.fact 107 (f := .meth "Room" "walls") rfl), ok_walls f_Rwalls T, b_Rwalls⟩
  have m_on : Mts P w K mg base 2 "on" ["self", "P"] (One (IsR (csOf K)) (sp_on (csOf K))) := mtsO ⟨T.clR, _, _, He.meth_ok (cd.fact 108 (f := .meth "Room" "on") rfl), ok_on f_Ron T m_holds, b_Ron⟩
  have m_is_corner : Mts P w K mg base 3 "is_corner" ["self", "P"] (One (IsR (csOf K)) (sp_is_corner (csOf K))) := mtsO ⟨T.clR, _, _, He.meth_ok (cd.fact 109 (f := .meth "Room" "is_corner") rfl), ok_is_corner f_Ris_corner T m_on m_ends_at, b_Ris_corner⟩
  have c_first_met : Cal P w K mg base 6 "first_met" ["room", "P", "heading"] [] (sp_first_met (csOf K)) := Cal.mk f_first_met (He.glo_ok X G (cd.fact 47 (f := .glo "first_met") rfl)) b_first_met (ok_first_met f_first_met T c_time_to c_sooner c_spot_at m_walls m_on)
  have m_hit_at : Mts P w K mg base 4 "hit_at" ["self", "number", "now", "point"] (One (IsF (csOf K)) (sp_hit_at (csOf K))) := mtsO ⟨T.clF, _, _, He.meth_ok (cd.fact 105 (f := .meth "Flight" "hit_at") rfl), ok_hit_at f_Fhit_at T m_walls m_behind, b_Fhit_at⟩
  have m_step : Mts P w K mg base 7 "step" ["self"] (One (IsF (csOf K)) (sp_step (csOf K))) := mtsO ⟨T.clF, _, _, He.meth_ok (cd.fact 104 (f := .meth "Flight" "step") rfl), ok_step f_Fstep T c_first_met c_added m_is_corner m_hit_at, b_Fstep⟩
  have m_outcome : Mts P w K mg base 1 "outcome" ["self"] (One (IsF (csOf K)) (sp_outcome (csOf K))) := mtsO ⟨T.clF, _, _, He.meth_ok (cd.fact 106 (f := .meth "Flight" "outcome") rfl), ok_outcome f_Foutcome T, b_Foutcome⟩
  have c_Flight : Mak P w K mg base 3 (csOf K).F "Flight" ["self", "room", "P", "heading"] [] (sp_Flight (csOf K)) := ⟨_, _, [], He.mkr_ok (cd.fact 78 (f := .mkr "Flight") rfl), ok_Flight f_Finit T m_on m_walls, He.glo_ok X G (cd.fact 71 (f := .glo "Flight") rfl), b_Finit, .nil⟩
  have c_flown : Cal P w K mg base 8 "flown" ["room", "P", "heading", "most"] [] (sp_flown (csOf K)) := ⟨_, _, ds_flown, ok_flown f_flown T c_Flight m_step m_outcome, He.glo_ok X G (cd.fact 52 (f := .glo "flown") rfl), fx_kp f_flown, b_flown, v_flown⟩
  have c_flown12 : Cal P w K mg base 8 "flown" ["room", "P", "heading", "most"] [.int 12] (sp_flown (csOf K)) := ⟨_, _, es_flown, ok_flown f_flown T c_Flight m_step m_outcome, He.glo_ok X G (cd.fact 52 (f := .glo "flown") rfl), fx_kp f_flown, a_flown, u_flown⟩
  have c_are_upon : Cal P w K mg base 3 "are_upon" ["wall", "other"] [] (sp_are_upon (csOf K)) := Cal.mk f_are_upon (He.glo_ok X G (cd.fact 48 (f := .glo "are_upon") rfl)) b_are_upon (ok_are_upon f_are_upon T m_line)
  have c_Room : Mak P w K mg base 4 (csOf K).R "Room" ["self", "walls"] [] (sp_Room (csOf K)) := ⟨_, _, [], He.mkr_ok (cd.fact 79 (f := .mkr "Room") rfl), ok_Room f_Rinit T c_are_upon, He.glo_ok X G (cd.fact 72 (f := .glo "Room") rfl), b_Rinit, .nil⟩
  have c_Mirror : Mak P w K mg base 2 (csOf K).M "Mirror" ["self", "one", "two"] [] (sp_Wall (csOf K)) := ⟨_, _, [], He.mkr_ok (cd.fact 74 (f := .mkr "Mirror") rfl), ok_Wall f_Minit T c_line_between c_is_far, He.glo_ok X G (cd.fact 67 (f := .glo "Mirror") rfl), b_Minit, .nil⟩
  have c_Glass : Mak P w K mg base 2 (csOf K).G "Glass" ["self", "one", "two"] [] (sp_Wall (csOf K)) := ⟨_, _, [], He.mkr_ok (cd.fact 75 (f := .mkr "Glass") rfl), ok_Wall f_Ginit T c_line_between c_is_far, He.glo_ok X G (cd.fact 68 (f := .glo "Glass") rfl), b_Ginit, .nil⟩
  have c_Hole : Mak P w K mg base 2 (csOf K).H "Hole" ["self", "one", "two"] [] (sp_Wall (csOf K)) := ⟨_, _, [], He.mkr_ok (cd.fact 76 (f := .mkr "Hole") rfl), ok_Wall f_Hinit T c_line_between c_is_far, He.glo_ok X G (cd.fact 69 (f := .glo "Hole") rfl), b_Hinit, .nil⟩
  have c_Wall_init : Cin P w K mg base 2 "Wall" "__init__" ["self", "one", "two"] (sp_Wall (csOf K)) := ⟨_, _, fd_Winit, _, WR, WF, ok_Wall f_Winit T c_line_between c_is_far, He.glo_ok X G (cd.fact 73 (f := .glo "Wall") rfl), f_Winit.kp, b_Winit⟩
  have c_Door : Mak P w K mg base 3 (csOf K).D "Door" ["self", "one", "two", "every"] [] (sp_Door (csOf K)) := ⟨_, _, ds_Dinit, He.mkr_ok (cd.fact 77 (f := .mkr "Door") rfl), ok_Door f_Dinit T c_Wall_init, He.glo_ok X G (cd.fact 70 (f := .glo "Door") rfl), b_Dinit, v_Dinit⟩
  have c_Door2 : Mak P w K mg base 3 (csOf K).D "Door" ["self", "one", "two", "every"] [.int 2] (sp_Door (csOf K)) := ⟨_, _, es_Dinit, He.mkr_ok (cd.fact 77 (f := .mkr "Door") rfl), ok_Door f_Dinit T c_Wall_init, He.glo_ok X G (cd.fact 70 (f := .glo "Door") rfl), a_Dinit, u_Dinit⟩
  have c_law_cell_at : Cal P w K mg base 1 "_law_cell_at" ["_law_script", "_law_k"] [] (sp_cell_at K) := Cal.mk f_law_cell_at (He.glo_ok X G (cd.fact 53 (f := .glo "_law_cell_at") rfl)) b_law_cell_at (ok_cell_at f_law_cell_at T)
  have c_law_common : Cal P w K mg base 1 "_law_common" ["_law_a", "_law_b"] [] sp_common := Cal.mk f_law_common (He.glo_ok X G (cd.fact 54 (f := .glo "_law_common") rfl)) b_law_common (ok_common f_law_common T)
  have c_law_pieces : Cal P w K mg base 1 "_law_pieces" ["_law_x", "_law_y", "_law_line", "_law_long"] [] sp_pieces := Cal.mk f_law_pieces (He.glo_ok X G (cd.fact 55 (f := .glo "_law_pieces") rfl)) b_law_pieces (ok_pieces f_law_pieces T)
  have c_law_row_by : Cal P w K mg base 1 "_law_row_by" ["_law_number", "_law_wide", "_law_high"] [] sp_row_by := Cal.mk f_law_row_by (He.glo_ok X G (cd.fact 56 (f := .glo "_law_row_by") rfl)) b_law_row_by (ok_row_by f_law_row_by T)
  have c_law_fences : Cal P w K mg base 2 "_law_fences" ["_law_cells", "_law_wide", "_law_high", "_law_framed", "_law_words", "_law_numbers"] [] (sp_fences K) := Cal.mk f_law_fences (He.glo_ok X G (cd.fact 57 (f := .glo "_law_fences") rfl)) b_law_fences (ok_fences f_law_fences T c_law_row_by c_law_pieces)
  have c_law_built : Cal P w K mg base 5 "_law_built" ["_law_fence", "_law_turned"] [] (sp_built (csOf K)) := Cal.mk f_law_built (He.glo_ok X G (cd.fact 58 (f := .glo "_law_built") rfl)) b_law_built (ok_built f_law_built T c_Mirror c_Glass c_Hole c_Door c_Door2)
  have c_law_on : Cal P w K mg base 1 "_law_on" ["_law_fence", "_law_spot"] [] sp_law_on := Cal.mk f_law_on (He.glo_ok X G (cd.fact 59 (f := .glo "_law_on") rfl)) b_law_on (ok_law_on f_law_on)
  have c_law_brought : Cal P w K mg base 2 "_law_brought" ["_law_x", "_law_y", "_law_w"] [] sp_brought := Cal.mk f_law_brought (He.glo_ok X G (cd.fact 60 (f := .glo "_law_brought") rfl)) b_law_brought (ok_brought f_law_brought T c_law_common)
  have c_law_start : Cal P w K mg base 3 "_law_start" ["_law_fences_here", "_law_cells", "_law_wide", "_law_high", "_law_bottom"] [] sp_start := Cal.mk f_law_start (He.glo_ok X G (cd.fact 61 (f := .glo "_law_start") rfl)) b_law_start (ok_start f_law_start c_law_brought c_law_on)
  have c_law_heading : Cal P w K mg base 2 "_law_heading" ["_law_a", "_law_b"] [] sp_heading := Cal.mk f_law_heading (He.glo_ok X G (cd.fact 62 (f := .glo "_law_heading") rfl)) b_law_heading (ok_heading f_law_heading c_law_common)
  have c_law_steps : Cal P w K mg base 8 "_law_steps" ["_law_room", "_law_spot", "_law_way", "_law_most"] [] (sp_flown (csOf K)) := Cal.mk f_law_steps (He.glo_ok X G (cd.fact 63 (f := .glo "_law_steps") rfl)) b_law_steps (ok_steps f_law_steps T c_Flight m_step m_outcome)
  have c_law_as_steps : Cal P w K mg base 1 "_law_as_steps" ["_law_heard", "_law_due"] [] (sp_as_steps (csOf K)) := Cal.mk f_law_as_steps (He.glo_ok X G (cd.fact 64 (f := .glo "_law_as_steps") rfl)) b_law_as_steps (ok_as_steps f_law_as_steps T)
  have c_law_stay : Cal P w K mg base 2 "_law_stay" ["_law_stay_here", "_law_shuts"] [] (sp_stay (csOf K)) := Cal.mk f_law_stay (He.glo_ok X G (cd.fact 65 (f := .glo "_law_stay") rfl)) b_law_stay (ok_stay f_law_stay T m_word m_every)
  exact ok_law (fun_of D) T c_law_cell_at c_law_fences c_law_built c_Room c_law_start c_law_heading c_flown c_flown12 c_law_steps c_law_as_steps c_law_stay m_walls

end Bw
open PySem PySem.W PySem.Calls PyProof.Rows in
theorem PySem.Challenge.cw_bouncewise_k45_flown_by_steps_holds : PySem.Challenge.rw_bouncewise_k45_flown_by_steps.Holds := by
  w_on; o_law
  refine HandSHeadRun.head_any (r := OpenLaw.row PySem.Challenge.rw_bouncewise_k45_flown_by_steps) (q := view (OpenLaw.row PySem.Challenge.rw_bouncewise_k45_flown_by_steps).prog [59]) (H := Bw.hk) (ob := Bw.obS) (M := 20000) (loose := Bw.looseS) (d := HandSHeadRun.topDef (OpenLaw.row PySem.Challenge.rw_bouncewise_k45_flown_by_steps).prog 59) (kwd := []) Bw.ob_eq
    (by kernel_rfl) (fun s => by kernel_rfl) Bw.run (by kernel_rfl) (by kernel_rfl) (by kernel_rfl) (by rfl) (by first | assumption | decide +kernel) (by decide +kernel) ⟨rfl, rfl, rfl, rfl, rfl, by decide +kernel⟩ ?hw ?hc
  case hw => w_witness2
  case hc =>
    refine L2.walk_ofE (l := PySem.Challenge.rw_bouncewise_k45_flown_by_steps) (n := 63) (k := 9) (x := "_law_script") (CX := L2.CX0) rfl (by decide) (by kernel_rfl) ⟨rfl, by decide, by decide⟩ ?F (fun _ _ _ _ z => z)
    intro w mg fa h Y G hmg0
    obtain ⟨K, KX, c⟩ := Y
    have hmg : mg (("law" : PySem.Str)) = some (.ref fa) := by
      have e : (HandSHeadRun.topDef (OpenLaw.row PySem.Challenge.rw_bouncewise_k45_flown_by_steps).prog 59).name = ("law" : PySem.Str) := by kernel_rfl
      rw [← e]
      exact hmg0
    obtain ⟨fd, hb, hF⟩ := Bw.facts (P := (PySem.Challenge.rw_bouncewise_k45_flown_by_steps).prog) (w := w) KX G hmg c
    exact ⟨K, fd, Bw.sp_law K, KX, hb, fun H a ns hl _ hS => ⟨(.ref a, ns), rfl, ⟨a, rfl, hS⟩, fun v H' e => e⟩, hF⟩
end
