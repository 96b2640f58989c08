import PyProof.Rows.All
import Wide.All
import OpenK.AllK
import Wide.FinOn
import KE.KStateDown
import Lean
import KE.GoesEnum
import KE.GoesZip
import HandS.Base
import HandS.Call
import HandS.List
import HandS.Comp
import HandS.Ends
import HandS.Dict
import HandS.Iter
import HandS.Text
import HandS.More
import HandS.Words
import HandS.WordsList
import HandS.WordsDict
import HandS.WordsExc
import HandS.Flow
import HandS.Deep
import HandS.Conv
import HandS.Zip
import HandS.TupAny
import HandS.IsInst
import HandS.Defaults
import HandS.TryElse
import HandS.StrMore
import HandS.Style
import HandS.SetFor
import HandS.NoneIn
import HandS.Wide
import HandS.Head0
import HandS.Head1
import HandS.Head2
import HandS.HeadEnd
import HandS.HeadHook1
import HandS.HeadHook2
import HandS.HeadHook3
import HandS.HeadHook4
import PySem.Challenge.RW_rodleg_k56_whole_texts
import HandS.Walk
import KE.KDictZip
import KE.GoesMore
import KE.KItemsList
import PyProof.P3Eq
set_option Elab.async false
set_option linter.all false
set_option maxRecDepth 100000
set_option maxHeartbeats 4000000
/-! ## A. The layer's own further rules -/
namespace Rod
open PySem PySem.Spec PyProof.Rows L2
/-! ### calls by name, packed: what a global's call keeps, whatever it is (a def, a class) -/
abbrev S1 := List V → Hp → VK → Prop
def up (sp : S1) : Sp := fun vs H Q _ => sp vs H Q
def tG (sp : S1) (t : TA) : TE := fun σ H Q => t σ H fun vs H1 => sp vs H1 Q
/-- what runs: the call of the object at f keeps sp, where there is room -/
def Runs (P : Program) (w : World) (K : PySem.W.Frag) (mg : Str → Option Value) (base : Heap) (k : Nat) (f : Addr) (sp : S1) : Prop :=
  ∀ (X : Cx), X.prog = P → X.w = w → X.K = K → X.mg = mg → X.base = base → Room k X.A → ∀ {pins : List (Addr × Obj)} {σ : L2.St} {H : Hp} {s : Shared} {Q : VK} {us : List Value} {vs : List V},
    Inv X pins σ H s → Vals vs us → sp vs H Q → wpAny (model X.prog X.w) X.A (call (.ref f) us) (EP X pins σ Q) X.xe s
structure GC (P : Program) (w : World) (K : PySem.W.Frag) (mg : Str → Option Value) (base : Heap) (k : Nat) (x : Str) (sp : S1) : Prop where
  ex : ∃ f : Addr, mg x = some (.ref f) ∧ PySem.W.keepIn K (.ref f) = true ∧ Runs P w K mg base k f sp
section
variable {P : Program} {w : World} {K : PySem.W.Frag} {mg : Str → Option Value} {base : Heap} {k j : Nat} {x m : Str} {sp sp' : S1}
theorem Runs.imp {f : Addr} (R : Runs P w K mg base k f sp) (h : ∀ vs H Q, sp' vs H Q → sp vs H Q) : Runs P w K mg base k f sp' := fun X e1 e2 e3 e4 e5 hr _ _ _ _ _ _ _ I r q => R X e1 e2 e3 e4 e5 hr I r (h _ _ _ q)
theorem GC.imp (G : GC P w K mg base k x sp) (h : ∀ vs H Q, sp' vs H Q → sp vs H Q) : GC P w K mg base k x sp' := by
  obtain ⟨f, a, b, c⟩ := G.ex
  exact ⟨f, a, b, c.imp h⟩
theorem runs_fn {f : Addr} {fd : FuncData} {ps : List Str} {dvs : List V} {ds : List Value} (F : FnOk P w K mg base CX0 k f fd ps (up sp)) (hb : Binds K fd ps ds) (hd : Vals dvs ds) : Runs P w K mg base k f (fun vs H Q => sp (vs ++ dvs) H Q) := by
  intro X e1 e2 e3 e4 e5 hr pins σ H s Q us vs I r h
  subst e1 e2 e3 e4 e5
  exact run_fn (CX := CX0) (E := E0) F hr hb hd pass0 I r h
theorem runs_fn0 {f : Addr} {fd : FuncData} {ps : List Str} (F : FnOk P w K mg base CX0 k f fd ps (up sp)) (hb : Binds K fd ps []) : Runs P w K mg base k f sp :=
  (runs_fn F hb .nil).imp fun vs H Q h => by
    rw [List.append_nil]
    exact h
theorem gc_fn {f : Addr} {fd : FuncData} {ps : List Str} (F : FnOk P w K mg base CX0 k f fd ps (up sp)) (hm : mg x = some (.ref f)) (kp : PySem.W.keepIn K (.ref f) = true) (hb : Binds K fd ps []) : GC P w K mg base k x sp :=
  ⟨f, hm, kp, runs_fn0 F hb⟩
theorem gc_fnD {f : Addr} {fd : FuncData} {ps : List Str} {dvs : List V} {ds : List Value} (F : FnOk P w K mg base CX0 k f fd ps (up sp)) (hm : mg x = some (.ref f)) (kp : PySem.W.keepIn K (.ref f) = true) (hb : Binds K fd ps ds) (hd : Vals dvs ds) :
    GC P w K mg base k x (fun vs H Q => sp (vs ++ dvs) H Q) := ⟨f, hm, kp, runs_fn F hb hd⟩
/-- a class, by its __init__ -/
theorem gc_make {C f : Addr} {fd : FuncData} {ps : List Str} {dvs : List V} {ds : List Value} (M : Mk K C f) (F : FnOk P w K mg base CX0 k f fd ps (up sp)) (hm : mg x = some (.ref C)) (hb : Binds K fd ps ds) (hd : Vals dvs ds)
    (h : ∀ vs H Q, sp' vs H Q → ∀ y dx, H y = none → H dx = none → dx ≠ y → sp (.ref y :: (vs ++ dvs)) (upd (upd H dx (.own y)) y (.ins C dx [])) fun v H2 => v = .non ∧ Q (.ref y) H2) : GC P w K mg base (k + 1) x sp' := by
  refine ⟨C, hm, M.kp, ?_⟩
  intro X e1 e2 e3 e4 e5 hr pins σ H s Q us vs I r q
  subst e1 e2 e3 e4 e5
  exact run_make (CX := CX0) (E := E0) M F hr hb hd pass0 I r (h vs H Q q)
/-- a class without an __init__ but object's, called without arguments -/
theorem gc_bare {C : Addr} (hmk : PySem.W.makesIn K C = true) (hi : PySem.W.findIn K (.ref C) "__init__" = some (some (.builtin "object.__init__"))) (kp : PySem.W.keepIn K (.ref C) = true) (hm : mg x = some (.ref C))
    (h : ∀ vs H Q, sp vs H Q → vs = [] ∧ ∀ y dx, H y = none → H dx = none → dx ≠ y → Q (.ref y) (upd (upd H dx (.own y)) y (.ins C dx []))) : GC P w K mg base k x sp := by
  refine ⟨C, hm, kp, ?_⟩
  intro X e1 e2 e3 e4 e5 hr pins σ H s Q us vs I r q
  subst e1 e2 e3 e4 e5
  obtain ⟨ev, q1⟩ := h vs H Q q
  subst ev
  cases r
  have I2 := Inv.made (C := C) I
  have q2 := q1 (s.heap.objs.size + 1) s.heap.objs.size (I.hok.fresh (Nat.le_succ _)) (I.hok.fresh (Nat.le_refl _)) (Nat.ne_of_lt (Nat.lt_succ_self _))
  have Y := PySem.W.makes_of (M := model X.prog X.w) I.kIn hmk
  refine wpAny_call (make_map0 I.kIn hmk hi (fun self => PySem.W.Looks.of_pure (PySem.W.oi_bind self)) ?_)
  have N1 : ((s.heap.push PySem.W.emptyDict).push (PySem.W.instObj C s.heap.objs.size)).get? (s.heap.objs.size + 1) = some (PySem.W.instObj C s.heap.objs.size) := by
    have e := Heap.get?_push_size (s.heap.push PySem.W.emptyDict) (o := PySem.W.instObj C s.heap.objs.size) rfl
    rw [Heap.size_push] at e
    exact e
  have t1 : PySem.W.Looks (model X.prog X.w) ((s.heap.push PySem.W.emptyDict).push (PySem.W.instObj C s.heap.objs.size)) (typeOf (.ref (s.heap.objs.size + 1))) (.ref C) := (PySem.W.Looks.ld N1).andThen .now
  have t2 : PySem.W.Looks (model X.prog X.w) ((s.heap.push PySem.W.emptyDict).push (PySem.W.instObj C s.heap.objs.size)) (isInstance (.ref (s.heap.objs.size + 1)) (.type "object")) true :=
    t1.andThen (Y.top.keeps fun b o e => Heap.get?_push_of_some _ (Heap.get?_push_of_some _ e))
  refine codeAny_call_builtin PySem.W.oi_plain PySem.W.entry_oi (@PySem.W.check_slot (model X.prog X.w) _ _ _ "object.__init__" "object" "__init__" (.ref (s.heap.objs.size + 1)) [] [] _ PySem.W.oi_kind PySem.W.oi_split t2 (PySem.W.oi_args (.ref (s.heap.objs.size + 1))) ?_)
  rw [PySem.W.oi_run]
  exact wpAny_pure (And.intro rfl ⟨V.ref (s.heap.objs.size + 1), _, I2, rfl, q2⟩)
end
section
variable {X : Cx} {k j : Nat} {x m : Str} {p pos apos : Pos} {e o : Expr} {es : List Expr} {t : TA} {ta : TE} {sp : S1}
theorem pe_gc (G : GC X.prog X.w X.K X.mg X.base k x sp) (hr : Room j X.A) (hk : k ≤ j) (hg : Gl X x) (ha : PA X (e :: es) t) (hdb : (x == ("__debug__" : Str)) = false := by decide)
    (he : starEach (e :: es) X.env = (false, eval e X.env) :: starEach es X.env := by rfl) (hpl : (backTo pos (starEach es X.env)).any (·.1) = false := by rfl) : PE X (.Call (.Name x p) (e :: es) [] pos) (tG sp t) := by
  refine ⟨fun pins s σ H Q I h => ?_⟩
  obtain ⟨f, hm, kp, run⟩ := G.ex
  refine wpAny_Call_Name_kw (ld_glob I hg hm ?_ hdb)
  refine PySem.W.callWith_K (h₀ := X.base) I.ok.mod.kin kp (thn (ha.run pos pins s σ H _ I h) fun us s1 ⟨vs, H1, I1, r, q⟩ => ⟨I1.kIn, ?_⟩) he hpl
  exact run X rfl rfl rfl rfl rfl (hr.mono hk) I1 r q
theorem pe_gc0 (G : GC X.prog X.w X.K X.mg X.base k x sp) (hr : Room j X.A) (hk : k ≤ j) (hg : Gl X x) (hdb : (x == ("__debug__" : Str)) = false := by decide) : PE X (.Call (.Name x p) [] [] pos) (tG sp tNil) := by
  refine ⟨fun pins s σ H Q I h => ?_⟩
  obtain ⟨f, hm, kp, run⟩ := G.ex
  refine wpAny_Call_Name_kw (ld_glob I hg hm ?_ hdb)
  exact PySem.W.callWith_K0 I.kIn kp (run X rfl rfl rfl rfl rfl (hr.mono hk) I .nil h)
end
/-! ### methods, the class found by what is known of the receiver -/
structure VM (P : Program) (w : World) (K : PySem.W.Frag) (mg : Str → Option Value) (base : Heap) (k : Nat) (m : Str) {ι : Type} (Rc : ι → V → Hp → Prop) (sp : ι → S1) : Prop where
  ex : ∀ (i : ι) (x : V) (H : Hp), Rc i x H → ∃ (a C dx : Addr) (fs : List (Str × V)) (f : Addr), x = .ref a ∧ H a = some (.ins C dx fs) ∧ fs.lookup m = none ∧ Cls K C ∧ Meth K C m f ∧ Runs P w K mg base k f (fun vs H' Q => ∃ r, vs = x :: r ∧ sp i vs H' Q)
def tVM {ι : Type} (Rc : ι → V → Hp → Prop) (sp : ι → S1) (ta : TE) (t : TA) : TE := fun σ H Q => ta σ H fun x H1 => ∃ i, Rc i x H1 ∧ t σ H1 fun vs H2 => sp i (x :: vs) H2 Q
section
variable {P : Program} {w : World} {K : PySem.W.Frag} {mg : Str → Option Value} {base : Heap} {k j : Nat} {m : Str}
/-- one class -/
theorem vm_one {ι : Type} {Rc : ι → V → Hp → Prop} {sp : ι → S1} {sp0 : S1} {C f : Addr} {fd : FuncData} {ps : List Str} (c : Cls K C) (hm : Meth K C m f) (F : FnOk P w K mg base CX0 k f fd ps (up sp0)) (hb : Binds K fd ps [])
    (hR : ∀ i x H, Rc i x H → ∃ a dx fs, x = V.ref a ∧ H a = some (.ins C dx fs) ∧ fs.lookup m = none) (hs : ∀ i vs H Q, sp i vs H Q → sp0 vs H Q) : VM P w K mg base k m Rc sp := by
  refine ⟨fun i x H h => ?_⟩
  obtain ⟨a, dx, fs, e, ha, hn⟩ := hR i x H h
  exact ⟨a, C, dx, fs, f, e, ha, hn, c, hm, (runs_fn0 F hb).imp fun vs H Q ⟨_, _, q⟩ => hs i vs H Q q⟩
end
section
variable {X : Cx} {k j : Nat} {x m : Str} {p pos apos : Pos} {e o : Expr} {es : List Expr} {t : TA} {ta : TE} {ι : Type} {Rc : ι → V → Hp → Prop} {sp : ι → S1}
theorem pe_vm {pl : Sem Bool} (G : VM X.prog X.w X.K X.mg X.base k m Rc sp) (hr : Room j X.A) (hk : k ≤ j) (ho : PE X o ta) (ha : PA X (e :: es) t)
    (hst : starEach (e :: es) X.env = (false, eval e X.env) :: starEach es X.env := by rfl) (hpl : (backTo pos (starEach es X.env)).any (·.1) = false := by rfl)
    (ht : eval (.Call (.Attribute o m apos) (e :: es) [] pos) X.env = (do
      let ov ← eval o X.env
      standAt apos.atName
      let (f, first) ← holding [ov] (getMethod ov m pl)
      callWith pos f first (backTo pos (starEach (e :: es) X.env)) (backToKw pos (keywordEach [] X.env))) := by rfl) :
    PE X (.Call (.Attribute o m apos) (e :: es) [] pos) (tVM Rc sp ta t) := by
  refine ⟨fun pins s σ H Q I h => ?_⟩
  refine PySem.W.methodCall_KW (pl := pl) (thn (ho.run pins s σ H _ I h) fun u s1 ⟨x, H1, I1, rx, i, rc, q⟩ => ?_) ht
  obtain ⟨a, C, dx, fs, f, ex, ea, hl, c, hm, run⟩ := G.ex i x H1 rc
  subst ex
  obtain rfl : u = Value.ref a := rx
  refine getmeth_ok I1 ea c hm hl ?_
  refine PySem.W.callWith_K (first := [.ref a]) (h₀ := X.base) I.ok.mod.kin hm.kp (thn (ha.run pos pins s1 σ H1 _ I1 q) fun us s2 ⟨vs, H2, I2, r, q2⟩ => ⟨I2.kIn, ?_⟩) hst hpl
  exact run X rfl rfl rfl rfl rfl (hr.mono hk) (us := .ref a :: us) (vs := .ref a :: vs) I2 (.cons rfl r) ⟨vs, rfl, q2⟩
theorem pe_vm0 {pl : Sem Bool} (G : VM X.prog X.w X.K X.mg X.base k m Rc sp) (hr : Room j X.A) (hk : k ≤ j) (ho : PE X o ta)
    (ht : eval (.Call (.Attribute o m apos) [] [] pos) X.env = (do
      let ov ← eval o X.env
      standAt apos.atName
      let (f, first) ← holding [ov] (getMethod ov m pl)
      callWith pos f first (backTo pos (starEach [] X.env)) (backToKw pos (keywordEach [] X.env))) := by rfl) :
    PE X (.Call (.Attribute o m apos) [] [] pos) (tVM Rc sp ta tNil) := by
  refine ⟨fun pins s σ H Q I h => ?_⟩
  refine PySem.W.methodCall_KW (pl := pl) (thn (ho.run pins s σ H _ I h) fun u s1 ⟨x, H1, I1, rx, i, rc, q⟩ => ?_) ht
  obtain ⟨a, C, dx, fs, f, ex, ea, hl, c, hm, run⟩ := G.ex i x H1 rc
  subst ex
  obtain rfl : u = Value.ref a := rx
  refine getmeth_ok I1 ea c hm hl ?_
  exact PySem.W.callWith_K0 (first := [.ref a]) I1.kIn hm.kp (run X rfl rfl rfl rfl rfl (hr.mono hk) (us := [.ref a]) (vs := [.ref a]) I1 (.cons rfl .nil) ⟨[], rfl, q⟩)
end
end Rod
set_option Elab.async false
set_option linter.all false
set_option maxRecDepth 100000
set_option maxHeartbeats 0
namespace Rod
open PySem PySem.Spec PyProof.Rows L2
def top (i : Nat) : Stmt := PySem.Challenge.pw_rodleg_k56_whole_texts.main.body.getD i (.Pass ⟨0, 0, 0, 0⟩)
abbrev s_way_of : Stmt := top 2
abbrev s_choice_of : Stmt := top 40
abbrev s_common : Stmt := top 42
abbrev s_are_figures : Stmt := top 46
abbrev s_read_fraction : Stmt := top 47
abbrev s_put_otherwise : Stmt := top 60
abbrev s_with_point : Stmt := top 61
abbrev s_point_of : Stmt := top 62
abbrev s_rows_of : Stmt := top 72
abbrev s_written : Stmt := top 73
abbrev s_is_plain : Stmt := top 80
abbrev s_is_name : Stmt := top 81
abbrev s_words_of : Stmt := top 82
abbrev s_are_names : Stmt := top 87
abbrev s_give_of : Stmt := top 88
abbrev s_choice_told : Stmt := top 89
abbrev s_meet_of : Stmt := top 90
abbrev s_use_of : Stmt := top 91
abbrev s_step_of : Stmt := top 92
abbrev s_head_of : Stmt := top 93
abbrev s_read : Stmt := top 95
abbrev s_L_cell_at : Stmt := top 97
abbrev s_L_mixed : Stmt := top 98
abbrev s_L_names : Stmt := top 99
abbrev s_L_figures : Stmt := top 100
abbrev s_L_fraction : Stmt := top 101
abbrev s_L_same : Stmt := top 102
abbrev s_L_choice : Stmt := top 103
abbrev s_L_step : Stmt := top 104
abbrev s_L_kinds_made : Stmt := top 105
abbrev s_L_helper : Stmt := top 106
abbrev s_L_parts : Stmt := top 107
abbrev s_L_row : Stmt := top 108
abbrev s_L_rows : Stmt := top 109
abbrev s_L_step_told : Stmt := top 110
abbrev s_L_plan_told : Stmt := top 111
abbrev s_L_bare : Stmt := top 112
abbrev s_L_steps : Stmt := top 113
abbrev s_law : Stmt := top 114
abbrev s_First_words : Stmt := inClass (top 30) 0
abbrev s_Last_words : Stmt := inClass (top 31) 0
abbrev s_LeftOne_words : Stmt := inClass (top 32) 0
abbrev s_RightOne_words : Stmt := inClass (top 33) 0
abbrev s_Near_init : Stmt := inClass (top 35) 0
abbrev s_Near_words : Stmt := inClass (top 35) 1
abbrev s_Far_init : Stmt := inClass (top 36) 0
abbrev s_Far_words : Stmt := inClass (top 36) 1
abbrev s_Other_init : Stmt := inClass (top 38) 0
abbrev s_Other_words : Stmt := inClass (top 38) 1
abbrev s_Fraction_init : Stmt := inClass (top 45) 0
abbrev s_Fraction_told : Stmt := inClass (top 45) 7
abbrev s_Fraction_text : Stmt := inClass (top 45) 8
abbrev s_Step_asks : Stmt := inClass (top 63) 0
abbrev s_Step_makes : Stmt := inClass (top 63) 1
abbrev s_Give_init : Stmt := inClass (top 64) 0
abbrev s_Give_told : Stmt := inClass (top 64) 1
abbrev s_Give_renamed : Stmt := inClass (top 64) 2
abbrev s_Give_row : Stmt := inClass (top 64) 3
abbrev s_Through_init : Stmt := inClass (top 65) 0
abbrev s_Through_asks : Stmt := inClass (top 65) 1
abbrev s_Through_told : Stmt := inClass (top 65) 3
abbrev s_Through_renamed : Stmt := inClass (top 65) 4
abbrev s_Through_row : Stmt := inClass (top 65) 5
abbrev s_About_init : Stmt := inClass (top 66) 0
abbrev s_About_asks : Stmt := inClass (top 66) 1
abbrev s_About_told : Stmt := inClass (top 66) 3
abbrev s_About_renamed : Stmt := inClass (top 66) 4
abbrev s_About_row : Stmt := inClass (top 66) 5
abbrev s_Crossing_init : Stmt := inClass (top 67) 0
abbrev s_Crossing_asks : Stmt := inClass (top 67) 1
abbrev s_Crossing_told : Stmt := inClass (top 67) 3
abbrev s_Crossing_renamed : Stmt := inClass (top 67) 4
abbrev s_Crossing_row : Stmt := inClass (top 67) 5
abbrev s_Use_init : Stmt := inClass (top 68) 0
abbrev s_Use_asks : Stmt := inClass (top 68) 1
abbrev s_Use_makes : Stmt := inClass (top 68) 2
abbrev s_Use_told : Stmt := inClass (top 68) 3
abbrev s_Use_renamed : Stmt := inClass (top 68) 4
abbrev s_Use_row : Stmt := inClass (top 68) 5
abbrev s_Helper_init : Stmt := inClass (top 70) 0
abbrev s_Helper_told : Stmt := inClass (top 70) 1
abbrev s_Plan_init : Stmt := inClass (top 71) 0
abbrev s_Plan_told : Stmt := inClass (top 71) 1
abbrev s_Reading_init : Stmt := inClass (top 94) 0
abbrev s_Reading_take_head : Stmt := inClass (top 94) 1
abbrev s_Reading_take_end : Stmt := inClass (top 94) 2
abbrev s_Reading_take : Stmt := inClass (top 94) 3
abbrev s_Give_asks : Stmt := inClass (top 63) 0
abbrev s_Give_makes : Stmt := inClass (top 63) 1
abbrev s_Through_makes : Stmt := inClass (top 63) 1
abbrev s_About_makes : Stmt := inClass (top 63) 1
abbrev s_Crossing_makes : Stmt := inClass (top 63) 1
def d_way_of : He.DefD := ⟨("way_of", none), "way_of", "way_of", defArgs s_way_of, defBody s_way_of, defScope s_way_of, [], []⟩
def d_choice_of : He.DefD := ⟨("choice_of", none), "choice_of", "choice_of", defArgs s_choice_of, defBody s_choice_of, defScope s_choice_of, [], []⟩
def d_common : He.DefD := ⟨("common", none), "common", "common", defArgs s_common, defBody s_common, defScope s_common, [], []⟩
def d_are_figures : He.DefD := ⟨("are_figures", none), "are_figures", "are_figures", defArgs s_are_figures, defBody s_are_figures, defScope s_are_figures, [], []⟩
def d_read_fraction : He.DefD := ⟨("read_fraction", none), "read_fraction", "read_fraction", defArgs s_read_fraction, defBody s_read_fraction, defScope s_read_fraction, [.int 60], []⟩
def d_put_otherwise : He.DefD := ⟨("put_otherwise", none), "put_otherwise", "put_otherwise", defArgs s_put_otherwise, defBody s_put_otherwise, defScope s_put_otherwise, [], []⟩
def d_with_point : He.DefD := ⟨("with_point", none), "with_point", "with_point", defArgs s_with_point, defBody s_with_point, defScope s_with_point, [], []⟩
def d_point_of : He.DefD := ⟨("point_of", none), "point_of", "point_of", defArgs s_point_of, defBody s_point_of, defScope s_point_of, [], []⟩
def d_rows_of : He.DefD := ⟨("rows_of", none), "rows_of", "rows_of", defArgs s_rows_of, defBody s_rows_of, defScope s_rows_of, [], []⟩
def d_written : He.DefD := ⟨("written", none), "written", "written", defArgs s_written, defBody s_written, defScope s_written, [], []⟩
def d_is_plain : He.DefD := ⟨("is_plain", none), "is_plain", "is_plain", defArgs s_is_plain, defBody s_is_plain, defScope s_is_plain, [], []⟩
def d_is_name : He.DefD := ⟨("is_name", none), "is_name", "is_name", defArgs s_is_name, defBody s_is_name, defScope s_is_name, [], []⟩
def d_words_of : He.DefD := ⟨("words_of", none), "words_of", "words_of", defArgs s_words_of, defBody s_words_of, defScope s_words_of, [], []⟩
def d_are_names : He.DefD := ⟨("are_names", none), "are_names", "are_names", defArgs s_are_names, defBody s_are_names, defScope s_are_names, [], []⟩
def d_give_of : He.DefD := ⟨("give_of", none), "give_of", "give_of", defArgs s_give_of, defBody s_give_of, defScope s_give_of, [], []⟩
def d_choice_told : He.DefD := ⟨("choice_told", none), "choice_told", "choice_told", defArgs s_choice_told, defBody s_choice_told, defScope s_choice_told, [], []⟩
def d_meet_of : He.DefD := ⟨("meet_of", none), "meet_of", "meet_of", defArgs s_meet_of, defBody s_meet_of, defScope s_meet_of, [], []⟩
def d_use_of : He.DefD := ⟨("use_of", none), "use_of", "use_of", defArgs s_use_of, defBody s_use_of, defScope s_use_of, [], []⟩
def d_step_of : He.DefD := ⟨("step_of", none), "step_of", "step_of", defArgs s_step_of, defBody s_step_of, defScope s_step_of, [], []⟩
def d_head_of : He.DefD := ⟨("head_of", none), "head_of", "head_of", defArgs s_head_of, defBody s_head_of, defScope s_head_of, [], []⟩
def d_read : He.DefD := ⟨("read", none), "read", "read", defArgs s_read, defBody s_read, defScope s_read, [], []⟩
def d_L_cell_at : He.DefD := ⟨("_law_cell_at", none), "_law_cell_at", "_law_cell_at", defArgs s_L_cell_at, defBody s_L_cell_at, defScope s_L_cell_at, [], []⟩
def d_L_mixed : He.DefD := ⟨("_law_mixed", none), "_law_mixed", "_law_mixed", defArgs s_L_mixed, defBody s_L_mixed, defScope s_L_mixed, [], []⟩
def d_L_names : He.DefD := ⟨("_law_names", none), "_law_names", "_law_names", defArgs s_L_names, defBody s_L_names, defScope s_L_names, [], []⟩
def d_L_figures : He.DefD := ⟨("_law_figures", none), "_law_figures", "_law_figures", defArgs s_L_figures, defBody s_L_figures, defScope s_L_figures, [], []⟩
def d_L_fraction : He.DefD := ⟨("_law_fraction", none), "_law_fraction", "_law_fraction", defArgs s_L_fraction, defBody s_L_fraction, defScope s_L_fraction, [], []⟩
def d_L_same : He.DefD := ⟨("_law_same", none), "_law_same", "_law_same", defArgs s_L_same, defBody s_L_same, defScope s_L_same, [], []⟩
def d_L_choice : He.DefD := ⟨("_law_choice", none), "_law_choice", "_law_choice", defArgs s_L_choice, defBody s_L_choice, defScope s_L_choice, [], []⟩
def d_L_step : He.DefD := ⟨("_law_step", none), "_law_step", "_law_step", defArgs s_L_step, defBody s_L_step, defScope s_L_step, [], []⟩
def d_L_kinds_made : He.DefD := ⟨("_law_kinds_made", none), "_law_kinds_made", "_law_kinds_made", defArgs s_L_kinds_made, defBody s_L_kinds_made, defScope s_L_kinds_made, [], []⟩
def d_L_helper : He.DefD := ⟨("_law_helper", none), "_law_helper", "_law_helper", defArgs s_L_helper, defBody s_L_helper, defScope s_L_helper, [], []⟩
def d_L_parts : He.DefD := ⟨("_law_parts", none), "_law_parts", "_law_parts", defArgs s_L_parts, defBody s_L_parts, defScope s_L_parts, [], []⟩
def d_L_row : He.DefD := ⟨("_law_row", none), "_law_row", "_law_row", defArgs s_L_row, defBody s_L_row, defScope s_L_row, [], []⟩
def d_L_rows : He.DefD := ⟨("_law_rows", none), "_law_rows", "_law_rows", defArgs s_L_rows, defBody s_L_rows, defScope s_L_rows, [], []⟩
def d_L_step_told : He.DefD := ⟨("_law_step_told", none), "_law_step_told", "_law_step_told", defArgs s_L_step_told, defBody s_L_step_told, defScope s_L_step_told, [], []⟩
def d_L_plan_told : He.DefD := ⟨("_law_plan_told", none), "_law_plan_told", "_law_plan_told", defArgs s_L_plan_told, defBody s_L_plan_told, defScope s_L_plan_told, [], []⟩
def d_L_bare : He.DefD := ⟨("_law_bare", none), "_law_bare", "_law_bare", defArgs s_L_bare, defBody s_L_bare, defScope s_L_bare, [], []⟩
def d_L_steps : He.DefD := ⟨("_law_steps", none), "_law_steps", "_law_steps", defArgs s_L_steps, defBody s_L_steps, defScope s_L_steps, [], []⟩
def d_law : He.DefD := ⟨("law", none), "law", "law", defArgs s_law, defBody s_law, defScope s_law, [], []⟩
def d_First_words : He.DefD := ⟨("First", some "words"), "words", "First.words", defArgs s_First_words, defBody s_First_words, defScope s_First_words, [], []⟩
def d_Last_words : He.DefD := ⟨("Last", some "words"), "words", "Last.words", defArgs s_Last_words, defBody s_Last_words, defScope s_Last_words, [], []⟩
def d_LeftOne_words : He.DefD := ⟨("LeftOne", some "words"), "words", "LeftOne.words", defArgs s_LeftOne_words, defBody s_LeftOne_words, defScope s_LeftOne_words, [], []⟩
def d_RightOne_words : He.DefD := ⟨("RightOne", some "words"), "words", "RightOne.words", defArgs s_RightOne_words, defBody s_RightOne_words, defScope s_RightOne_words, [], []⟩
def d_Near_init : He.DefD := ⟨("Near", some "__init__"), "__init__", "Near.__init__", defArgs s_Near_init, defBody s_Near_init, defScope s_Near_init, [], []⟩
def d_Near_words : He.DefD := ⟨("Near", some "words"), "words", "Near.words", defArgs s_Near_words, defBody s_Near_words, defScope s_Near_words, [], []⟩
def d_Far_init : He.DefD := ⟨("Far", some "__init__"), "__init__", "Far.__init__", defArgs s_Far_init, defBody s_Far_init, defScope s_Far_init, [], []⟩
def d_Far_words : He.DefD := ⟨("Far", some "words"), "words", "Far.words", defArgs s_Far_words, defBody s_Far_words, defScope s_Far_words, [], []⟩
def d_Other_init : He.DefD := ⟨("Other", some "__init__"), "__init__", "Other.__init__", defArgs s_Other_init, defBody s_Other_init, defScope s_Other_init, [], []⟩
def d_Other_words : He.DefD := ⟨("Other", some "words"), "words", "Other.words", defArgs s_Other_words, defBody s_Other_words, defScope s_Other_words, [], []⟩
def d_Fraction_init : He.DefD := ⟨("Fraction", some "__init__"), "__init__", "Fraction.__init__", defArgs s_Fraction_init, defBody s_Fraction_init, defScope s_Fraction_init, [.int 1], []⟩
def d_Fraction_told : He.DefD := ⟨("Fraction", some "told"), "told", "Fraction.told", defArgs s_Fraction_told, defBody s_Fraction_told, defScope s_Fraction_told, [], []⟩
def d_Fraction_text : He.DefD := ⟨("Fraction", some "text"), "text", "Fraction.text", defArgs s_Fraction_text, defBody s_Fraction_text, defScope s_Fraction_text, [], []⟩
def d_Step_asks : He.DefD := ⟨("Step", some "asks"), "asks", "Step.asks", defArgs s_Step_asks, defBody s_Step_asks, defScope s_Step_asks, [], []⟩
def d_Step_makes : He.DefD := ⟨("Step", some "makes"), "makes", "Step.makes", defArgs s_Step_makes, defBody s_Step_makes, defScope s_Step_makes, [], []⟩
def d_Give_init : He.DefD := ⟨("Give", some "__init__"), "__init__", "Give.__init__", defArgs s_Give_init, defBody s_Give_init, defScope s_Give_init, [], []⟩
def d_Give_told : He.DefD := ⟨("Give", some "told"), "told", "Give.told", defArgs s_Give_told, defBody s_Give_told, defScope s_Give_told, [], []⟩
def d_Give_renamed : He.DefD := ⟨("Give", some "renamed"), "renamed", "Give.renamed", defArgs s_Give_renamed, defBody s_Give_renamed, defScope s_Give_renamed, [], []⟩
def d_Give_row : He.DefD := ⟨("Give", some "row"), "row", "Give.row", defArgs s_Give_row, defBody s_Give_row, defScope s_Give_row, [], []⟩
def d_Through_init : He.DefD := ⟨("Through", some "__init__"), "__init__", "Through.__init__", defArgs s_Through_init, defBody s_Through_init, defScope s_Through_init, [], []⟩
def d_Through_asks : He.DefD := ⟨("Through", some "asks"), "asks", "Through.asks", defArgs s_Through_asks, defBody s_Through_asks, defScope s_Through_asks, [], []⟩
def d_Through_told : He.DefD := ⟨("Through", some "told"), "told", "Through.told", defArgs s_Through_told, defBody s_Through_told, defScope s_Through_told, [], []⟩
def d_Through_renamed : He.DefD := ⟨("Through", some "renamed"), "renamed", "Through.renamed", defArgs s_Through_renamed, defBody s_Through_renamed, defScope s_Through_renamed, [], []⟩
def d_Through_row : He.DefD := ⟨("Through", some "row"), "row", "Through.row", defArgs s_Through_row, defBody s_Through_row, defScope s_Through_row, [], []⟩
def d_About_init : He.DefD := ⟨("About", some "__init__"), "__init__", "About.__init__", defArgs s_About_init, defBody s_About_init, defScope s_About_init, [.non], []⟩
def d_About_asks : He.DefD := ⟨("About", some "asks"), "asks", "About.asks", defArgs s_About_asks, defBody s_About_asks, defScope s_About_asks, [], []⟩
def d_About_told : He.DefD := ⟨("About", some "told"), "told", "About.told", defArgs s_About_told, defBody s_About_told, defScope s_About_told, [], []⟩
def d_About_renamed : He.DefD := ⟨("About", some "renamed"), "renamed", "About.renamed", defArgs s_About_renamed, defBody s_About_renamed, defScope s_About_renamed, [], []⟩
def d_About_row : He.DefD := ⟨("About", some "row"), "row", "About.row", defArgs s_About_row, defBody s_About_row, defScope s_About_row, [], []⟩
def d_Crossing_init : He.DefD := ⟨("Crossing", some "__init__"), "__init__", "Crossing.__init__", defArgs s_Crossing_init, defBody s_Crossing_init, defScope s_Crossing_init, [.non], []⟩
def d_Crossing_asks : He.DefD := ⟨("Crossing", some "asks"), "asks", "Crossing.asks", defArgs s_Crossing_asks, defBody s_Crossing_asks, defScope s_Crossing_asks, [], []⟩
def d_Crossing_told : He.DefD := ⟨("Crossing", some "told"), "told", "Crossing.told", defArgs s_Crossing_told, defBody s_Crossing_told, defScope s_Crossing_told, [], []⟩
def d_Crossing_renamed : He.DefD := ⟨("Crossing", some "renamed"), "renamed", "Crossing.renamed", defArgs s_Crossing_renamed, defBody s_Crossing_renamed, defScope s_Crossing_renamed, [], []⟩
def d_Crossing_row : He.DefD := ⟨("Crossing", some "row"), "row", "Crossing.row", defArgs s_Crossing_row, defBody s_Crossing_row, defScope s_Crossing_row, [], []⟩
def d_Use_init : He.DefD := ⟨("Use", some "__init__"), "__init__", "Use.__init__", defArgs s_Use_init, defBody s_Use_init, defScope s_Use_init, [], []⟩
def d_Use_asks : He.DefD := ⟨("Use", some "asks"), "asks", "Use.asks", defArgs s_Use_asks, defBody s_Use_asks, defScope s_Use_asks, [], []⟩
def d_Use_makes : He.DefD := ⟨("Use", some "makes"), "makes", "Use.makes", defArgs s_Use_makes, defBody s_Use_makes, defScope s_Use_makes, [], []⟩
def d_Use_told : He.DefD := ⟨("Use", some "told"), "told", "Use.told", defArgs s_Use_told, defBody s_Use_told, defScope s_Use_told, [], []⟩
def d_Use_renamed : He.DefD := ⟨("Use", some "renamed"), "renamed", "Use.renamed", defArgs s_Use_renamed, defBody s_Use_renamed, defScope s_Use_renamed, [], []⟩
def d_Use_row : He.DefD := ⟨("Use", some "row"), "row", "Use.row", defArgs s_Use_row, defBody s_Use_row, defScope s_Use_row, [], []⟩
def d_Helper_init : He.DefD := ⟨("Helper", some "__init__"), "__init__", "Helper.__init__", defArgs s_Helper_init, defBody s_Helper_init, defScope s_Helper_init, [], []⟩
def d_Helper_told : He.DefD := ⟨("Helper", some "told"), "told", "Helper.told", defArgs s_Helper_told, defBody s_Helper_told, defScope s_Helper_told, [], []⟩
def d_Plan_init : He.DefD := ⟨("Plan", some "__init__"), "__init__", "Plan.__init__", defArgs s_Plan_init, defBody s_Plan_init, defScope s_Plan_init, [], []⟩
def d_Plan_told : He.DefD := ⟨("Plan", some "told"), "told", "Plan.told", defArgs s_Plan_told, defBody s_Plan_told, defScope s_Plan_told, [], []⟩
def d_Reading_init : He.DefD := ⟨("Reading", some "__init__"), "__init__", "Reading.__init__", defArgs s_Reading_init, defBody s_Reading_init, defScope s_Reading_init, [], []⟩
def d_Reading_take_head : He.DefD := ⟨("Reading", some "take_head"), "take_head", "Reading.take_head", defArgs s_Reading_take_head, defBody s_Reading_take_head, defScope s_Reading_take_head, [], []⟩
def d_Reading_take_end : He.DefD := ⟨("Reading", some "take_end"), "take_end", "Reading.take_end", defArgs s_Reading_take_end, defBody s_Reading_take_end, defScope s_Reading_take_end, [], []⟩
def d_Reading_take : He.DefD := ⟨("Reading", some "take"), "take", "Reading.take", defArgs s_Reading_take, defBody s_Reading_take, defScope s_Reading_take, [], []⟩
def d_Give_asks : He.DefD := ⟨("Give", some "asks"), "asks", "Step.asks", defArgs s_Give_asks, defBody s_Give_asks, defScope s_Give_asks, [], []⟩
def d_Give_makes : He.DefD := ⟨("Give", some "makes"), "makes", "Step.makes", defArgs s_Give_makes, defBody s_Give_makes, defScope s_Give_makes, [], []⟩
def d_Through_makes : He.DefD := ⟨("Through", some "makes"), "makes", "Step.makes", defArgs s_Through_makes, defBody s_Through_makes, defScope s_Through_makes, [], []⟩
def d_About_makes : He.DefD := ⟨("About", some "makes"), "makes", "Step.makes", defArgs s_About_makes, defBody s_About_makes, defScope s_About_makes, [], []⟩
def d_Crossing_makes : He.DefD := ⟨("Crossing", some "makes"), "makes", "Step.makes", defArgs s_Crossing_makes, defBody s_Crossing_makes, defScope s_Crossing_makes, [], []⟩
def fn0 : List He.DefD := [d_way_of, d_choice_of, d_common, d_are_figures, d_read_fraction, d_put_otherwise, d_with_point, d_point_of, d_rows_of, d_written, d_is_plain, d_is_name, d_words_of, d_are_names, d_give_of, d_choice_told, d_meet_of, d_use_of, d_step_of, d_head_of, d_read, d_L_cell_at, d_L_mixed, d_L_names, d_L_figures, d_L_fraction, d_L_same, d_L_choice, d_L_step, d_L_kinds_made]
def fn1 : List He.DefD := [d_L_helper, d_L_parts, d_L_row, d_L_rows, d_L_step_told, d_L_plan_told, d_L_bare, d_L_steps, d_law, d_First_words, d_Last_words, d_LeftOne_words, d_RightOne_words, d_Near_init, d_Near_words, d_Far_init, d_Far_words, d_Other_init, d_Other_words, d_Fraction_init, d_Fraction_told, d_Fraction_text, d_Step_asks, d_Step_makes, d_Give_init, d_Give_told, d_Give_renamed, d_Give_row, d_Through_init, d_Through_asks]
def fn2 : List He.DefD := [d_Through_told, d_Through_renamed, d_Through_row, d_About_init, d_About_asks, d_About_told, d_About_renamed, d_About_row, d_Crossing_init, d_Crossing_asks, d_Crossing_told, d_Crossing_renamed, d_Crossing_row, d_Use_init, d_Use_asks, d_Use_makes, d_Use_told, d_Use_renamed, d_Use_row, d_Helper_init, d_Helper_told, d_Plan_init, d_Plan_told, d_Reading_init, d_Reading_take_head, d_Reading_take_end, d_Reading_take, d_Give_asks, d_Give_makes, d_Through_makes]
def fn3 : List He.DefD := [d_About_makes, d_Crossing_makes]
def fn : List He.DefD := fn0 ++ fn1 ++ fn2 ++ fn3
def fa0 : List He.Fa := [.glo "way_of", .glo "choice_of", .glo "common", .glo "are_figures", .glo "read_fraction", .glo "put_otherwise", .glo "with_point", .glo "point_of", .glo "rows_of", .glo "written", .glo "is_plain", .glo "is_name", .glo "words_of", .glo "are_names", .glo "give_of", .glo "choice_told", .glo "meet_of", .glo "use_of", .glo "step_of", .glo "head_of", .glo "read", .glo "_law_cell_at", .glo "_law_mixed", .glo "_law_names", .glo "_law_figures", .glo "_law_fraction", .glo "_law_same", .glo "_law_choice", .glo "_law_step", .glo "_law_kinds_made"]
def fa1 : List He.Fa := [.glo "_law_helper", .glo "_law_parts", .glo "_law_row", .glo "_law_rows", .glo "_law_step_told", .glo "_law_plan_told", .glo "_law_bare", .glo "_law_steps", .glo "law", .glo "First", .glo "Last", .glo "LeftOne", .glo "RightOne", .glo "Near", .glo "Far", .glo "Other", .glo "Fraction", .glo "Step", .glo "Give", .glo "Through", .glo "About", .glo "Crossing", .glo "Use", .glo "Helper", .glo "Plan", .glo "Reading", .cls "First", .cls "Last", .cls "LeftOne", .cls "RightOne"]
def fa2 : List He.Fa := [.cls "Near", .cls "Far", .cls "Other", .cls "Fraction", .cls "Step", .cls "Give", .cls "Through", .cls "About", .cls "Crossing", .cls "Use", .cls "Helper", .cls "Plan", .cls "Reading", .meth "First" "words", .meth "Last" "words", .meth "LeftOne" "words", .meth "RightOne" "words", .meth "Near" "words", .meth "Far" "words", .meth "Other" "words", .meth "Fraction" "told", .meth "Fraction" "text", .meth "Step" "asks", .meth "Step" "makes", .meth "Give" "told", .meth "Give" "renamed", .meth "Give" "row", .meth "Through" "asks", .meth "Through" "told", .meth "Through" "renamed"]
def fa3 : List He.Fa := [.meth "Through" "row", .meth "About" "asks", .meth "About" "told", .meth "About" "renamed", .meth "About" "row", .meth "Crossing" "asks", .meth "Crossing" "told", .meth "Crossing" "renamed", .meth "Crossing" "row", .meth "Use" "asks", .meth "Use" "makes", .meth "Use" "told", .meth "Use" "renamed", .meth "Use" "row", .meth "Helper" "told", .meth "Plan" "told", .meth "Reading" "take_head", .meth "Reading" "take_end", .meth "Reading" "take", .meth "Give" "asks", .meth "Give" "makes", .meth "Through" "makes", .meth "About" "makes", .meth "Crossing" "makes", .mkr "Near", .mkr "Far", .mkr "Other", .mkr "Fraction", .mkr "Give", .mkr "Through"]
def fa4 : List He.Fa := [.mkr "About", .mkr "Crossing", .mkr "Use", .mkr "Helper", .mkr "Plan", .mkr "Reading", .noat "Near" "point", .noat "Far" "point", .noat "Other" "point", .noat "Fraction" "top", .noat "Fraction" "bottom", .noat "Give" "way", .noat "Give" "name", .noat "Give" "x", .noat "Give" "y", .noat "Through" "way", .noat "Through" "name", .noat "Through" "first", .noat "Through" "second", .noat "About" "way", .noat "About" "name", .noat "About" "middle", .noat "About" "one", .noat "About" "other", .noat "Crossing" "way", .noat "Crossing" "name", .noat "Crossing" "one", .noat "Crossing" "other", .noat "Crossing" "choice", .noat "Use" "way"]
def fa5 : List He.Fa := [.noat "Use" "helper", .noat "Use" "given", .noat "Use" "names", .noat "Helper" "way", .noat "Helper" "name", .noat "Helper" "params", .noat "Helper" "answers", .noat "Helper" "steps", .noat "Plan" "parts", .noat "Reading" "parts", .noat "Reading" "opened", .noat "Reading" "inner", .free "abs", .free "all", .free "dict", .free "enumerate", .free "int", .free "isinstance", .free "len", .free "list", .free "max", .free "range", .free "str", .free "tuple", .free "zip", .free "bool", .str "FIGURES_fractions" "0123456789", .str "LETTERS" "abcdefghijklmnopqrstuvwxyz", .str "FIGURES_words" "0123456789", .int "LONGEST_PLAIN" 8]
def fa6 : List He.Fa := [.int "LONGEST_NAME" 40, .int "MOST_SIGNS" 6000, .glo "KEPT", .glo "ALONE", .glo "POINTED"]
def fa : List He.Fa := fa0 ++ fa1 ++ fa2 ++ fa3 ++ fa4 ++ fa5 ++ fa6
def nm0 : List PySem.Str := ["_wall", "way_of", "HallError", "ByNought", "NoNumber", "PlanError", "NoRow", "DrawError", "SamePoint", "SameTwice", "NoMeet", "NoOther", "Undecided", "TooGreat", "Number", "Mixed", "mixed", "alike", "before", "Form", "Point", "product_sum", "far", "Choice", "First", "Last", "LeftOne", "RightOne", "nearer_first", "Near"]
def nm1 : List PySem.Str := ["Far", "put_in_shown", "Other", "chosen", "choice_of", "common", "FIGURES_fractions", "Fraction", "are_figures", "read_fraction", "Line", "Round", "round_by", "too_great", "lines_meet", "on_either_side", "line_meets", "rounds_meet", "meets", "put_otherwise", "with_point", "point_of", "Step", "Give", "Through", "About", "Crossing", "Use", "Helper", "Plan"]
def nm2 : List PySem.Str := ["rows_of", "written", "KEPT", "LETTERS", "FIGURES_words", "LONGEST_PLAIN", "LONGEST_NAME", "is_plain", "is_name", "words_of", "MOST_SIGNS", "ALONE", "POINTED", "are_names", "give_of", "choice_told", "meet_of", "use_of", "step_of", "head_of", "Reading", "read", "_law_cell_at", "_law_mixed", "_law_names", "_law_figures", "_law_fraction", "_law_same", "_law_choice", "_law_step"]
def nm3 : List PySem.Str := ["_law_kinds_made", "_law_helper", "_law_parts", "_law_row", "_law_rows", "_law_step_told", "_law_plan_told", "_law_bare", "_law_steps"]
def nm : List PySem.Str := nm0 ++ nm1 ++ nm2 ++ nm3
def used0 : List PySem.Str := ["First", "Last", "LeftOne", "RightOne", "Near", "Far", "Other", "Fraction", "Step", "Give", "Through", "About", "Crossing", "Use", "Helper", "Plan", "Reading", "way_of", "choice_of", "common", "are_figures", "read_fraction", "put_otherwise", "with_point", "point_of", "rows_of", "written", "is_plain", "is_name", "words_of"]
def used1 : List PySem.Str := ["are_names", "give_of", "choice_told", "meet_of", "use_of", "step_of", "head_of", "read", "_law_cell_at", "_law_mixed", "_law_names", "_law_figures", "_law_fraction", "_law_same", "_law_choice", "_law_step", "_law_kinds_made", "_law_helper", "_law_parts", "_law_row", "_law_rows", "_law_step_told", "_law_plan_told", "_law_bare", "_law_steps", "law", "KEPT", "ALONE", "POINTED"]
def used : List PySem.Str := used0 ++ used1
/-! ### what is asked of the written part besides -/
def kept : List PySem.Str := ["give", "line", "round", "meet", "use", "helper", "gives", "as", "end", "first", "last", "left", "right", "near", "far", "other"]

def alone : List PySem.Str := ["first", "last", "left", "right"]
def pointed : List PySem.Str := ["near", "far", "other"]
def stepCls : List PySem.Str := ["Give", "Through", "About", "Crossing", "Use"]
def bareCls : List PySem.Str := ["First", "Last", "LeftOne", "RightOne"]
def kitIs (K : PySem.W.Frag) (x y : PySem.Str) (b : Bool) : Bool := decide (PySem.W.kitOne K (.ref (He.ga K x)) (.ref (He.ga K y)) = some b)
def bareB (K : PySem.W.Frag) (x : PySem.Str) : Bool := PySem.W.makesIn K (He.ga K x) && (He.eqO (PySem.W.findIn K (.ref (He.ga K x)) "__init__") (some (some (.builtin "object.__init__"))) && PySem.W.keepIn K (.ref (He.ga K x)))
def isiB (K : PySem.W.Frag) (x : PySem.Str) : Bool := He.eqO (PySem.W.findIn K (.ref (He.ga K x)) "__class__") (some (some (.builtin "object.__class__"))) && (He.eqO (PySem.W.specialIn K (.builtin "object.__class__") "__get__") (some (some (.builtin "getset_descriptor.__get__"))) &&
  (decide (PySem.W.takesIn K (.builtin "object.__class__") = some true) && decide (PySem.W.mroIn K (He.ga K x) (.type "object") = some true)))
def ex (K : PySem.W.Frag) : Bool := ((stepCls ++ (["Helper"] : List PySem.Str)).all fun c => isiB K c) && (
  He.tupB K "KEPT" (kept.map .str) && (He.tupB K "ALONE" (alone.map .str) && (He.tupB K "POINTED" (pointed.map .str) &&
  ((stepCls.all fun c => kitIs K c "Step" true && (kitIs K c "Helper" false && kitIs K c "Give" (decide (c = "Give")))) &&
  (kitIs K "Helper" "Step" false && (kitIs K "Helper" "Helper" true && ((bareCls.all fun c => bareB K c) &&
  ((stepCls ++ (["Helper", "Plan", "Fraction", "Near", "Far", "Other", "First", "Last", "LeftOne", "RightOne"] : List PySem.Str)).all fun c => decide (He.ga K c ≠ He.ga K "Reading")))))))))
/-! ### a Hook over chosen names: the objects that they reach in four layers -/
def refsL (g : Addr → Option Obj) (l : List Addr) : List Addr := l.flatMap fun a => match g a with
  | some o => He.refsO o
  | none => []
def asL (g : Addr → Option Obj) (xs : List PySem.Str) : List Addr :=
  let l1 := xs.map (He.ga (He.frG g [mainGlobals]))
  let l2 := refsL g l1
  let l3 := refsL g l2
  mainGlobals :: (l1 ++ (l2 ++ (l3 ++ refsL g l3)))
abbrev AlR : Type := He.AlD × He.AlD × He.AlD × He.AlD × Bool
def obsK (K : PySem.W.Frag) : AlR := (He.obsD fa fn0 K, He.obsD [] fn1 K, He.obsD [] fn2 K, He.obsD [] fn3 K, ex K)
structure SaysR (K : PySem.W.Frag) : Prop where
  d0 : He.SaysD fa fn0 K
  d1 : He.SaysD [] fn1 K
  d2 : He.SaysD [] fn2 K
  d3 : He.SaysD [] fn3 K
  more : ex K = true
/-- the chosen part, written out ahead of the looks -/
def forceA {α : Type} : List Addr → (List Addr → α) → α
  | [], k => k []
  | a :: r, k => HandSHeadRun.frNat a fun a => forceA r fun r => k (a :: r)
theorem forceA_eq {α : Type} : ∀ (l : List Addr) (k : List Addr → α), forceA l k = k l
  | [], _ => rfl
  | a :: r, k => by
    unfold forceA
    rw [HandSHeadRun.frNat_eq, forceA_eq r]
def forceK {α : Type} (g : Addr → Option Obj) : List Addr → (PySem.W.Frag → α) → α
  | [], k => k []
  | a :: r, k => match g a with
    | none => forceK g r k
    | some ⟨c, d, dt, sl⟩ => forceK g r fun K => k ((a, ⟨c, d, dt, sl⟩) :: K)
theorem forceK_eq {α : Type} (g : Addr → Option Obj) : ∀ (l : List Addr) (k : PySem.W.Frag → α), forceK g l k = k (He.frG g l)
  | [], _ => rfl
  | a :: r, k => by
    unfold forceK He.frG
    rw [List.filterMap_cons]
    cases e : g a with
    | none =>
      rw [forceK_eq g r]
      rfl
    | some o =>
      obtain ⟨c, d, dt, sl⟩ := o
      show forceK g r _ = _
      rw [forceK_eq g r]
      rfl
def obsR (g : Addr → Option Obj) : AlR := forceA (asL g used) fun as => forceK g as obsK
theorem obsR_is (g : Addr → Option Obj) : obsR g = obsK (He.frG g (asL g used)) := by
  unfold obsR
  rw [forceA_eq, forceK_eq]
def hookR : PySem.W.Hook where
  α := AlR
  obs := fun s => obsR s.heap.get?
  val := fun _ => (He.valD fn0, He.valD fn1, He.valD fn2, He.valD fn3, true)
  says := fun _ h => ∃ K : PySem.W.Frag, K.In h ∧ SaysR K
  of := fun _ s e' => have e := (obsR_is s.heap.get?).symm.trans e'; ⟨_, He.frG_in, congrArg (fun z : AlR => z.1) e, congrArg (fun z : AlR => z.2.1) e, congrArg (fun z : AlR => z.2.2.1) e, congrArg (fun z : AlR => z.2.2.2.1) e, congrArg (fun z : AlR => z.2.2.2.2) e⟩
  keeps := fun _ _ _ ⟨K, hK, c⟩ k => ⟨K, PySem.W.Frag.In.keeps hK k, c⟩
theorem obsR_eq {g : Addr → Option Obj} {s : Shared} (h : ∀ a, g a = s.heap.get? a) : obsR g = hookR.obs s := by
  have e : g = s.heap.get? := funext h
  rw [e] <;> rfl

/-! ### what the walk leans on, by name -/
structure Tx (K : PySem.W.Frag) (mg : PySem.Str → Option Value) : Prop where
  says : SaysR K
  at_ : ∃ h : Heap, K.In h ∧ h.Ns mainGlobals mg
section
variable {K : PySem.W.Frag} {mg : PySem.Str → Option Value}
namespace Tx
theorem g_way_of (T : Tx K mg) : mg "way_of" = some (.ref (He.ga K "way_of")) := by
  obtain ⟨h, X, G⟩ := T.at_
  exact He.glo_ok X G (T.says.d0.fact 0 (f := .glo "way_of") rfl)
theorem g_choice_of (T : Tx K mg) : mg "choice_of" = some (.ref (He.ga K "choice_of")) := by
  obtain ⟨h, X, G⟩ := T.at_
  exact He.glo_ok X G (T.says.d0.fact 1 (f := .glo "choice_of") rfl)
theorem g_common (T : Tx K mg) : mg "common" = some (.ref (He.ga K "common")) := by
  obtain ⟨h, X, G⟩ := T.at_
  exact He.glo_ok X G (T.says.d0.fact 2 (f := .glo "common") rfl)
theorem g_are_figures (T : Tx K mg) : mg "are_figures" = some (.ref (He.ga K "are_figures")) := by
  obtain ⟨h, X, G⟩ := T.at_
  exact He.glo_ok X G (T.says.d0.fact 3 (f := .glo "are_figures") rfl)
theorem g_read_fraction (T : Tx K mg) : mg "read_fraction" = some (.ref (He.ga K "read_fraction")) := by
  obtain ⟨h, X, G⟩ := T.at_
  exact He.glo_ok X G (T.says.d0.fact 4 (f := .glo "read_fraction") rfl)
theorem g_put_otherwise (T : Tx K mg) : mg "put_otherwise" = some (.ref (He.ga K "put_otherwise")) := by
  obtain ⟨h, X, G⟩ := T.at_
  exact He.glo_ok X G (T.says.d0.fact 5 (f := .glo "put_otherwise") rfl)
theorem g_with_point (T : Tx K mg) : mg "with_point" = some (.ref (He.ga K "with_point")) := by
  obtain ⟨h, X, G⟩ := T.at_
  exact He.glo_ok X G (T.says.d0.fact 6 (f := .glo "with_point") rfl)
theorem g_point_of (T : Tx K mg) : mg "point_of" = some (.ref (He.ga K "point_of")) := by
  obtain ⟨h, X, G⟩ := T.at_
  exact He.glo_ok X G (T.says.d0.fact 7 (f := .glo "point_of") rfl)
theorem g_rows_of (T : Tx K mg) : mg "rows_of" = some (.ref (He.ga K "rows_of")) := by
  obtain ⟨h, X, G⟩ := T.at_
  exact He.glo_ok X G (T.says.d0.fact 8 (f := .glo "rows_of") rfl)
theorem g_written (T : Tx K mg) : mg "written" = some (.ref (He.ga K "written")) := by
  obtain ⟨h, X, G⟩ := T.at_
  exact He.glo_ok X G (T.says.d0.fact 9 (f := .glo "written") rfl)
theorem g_is_plain (T : Tx K mg) : mg "is_plain" = some (.ref (He.ga K "is_plain")) := by
  obtain ⟨h, X, G⟩ := T.at_
  exact He.glo_ok X G (T.says.d0.fact 10 (f := .glo "is_plain") rfl)
theorem g_is_name (T : Tx K mg) : mg "is_name" = some (.ref (He.ga K "is_name")) := by
  obtain ⟨h, X, G⟩ := T.at_
  exact He.glo_ok X G (T.says.d0.fact 11 (f := .glo "is_name") rfl)
theorem g_words_of (T : Tx K mg) : mg "words_of" = some (.ref (He.ga K "words_of")) := by
  obtain ⟨h, X, G⟩ := T.at_
  exact He.glo_ok X G (T.says.d0.fact 12 (f := .glo "words_of") rfl)
theorem g_are_names (T : Tx K mg) : mg "are_names" = some (.ref (He.ga K "are_names")) := by
  obtain ⟨h, X, G⟩ := T.at_
  exact He.glo_ok X G (T.says.d0.fact 13 (f := .glo "are_names") rfl)
theorem g_give_of (T : Tx K mg) : mg "give_of" = some (.ref (He.ga K "give_of")) := by
  obtain ⟨h, X, G⟩ := T.at_
  exact He.glo_ok X G (T.says.d0.fact 14 (f := .glo "give_of") rfl)
theorem g_choice_told (T : Tx K mg) : mg "choice_told" = some (.ref (He.ga K "choice_told")) := by
  obtain ⟨h, X, G⟩ := T.at_
  exact He.glo_ok X G (T.says.d0.fact 15 (f := .glo "choice_told") rfl)
theorem g_meet_of (T : Tx K mg) : mg "meet_of" = some (.ref (He.ga K "meet_of")) := by
  obtain ⟨h, X, G⟩ := T.at_
  exact He.glo_ok X G (T.says.d0.fact 16 (f := .glo "meet_of") rfl)
theorem g_use_of (T : Tx K mg) : mg "use_of" = some (.ref (He.ga K "use_of")) := by
  obtain ⟨h, X, G⟩ := T.at_
  exact He.glo_ok X G (T.says.d0.fact 17 (f := .glo "use_of") rfl)
theorem g_step_of (T : Tx K mg) : mg "step_of" = some (.ref (He.ga K "step_of")) := by
  obtain ⟨h, X, G⟩ := T.at_
  exact He.glo_ok X G (T.says.d0.fact 18 (f := .glo "step_of") rfl)
theorem g_head_of (T : Tx K mg) : mg "head_of" = some (.ref (He.ga K "head_of")) := by
  obtain ⟨h, X, G⟩ := T.at_
  exact He.glo_ok X G (T.says.d0.fact 19 (f := .glo "head_of") rfl)
theorem g_read (T : Tx K mg) : mg "read" = some (.ref (He.ga K "read")) := by
  obtain ⟨h, X, G⟩ := T.at_
  exact He.glo_ok X G (T.says.d0.fact 20 (f := .glo "read") rfl)
theorem g_L_cell_at (T : Tx K mg) : mg "_law_cell_at" = some (.ref (He.ga K "_law_cell_at")) := by
  obtain ⟨h, X, G⟩ := T.at_
  exact He.glo_ok X G (T.says.d0.fact 21 (f := .glo "_law_cell_at") rfl)
theorem g_L_mixed (T : Tx K mg) : mg "_law_mixed" = some (.ref (He.ga K "_law_mixed")) := by
  obtain ⟨h, X, G⟩ := T.at_
  exact He.glo_ok X G (T.says.d0.fact 22 (f := .glo "_law_mixed") rfl)
theorem g_L_names (T : Tx K mg) : mg "_law_names" = some (.ref (He.ga K "_law_names")) := by
  obtain ⟨h, X, G⟩ := T.at_
  exact He.glo_ok X G (T.says.d0.fact 23 (f := .glo "_law_names") rfl)
theorem g_L_figures (T : Tx K mg) : mg "_law_figures" = some (.ref (He.ga K "_law_figures")) := by
  obtain ⟨h, X, G⟩ := T.at_
  exact He.glo_ok X G (T.says.d0.fact 24 (f := .glo "_law_figures") rfl)
theorem g_L_fraction (T : Tx K mg) : mg "_law_fraction" = some (.ref (He.ga K "_law_fraction")) := by
  obtain ⟨h, X, G⟩ := T.at_
  exact He.glo_ok X G (T.says.d0.fact 25 (f := .glo "_law_fraction") rfl)
theorem g_L_same (T : Tx K mg) : mg "_law_same" = some (.ref (He.ga K "_law_same")) := by
  obtain ⟨h, X, G⟩ := T.at_
  exact He.glo_ok X G (T.says.d0.fact 26 (f := .glo "_law_same") rfl)
theorem g_L_choice (T : Tx K mg) : mg "_law_choice" = some (.ref (He.ga K "_law_choice")) := by
  obtain ⟨h, X, G⟩ := T.at_
  exact He.glo_ok X G (T.says.d0.fact 27 (f := .glo "_law_choice") rfl)
theorem g_L_step (T : Tx K mg) : mg "_law_step" = some (.ref (He.ga K "_law_step")) := by
  obtain ⟨h, X, G⟩ := T.at_
  exact He.glo_ok X G (T.says.d0.fact 28 (f := .glo "_law_step") rfl)
theorem g_L_kinds_made (T : Tx K mg) : mg "_law_kinds_made" = some (.ref (He.ga K "_law_kinds_made")) := by
  obtain ⟨h, X, G⟩ := T.at_
  exact He.glo_ok X G (T.says.d0.fact 29 (f := .glo "_law_kinds_made") rfl)
theorem g_L_helper (T : Tx K mg) : mg "_law_helper" = some (.ref (He.ga K "_law_helper")) := by
  obtain ⟨h, X, G⟩ := T.at_
  exact He.glo_ok X G (T.says.d0.fact 30 (f := .glo "_law_helper") rfl)
theorem g_L_parts (T : Tx K mg) : mg "_law_parts" = some (.ref (He.ga K "_law_parts")) := by
  obtain ⟨h, X, G⟩ := T.at_
  exact He.glo_ok X G (T.says.d0.fact 31 (f := .glo "_law_parts") rfl)
theorem g_L_row (T : Tx K mg) : mg "_law_row" = some (.ref (He.ga K "_law_row")) := by
  obtain ⟨h, X, G⟩ := T.at_
  exact He.glo_ok X G (T.says.d0.fact 32 (f := .glo "_law_row") rfl)
theorem g_L_rows (T : Tx K mg) : mg "_law_rows" = some (.ref (He.ga K "_law_rows")) := by
  obtain ⟨h, X, G⟩ := T.at_
  exact He.glo_ok X G (T.says.d0.fact 33 (f := .glo "_law_rows") rfl)
theorem g_L_step_told (T : Tx K mg) : mg "_law_step_told" = some (.ref (He.ga K "_law_step_told")) := by
  obtain ⟨h, X, G⟩ := T.at_
  exact He.glo_ok X G (T.says.d0.fact 34 (f := .glo "_law_step_told") rfl)
theorem g_L_plan_told (T : Tx K mg) : mg "_law_plan_told" = some (.ref (He.ga K "_law_plan_told")) := by
  obtain ⟨h, X, G⟩ := T.at_
  exact He.glo_ok X G (T.says.d0.fact 35 (f := .glo "_law_plan_told") rfl)
theorem g_L_bare (T : Tx K mg) : mg "_law_bare" = some (.ref (He.ga K "_law_bare")) := by
  obtain ⟨h, X, G⟩ := T.at_
  exact He.glo_ok X G (T.says.d0.fact 36 (f := .glo "_law_bare") rfl)
theorem g_L_steps (T : Tx K mg) : mg "_law_steps" = some (.ref (He.ga K "_law_steps")) := by
  obtain ⟨h, X, G⟩ := T.at_
  exact He.glo_ok X G (T.says.d0.fact 37 (f := .glo "_law_steps") rfl)
theorem g_law (T : Tx K mg) : mg "law" = some (.ref (He.ga K "law")) := by
  obtain ⟨h, X, G⟩ := T.at_
  exact He.glo_ok X G (T.says.d0.fact 38 (f := .glo "law") rfl)
theorem g_First (T : Tx K mg) : mg "First" = some (.ref (He.ga K "First")) := by
  obtain ⟨h, X, G⟩ := T.at_
  exact He.glo_ok X G (T.says.d0.fact 39 (f := .glo "First") rfl)
theorem g_Last (T : Tx K mg) : mg "Last" = some (.ref (He.ga K "Last")) := by
  obtain ⟨h, X, G⟩ := T.at_
  exact He.glo_ok X G (T.says.d0.fact 40 (f := .glo "Last") rfl)
theorem g_LeftOne (T : Tx K mg) : mg "LeftOne" = some (.ref (He.ga K "LeftOne")) := by
  obtain ⟨h, X, G⟩ := T.at_
  exact He.glo_ok X G (T.says.d0.fact 41 (f := .glo "LeftOne") rfl)
theorem g_RightOne (T : Tx K mg) : mg "RightOne" = some (.ref (He.ga K "RightOne")) := by
  obtain ⟨h, X, G⟩ := T.at_
  exact He.glo_ok X G (T.says.d0.fact 42 (f := .glo "RightOne") rfl)
theorem g_Near (T : Tx K mg) : mg "Near" = some (.ref (He.ga K "Near")) := by
  obtain ⟨h, X, G⟩ := T.at_
  exact He.glo_ok X G (T.says.d0.fact 43 (f := .glo "Near") rfl)
theorem g_Far (T : Tx K mg) : mg "Far" = some (.ref (He.ga K "Far")) := by
  obtain ⟨h, X, G⟩ := T.at_
  exact He.glo_ok X G (T.says.d0.fact 44 (f := .glo "Far") rfl)
theorem g_Other (T : Tx K mg) : mg "Other" = some (.ref (He.ga K "Other")) := by
  obtain ⟨h, X, G⟩ := T.at_
  exact He.glo_ok X G (T.says.d0.fact 45 (f := .glo "Other") rfl)
theorem g_Fraction (T : Tx K mg) : mg "Fraction" = some (.ref (He.ga K "Fraction")) := by
  obtain ⟨h, X, G⟩ := T.at_
  exact He.glo_ok X G (T.says.d0.fact 46 (f := .glo "Fraction") rfl)
theorem g_Step (T : Tx K mg) : mg "Step" = some (.ref (He.ga K "Step")) := by
  obtain ⟨h, X, G⟩ := T.at_
  exact He.glo_ok X G (T.says.d0.fact 47 (f := .glo "Step") rfl)
theorem g_Give (T : Tx K mg) : mg "Give" = some (.ref (He.ga K "Give")) := by
  obtain ⟨h, X, G⟩ := T.at_
  exact He.glo_ok X G (T.says.d0.fact 48 (f := .glo "Give") rfl)
theorem g_Through (T : Tx K mg) : mg "Through" = some (.ref (He.ga K "Through")) := by
  obtain ⟨h, X, G⟩ := T.at_
  exact He.glo_ok X G (T.says.d0.fact 49 (f := .glo "Through") rfl)
theorem g_About (T : Tx K mg) : mg "About" = some (.ref (He.ga K "About")) := by
  obtain ⟨h, X, G⟩ := T.at_
  exact He.glo_ok X G (T.says.d0.fact 50 (f := .glo "About") rfl)
theorem g_Crossing (T : Tx K mg) : mg "Crossing" = some (.ref (He.ga K "Crossing")) := by
  obtain ⟨h, X, G⟩ := T.at_
  exact He.glo_ok X G (T.says.d0.fact 51 (f := .glo "Crossing") rfl)
theorem g_Use (T : Tx K mg) : mg "Use" = some (.ref (He.ga K "Use")) := by
  obtain ⟨h, X, G⟩ := T.at_
  exact He.glo_ok X G (T.says.d0.fact 52 (f := .glo "Use") rfl)
theorem g_Helper (T : Tx K mg) : mg "Helper" = some (.ref (He.ga K "Helper")) := by
  obtain ⟨h, X, G⟩ := T.at_
  exact He.glo_ok X G (T.says.d0.fact 53 (f := .glo "Helper") rfl)
theorem g_Plan (T : Tx K mg) : mg "Plan" = some (.ref (He.ga K "Plan")) := by
  obtain ⟨h, X, G⟩ := T.at_
  exact He.glo_ok X G (T.says.d0.fact 54 (f := .glo "Plan") rfl)
theorem g_Reading (T : Tx K mg) : mg "Reading" = some (.ref (He.ga K "Reading")) := by
  obtain ⟨h, X, G⟩ := T.at_
  exact He.glo_ok X G (T.says.d0.fact 55 (f := .glo "Reading") rfl)
theorem c_First (T : Tx K mg) : Cls K (He.ga K "First") := He.cls_ok (T.says.d0.fact 56 (f := .cls "First") rfl)
theorem c_Last (T : Tx K mg) : Cls K (He.ga K "Last") := He.cls_ok (T.says.d0.fact 57 (f := .cls "Last") rfl)
theorem c_LeftOne (T : Tx K mg) : Cls K (He.ga K "LeftOne") := He.cls_ok (T.says.d0.fact 58 (f := .cls "LeftOne") rfl)
theorem c_RightOne (T : Tx K mg) : Cls K (He.ga K "RightOne") := He.cls_ok (T.says.d0.fact 59 (f := .cls "RightOne") rfl)
theorem c_Near (T : Tx K mg) : Cls K (He.ga K "Near") := He.cls_ok (T.says.d0.fact 60 (f := .cls "Near") rfl)
theorem c_Far (T : Tx K mg) : Cls K (He.ga K "Far") := He.cls_ok (T.says.d0.fact 61 (f := .cls "Far") rfl)
theorem c_Other (T : Tx K mg) : Cls K (He.ga K "Other") := He.cls_ok (T.says.d0.fact 62 (f := .cls "Other") rfl)
theorem c_Fraction (T : Tx K mg) : Cls K (He.ga K "Fraction") := He.cls_ok (T.says.d0.fact 63 (f := .cls "Fraction") rfl)
theorem c_Step (T : Tx K mg) : Cls K (He.ga K "Step") := He.cls_ok (T.says.d0.fact 64 (f := .cls "Step") rfl)
theorem c_Give (T : Tx K mg) : Cls K (He.ga K "Give") := He.cls_ok (T.says.d0.fact 65 (f := .cls "Give") rfl)
theorem c_Through (T : Tx K mg) : Cls K (He.ga K "Through") := He.cls_ok (T.says.d0.fact 66 (f := .cls "Through") rfl)
theorem c_About (T : Tx K mg) : Cls K (He.ga K "About") := He.cls_ok (T.says.d0.fact 67 (f := .cls "About") rfl)
theorem c_Crossing (T : Tx K mg) : Cls K (He.ga K "Crossing") := He.cls_ok (T.says.d0.fact 68 (f := .cls "Crossing") rfl)
theorem c_Use (T : Tx K mg) : Cls K (He.ga K "Use") := He.cls_ok (T.says.d0.fact 69 (f := .cls "Use") rfl)
theorem c_Helper (T : Tx K mg) : Cls K (He.ga K "Helper") := He.cls_ok (T.says.d0.fact 70 (f := .cls "Helper") rfl)
theorem c_Plan (T : Tx K mg) : Cls K (He.ga K "Plan") := He.cls_ok (T.says.d0.fact 71 (f := .cls "Plan") rfl)
theorem c_Reading (T : Tx K mg) : Cls K (He.ga K "Reading") := He.cls_ok (T.says.d0.fact 72 (f := .cls "Reading") rfl)
theorem m_First_words (T : Tx K mg) : Meth K (He.ga K "First") "words" (He.ma K (He.ga K "First") "words") := He.meth_ok (T.says.d0.fact 73 (f := .meth "First" "words") rfl)
theorem m_Last_words (T : Tx K mg) : Meth K (He.ga K "Last") "words" (He.ma K (He.ga K "Last") "words") := He.meth_ok (T.says.d0.fact 74 (f := .meth "Last" "words") rfl)
theorem m_LeftOne_words (T : Tx K mg) : Meth K (He.ga K "LeftOne") "words" (He.ma K (He.ga K "LeftOne") "words") := He.meth_ok (T.says.d0.fact 75 (f := .meth "LeftOne" "words") rfl)
theorem m_RightOne_words (T : Tx K mg) : Meth K (He.ga K "RightOne") "words" (He.ma K (He.ga K "RightOne") "words") := He.meth_ok (T.says.d0.fact 76 (f := .meth "RightOne" "words") rfl)
theorem m_Near_words (T : Tx K mg) : Meth K (He.ga K "Near") "words" (He.ma K (He.ga K "Near") "words") := He.meth_ok (T.says.d0.fact 77 (f := .meth "Near" "words") rfl)
theorem m_Far_words (T : Tx K mg) : Meth K (He.ga K "Far") "words" (He.ma K (He.ga K "Far") "words") := He.meth_ok (T.says.d0.fact 78 (f := .meth "Far" "words") rfl)
theorem m_Other_words (T : Tx K mg) : Meth K (He.ga K "Other") "words" (He.ma K (He.ga K "Other") "words") := He.meth_ok (T.says.d0.fact 79 (f := .meth "Other" "words") rfl)
theorem m_Fraction_told (T : Tx K mg) : Meth K (He.ga K "Fraction") "told" (He.ma K (He.ga K "Fraction") "told") := He.meth_ok (T.says.d0.fact 80 (f := .meth "Fraction" "told") rfl)
theorem m_Fraction_text (T : Tx K mg) : Meth K (He.ga K "Fraction") "text" (He.ma K (He.ga K "Fraction") "text") := He.meth_ok (T.says.d0.fact 81 (f := .meth "Fraction" "text") rfl)
theorem m_Step_asks (T : Tx K mg) : Meth K (He.ga K "Step") "asks" (He.ma K (He.ga K "Step") "asks") := He.meth_ok (T.says.d0.fact 82 (f := .meth "Step" "asks") rfl)
theorem m_Step_makes (T : Tx K mg) : Meth K (He.ga K "Step") "makes" (He.ma K (He.ga K "Step") "makes") := He.meth_ok (T.says.d0.fact 83 (f := .meth "Step" "makes") rfl)
theorem m_Give_told (T : Tx K mg) : Meth K (He.ga K "Give") "told" (He.ma K (He.ga K "Give") "told") := He.meth_ok (T.says.d0.fact 84 (f := .meth "Give" "told") rfl)
theorem m_Give_renamed (T : Tx K mg) : Meth K (He.ga K "Give") "renamed" (He.ma K (He.ga K "Give") "renamed") := He.meth_ok (T.says.d0.fact 85 (f := .meth "Give" "renamed") rfl)
theorem m_Give_row (T : Tx K mg) : Meth K (He.ga K "Give") "row" (He.ma K (He.ga K "Give") "row") := He.meth_ok (T.says.d0.fact 86 (f := .meth "Give" "row") rfl)
theorem m_Through_asks (T : Tx K mg) : Meth K (He.ga K "Through") "asks" (He.ma K (He.ga K "Through") "asks") := He.meth_ok (T.says.d0.fact 87 (f := .meth "Through" "asks") rfl)
theorem m_Through_told (T : Tx K mg) : Meth K (He.ga K "Through") "told" (He.ma K (He.ga K "Through") "told") := He.meth_ok (T.says.d0.fact 88 (f := .meth "Through" "told") rfl)
theorem m_Through_renamed (T : Tx K mg) : Meth K (He.ga K "Through") "renamed" (He.ma K (He.ga K "Through") "renamed") := He.meth_ok (T.says.d0.fact 89 (f := .meth "Through" "renamed") rfl)
theorem m_Through_row (T : Tx K mg) : Meth K (He.ga K "Through") "row" (He.ma K (He.ga K "Through") "row") := He.meth_ok (T.says.d0.fact 90 (f := .meth "Through" "row") rfl)
theorem m_About_asks (T : Tx K mg) : Meth K (He.ga K "About") "asks" (He.ma K (He.ga K "About") "asks") := He.meth_ok (T.says.d0.fact 91 (f := .meth "About" "asks") rfl)
theorem m_About_told (T : Tx K mg) : Meth K (He.ga K "About") "told" (He.ma K (He.ga K "About") "told") := He.meth_ok (T.says.d0.fact 92 (f := .meth "About" "told") rfl)
theorem m_About_renamed (T : Tx K mg) : Meth K (He.ga K "About") "renamed" (He.ma K (He.ga K "About") "renamed") := He.meth_ok (T.says.d0.fact 93 (f := .meth "About" "renamed") rfl)
theorem m_About_row (T : Tx K mg) : Meth K (He.ga K "About") "row" (He.ma K (He.ga K "About") "row") := He.meth_ok (T.says.d0.fact 94 (f := .meth "About" "row") rfl)
theorem m_Crossing_asks (T : Tx K mg) : Meth K (He.ga K "Crossing") "asks" (He.ma K (He.ga K "Crossing") "asks") := He.meth_ok (T.says.d0.fact 95 (f := .meth "Crossing" "asks") rfl)
theorem m_Crossing_told (T : Tx K mg) : Meth K (He.ga K "Crossing") "told" (He.ma K (He.ga K "Crossing") "told") := He.meth_ok (T.says.d0.fact 96 (f := .meth "Crossing" "told") rfl)
theorem m_Crossing_renamed (T : Tx K mg) : Meth K (He.ga K "Crossing") "renamed" (He.ma K (He.ga K "Crossing") "renamed") := He.meth_ok (T.says.d0.fact 97 (f := .meth "Crossing" "renamed") rfl)
theorem m_Crossing_row (T : Tx K mg) : Meth K (He.ga K "Crossing") "row" (He.ma K (He.ga K "Crossing") "row") := He.meth_ok (T.says.d0.fact 98 (f := .meth "Crossing" "row") rfl)
theorem m_Use_asks (T : Tx K mg) : Meth K (He.ga K "Use") "asks" (He.ma K (He.ga K "Use") "asks") := He.meth_ok (T.says.d0.fact 99 (f := .meth "Use" "asks") rfl)
theorem m_Use_makes (T : Tx K mg) : Meth K (He.ga K "Use") "makes" (He.ma K (He.ga K "Use") "makes") := He.meth_ok (T.says.d0.fact 100 (f := .meth "Use" "makes") rfl)
theorem m_Use_told (T : Tx K mg) : Meth K (He.ga K "Use") "told" (He.ma K (He.ga K "Use") "told") := He.meth_ok (T.says.d0.fact 101 (f := .meth "Use" "told") rfl)
theorem m_Use_renamed (T : Tx K mg) : Meth K (He.ga K "Use") "renamed" (He.ma K (He.ga K "Use") "renamed") := He.meth_ok (T.says.d0.fact 102 (f := .meth "Use" "renamed") rfl)
theorem m_Use_row (T : Tx K mg) : Meth K (He.ga K "Use") "row" (He.ma K (He.ga K "Use") "row") := He.meth_ok (T.says.d0.fact 103 (f := .meth "Use" "row") rfl)
theorem m_Helper_told (T : Tx K mg) : Meth K (He.ga K "Helper") "told" (He.ma K (He.ga K "Helper") "told") := He.meth_ok (T.says.d0.fact 104 (f := .meth "Helper" "told") rfl)
theorem m_Plan_told (T : Tx K mg) : Meth K (He.ga K "Plan") "told" (He.ma K (He.ga K "Plan") "told") := He.meth_ok (T.says.d0.fact 105 (f := .meth "Plan" "told") rfl)
theorem m_Reading_take_head (T : Tx K mg) : Meth K (He.ga K "Reading") "take_head" (He.ma K (He.ga K "Reading") "take_head") := He.meth_ok (T.says.d0.fact 106 (f := .meth "Reading" "take_head") rfl)
theorem m_Reading_take_end (T : Tx K mg) : Meth K (He.ga K "Reading") "take_end" (He.ma K (He.ga K "Reading") "take_end") := He.meth_ok (T.says.d0.fact 107 (f := .meth "Reading" "take_end") rfl)
theorem m_Reading_take (T : Tx K mg) : Meth K (He.ga K "Reading") "take" (He.ma K (He.ga K "Reading") "take") := He.meth_ok (T.says.d0.fact 108 (f := .meth "Reading" "take") rfl)
theorem m_Give_asks (T : Tx K mg) : Meth K (He.ga K "Give") "asks" (He.ma K (He.ga K "Give") "asks") := He.meth_ok (T.says.d0.fact 109 (f := .meth "Give" "asks") rfl)
theorem m_Give_makes (T : Tx K mg) : Meth K (He.ga K "Give") "makes" (He.ma K (He.ga K "Give") "makes") := He.meth_ok (T.says.d0.fact 110 (f := .meth "Give" "makes") rfl)
theorem m_Through_makes (T : Tx K mg) : Meth K (He.ga K "Through") "makes" (He.ma K (He.ga K "Through") "makes") := He.meth_ok (T.says.d0.fact 111 (f := .meth "Through" "makes") rfl)
theorem m_About_makes (T : Tx K mg) : Meth K (He.ga K "About") "makes" (He.ma K (He.ga K "About") "makes") := He.meth_ok (T.says.d0.fact 112 (f := .meth "About" "makes") rfl)
theorem m_Crossing_makes (T : Tx K mg) : Meth K (He.ga K "Crossing") "makes" (He.ma K (He.ga K "Crossing") "makes") := He.meth_ok (T.says.d0.fact 113 (f := .meth "Crossing" "makes") rfl)
theorem k_Near (T : Tx K mg) : Mk K (He.ga K "Near") (He.ma K (He.ga K "Near") "__init__") := He.mkr_ok (T.says.d0.fact 114 (f := .mkr "Near") rfl)
theorem k_Far (T : Tx K mg) : Mk K (He.ga K "Far") (He.ma K (He.ga K "Far") "__init__") := He.mkr_ok (T.says.d0.fact 115 (f := .mkr "Far") rfl)
theorem k_Other (T : Tx K mg) : Mk K (He.ga K "Other") (He.ma K (He.ga K "Other") "__init__") := He.mkr_ok (T.says.d0.fact 116 (f := .mkr "Other") rfl)
theorem k_Fraction (T : Tx K mg) : Mk K (He.ga K "Fraction") (He.ma K (He.ga K "Fraction") "__init__") := He.mkr_ok (T.says.d0.fact 117 (f := .mkr "Fraction") rfl)
theorem k_Give (T : Tx K mg) : Mk K (He.ga K "Give") (He.ma K (He.ga K "Give") "__init__") := He.mkr_ok (T.says.d0.fact 118 (f := .mkr "Give") rfl)
theorem k_Through (T : Tx K mg) : Mk K (He.ga K "Through") (He.ma K (He.ga K "Through") "__init__") := He.mkr_ok (T.says.d0.fact 119 (f := .mkr "Through") rfl)
theorem k_About (T : Tx K mg) : Mk K (He.ga K "About") (He.ma K (He.ga K "About") "__init__") := He.mkr_ok (T.says.d0.fact 120 (f := .mkr "About") rfl)
theorem k_Crossing (T : Tx K mg) : Mk K (He.ga K "Crossing") (He.ma K (He.ga K "Crossing") "__init__") := He.mkr_ok (T.says.d0.fact 121 (f := .mkr "Crossing") rfl)
theorem k_Use (T : Tx K mg) : Mk K (He.ga K "Use") (He.ma K (He.ga K "Use") "__init__") := He.mkr_ok (T.says.d0.fact 122 (f := .mkr "Use") rfl)
theorem k_Helper (T : Tx K mg) : Mk K (He.ga K "Helper") (He.ma K (He.ga K "Helper") "__init__") := He.mkr_ok (T.says.d0.fact 123 (f := .mkr "Helper") rfl)
theorem k_Plan (T : Tx K mg) : Mk K (He.ga K "Plan") (He.ma K (He.ga K "Plan") "__init__") := He.mkr_ok (T.says.d0.fact 124 (f := .mkr "Plan") rfl)
theorem k_Reading (T : Tx K mg) : Mk K (He.ga K "Reading") (He.ma K (He.ga K "Reading") "__init__") := He.mkr_ok (T.says.d0.fact 125 (f := .mkr "Reading") rfl)
theorem n_Near_point (T : Tx K mg) : NoAttr K (He.ga K "Near") "point" := He.noat_ok (T.says.d0.fact 126 (f := .noat "Near" "point") rfl)
theorem n_Far_point (T : Tx K mg) : NoAttr K (He.ga K "Far") "point" := He.noat_ok (T.says.d0.fact 127 (f := .noat "Far" "point") rfl)
theorem n_Other_point (T : Tx K mg) : NoAttr K (He.ga K "Other") "point" := He.noat_ok (T.says.d0.fact 128 (f := .noat "Other" "point") rfl)
theorem n_Fraction_top (T : Tx K mg) : NoAttr K (He.ga K "Fraction") "top" := He.noat_ok (T.says.d0.fact 129 (f := .noat "Fraction" "top") rfl)
theorem n_Fraction_bottom (T : Tx K mg) : NoAttr K (He.ga K "Fraction") "bottom" := He.noat_ok (T.says.d0.fact 130 (f := .noat "Fraction" "bottom") rfl)
theorem n_Give_way (T : Tx K mg) : NoAttr K (He.ga K "Give") "way" := He.noat_ok (T.says.d0.fact 131 (f := .noat "Give" "way") rfl)
theorem n_Give_name (T : Tx K mg) : NoAttr K (He.ga K "Give") "name" := He.noat_ok (T.says.d0.fact 132 (f := .noat "Give" "name") rfl)
theorem n_Give_x (T : Tx K mg) : NoAttr K (He.ga K "Give") "x" := He.noat_ok (T.says.d0.fact 133 (f := .noat "Give" "x") rfl)
theorem n_Give_y (T : Tx K mg) : NoAttr K (He.ga K "Give") "y" := He.noat_ok (T.says.d0.fact 134 (f := .noat "Give" "y") rfl)
theorem n_Through_way (T : Tx K mg) : NoAttr K (He.ga K "Through") "way" := He.noat_ok (T.says.d0.fact 135 (f := .noat "Through" "way") rfl)
theorem n_Through_name (T : Tx K mg) : NoAttr K (He.ga K "Through") "name" := He.noat_ok (T.says.d0.fact 136 (f := .noat "Through" "name") rfl)
theorem n_Through_first (T : Tx K mg) : NoAttr K (He.ga K "Through") "first" := He.noat_ok (T.says.d0.fact 137 (f := .noat "Through" "first") rfl)
theorem n_Through_second (T : Tx K mg) : NoAttr K (He.ga K "Through") "second" := He.noat_ok (T.says.d0.fact 138 (f := .noat "Through" "second") rfl)
theorem n_About_way (T : Tx K mg) : NoAttr K (He.ga K "About") "way" := He.noat_ok (T.says.d0.fact 139 (f := .noat "About" "way") rfl)
theorem n_About_name (T : Tx K mg) : NoAttr K (He.ga K "About") "name" := He.noat_ok (T.says.d0.fact 140 (f := .noat "About" "name") rfl)
theorem n_About_middle (T : Tx K mg) : NoAttr K (He.ga K "About") "middle" := He.noat_ok (T.says.d0.fact 141 (f := .noat "About" "middle") rfl)
theorem n_About_one (T : Tx K mg) : NoAttr K (He.ga K "About") "one" := He.noat_ok (T.says.d0.fact 142 (f := .noat "About" "one") rfl)
theorem n_About_other (T : Tx K mg) : NoAttr K (He.ga K "About") "other" := He.noat_ok (T.says.d0.fact 143 (f := .noat "About" "other") rfl)
theorem n_Crossing_way (T : Tx K mg) : NoAttr K (He.ga K "Crossing") "way" := He.noat_ok (T.says.d0.fact 144 (f := .noat "Crossing" "way") rfl)
theorem n_Crossing_name (T : Tx K mg) : NoAttr K (He.ga K "Crossing") "name" := He.noat_ok (T.says.d0.fact 145 (f := .noat "Crossing" "name") rfl)
theorem n_Crossing_one (T : Tx K mg) : NoAttr K (He.ga K "Crossing") "one" := He.noat_ok (T.says.d0.fact 146 (f := .noat "Crossing" "one") rfl)
theorem n_Crossing_other (T : Tx K mg) : NoAttr K (He.ga K "Crossing") "other" := He.noat_ok (T.says.d0.fact 147 (f := .noat "Crossing" "other") rfl)
theorem n_Crossing_choice (T : Tx K mg) : NoAttr K (He.ga K "Crossing") "choice" := He.noat_ok (T.says.d0.fact 148 (f := .noat "Crossing" "choice") rfl)
theorem n_Use_way (T : Tx K mg) : NoAttr K (He.ga K "Use") "way" := He.noat_ok (T.says.d0.fact 149 (f := .noat "Use" "way") rfl)
theorem n_Use_helper (T : Tx K mg) : NoAttr K (He.ga K "Use") "helper" := He.noat_ok (T.says.d0.fact 150 (f := .noat "Use" "helper") rfl)
theorem n_Use_given (T : Tx K mg) : NoAttr K (He.ga K "Use") "given" := He.noat_ok (T.says.d0.fact 151 (f := .noat "Use" "given") rfl)
theorem n_Use_names (T : Tx K mg) : NoAttr K (He.ga K "Use") "names" := He.noat_ok (T.says.d0.fact 152 (f := .noat "Use" "names") rfl)
theorem n_Helper_way (T : Tx K mg) : NoAttr K (He.ga K "Helper") "way" := He.noat_ok (T.says.d0.fact 153 (f := .noat "Helper" "way") rfl)
theorem n_Helper_name (T : Tx K mg) : NoAttr K (He.ga K "Helper") "name" := He.noat_ok (T.says.d0.fact 154 (f := .noat "Helper" "name") rfl)
theorem n_Helper_params (T : Tx K mg) : NoAttr K (He.ga K "Helper") "params" := He.noat_ok (T.says.d0.fact 155 (f := .noat "Helper" "params") rfl)
theorem n_Helper_answers (T : Tx K mg) : NoAttr K (He.ga K "Helper") "answers" := He.noat_ok (T.says.d0.fact 156 (f := .noat "Helper" "answers") rfl)
theorem n_Helper_steps (T : Tx K mg) : NoAttr K (He.ga K "Helper") "steps" := He.noat_ok (T.says.d0.fact 157 (f := .noat "Helper" "steps") rfl)
theorem n_Plan_parts (T : Tx K mg) : NoAttr K (He.ga K "Plan") "parts" := He.noat_ok (T.says.d0.fact 158 (f := .noat "Plan" "parts") rfl)
theorem n_Reading_parts (T : Tx K mg) : NoAttr K (He.ga K "Reading") "parts" := He.noat_ok (T.says.d0.fact 159 (f := .noat "Reading" "parts") rfl)
theorem n_Reading_opened (T : Tx K mg) : NoAttr K (He.ga K "Reading") "opened" := He.noat_ok (T.says.d0.fact 160 (f := .noat "Reading" "opened") rfl)
theorem n_Reading_inner (T : Tx K mg) : NoAttr K (He.ga K "Reading") "inner" := He.noat_ok (T.says.d0.fact 161 (f := .noat "Reading" "inner") rfl)
theorem f_abs (T : Tx K mg) : mg "abs" = none := by
  obtain ⟨h, X, G⟩ := T.at_
  exact He.free_ok X G (T.says.d0.fact 162 (f := .free "abs") rfl)
theorem f_all (T : Tx K mg) : mg "all" = none := by
  obtain ⟨h, X, G⟩ := T.at_
  exact He.free_ok X G (T.says.d0.fact 163 (f := .free "all") rfl)
theorem f_dict (T : Tx K mg) : mg "dict" = none := by
  obtain ⟨h, X, G⟩ := T.at_
  exact He.free_ok X G (T.says.d0.fact 164 (f := .free "dict") rfl)
theorem f_enumerate (T : Tx K mg) : mg "enumerate" = none := by
  obtain ⟨h, X, G⟩ := T.at_
  exact He.free_ok X G (T.says.d0.fact 165 (f := .free "enumerate") rfl)
theorem f_int (T : Tx K mg) : mg "int" = none := by
  obtain ⟨h, X, G⟩ := T.at_
  exact He.free_ok X G (T.says.d0.fact 166 (f := .free "int") rfl)
theorem f_isinstance (T : Tx K mg) : mg "isinstance" = none := by
  obtain ⟨h, X, G⟩ := T.at_
  exact He.free_ok X G (T.says.d0.fact 167 (f := .free "isinstance") rfl)
theorem f_len (T : Tx K mg) : mg "len" = none := by
  obtain ⟨h, X, G⟩ := T.at_
  exact He.free_ok X G (T.says.d0.fact 168 (f := .free "len") rfl)
theorem f_list (T : Tx K mg) : mg "list" = none := by
  obtain ⟨h, X, G⟩ := T.at_
  exact He.free_ok X G (T.says.d0.fact 169 (f := .free "list") rfl)
theorem f_max (T : Tx K mg) : mg "max" = none := by
  obtain ⟨h, X, G⟩ := T.at_
  exact He.free_ok X G (T.says.d0.fact 170 (f := .free "max") rfl)
theorem f_range (T : Tx K mg) : mg "range" = none := by
  obtain ⟨h, X, G⟩ := T.at_
  exact He.free_ok X G (T.says.d0.fact 171 (f := .free "range") rfl)
theorem f_str (T : Tx K mg) : mg "str" = none := by
  obtain ⟨h, X, G⟩ := T.at_
  exact He.free_ok X G (T.says.d0.fact 172 (f := .free "str") rfl)
theorem f_tuple (T : Tx K mg) : mg "tuple" = none := by
  obtain ⟨h, X, G⟩ := T.at_
  exact He.free_ok X G (T.says.d0.fact 173 (f := .free "tuple") rfl)
theorem f_zip (T : Tx K mg) : mg "zip" = none := by
  obtain ⟨h, X, G⟩ := T.at_
  exact He.free_ok X G (T.says.d0.fact 174 (f := .free "zip") rfl)
theorem f_bool (T : Tx K mg) : mg "bool" = none := by
  obtain ⟨h, X, G⟩ := T.at_
  exact He.free_ok X G (T.says.d0.fact 175 (f := .free "bool") rfl)
theorem z_FIGURES_fractions (T : Tx K mg) : ∃ t, mg "FIGURES_fractions" = some (.str "0123456789" t) := by
  obtain ⟨h, X, G⟩ := T.at_
  exact He.str_ok X G (T.says.d0.fact 176 (f := .str "FIGURES_fractions" "0123456789") rfl)
theorem z_LETTERS (T : Tx K mg) : ∃ t, mg "LETTERS" = some (.str "abcdefghijklmnopqrstuvwxyz" t) := by
  obtain ⟨h, X, G⟩ := T.at_
  exact He.str_ok X G (T.says.d0.fact 177 (f := .str "LETTERS" "abcdefghijklmnopqrstuvwxyz") rfl)
theorem z_FIGURES_words (T : Tx K mg) : ∃ t, mg "FIGURES_words" = some (.str "0123456789" t) := by
  obtain ⟨h, X, G⟩ := T.at_
  exact He.str_ok X G (T.says.d0.fact 178 (f := .str "FIGURES_words" "0123456789") rfl)
theorem i_LONGEST_PLAIN (T : Tx K mg) : ∃ t, mg "LONGEST_PLAIN" = some (.int 8 t) := by
  obtain ⟨h, X, G⟩ := T.at_
  exact He.int_ok X G (T.says.d0.fact 179 (f := .int "LONGEST_PLAIN" 8) rfl)
theorem i_LONGEST_NAME (T : Tx K mg) : ∃ t, mg "LONGEST_NAME" = some (.int 40 t) := by
  obtain ⟨h, X, G⟩ := T.at_
  exact He.int_ok X G (T.says.d0.fact 180 (f := .int "LONGEST_NAME" 40) rfl)
theorem i_MOST_SIGNS (T : Tx K mg) : ∃ t, mg "MOST_SIGNS" = some (.int 6000 t) := by
  obtain ⟨h, X, G⟩ := T.at_
  exact He.int_ok X G (T.says.d0.fact 181 (f := .int "MOST_SIGNS" 6000) rfl)
theorem g_KEPT (T : Tx K mg) : mg "KEPT" = some (.ref (He.ga K "KEPT")) := by
  obtain ⟨h, X, G⟩ := T.at_
  exact He.glo_ok X G (T.says.d0.fact 182 (f := .glo "KEPT") rfl)
theorem g_ALONE (T : Tx K mg) : mg "ALONE" = some (.ref (He.ga K "ALONE")) := by
  obtain ⟨h, X, G⟩ := T.at_
  exact He.glo_ok X G (T.says.d0.fact 183 (f := .glo "ALONE") rfl)
theorem g_POINTED (T : Tx K mg) : mg "POINTED" = some (.ref (He.ga K "POINTED")) := by
  obtain ⟨h, X, G⟩ := T.at_
  exact He.glo_ok X G (T.says.d0.fact 184 (f := .glo "POINTED") rfl)
theorem d_way_of (T : Tx K mg) : ∃ fd, FunD K "way_of" "way_of" (defArgs s_way_of) (defBody s_way_of) (defScope s_way_of) [] [] (He.ga K "way_of") fd := T.says.d0.def_ 0 (d := Rod.d_way_of) rfl
theorem d_choice_of (T : Tx K mg) : ∃ fd, FunD K "choice_of" "choice_of" (defArgs s_choice_of) (defBody s_choice_of) (defScope s_choice_of) [] [] (He.ga K "choice_of") fd := T.says.d0.def_ 1 (d := Rod.d_choice_of) rfl
theorem d_common (T : Tx K mg) : ∃ fd, FunD K "common" "common" (defArgs s_common) (defBody s_common) (defScope s_common) [] [] (He.ga K "common") fd := T.says.d0.def_ 2 (d := Rod.d_common) rfl
theorem d_are_figures (T : Tx K mg) : ∃ fd, FunD K "are_figures" "are_figures" (defArgs s_are_figures) (defBody s_are_figures) (defScope s_are_figures) [] [] (He.ga K "are_figures") fd := T.says.d0.def_ 3 (d := Rod.d_are_figures) rfl
theorem d_read_fraction (T : Tx K mg) : ∃ fd, FunD K "read_fraction" "read_fraction" (defArgs s_read_fraction) (defBody s_read_fraction) (defScope s_read_fraction) [V.int 60] [] (He.ga K "read_fraction") fd := T.says.d0.def_ 4 (d := Rod.d_read_fraction) rfl
theorem d_put_otherwise (T : Tx K mg) : ∃ fd, FunD K "put_otherwise" "put_otherwise" (defArgs s_put_otherwise) (defBody s_put_otherwise) (defScope s_put_otherwise) [] [] (He.ga K "put_otherwise") fd := T.says.d0.def_ 5 (d := Rod.d_put_otherwise) rfl
theorem d_with_point (T : Tx K mg) : ∃ fd, FunD K "with_point" "with_point" (defArgs s_with_point) (defBody s_with_point) (defScope s_with_point) [] [] (He.ga K "with_point") fd := T.says.d0.def_ 6 (d := Rod.d_with_point) rfl
theorem d_point_of (T : Tx K mg) : ∃ fd, FunD K "point_of" "point_of" (defArgs s_point_of) (defBody s_point_of) (defScope s_point_of) [] [] (He.ga K "point_of") fd := T.says.d0.def_ 7 (d := Rod.d_point_of) rfl
theorem d_rows_of (T : Tx K mg) : ∃ fd, FunD K "rows_of" "rows_of" (defArgs s_rows_of) (defBody s_rows_of) (defScope s_rows_of) [] [] (He.ga K "rows_of") fd := T.says.d0.def_ 8 (d := Rod.d_rows_of) rfl
theorem d_written (T : Tx K mg) : ∃ fd, FunD K "written" "written" (defArgs s_written) (defBody s_written) (defScope s_written) [] [] (He.ga K "written") fd := T.says.d0.def_ 9 (d := Rod.d_written) rfl
theorem d_is_plain (T : Tx K mg) : ∃ fd, FunD K "is_plain" "is_plain" (defArgs s_is_plain) (defBody s_is_plain) (defScope s_is_plain) [] [] (He.ga K "is_plain") fd := T.says.d0.def_ 10 (d := Rod.d_is_plain) rfl
theorem d_is_name (T : Tx K mg) : ∃ fd, FunD K "is_name" "is_name" (defArgs s_is_name) (defBody s_is_name) (defScope s_is_name) [] [] (He.ga K "is_name") fd := T.says.d0.def_ 11 (d := Rod.d_is_name) rfl
theorem d_words_of (T : Tx K mg) : ∃ fd, FunD K "words_of" "words_of" (defArgs s_words_of) (defBody s_words_of) (defScope s_words_of) [] [] (He.ga K "words_of") fd := T.says.d0.def_ 12 (d := Rod.d_words_of) rfl
theorem d_are_names (T : Tx K mg) : ∃ fd, FunD K "are_names" "are_names" (defArgs s_are_names) (defBody s_are_names) (defScope s_are_names) [] [] (He.ga K "are_names") fd := T.says.d0.def_ 13 (d := Rod.d_are_names) rfl
theorem d_give_of (T : Tx K mg) : ∃ fd, FunD K "give_of" "give_of" (defArgs s_give_of) (defBody s_give_of) (defScope s_give_of) [] [] (He.ga K "give_of") fd := T.says.d0.def_ 14 (d := Rod.d_give_of) rfl
theorem d_choice_told (T : Tx K mg) : ∃ fd, FunD K "choice_told" "choice_told" (defArgs s_choice_told) (defBody s_choice_told) (defScope s_choice_told) [] [] (He.ga K "choice_told") fd := T.says.d0.def_ 15 (d := Rod.d_choice_told) rfl
theorem d_meet_of (T : Tx K mg) : ∃ fd, FunD K "meet_of" "meet_of" (defArgs s_meet_of) (defBody s_meet_of) (defScope s_meet_of) [] [] (He.ga K "meet_of") fd := T.says.d0.def_ 16 (d := Rod.d_meet_of) rfl
theorem d_use_of (T : Tx K mg) : ∃ fd, FunD K "use_of" "use_of" (defArgs s_use_of) (defBody s_use_of) (defScope s_use_of) [] [] (He.ga K "use_of") fd := T.says.d0.def_ 17 (d := Rod.d_use_of) rfl
theorem d_step_of (T : Tx K mg) : ∃ fd, FunD K "step_of" "step_of" (defArgs s_step_of) (defBody s_step_of) (defScope s_step_of) [] [] (He.ga K "step_of") fd := T.says.d0.def_ 18 (d := Rod.d_step_of) rfl
theorem d_head_of (T : Tx K mg) : ∃ fd, FunD K "head_of" "head_of" (defArgs s_head_of) (defBody s_head_of) (defScope s_head_of) [] [] (He.ga K "head_of") fd := T.says.d0.def_ 19 (d := Rod.d_head_of) rfl
theorem d_read (T : Tx K mg) : ∃ fd, FunD K "read" "read" (defArgs s_read) (defBody s_read) (defScope s_read) [] [] (He.ga K "read") fd := T.says.d0.def_ 20 (d := Rod.d_read) rfl
theorem d_L_cell_at (T : Tx K mg) : ∃ fd, FunD K "_law_cell_at" "_law_cell_at" (defArgs s_L_cell_at) (defBody s_L_cell_at) (defScope s_L_cell_at) [] [] (He.ga K "_law_cell_at") fd := T.says.d0.def_ 21 (d := Rod.d_L_cell_at) rfl
theorem d_L_mixed (T : Tx K mg) : ∃ fd, FunD K "_law_mixed" "_law_mixed" (defArgs s_L_mixed) (defBody s_L_mixed) (defScope s_L_mixed) [] [] (He.ga K "_law_mixed") fd := T.says.d0.def_ 22 (d := Rod.d_L_mixed) rfl
theorem d_L_names (T : Tx K mg) : ∃ fd, FunD K "_law_names" "_law_names" (defArgs s_L_names) (defBody s_L_names) (defScope s_L_names) [] [] (He.ga K "_law_names") fd := T.says.d0.def_ 23 (d := Rod.d_L_names) rfl
theorem d_L_figures (T : Tx K mg) : ∃ fd, FunD K "_law_figures" "_law_figures" (defArgs s_L_figures) (defBody s_L_figures) (defScope s_L_figures) [] [] (He.ga K "_law_figures") fd := T.says.d0.def_ 24 (d := Rod.d_L_figures) rfl
theorem d_L_fraction (T : Tx K mg) : ∃ fd, FunD K "_law_fraction" "_law_fraction" (defArgs s_L_fraction) (defBody s_L_fraction) (defScope s_L_fraction) [] [] (He.ga K "_law_fraction") fd := T.says.d0.def_ 25 (d := Rod.d_L_fraction) rfl
theorem d_L_same (T : Tx K mg) : ∃ fd, FunD K "_law_same" "_law_same" (defArgs s_L_same) (defBody s_L_same) (defScope s_L_same) [] [] (He.ga K "_law_same") fd := T.says.d0.def_ 26 (d := Rod.d_L_same) rfl
theorem d_L_choice (T : Tx K mg) : ∃ fd, FunD K "_law_choice" "_law_choice" (defArgs s_L_choice) (defBody s_L_choice) (defScope s_L_choice) [] [] (He.ga K "_law_choice") fd := T.says.d0.def_ 27 (d := Rod.d_L_choice) rfl
theorem d_L_step (T : Tx K mg) : ∃ fd, FunD K "_law_step" "_law_step" (defArgs s_L_step) (defBody s_L_step) (defScope s_L_step) [] [] (He.ga K "_law_step") fd := T.says.d0.def_ 28 (d := Rod.d_L_step) rfl
theorem d_L_kinds_made (T : Tx K mg) : ∃ fd, FunD K "_law_kinds_made" "_law_kinds_made" (defArgs s_L_kinds_made) (defBody s_L_kinds_made) (defScope s_L_kinds_made) [] [] (He.ga K "_law_kinds_made") fd := T.says.d0.def_ 29 (d := Rod.d_L_kinds_made) rfl
theorem d_L_helper (T : Tx K mg) : ∃ fd, FunD K "_law_helper" "_law_helper" (defArgs s_L_helper) (defBody s_L_helper) (defScope s_L_helper) [] [] (He.ga K "_law_helper") fd := T.says.d1.def_ 0 (d := Rod.d_L_helper) rfl
theorem d_L_parts (T : Tx K mg) : ∃ fd, FunD K "_law_parts" "_law_parts" (defArgs s_L_parts) (defBody s_L_parts) (defScope s_L_parts) [] [] (He.ga K "_law_parts") fd := T.says.d1.def_ 1 (d := Rod.d_L_parts) rfl
theorem d_L_row (T : Tx K mg) : ∃ fd, FunD K "_law_row" "_law_row" (defArgs s_L_row) (defBody s_L_row) (defScope s_L_row) [] [] (He.ga K "_law_row") fd := T.says.d1.def_ 2 (d := Rod.d_L_row) rfl
theorem d_L_rows (T : Tx K mg) : ∃ fd, FunD K "_law_rows" "_law_rows" (defArgs s_L_rows) (defBody s_L_rows) (defScope s_L_rows) [] [] (He.ga K "_law_rows") fd := T.says.d1.def_ 3 (d := Rod.d_L_rows) rfl
theorem d_L_step_told (T : Tx K mg) : ∃ fd, FunD K "_law_step_told" "_law_step_told" (defArgs s_L_step_told) (defBody s_L_step_told) (defScope s_L_step_told) [] [] (He.ga K "_law_step_told") fd := T.says.d1.def_ 4 (d := Rod.d_L_step_told) rfl
theorem d_L_plan_told (T : Tx K mg) : ∃ fd, FunD K "_law_plan_told" "_law_plan_told" (defArgs s_L_plan_told) (defBody s_L_plan_told) (defScope s_L_plan_told) [] [] (He.ga K "_law_plan_told") fd := T.says.d1.def_ 5 (d := Rod.d_L_plan_told) rfl
theorem d_L_bare (T : Tx K mg) : ∃ fd, FunD K "_law_bare" "_law_bare" (defArgs s_L_bare) (defBody s_L_bare) (defScope s_L_bare) [] [] (He.ga K "_law_bare") fd := T.says.d1.def_ 6 (d := Rod.d_L_bare) rfl
theorem d_L_steps (T : Tx K mg) : ∃ fd, FunD K "_law_steps" "_law_steps" (defArgs s_L_steps) (defBody s_L_steps) (defScope s_L_steps) [] [] (He.ga K "_law_steps") fd := T.says.d1.def_ 7 (d := Rod.d_L_steps) rfl
theorem d_law (T : Tx K mg) : ∃ fd, FunD K "law" "law" (defArgs s_law) (defBody s_law) (defScope s_law) [] [] (He.ga K "law") fd := T.says.d1.def_ 8 (d := Rod.d_law) rfl
theorem d_First_words (T : Tx K mg) : ∃ fd, FunD K "words" "First.words" (defArgs s_First_words) (defBody s_First_words) (defScope s_First_words) [] [] (He.ma K (He.ga K "First") "words") fd := T.says.d1.def_ 9 (d := Rod.d_First_words) rfl
theorem d_Last_words (T : Tx K mg) : ∃ fd, FunD K "words" "Last.words" (defArgs s_Last_words) (defBody s_Last_words) (defScope s_Last_words) [] [] (He.ma K (He.ga K "Last") "words") fd := T.says.d1.def_ 10 (d := Rod.d_Last_words) rfl
theorem d_LeftOne_words (T : Tx K mg) : ∃ fd, FunD K "words" "LeftOne.words" (defArgs s_LeftOne_words) (defBody s_LeftOne_words) (defScope s_LeftOne_words) [] [] (He.ma K (He.ga K "LeftOne") "words") fd := T.says.d1.def_ 11 (d := Rod.d_LeftOne_words) rfl
theorem d_RightOne_words (T : Tx K mg) : ∃ fd, FunD K "words" "RightOne.words" (defArgs s_RightOne_words) (defBody s_RightOne_words) (defScope s_RightOne_words) [] [] (He.ma K (He.ga K "RightOne") "words") fd := T.says.d1.def_ 12 (d := Rod.d_RightOne_words) rfl
theorem d_Near_init (T : Tx K mg) : ∃ fd, FunD K "__init__" "Near.__init__" (defArgs s_Near_init) (defBody s_Near_init) (defScope s_Near_init) [] [] (He.ma K (He.ga K "Near") "__init__") fd := T.says.d1.def_ 13 (d := Rod.d_Near_init) rfl
theorem d_Near_words (T : Tx K mg) : ∃ fd, FunD K "words" "Near.words" (defArgs s_Near_words) (defBody s_Near_words) (defScope s_Near_words) [] [] (He.ma K (He.ga K "Near") "words") fd := T.says.d1.def_ 14 (d := Rod.d_Near_words) rfl
theorem d_Far_init (T : Tx K mg) : ∃ fd, FunD K "__init__" "Far.__init__" (defArgs s_Far_init) (defBody s_Far_init) (defScope s_Far_init) [] [] (He.ma K (He.ga K "Far") "__init__") fd := T.says.d1.def_ 15 (d := Rod.d_Far_init) rfl
theorem d_Far_words (T : Tx K mg) : ∃ fd, FunD K "words" "Far.words" (defArgs s_Far_words) (defBody s_Far_words) (defScope s_Far_words) [] [] (He.ma K (He.ga K "Far") "words") fd := T.says.d1.def_ 16 (d := Rod.d_Far_words) rfl
theorem d_Other_init (T : Tx K mg) : ∃ fd, FunD K "__init__" "Other.__init__" (defArgs s_Other_init) (defBody s_Other_init) (defScope s_Other_init) [] [] (He.ma K (He.ga K "Other") "__init__") fd := T.says.d1.def_ 17 (d := Rod.d_Other_init) rfl
theorem d_Other_words (T : Tx K mg) : ∃ fd, FunD K "words" "Other.words" (defArgs s_Other_words) (defBody s_Other_words) (defScope s_Other_words) [] [] (He.ma K (He.ga K "Other") "words") fd := T.says.d1.def_ 18 (d := Rod.d_Other_words) rfl
theorem d_Fraction_init (T : Tx K mg) : ∃ fd, FunD K "__init__" "Fraction.__init__" (defArgs s_Fraction_init) (defBody s_Fraction_init) (defScope s_Fraction_init) [V.int 1] [] (He.ma K (He.ga K "Fraction") "__init__") fd := T.says.d1.def_ 19 (d := Rod.d_Fraction_init) rfl
theorem d_Fraction_told (T : Tx K mg) : ∃ fd, FunD K "told" "Fraction.told" (defArgs s_Fraction_told) (defBody s_Fraction_told) (defScope s_Fraction_told) [] [] (He.ma K (He.ga K "Fraction") "told") fd := T.says.d1.def_ 20 (d := Rod.d_Fraction_told) rfl
theorem d_Fraction_text (T : Tx K mg) : ∃ fd, FunD K "text" "Fraction.text" (defArgs s_Fraction_text) (defBody s_Fraction_text) (defScope s_Fraction_text) [] [] (He.ma K (He.ga K "Fraction") "text") fd := T.says.d1.def_ 21 (d := Rod.d_Fraction_text) rfl
theorem d_Step_asks (T : Tx K mg) : ∃ fd, FunD K "asks" "Step.asks" (defArgs s_Step_asks) (defBody s_Step_asks) (defScope s_Step_asks) [] [] (He.ma K (He.ga K "Step") "asks") fd := T.says.d1.def_ 22 (d := Rod.d_Step_asks) rfl
theorem d_Step_makes (T : Tx K mg) : ∃ fd, FunD K "makes" "Step.makes" (defArgs s_Step_makes) (defBody s_Step_makes) (defScope s_Step_makes) [] [] (He.ma K (He.ga K "Step") "makes") fd := T.says.d1.def_ 23 (d := Rod.d_Step_makes) rfl
theorem d_Give_init (T : Tx K mg) : ∃ fd, FunD K "__init__" "Give.__init__" (defArgs s_Give_init) (defBody s_Give_init) (defScope s_Give_init) [] [] (He.ma K (He.ga K "Give") "__init__") fd := T.says.d1.def_ 24 (d := Rod.d_Give_init) rfl
theorem d_Give_told (T : Tx K mg) : ∃ fd, FunD K "told" "Give.told" (defArgs s_Give_told) (defBody s_Give_told) (defScope s_Give_told) [] [] (He.ma K (He.ga K "Give") "told") fd := T.says.d1.def_ 25 (d := Rod.d_Give_told) rfl
theorem d_Give_renamed (T : Tx K mg) : ∃ fd, FunD K "renamed" "Give.renamed" (defArgs s_Give_renamed) (defBody s_Give_renamed) (defScope s_Give_renamed) [] [] (He.ma K (He.ga K "Give") "renamed") fd := T.says.d1.def_ 26 (d := Rod.d_Give_renamed) rfl
theorem d_Give_row (T : Tx K mg) : ∃ fd, FunD K "row" "Give.row" (defArgs s_Give_row) (defBody s_Give_row) (defScope s_Give_row) [] [] (He.ma K (He.ga K "Give") "row") fd := T.says.d1.def_ 27 (d := Rod.d_Give_row) rfl
theorem d_Through_init (T : Tx K mg) : ∃ fd, FunD K "__init__" "Through.__init__" (defArgs s_Through_init) (defBody s_Through_init) (defScope s_Through_init) [] [] (He.ma K (He.ga K "Through") "__init__") fd := T.says.d1.def_ 28 (d := Rod.d_Through_init) rfl
theorem d_Through_asks (T : Tx K mg) : ∃ fd, FunD K "asks" "Through.asks" (defArgs s_Through_asks) (defBody s_Through_asks) (defScope s_Through_asks) [] [] (He.ma K (He.ga K "Through") "asks") fd := T.says.d1.def_ 29 (d := Rod.d_Through_asks) rfl
theorem d_Through_told (T : Tx K mg) : ∃ fd, FunD K "told" "Through.told" (defArgs s_Through_told) (defBody s_Through_told) (defScope s_Through_told) [] [] (He.ma K (He.ga K "Through") "told") fd := T.says.d2.def_ 0 (d := Rod.d_Through_told) rfl
theorem d_Through_renamed (T : Tx K mg) : ∃ fd, FunD K "renamed" "Through.renamed" (defArgs s_Through_renamed) (defBody s_Through_renamed) (defScope s_Through_renamed) [] [] (He.ma K (He.ga K "Through") "renamed") fd := T.says.d2.def_ 1 (d := Rod.d_Through_renamed) rfl
theorem d_Through_row (T : Tx K mg) : ∃ fd, FunD K "row" "Through.row" (defArgs s_Through_row) (defBody s_Through_row) (defScope s_Through_row) [] [] (He.ma K (He.ga K "Through") "row") fd := T.says.d2.def_ 2 (d := Rod.d_Through_row) rfl
theorem d_About_init (T : Tx K mg) : ∃ fd, FunD K "__init__" "About.__init__" (defArgs s_About_init) (defBody s_About_init) (defScope s_About_init) [V.non] [] (He.ma K (He.ga K "About") "__init__") fd := T.says.d2.def_ 3 (d := Rod.d_About_init) rfl
theorem d_About_asks (T : Tx K mg) : ∃ fd, FunD K "asks" "About.asks" (defArgs s_About_asks) (defBody s_About_asks) (defScope s_About_asks) [] [] (He.ma K (He.ga K "About") "asks") fd := T.says.d2.def_ 4 (d := Rod.d_About_asks) rfl
theorem d_About_told (T : Tx K mg) : ∃ fd, FunD K "told" "About.told" (defArgs s_About_told) (defBody s_About_told) (defScope s_About_told) [] [] (He.ma K (He.ga K "About") "told") fd := T.says.d2.def_ 5 (d := Rod.d_About_told) rfl
theorem d_About_renamed (T : Tx K mg) : ∃ fd, FunD K "renamed" "About.renamed" (defArgs s_About_renamed) (defBody s_About_renamed) (defScope s_About_renamed) [] [] (He.ma K (He.ga K "About") "renamed") fd := T.says.d2.def_ 6 (d := Rod.d_About_renamed) rfl
theorem d_About_row (T : Tx K mg) : ∃ fd, FunD K "row" "About.row" (defArgs s_About_row) (defBody s_About_row) (defScope s_About_row) [] [] (He.ma K (He.ga K "About") "row") fd := T.says.d2.def_ 7 (d := Rod.d_About_row) rfl
theorem d_Crossing_init (T : Tx K mg) : ∃ fd, FunD K "__init__" "Crossing.__init__" (defArgs s_Crossing_init) (defBody s_Crossing_init) (defScope s_Crossing_init) [V.non] [] (He.ma K (He.ga K "Crossing") "__init__") fd := T.says.d2.def_ 8 (d := Rod.d_Crossing_init) rfl
theorem d_Crossing_asks (T : Tx K mg) : ∃ fd, FunD K "asks" "Crossing.asks" (defArgs s_Crossing_asks) (defBody s_Crossing_asks) (defScope s_Crossing_asks) [] [] (He.ma K (He.ga K "Crossing") "asks") fd := T.says.d2.def_ 9 (d := Rod.d_Crossing_asks) rfl
theorem d_Crossing_told (T : Tx K mg) : ∃ fd, FunD K "told" "Crossing.told" (defArgs s_Crossing_told) (defBody s_Crossing_told) (defScope s_Crossing_told) [] [] (He.ma K (He.ga K "Crossing") "told") fd := T.says.d2.def_ 10 (d := Rod.d_Crossing_told) rfl
theorem d_Crossing_renamed (T : Tx K mg) : ∃ fd, FunD K "renamed" "Crossing.renamed" (defArgs s_Crossing_renamed) (defBody s_Crossing_renamed) (defScope s_Crossing_renamed) [] [] (He.ma K (He.ga K "Crossing") "renamed") fd := T.says.d2.def_ 11 (d := Rod.d_Crossing_renamed) rfl
theorem d_Crossing_row (T : Tx K mg) : ∃ fd, FunD K "row" "Crossing.row" (defArgs s_Crossing_row) (defBody s_Crossing_row) (defScope s_Crossing_row) [] [] (He.ma K (He.ga K "Crossing") "row") fd := T.says.d2.def_ 12 (d := Rod.d_Crossing_row) rfl
theorem d_Use_init (T : Tx K mg) : ∃ fd, FunD K "__init__" "Use.__init__" (defArgs s_Use_init) (defBody s_Use_init) (defScope s_Use_init) [] [] (He.ma K (He.ga K "Use") "__init__") fd := T.says.d2.def_ 13 (d := Rod.d_Use_init) rfl
theorem d_Use_asks (T : Tx K mg) : ∃ fd, FunD K "asks" "Use.asks" (defArgs s_Use_asks) (defBody s_Use_asks) (defScope s_Use_asks) [] [] (He.ma K (He.ga K "Use") "asks") fd := T.says.d2.def_ 14 (d := Rod.d_Use_asks) rfl
theorem d_Use_makes (T : Tx K mg) : ∃ fd, FunD K "makes" "Use.makes" (defArgs s_Use_makes) (defBody s_Use_makes) (defScope s_Use_makes) [] [] (He.ma K (He.ga K "Use") "makes") fd := T.says.d2.def_ 15 (d := Rod.d_Use_makes) rfl
theorem d_Use_told (T : Tx K mg) : ∃ fd, FunD K "told" "Use.told" (defArgs s_Use_told) (defBody s_Use_told) (defScope s_Use_told) [] [] (He.ma K (He.ga K "Use") "told") fd := T.says.d2.def_ 16 (d := Rod.d_Use_told) rfl
theorem d_Use_renamed (T : Tx K mg) : ∃ fd, FunD K "renamed" "Use.renamed" (defArgs s_Use_renamed) (defBody s_Use_renamed) (defScope s_Use_renamed) [] [] (He.ma K (He.ga K "Use") "renamed") fd := T.says.d2.def_ 17 (d := Rod.d_Use_renamed) rfl
theorem d_Use_row (T : Tx K mg) : ∃ fd, FunD K "row" "Use.row" (defArgs s_Use_row) (defBody s_Use_row) (defScope s_Use_row) [] [] (He.ma K (He.ga K "Use") "row") fd := T.says.d2.def_ 18 (d := Rod.d_Use_row) rfl
theorem d_Helper_init (T : Tx K mg) : ∃ fd, FunD K "__init__" "Helper.__init__" (defArgs s_Helper_init) (defBody s_Helper_init) (defScope s_Helper_init) [] [] (He.ma K (He.ga K "Helper") "__init__") fd := T.says.d2.def_ 19 (d := Rod.d_Helper_init) rfl
theorem d_Helper_told (T : Tx K mg) : ∃ fd, FunD K "told" "Helper.told" (defArgs s_Helper_told) (defBody s_Helper_told) (defScope s_Helper_told) [] [] (He.ma K (He.ga K "Helper") "told") fd := T.says.d2.def_ 20 (d := Rod.d_Helper_told) rfl
theorem d_Plan_init (T : Tx K mg) : ∃ fd, FunD K "__init__" "Plan.__init__" (defArgs s_Plan_init) (defBody s_Plan_init) (defScope s_Plan_init) [] [] (He.ma K (He.ga K "Plan") "__init__") fd := T.says.d2.def_ 21 (d := Rod.d_Plan_init) rfl
theorem d_Plan_told (T : Tx K mg) : ∃ fd, FunD K "told" "Plan.told" (defArgs s_Plan_told) (defBody s_Plan_told) (defScope s_Plan_told) [] [] (He.ma K (He.ga K "Plan") "told") fd := T.says.d2.def_ 22 (d := Rod.d_Plan_told) rfl
theorem d_Reading_init (T : Tx K mg) : ∃ fd, FunD K "__init__" "Reading.__init__" (defArgs s_Reading_init) (defBody s_Reading_init) (defScope s_Reading_init) [] [] (He.ma K (He.ga K "Reading") "__init__") fd := T.says.d2.def_ 23 (d := Rod.d_Reading_init) rfl
theorem d_Reading_take_head (T : Tx K mg) : ∃ fd, FunD K "take_head" "Reading.take_head" (defArgs s_Reading_take_head) (defBody s_Reading_take_head) (defScope s_Reading_take_head) [] [] (He.ma K (He.ga K "Reading") "take_head") fd := T.says.d2.def_ 24 (d := Rod.d_Reading_take_head) rfl
theorem d_Reading_take_end (T : Tx K mg) : ∃ fd, FunD K "take_end" "Reading.take_end" (defArgs s_Reading_take_end) (defBody s_Reading_take_end) (defScope s_Reading_take_end) [] [] (He.ma K (He.ga K "Reading") "take_end") fd := T.says.d2.def_ 25 (d := Rod.d_Reading_take_end) rfl
theorem d_Reading_take (T : Tx K mg) : ∃ fd, FunD K "take" "Reading.take" (defArgs s_Reading_take) (defBody s_Reading_take) (defScope s_Reading_take) [] [] (He.ma K (He.ga K "Reading") "take") fd := T.says.d2.def_ 26 (d := Rod.d_Reading_take) rfl
theorem d_Give_asks (T : Tx K mg) : ∃ fd, FunD K "asks" "Step.asks" (defArgs s_Give_asks) (defBody s_Give_asks) (defScope s_Give_asks) [] [] (He.ma K (He.ga K "Give") "asks") fd := T.says.d2.def_ 27 (d := Rod.d_Give_asks) rfl
theorem d_Give_makes (T : Tx K mg) : ∃ fd, FunD K "makes" "Step.makes" (defArgs s_Give_makes) (defBody s_Give_makes) (defScope s_Give_makes) [] [] (He.ma K (He.ga K "Give") "makes") fd := T.says.d2.def_ 28 (d := Rod.d_Give_makes) rfl
theorem d_Through_makes (T : Tx K mg) : ∃ fd, FunD K "makes" "Step.makes" (defArgs s_Through_makes) (defBody s_Through_makes) (defScope s_Through_makes) [] [] (He.ma K (He.ga K "Through") "makes") fd := T.says.d2.def_ 29 (d := Rod.d_Through_makes) rfl
theorem d_About_makes (T : Tx K mg) : ∃ fd, FunD K "makes" "Step.makes" (defArgs s_About_makes) (defBody s_About_makes) (defScope s_About_makes) [] [] (He.ma K (He.ga K "About") "makes") fd := T.says.d3.def_ 0 (d := Rod.d_About_makes) rfl
theorem d_Crossing_makes (T : Tx K mg) : ∃ fd, FunD K "makes" "Step.makes" (defArgs s_Crossing_makes) (defBody s_Crossing_makes) (defScope s_Crossing_makes) [] [] (He.ma K (He.ga K "Crossing") "makes") fd := T.says.d3.def_ 1 (d := Rod.d_Crossing_makes) rfl
end Tx
end
end Rod
set_option Elab.async false
set_option linter.all false
set_option maxRecDepth 100000
set_option maxHeartbeats 0
/-! ## the head's run, three looks at its end -/
namespace Rod
open PySem PySem.Spec PyProof.Rows L2
abbrev R : PySem.W.OpenRow := PySem.W.OpenLaw.row PySem.Challenge.rw_rodleg_k56_whole_texts
def ob (s : PySem.W.SharedT) : AlR := obsR (HandSHeadRun.getT s)
theorem ob_eq (s : PySem.W.SharedT) : ob s = hookR.obs s.abs := obsR_eq (HandSHeadRun.getT_eq s)
noncomputable abbrev endE (w : World) (os : OsState) : Option PySem.W.SharedT := HandSHeadRun.endF (HandSHeadRun.stepQ (HandSHeadRun.denQ HandSHeadRun.tabQ) R.prog w) 20000 R.prog w os
theorem runA (w : World) (os : OsState) : (endE w os).map (fun s => (HandSHeadRun.looksF R.prog (PySem.W.boot_heap w.params) s.abs, HandSHeadRun.seenQ (PySem.W.view R.prog [114]) nm (importedModules R.prog.main.body) (fun s => PySem.W.xlAt (PySem.W.view R.prog [114]) [] s && PySem.W.recOk R.toRowW.records s) s.abs)) = some (true, PySem.W.openGood (PySem.W.view R.prog [114]) nm) := by
  kernel_rfl
theorem runB (w : World) (os : OsState) : (endE w os).map (fun s => forceA (asL (HandSHeadRun.getT s) used) fun as => forceK (HandSHeadRun.getT s) as fun K => (He.obsD fa fn0 K, He.obsD [] fn1 K, ex K)) = some (He.valD fn0, He.valD fn1, true) := by
  kernel_rfl
theorem runC (w : World) (os : OsState) : (endE w os).map (fun s => forceA (asL (HandSHeadRun.getT s) used) fun as => forceK (HandSHeadRun.getT s) as fun K => (He.obsD [] fn2 K, He.obsD [] fn3 K)) = some (He.valD fn2, He.valD fn3) := by
  kernel_rfl
end Rod
set_option Elab.async false
set_option linter.all false
set_option maxRecDepth 100000
set_option maxHeartbeats 4000000
namespace Rod
open PySem PySem.Spec PyProof.Rows L2
theorem run (w : World) : HandSHeadRun.RunEq R (PySem.W.view R.prog [114]) hookR ob 20000 nm w := by
  intro os
  have hA := runA w os
  have hB := runB w os
  have hC := runC w os
  show (endE w os).map _ = _
  obtain ⟨s, hs, eA⟩ := Option.map_eq_some_iff.mp hA
  rw [hs] at hB hC ⊢
  have eB := Option.some.inj (show some _ = some _ from hB)
  have eC := Option.some.inj (show some _ = some _ from hC)
  dsimp only at eB eC
  rw [forceA_eq, forceK_eq] at eB eC
  have e1 := congrArg Prod.fst eA
  have e2 := congrArg Prod.snd eA
  have eo : ob s = hookR.val w := by
    show obsR (HandSHeadRun.getT s) = (He.valD fn0, He.valD fn1, He.valD fn2, He.valD fn3, true)
    rw [obsR_is]
    show (He.obsD fa fn0 _, He.obsD [] fn1 _, He.obsD [] fn2 _, He.obsD [] fn3 _, ex _) = _
    have b1 := congrArg Prod.fst eB
    have b2 := congrArg (fun z => z.2.1) eB
    have b3 := congrArg (fun z => z.2.2) eB
    have c1 := congrArg Prod.fst eC
    have c2 := congrArg Prod.snd eC
    dsimp only at b1 b2 b3 c1 c2
    rw [b1, b2, b3, c1, c2]
  refine congrArg some ?_
  dsimp only at e1 e2
  refine Prod.ext e1 (Prod.ext e2 eo)
end Rod
set_option Elab.async false
set_option linter.all false
set_option maxRecDepth 100000
set_option maxHeartbeats 4000000
/-! ## M. The data and the plain mathematics -/
namespace Rod
open PySem PySem.Spec PyProof.Rows L2 TL
/-! ### texts as lists of signs -/
theorem sp_tl : tl (" " : Str) = [32] := by decide +kernel
theorem nl_tl : tl ("\n" : Str) = [10] := by decide +kernel
theorem dot_tl : tl ("." : Str) = [46] := by decide +kernel
theorem slash_tl : tl ("/" : Str) = [47] := by decide +kernel
theorem dash_tl : tl ("-" : Str) = [45] := by decide +kernel
theorem empty_tl : tl ("" : Str) = [] := by decide +kernel
/-- a word of a row -/
structure Wd (w : Str) : Prop where
  ne : tl w ≠ []
  sp : 32 ∉ tl w
  nl : 10 ∉ tl w
theorem Wd.ne0 {w : Str} (h : Wd w) : w ≠ ("" : Str) := fun e => h.ne (by rw [e, empty_tl])
def rowT (ws : List Str) : Str := Txt.join " " ws
theorem rowT_tl (ws : List Str) : tl (rowT ws) = joinL [32] (ws.map tl) := by
  unfold rowT
  rw [join_eq, tl_join, sp_tl]
theorem split_row {ws : List Str} (hn : ws ≠ []) (h : ∀ w ∈ ws, Wd w) : Txt.split (rowT ws) " " = ws :=
  split_join sp_tl (by decide +kernel) hn fun p hp => (h p hp).sp
theorem mem_joinL {c : Nat} {S : List Nat} : ∀ {ps : List (List Nat)}, c ∈ joinL S ps → c ∈ S ∨ ∃ p ∈ ps, c ∈ p
  | [], h => by cases h
  | [p], h => .inr ⟨p, List.mem_singleton.mpr rfl, h⟩
  | p :: q :: r, h => by
    have h : c ∈ p ++ (S ++ joinL S (q :: r)) := h
    rcases List.mem_append.mp h with h | h
    · exact .inr ⟨p, List.mem_cons_self, h⟩
    · rcases List.mem_append.mp h with h | h
      · exact .inl h
      · rcases mem_joinL h with h | ⟨p', hp, h⟩
        · exact .inl h
        · exact .inr ⟨p', List.mem_cons_of_mem _ hp, h⟩
theorem row_nl {ws : List Str} (h : ∀ w ∈ ws, Wd w) : 10 ∉ tl (rowT ws) := fun hm => by
  rw [rowT_tl] at hm
  rcases mem_joinL hm with hm | ⟨p, hp, hm⟩
  · simp at hm
  · obtain ⟨w, hw, rfl⟩ := List.mem_map.mp hp
    exact (h w hw).nl hm
/-- rows to a text: each ended by a line end -/
def textT (rows : List Str) : Str := Txt.join "" (rows.map fun r => r ++ "\n")
theorem joinL_nil : ∀ ps : List (List Nat), joinL [] ps = ps.flatten
  | [] => rfl
  | [p] => by simp [joinL]
  | p :: q :: r => by
    show p ++ ([] ++ joinL [] (q :: r)) = _
    rw [joinL_nil (q :: r)]
    simp
theorem textT_tl (rows : List Str) : tl (textT rows) = (rows.map fun r => tl r ++ [10]).flatten := by
  unfold textT
  rw [join_eq, tl_join, empty_tl, joinL_nil, List.map_map]
  congr 1
  refine List.map_congr_left fun r _ => ?_
  show tl (r ++ "\n") = _
  rw [tl_append, nl_tl]
theorem joinL_ends (S : List Nat) : ∀ ps : List (List Nat), joinL S (ps ++ [[]]) = (ps.map fun p => p ++ S).flatten
  | [] => rfl
  | [p] => by
    show p ++ (S ++ []) = _
    simp
  | p :: q :: r => by
    show p ++ (S ++ joinL S (q :: r ++ [[]])) = _
    rw [joinL_ends S (q :: r)]
    simp
theorem split_text {rows : List Str} (h : ∀ r ∈ rows, 10 ∉ tl r) : Txt.split (textT rows) "\n" = rows ++ [("" : Str)] := by
  have e : textT rows = Txt.join "\n" (rows ++ [("" : Str)]) := by
    refine ext_tl ?_
    rw [textT_tl, join_eq, tl_join, nl_tl, List.map_append, List.map_cons, List.map_nil, empty_tl, joinL_ends, List.map_map]
    rfl
  rw [e]
  refine split_join nl_tl (by decide +kernel) (by simp) fun p hp => ?_
  rcases List.mem_append.mp hp with hp | hp
  · exact h p hp
  · rw [List.mem_singleton.mp hp, empty_tl]
    simp
theorem len_textT (rows : List Str) : (textT rows).length = (rows.map fun r => r.length + 1).sum := by
  rw [len_tl, textT_tl, List.length_flatten, List.map_map]
  congr 1
  refine List.map_congr_left fun r _ => ?_
  show (tl r ++ [10]).length = _
  rw [List.length_append, ← len_tl] <;> rfl
/-! ### names -/
def isLow (c : Nat) : Prop := 97 ≤ c ∧ c ≤ 122
def isFig (c : Nat) : Prop := 48 ≤ c ∧ c ≤ 57
structure Pl (w : Str) : Prop where
  le : w.length ≤ 8
  nk : w ∉ kept
  hd : ∃ c r, tl w = c :: r ∧ isLow c
  al : ∀ c ∈ tl w, isLow c ∨ isFig c
theorem Pl.pos {w : Str} (h : Pl w) : 1 ≤ w.length := by
  obtain ⟨c, r, e, _⟩ := h.hd
  rw [len_tl, e]
  exact Nat.succ_le_succ (Nat.zero_le _)
theorem Pl.ndot {w : Str} (h : Pl w) : 46 ∉ tl w := fun hm => by
  rcases h.al 46 hm with h | h
  · exact absurd h.1 (by decide)
  · exact absurd h.1 (by decide)
theorem Pl.wd {w : Str} (h : Pl w) : Wd w := by
  obtain ⟨c, r, e, _⟩ := h.hd
  refine ⟨by rw [e]; simp, fun hm => ?_, fun hm => ?_⟩
  all_goals
    rcases h.al _ hm with h | h
    · exact absurd h.1 (by decide)
    · exact absurd h.1 (by decide)
/-- a name: plain ones with points between -/
structure Nm (w : Str) : Prop where
  le : w.length ≤ 40
  ps : ∃ ps : List Str, ps ≠ [] ∧ (∀ p ∈ ps, Pl p) ∧ w = Txt.join "." ps
theorem Nm.split {w : Str} (h : Nm w) : ∀ p ∈ Txt.split w ".", Pl p := by
  obtain ⟨ps, hn, hp, rfl⟩ := h.ps
  rw [split_join dot_tl (by decide +kernel) hn fun p q => (hp p q).ndot]
  exact hp
theorem Pl.nm {w : Str} (h : Pl w) : Nm w := ⟨Nat.le_trans h.le (by decide), [w], by simp, fun p hp => by rw [List.mem_singleton.mp hp]; exact h, by rw [join_eq]; rfl⟩
theorem Nm.al {w : Str} (h : Nm w) : ∀ c ∈ tl w, c = 46 ∨ isLow c ∨ isFig c := by
  obtain ⟨ps, hn, hp, rfl⟩ := h.ps
  intro c hc
  rw [join_eq, tl_join, dot_tl] at hc
  rcases mem_joinL hc with hc | ⟨p, hm, hc⟩
  · exact .inl (List.mem_singleton.mp hc)
  · obtain ⟨q, hq, rfl⟩ := List.mem_map.mp hm
    exact .inr ((hp q hq).al c hc)
theorem joinL_ne {S : List Nat} : ∀ {ps : List (List Nat)}, ps ≠ [] → (∀ p ∈ ps, p ≠ []) → joinL S ps ≠ []
  | [], h, _ => absurd rfl h
  | [p], _, h => h p (List.mem_singleton.mpr rfl)
  | p :: q :: r, _, h => by
    show p ++ (S ++ joinL S (q :: r)) ≠ []
    have := h p List.mem_cons_self
    simp [this]
theorem Nm.wd {w : Str} (h : Nm w) : Wd w := by
  refine ⟨?_, fun hm => ?_, fun hm => ?_⟩
  · obtain ⟨ps, hn, hp, rfl⟩ := h.ps
    rw [join_eq, tl_join]
    refine joinL_ne (fun e => hn (List.map_eq_nil_iff.mp e)) fun p hm => ?_
    obtain ⟨q, hq, rfl⟩ := List.mem_map.mp hm
    exact (hp q hq).wd.ne
  all_goals
    rcases h.al _ hm with h | h | h
    · exact absurd h (by decide)
    · exact absurd h.1 (by decide)
    · exact absurd h.1 (by decide)
/-! ### fractions -/
structure Fr where
  neg : Bool
  n : Nat
  d : Nat
  sl : Bool
  deriving DecidableEq
namespace Fr
structure ok (f : Fr) : Prop where
  n60 : f.n < 10 ^ 60
  d1 : 1 ≤ f.d
  d60 : f.d < 10 ^ 60
  sg : f.neg = true → 0 < f.n
  one : f.sl = false → f.d = 1
def nmL (f : Fr) : List Nat := (if f.neg = true then [45] else []) ++ numL f.n
def txL (f : Fr) : List Nat := f.nmL ++ (if f.sl = true then 47 :: numL f.d else [])
def tx (f : Fr) : Str := ⟨f.txL.toArray⟩
def g (f : Fr) : Nat := Nat.gcd f.n f.d
def top (f : Fr) : Int := if f.neg = true then -((f.n : Nat) : Int) else (f.n : Nat)
def vt (f : Fr) : Int := if f.neg = true then -((f.n / f.g : Nat) : Int) else ((f.n / f.g : Nat) : Int)
def vb (f : Fr) : Int := ((f.d / f.g : Nat) : Int)
def red (f : Fr) : Fr := ⟨f.neg, f.n / f.g, f.d / f.g, decide (f.d / f.g ≠ 1)⟩
variable {f : Fr}
theorem tl_tx : tl f.tx = f.txL := by
  unfold tx tl
  rfl
theorem ok.g1 (h : f.ok) : 1 ≤ f.g := Nat.gcd_pos_of_pos_right _ h.d1
theorem ok.red (h : f.ok) : f.red.ok := by
  have hg := h.g1
  have hd : f.g ∣ f.d := Nat.gcd_dvd_right _ _
  have hn : f.g ∣ f.n := Nat.gcd_dvd_left _ _
  refine ⟨Nat.lt_of_le_of_lt (Nat.div_le_self _ _) h.n60, Nat.div_pos (Nat.le_of_dvd h.d1 hd) hg, Nat.lt_of_le_of_lt (Nat.div_le_self _ _) h.d60, fun e => ?_, fun e => ?_⟩
  · have := h.sg e
    exact Nat.div_pos (Nat.le_of_dvd this hn) hg
  · have e : decide (f.d / f.g ≠ 1) = false := e
    have e2 := of_decide_eq_false e
    exact Decidable.of_not_not e2
theorem ok.red_g (h : f.ok) : f.red.g = 1 := Nat.gcd_div_gcd_div_gcd_of_pos_right h.d1
theorem ok.red_red (h : f.ok) : f.red.red = f.red := by
  have e := h.red_g
  have e1 : f.red.red = ⟨f.red.neg, f.red.n / f.red.g, f.red.d / f.red.g, decide (f.red.d / f.red.g ≠ 1)⟩ := rfl
  rw [e1, e, Nat.div_one, Nat.div_one]
  rfl
theorem ok.red_vt (h : f.ok) : f.red.vt = f.vt := by
  have e := h.red_g
  have e1 : f.red.vt = if f.red.neg = true then -((f.red.n / f.red.g : Nat) : Int) else ((f.red.n / f.red.g : Nat) : Int) := rfl
  rw [e1, e, Nat.div_one]
  rfl
theorem ok.red_vb (h : f.ok) : f.red.vb = f.vb := by
  have e := h.red_g
  have e1 : f.red.vb = ((f.red.d / f.red.g : Nat) : Int) := rfl
  rw [e1, e, Nat.div_one]
  rfl
theorem numL_mono {m n : Nat} (h : m ≤ n) : (numL m).length ≤ (numL n).length := by
  by_cases hm : m < 10
  · rw [numL_lt hm]
    have := numL_ne n
    cases e : numL n with
    | nil => exact absurd e this
    | cons _ _ => exact Nat.succ_le_succ (Nat.zero_le _)
  · -- m has k + 1 figures, so 10 ^ k ≤ m
    have key : ∀ (m n : Nat), m ≤ n → (numL m).length ≤ (numL n).length := by
      intro m
      induction m using Nat.strongRecOn with
      | _ m ih =>
        intro n h
        by_cases hm : m < 10
        · rw [numL_lt hm]
          have := numL_ne n
          cases e : numL n with
          | nil => exact absurd e this
          | cons _ _ => exact Nat.succ_le_succ (Nat.zero_le _)
        · rw [numL_step (by omega), numL_step (n := n) (by omega), List.length_append, List.length_append]
          have := ih (m / 10) (by omega) (n / 10) (Nat.div_le_div_right h)
          simp only [List.length_cons, List.length_nil]
          omega
    exact key m n h
theorem ok.red_len (h : f.ok) : f.red.tx.length ≤ f.tx.length := by
  rw [len_tl, len_tl, tl_tx, tl_tx]
  unfold txL nmL
  have h1 : (numL (f.n / f.g)).length ≤ (numL f.n).length := numL_mono (Nat.div_le_self _ _)
  have h2 : (numL (f.d / f.g)).length ≤ (numL f.d).length := numL_mono (Nat.div_le_self _ _)
  have e1 : f.red.neg = f.neg := rfl
  have e2 : f.red.n = f.n / f.g := rfl
  have e3 : f.red.d = f.d / f.g := rfl
  rw [e1, e2, e3]
  simp only [List.length_append]
  have h3 : (if f.red.sl = true then 47 :: numL (f.d / f.g) else []).length ≤ (if f.sl = true then 47 :: numL f.d else []).length := by
    by_cases hs : f.sl = true
    · rw [if_pos hs]
      by_cases hr : f.red.sl = true
      · rw [if_pos hr]
        simp only [List.length_cons]
        omega
      · rw [if_neg hr]
        exact Nat.zero_le _
    · have hd := h.one (by simpa using hs)
      have hr : f.red.sl = false := by
        show decide (f.d / f.g ≠ 1) = false
        rw [hd]
        have : f.g = 1 := by
          show Nat.gcd f.n f.d = 1
          rw [hd]
          exact Nat.gcd_one_right _
        rw [this]
        decide
      rw [hr, if_neg (by decide)]
      exact Nat.zero_le _
  omega
theorem ok.n_len (h : f.ok) : (numL f.n).length ≤ 60 := numL_len (by decide) h.n60
theorem ok.d_len (h : f.ok) : (numL f.d).length ≤ 60 := numL_len (by decide) h.d60
theorem ok.len (h : f.ok) : f.tx.length ≤ 122 := by
  rw [len_tl, tl_tx]
  unfold txL nmL
  have h1 := h.n_len
  have h2 := h.d_len
  simp only [List.length_append]
  have a1 : (if f.neg = true then [45] else ([] : List Nat)).length ≤ 1 := by split <;> simp
  have a2 : (if f.sl = true then 47 :: numL f.d else []).length ≤ 61 := by split <;> simp <;> omega
  omega
theorem signs (f : Fr) : ∀ c ∈ f.txL, 45 ≤ c ∧ c ≤ 57 := by
  intro c hc
  unfold txL nmL at hc
  have dg : ∀ n, c ∈ numL n → 45 ≤ c ∧ c ≤ 57 := fun n hm => by
    have := numL_digits n c hm
    omega
  rcases List.mem_append.mp hc with hc | hc
  · rcases List.mem_append.mp hc with hc | hc
    · split at hc
      · rw [List.mem_singleton.mp hc]; decide
      · cases hc
    · exact dg _ hc
  · split at hc
    · rcases List.mem_cons.mp hc with e | hc
      · rw [e]; decide
      · exact dg _ hc
    · cases hc
theorem wd (f : Fr) : Wd f.tx := by
  refine ⟨?_, fun hm => ?_, fun hm => ?_⟩
  · rw [tl_tx]
    unfold txL nmL
    have := numL_ne f.n
    simp [this]
  all_goals
    rw [tl_tx] at hm
    have := f.signs _ hm
    omega
end Fr
end Rod
set_option Elab.async false
set_option linter.all false
set_option maxRecDepth 100000
set_option maxHeartbeats 4000000
namespace Rod
open PySem PySem.Spec PyProof.Rows L2 TL
/-! ### choices, steps, parts -/
inductive Ch where
  | first | last | left | right
  | near (p : Str) | far (p : Str) | other (p : Str)
namespace Ch
def ws : Ch → List Str
  | .first => ["first"]
  | .last => ["last"]
  | .left => ["left"]
  | .right => ["right"]
  | .near p => ["near", p]
  | .far p => ["far", p]
  | .other p => ["other", p]
def pts : Ch → List Str
  | .near p => [p]
  | .far p => [p]
  | .other p => [p]
  | _ => []
end Ch
inductive Stp where
  | give (n : Str) (x y : Fr)
  | line (n a b : Str)
  | round (n a b : Str) (o : Option Str)
  | meet (n a b : Str) (c : Option Ch)
  | use (h : Str) (gs ns : List Str)
def chW : Option Ch → List Str
  | none => []
  | some c => c.ws
def chP : Option Ch → List Str
  | none => []
  | some c => c.pts
def dNs (ns : List Str) : PyData := .tuple (ns.map PyData.str)
def dW (k : List Int) : PyData := .tuple (k.map PyData.int)
def dO : Option Str → PyData
  | none => .none
  | some p => .str p
def dC : Option Ch → PyData
  | none => .none
  | some c => dNs c.ws
def dF (f : Fr) : PyData := .tuple [.int f.vt, .int f.vb]
def dFt (f : Fr) : PyData := .tuple [.str f.tx, dF f]
namespace Stp
def tag : Stp → Str
  | .give .. => "give"
  | .line .. => "line"
  | .round .. => "round"
  | .meet .. => "meet"
  | .use .. => "use"
def isGive : Stp → Bool
  | .give .. => true
  | _ => false
/-- the words of the row -/
def ws : Stp → List Str
  | .give n x y => ["give", n, x.tx, y.tx]
  | .line n a b => ["line", n, a, b]
  | .round n a b o => "round" :: n :: a :: b :: o.toList
  | .meet n a b c => "meet" :: n :: a :: b :: chW c
  | .use h gs ns => "use" :: h :: (gs ++ ("as" : Str) :: ns)
def asks : Stp → List Str
  | .give .. => []
  | .line _ a b => [a, b]
  | .round _ a b o => a :: b :: o.toList
  | .meet _ a b c => a :: b :: chP c
  | .use _ gs _ => gs
def makes : Stp → List Str
  | .give n _ _ => [n]
  | .line n _ _ => [n]
  | .round n _ _ _ => [n]
  | .meet n _ _ _ => [n]
  | .use _ _ ns => ns
/-- the told fields behind the way -/
def rest : Stp → List PyData
  | .give n x y => [.str n, dF x, dF y]
  | .line n a b => [.str n, .str a, .str b]
  | .round n a b o => [.str n, .str a, .str b, dO o]
  | .meet n a b c => [.str n, .str a, .str b, dC c]
  | .use h gs ns => [.str h, dNs gs, dNs ns]
/-- the same as the law draws it -/
def drest : Stp → List PyData
  | .give n x y => [.str n, dFt x, dFt y]
  | s => s.rest
def td (way : PyData) (s : Stp) : PyData := .tuple (.str s.tag :: way :: s.rest)
def bd (s : Stp) : PyData := .tuple (.str s.tag :: s.rest)
def dr (s : Stp) : PyData := .tuple (.str s.tag :: s.drest)
def red : Stp → Stp
  | .give n x y => .give n x.red y.red
  | s => s
def names (s : Stp) : List Str := match s with
  | .use h gs ns => h :: (gs ++ ns)
  | s => s.makes ++ s.asks
structure ok (s : Stp) : Prop where
  nm : ∀ n ∈ s.names, Nm n
  fr : ∀ n x y, s = .give n x y → x.ok ∧ y.ok
  us : ∀ h gs ns, s = .use h gs ns → gs ≠ [] ∧ gs.length ≤ 4 ∧ ns ≠ [] ∧ ns.length ≤ 3
end Stp
inductive Prt where
  | stp (s : Stp)
  | hlp (n : Str) (ps as : List Str) (ss : List Stp)
/-- rows of a text -/
inductive Ln where
  | stp (s : Stp)
  | head (n : Str) (ps as : List Str)
  | fin
def Ln.ws : Ln → List Str
  | .stp s => s.ws
  | .head n ps as => "helper" :: n :: (ps ++ ("gives" : Str) :: as)
  | .fin => ["end"]
def Ln.row (l : Ln) : Str := rowT l.ws
def Stp.row (s : Stp) : Str := rowT s.ws
def tds : Int → List Stp → List PyData
  | _, [] => []
  | k, s :: r => s.td (dW [k]) :: tds (k + 1) r
namespace Prt
def nl : Prt → Nat
  | .stp _ => 1
  | .hlp _ _ _ ss => ss.length + 2
def lns : Prt → List Ln
  | .stp s => [.stp s]
  | .hlp n ps as ss => .head n ps as :: (ss.map Ln.stp ++ [.fin])
def td (k : Int) : Prt → PyData
  | .stp s => s.td (dW [k])
  | .hlp n ps as ss => .tuple [.str "helper", dW [k], .str n, dNs ps, dNs as, .tuple (tds (k + 1) ss)]
def bd : Prt → PyData
  | .stp s => s.bd
  | .hlp n ps as ss => .tuple [.str "helper", .str n, dNs ps, dNs as, .tuple (ss.map Stp.bd)]
def dr : Prt → PyData
  | .stp s => s.dr
  | .hlp n ps as ss => .tuple [.str "helper", .str n, dNs ps, dNs as, .tuple (ss.map Stp.dr)]
def red : Prt → Prt
  | .stp s => .stp s.red
  | .hlp n ps as ss => .hlp n ps as (ss.map Stp.red)
structure hok (n : Str) (ps as : List Str) (ss : List Stp) : Prop where
  nm : Pl n
  pm : ∀ p ∈ ps, Pl p
  am : ∀ p ∈ as, Pl p
  pn : ps ≠ []
  pl : ps.length ≤ 4
  an : as ≠ []
  al : as.length ≤ 3
  sl : ss.length ≤ 5
  sm : ∀ s ∈ ss, s.ok ∧ s.isGive = false
def ok : Prt → Prop
  | .stp s => s.ok
  | .hlp n ps as ss => hok n ps as ss
end Prt
def ptds : Int → List Prt → List PyData
  | _, [] => []
  | k, p :: r => p.td k :: ptds (k + p.nl) r
def lines (ps : List Prt) : List Ln := ps.flatMap Prt.lns
def rows (ps : List Prt) : List Str := (lines ps).map Ln.row
def textP (ps : List Prt) : Str := textT (rows ps)
theorem Prt.lns_len (p : Prt) : p.lns.length = p.nl := by
  cases p with
  | stp s => rfl
  | hlp n ps as ss => simp [Prt.lns, Prt.nl]
theorem lines_cons (p : Prt) (ps : List Prt) : lines (p :: ps) = p.lns ++ lines ps := rfl
/-! ### what is kept by red -/
theorem Stp.ok.red_td {s : Stp} (h : s.ok) (w : PyData) : s.red.td w = s.td w := by
  cases s with
  | give n x y =>
    obtain ⟨hx, hy⟩ := h.fr n x y rfl
    show PyData.tuple [.str "give", w, .str n, dF x.red, dF y.red] = PyData.tuple [.str "give", w, .str n, dF x, dF y]
    unfold dF
    rw [hx.red_vt, hx.red_vb, hy.red_vt, hy.red_vb]
  | _ => rfl
theorem Stp.ok.red_bd {s : Stp} (h : s.ok) : s.red.bd = s.bd := by
  cases s with
  | give n x y =>
    obtain ⟨hx, hy⟩ := h.fr n x y rfl
    show PyData.tuple [.str "give", .str n, dF x.red, dF y.red] = PyData.tuple [.str "give", .str n, dF x, dF y]
    unfold dF
    rw [hx.red_vt, hx.red_vb, hy.red_vt, hy.red_vb]
  | _ => rfl
theorem Stp.ok.red {s : Stp} (h : s.ok) : s.red.ok := by
  cases s with
  | give n x y =>
    obtain ⟨hx, hy⟩ := h.fr n x y rfl
    refine ⟨h.nm, fun n' x' y' e => ?_, fun h' gs ns e => nomatch e⟩
    injection e with _ e1 e2
    rw [← e1, ← e2]
    exact ⟨hx.red, hy.red⟩
  | line => exact h
  | round => exact h
  | meet => exact h
  | use => exact h
theorem Stp.ok.red_red {s : Stp} (h : s.ok) : s.red.red = s.red := by
  cases s with
  | give n x y =>
    obtain ⟨hx, hy⟩ := h.fr n x y rfl
    show Stp.give n x.red.red y.red.red = Stp.give n x.red y.red
    rw [hx.red_red, hy.red_red]
  | _ => rfl
theorem Stp.isGive_red (s : Stp) : s.red.isGive = s.isGive := by cases s <;> rfl
theorem tds_red : ∀ (ss : List Stp) (k : Int), (∀ s ∈ ss, s.ok) → tds k (ss.map Stp.red) = tds k ss
  | [], _, _ => rfl
  | s :: r, k, h => by
    show s.red.td (dW [k]) :: tds (k + 1) (r.map Stp.red) = s.td (dW [k]) :: tds (k + 1) r
    rw [(h s List.mem_cons_self).red_td, tds_red r (k + 1) fun s hs => h s (List.mem_cons_of_mem _ hs)]
theorem Prt.ok.red {p : Prt} (h : p.ok) : p.red.ok := by
  cases p with
  | stp s => exact Stp.ok.red h
  | hlp n ps as ss =>
    obtain ⟨h1, h2, h3, h4, h5, h6, h7, h8, h9⟩ := (h : Prt.hok n ps as ss)
    refine (⟨h1, h2, h3, h4, h5, h6, h7, by rw [List.length_map]; exact h8, fun s hs => ?_⟩ : Prt.hok n ps as (ss.map Stp.red))
    obtain ⟨s', hs', rfl⟩ := List.mem_map.mp hs
    exact ⟨(h9 s' hs').1.red, by rw [Stp.isGive_red]; exact (h9 s' hs').2⟩
theorem Prt.ok.red_td {p : Prt} (h : p.ok) (k : Int) : p.red.td k = p.td k := by
  cases p with
  | stp s => exact Stp.ok.red_td h _
  | hlp n ps as ss =>
    show PyData.tuple [.str "helper", dW [k], .str n, dNs ps, dNs as, .tuple (tds (k + 1) (ss.map Stp.red))] = _
    rw [tds_red ss _ fun s hs => (h.sm s hs).1]
    rfl
theorem Prt.ok.red_bd {p : Prt} (h : p.ok) : p.red.bd = p.bd := by
  cases p with
  | stp s => exact Stp.ok.red_bd h
  | hlp n ps as ss =>
    show PyData.tuple [.str "helper", .str n, dNs ps, dNs as, .tuple ((ss.map Stp.red).map Stp.bd)] = PyData.tuple [.str "helper", .str n, dNs ps, dNs as, .tuple (ss.map Stp.bd)]
    rw [List.map_map, List.map_congr_left (f := Stp.bd ∘ Stp.red) (g := Stp.bd) fun s hs => (h.sm s hs).1.red_bd]
theorem Prt.ok.red_red {p : Prt} (h : p.ok) : p.red.red = p.red := by
  cases p with
  | stp s =>
    show Prt.stp s.red.red = Prt.stp s.red
    rw [Stp.ok.red_red h]
  | hlp n ps as ss =>
    show Prt.hlp n ps as ((ss.map Stp.red).map Stp.red) = Prt.hlp n ps as (ss.map Stp.red)
    rw [List.map_map, List.map_congr_left (f := Stp.red ∘ Stp.red) (g := Stp.red) fun s hs => (h.sm s hs).1.red_red]
theorem Prt.nl_red (p : Prt) : p.red.nl = p.nl := by
  cases p with
  | stp s => rfl
  | hlp n ps as ss =>
    show (ss.map Stp.red).length + 2 = ss.length + 2
    rw [List.length_map]
theorem ptds_red : ∀ (ps : List Prt) (k : Int), (∀ p ∈ ps, p.ok) → ptds k (ps.map Prt.red) = ptds k ps
  | [], _, _ => rfl
  | p :: r, k, h => by
    show p.red.td k :: ptds (k + p.red.nl) (r.map Prt.red) = p.td k :: ptds (k + p.nl) r
    rw [(h p List.mem_cons_self).red_td, Prt.nl_red, ptds_red r _ fun s hs => h s (List.mem_cons_of_mem _ hs)]
theorem oks_red {ps : List Prt} (h : ∀ p ∈ ps, p.ok) : ∀ p ∈ ps.map Prt.red, p.ok := fun p hp => by
  obtain ⟨q, hq, rfl⟩ := List.mem_map.mp hp
  exact (h q hq).red
theorem red_reds {ps : List Prt} (h : ∀ p ∈ ps, p.ok) : (ps.map Prt.red).map Prt.red = ps.map Prt.red := by
  rw [List.map_map]
  exact List.map_congr_left fun p hp => (h p hp).red_red
/-! ### words of rows -/
theorem kept_wd : ∀ w ∈ kept, Wd w := by
  have h : ∀ w ∈ kept, tl w ≠ [] ∧ 32 ∉ tl w ∧ 10 ∉ tl w := by decide +kernel
  exact fun w hw => ⟨(h w hw).1, (h w hw).2.1, (h w hw).2.2⟩
theorem wdK (w : Str) (h : w ∈ kept := by decide +kernel) : Wd w := kept_wd w h
end Rod
set_option Elab.async false
set_option linter.all false
set_option maxRecDepth 100000
set_option maxHeartbeats 4000000
/-! ## B. What stands in the heap -/
namespace Rod
open PySem PySem.Spec PyProof.Rows L2 TL
/-! ### fields -/
def fNear (v0 : V) : List (Str × V) := putF "point" v0 ([])
theorem fNear_point (v0 : V) : (fNear v0).lookup ("point" : Str) = some v0 := by
  unfold fNear
  rw [lookup_putF, if_pos rfl]
theorem fNear_no_words (v0 : V) : (fNear v0).lookup ("words" : Str) = none := by
  unfold fNear
  rw [lookup_putF, if_neg (by decide +kernel)]
  rfl
def fFar (v0 : V) : List (Str × V) := putF "point" v0 ([])
theorem fFar_point (v0 : V) : (fFar v0).lookup ("point" : Str) = some v0 := by
  unfold fFar
  rw [lookup_putF, if_pos rfl]
theorem fFar_no_words (v0 : V) : (fFar v0).lookup ("words" : Str) = none := by
  unfold fFar
  rw [lookup_putF, if_neg (by decide +kernel)]
  rfl
def fOther (v0 : V) : List (Str × V) := putF "point" v0 ([])
theorem fOther_point (v0 : V) : (fOther v0).lookup ("point" : Str) = some v0 := by
  unfold fOther
  rw [lookup_putF, if_pos rfl]
theorem fOther_no_words (v0 : V) : (fOther v0).lookup ("words" : Str) = none := by
  unfold fOther
  rw [lookup_putF, if_neg (by decide +kernel)]
  rfl
def fFraction (v0 v1 : V) : List (Str × V) := putF "bottom" v1 (putF "top" v0 ([]))
theorem fFraction_top (v0 v1 : V) : (fFraction v0 v1).lookup ("top" : Str) = some v0 := by
  unfold fFraction
  rw [lookup_putF, if_neg (by decide +kernel), lookup_putF, if_pos rfl]
theorem fFraction_bottom (v0 v1 : V) : (fFraction v0 v1).lookup ("bottom" : Str) = some v1 := by
  unfold fFraction
  rw [lookup_putF, if_pos rfl]
theorem fFraction_no_told (v0 v1 : V) : (fFraction v0 v1).lookup ("told" : Str) = none := by
  unfold fFraction
  rw [lookup_putF, if_neg (by decide +kernel), lookup_putF, if_neg (by decide +kernel)]
  rfl
theorem fFraction_no_text (v0 v1 : V) : (fFraction v0 v1).lookup ("text" : Str) = none := by
  unfold fFraction
  rw [lookup_putF, if_neg (by decide +kernel), lookup_putF, if_neg (by decide +kernel)]
  rfl
def fGive (v0 v1 v2 v3 : V) : List (Str × V) := putF "y" v3 (putF "x" v2 (putF "name" v1 (putF "way" v0 ([]))))
theorem fGive_way (v0 v1 v2 v3 : V) : (fGive v0 v1 v2 v3).lookup ("way" : Str) = some v0 := by
  unfold fGive
  rw [lookup_putF, if_neg (by decide +kernel), lookup_putF, if_neg (by decide +kernel), lookup_putF, if_neg (by decide +kernel), lookup_putF, if_pos rfl]
theorem fGive_name (v0 v1 v2 v3 : V) : (fGive v0 v1 v2 v3).lookup ("name" : Str) = some v1 := by
  unfold fGive
  rw [lookup_putF, if_neg (by decide +kernel), lookup_putF, if_neg (by decide +kernel), lookup_putF, if_pos rfl]
theorem fGive_x (v0 v1 v2 v3 : V) : (fGive v0 v1 v2 v3).lookup ("x" : Str) = some v2 := by
  unfold fGive
  rw [lookup_putF, if_neg (by decide +kernel), lookup_putF, if_pos rfl]
theorem fGive_y (v0 v1 v2 v3 : V) : (fGive v0 v1 v2 v3).lookup ("y" : Str) = some v3 := by
  unfold fGive
  rw [lookup_putF, if_pos rfl]
theorem fGive_no_told (v0 v1 v2 v3 : V) : (fGive v0 v1 v2 v3).lookup ("told" : Str) = none := by
  unfold fGive
  rw [lookup_putF, if_neg (by decide +kernel), lookup_putF, if_neg (by decide +kernel), lookup_putF, if_neg (by decide +kernel), lookup_putF, if_neg (by decide +kernel)]
  rfl
theorem fGive_no_renamed (v0 v1 v2 v3 : V) : (fGive v0 v1 v2 v3).lookup ("renamed" : Str) = none := by
  unfold fGive
  rw [lookup_putF, if_neg (by decide +kernel), lookup_putF, if_neg (by decide +kernel), lookup_putF, if_neg (by decide +kernel), lookup_putF, if_neg (by decide +kernel)]
  rfl
theorem fGive_no_row (v0 v1 v2 v3 : V) : (fGive v0 v1 v2 v3).lookup ("row" : Str) = none := by
  unfold fGive
  rw [lookup_putF, if_neg (by decide +kernel), lookup_putF, if_neg (by decide +kernel), lookup_putF, if_neg (by decide +kernel), lookup_putF, if_neg (by decide +kernel)]
  rfl
theorem fGive_no_asks (v0 v1 v2 v3 : V) : (fGive v0 v1 v2 v3).lookup ("asks" : Str) = none := by
  unfold fGive
  rw [lookup_putF, if_neg (by decide +kernel), lookup_putF, if_neg (by decide +kernel), lookup_putF, if_neg (by decide +kernel), lookup_putF, if_neg (by decide +kernel)]
  rfl
theorem fGive_no_makes (v0 v1 v2 v3 : V) : (fGive v0 v1 v2 v3).lookup ("makes" : Str) = none := by
  unfold fGive
  rw [lookup_putF, if_neg (by decide +kernel), lookup_putF, if_neg (by decide +kernel), lookup_putF, if_neg (by decide +kernel), lookup_putF, if_neg (by decide +kernel)]
  rfl
def fThrough (v0 v1 v2 v3 : V) : List (Str × V) := putF "second" v3 (putF "first" v2 (putF "name" v1 (putF "way" v0 ([]))))
theorem fThrough_way (v0 v1 v2 v3 : V) : (fThrough v0 v1 v2 v3).lookup ("way" : Str) = some v0 := by
  unfold fThrough
  rw [lookup_putF, if_neg (by decide +kernel), lookup_putF, if_neg (by decide +kernel), lookup_putF, if_neg (by decide +kernel), lookup_putF, if_pos rfl]
theorem fThrough_name (v0 v1 v2 v3 : V) : (fThrough v0 v1 v2 v3).lookup ("name" : Str) = some v1 := by
  unfold fThrough
  rw [lookup_putF, if_neg (by decide +kernel), lookup_putF, if_neg (by decide +kernel), lookup_putF, if_pos rfl]
theorem fThrough_first (v0 v1 v2 v3 : V) : (fThrough v0 v1 v2 v3).lookup ("first" : Str) = some v2 := by
  unfold fThrough
  rw [lookup_putF, if_neg (by decide +kernel), lookup_putF, if_pos rfl]
theorem fThrough_second (v0 v1 v2 v3 : V) : (fThrough v0 v1 v2 v3).lookup ("second" : Str) = some v3 := by
  unfold fThrough
  rw [lookup_putF, if_pos rfl]
theorem fThrough_no_told (v0 v1 v2 v3 : V) : (fThrough v0 v1 v2 v3).lookup ("told" : Str) = none := by
  unfold fThrough
  rw [lookup_putF, if_neg (by decide +kernel), lookup_putF, if_neg (by decide +kernel), lookup_putF, if_neg (by decide +kernel), lookup_putF, if_neg (by decide +kernel)]
  rfl
theorem fThrough_no_renamed (v0 v1 v2 v3 : V) : (fThrough v0 v1 v2 v3).lookup ("renamed" : Str) = none := by
  unfold fThrough
  rw [lookup_putF, if_neg (by decide +kernel), lookup_putF, if_neg (by decide +kernel), lookup_putF, if_neg (by decide +kernel), lookup_putF, if_neg (by decide +kernel)]
  rfl
theorem fThrough_no_row (v0 v1 v2 v3 : V) : (fThrough v0 v1 v2 v3).lookup ("row" : Str) = none := by
  unfold fThrough
  rw [lookup_putF, if_neg (by decide +kernel), lookup_putF, if_neg (by decide +kernel), lookup_putF, if_neg (by decide +kernel), lookup_putF, if_neg (by decide +kernel)]
  rfl
theorem fThrough_no_asks (v0 v1 v2 v3 : V) : (fThrough v0 v1 v2 v3).lookup ("asks" : Str) = none := by
  unfold fThrough
  rw [lookup_putF, if_neg (by decide +kernel), lookup_putF, if_neg (by decide +kernel), lookup_putF, if_neg (by decide +kernel), lookup_putF, if_neg (by decide +kernel)]
  rfl
theorem fThrough_no_makes (v0 v1 v2 v3 : V) : (fThrough v0 v1 v2 v3).lookup ("makes" : Str) = none := by
  unfold fThrough
  rw [lookup_putF, if_neg (by decide +kernel), lookup_putF, if_neg (by decide +kernel), lookup_putF, if_neg (by decide +kernel), lookup_putF, if_neg (by decide +kernel)]
  rfl
def fAbout (v0 v1 v2 v3 v4 : V) : List (Str × V) := putF "other" v4 (putF "one" v3 (putF "middle" v2 (putF "name" v1 (putF "way" v0 ([])))))
theorem fAbout_way (v0 v1 v2 v3 v4 : V) : (fAbout v0 v1 v2 v3 v4).lookup ("way" : Str) = some v0 := by
  unfold fAbout
  rw [lookup_putF, if_neg (by decide +kernel), lookup_putF, if_neg (by decide +kernel), lookup_putF, if_neg (by decide +kernel), lookup_putF, if_neg (by decide +kernel), lookup_putF, if_pos rfl]
theorem fAbout_name (v0 v1 v2 v3 v4 : V) : (fAbout v0 v1 v2 v3 v4).lookup ("name" : Str) = some v1 := by
  unfold fAbout
  rw [lookup_putF, if_neg (by decide +kernel), lookup_putF, if_neg (by decide +kernel), lookup_putF, if_neg (by decide +kernel), lookup_putF, if_pos rfl]
theorem fAbout_middle (v0 v1 v2 v3 v4 : V) : (fAbout v0 v1 v2 v3 v4).lookup ("middle" : Str) = some v2 := by
  unfold fAbout
  rw [lookup_putF, if_neg (by decide +kernel), lookup_putF, if_neg (by decide +kernel), lookup_putF, if_pos rfl]
theorem fAbout_one (v0 v1 v2 v3 v4 : V) : (fAbout v0 v1 v2 v3 v4).lookup ("one" : Str) = some v3 := by
  unfold fAbout
  rw [lookup_putF, if_neg (by decide +kernel), lookup_putF, if_pos rfl]
theorem fAbout_other (v0 v1 v2 v3 v4 : V) : (fAbout v0 v1 v2 v3 v4).lookup ("other" : Str) = some v4 := by
  unfold fAbout
  rw [lookup_putF, if_pos rfl]
theorem fAbout_no_told (v0 v1 v2 v3 v4 : V) : (fAbout v0 v1 v2 v3 v4).lookup ("told" : Str) = none := by
  unfold fAbout
  rw [lookup_putF, if_neg (by decide +kernel), lookup_putF, if_neg (by decide +kernel), lookup_putF, if_neg (by decide +kernel), lookup_putF, if_neg (by decide +kernel), lookup_putF, if_neg (by decide +kernel)]
  rfl
theorem fAbout_no_renamed (v0 v1 v2 v3 v4 : V) : (fAbout v0 v1 v2 v3 v4).lookup ("renamed" : Str) = none := by
  unfold fAbout
  rw [lookup_putF, if_neg (by decide +kernel), lookup_putF, if_neg (by decide +kernel), lookup_putF, if_neg (by decide +kernel), lookup_putF, if_neg (by decide +kernel), lookup_putF, if_neg (by decide +kernel)]
  rfl
theorem fAbout_no_row (v0 v1 v2 v3 v4 : V) : (fAbout v0 v1 v2 v3 v4).lookup ("row" : Str) = none := by
  unfold fAbout
  rw [lookup_putF, if_neg (by decide +kernel), lookup_putF, if_neg (by decide +kernel), lookup_putF, if_neg (by decide +kernel), lookup_putF, if_neg (by decide +kernel), lookup_putF, if_neg (by decide +kernel)]
  rfl
theorem fAbout_no_asks (v0 v1 v2 v3 v4 : V) : (fAbout v0 v1 v2 v3 v4).lookup ("asks" : Str) = none := by
  unfold fAbout
  rw [lookup_putF, if_neg (by decide +kernel), lookup_putF, if_neg (by decide +kernel), lookup_putF, if_neg (by decide +kernel), lookup_putF, if_neg (by decide +kernel), lookup_putF, if_neg (by decide +kernel)]
  rfl
theorem fAbout_no_makes (v0 v1 v2 v3 v4 : V) : (fAbout v0 v1 v2 v3 v4).lookup ("makes" : Str) = none := by
  unfold fAbout
  rw [lookup_putF, if_neg (by decide +kernel), lookup_putF, if_neg (by decide +kernel), lookup_putF, if_neg (by decide +kernel), lookup_putF, if_neg (by decide +kernel), lookup_putF, if_neg (by decide +kernel)]
  rfl
def fCrossing (v0 v1 v2 v3 v4 : V) : List (Str × V) := putF "choice" v4 (putF "other" v3 (putF "one" v2 (putF "name" v1 (putF "way" v0 ([])))))
theorem fCrossing_way (v0 v1 v2 v3 v4 : V) : (fCrossing v0 v1 v2 v3 v4).lookup ("way" : Str) = some v0 := by
  unfold fCrossing
  rw [lookup_putF, if_neg (by decide +kernel), lookup_putF, if_neg (by decide +kernel), lookup_putF, if_neg (by decide +kernel), lookup_putF, if_neg (by decide +kernel), lookup_putF, if_pos rfl]
theorem fCrossing_name (v0 v1 v2 v3 v4 : V) : (fCrossing v0 v1 v2 v3 v4).lookup ("name" : Str) = some v1 := by
  unfold fCrossing
  rw [lookup_putF, if_neg (by decide +kernel), lookup_putF, if_neg (by decide +kernel), lookup_putF, if_neg (by decide +kernel), lookup_putF, if_pos rfl]
theorem fCrossing_one (v0 v1 v2 v3 v4 : V) : (fCrossing v0 v1 v2 v3 v4).lookup ("one" : Str) = some v2 := by
  unfold fCrossing
  rw [lookup_putF, if_neg (by decide +kernel), lookup_putF, if_neg (by decide +kernel), lookup_putF, if_pos rfl]
theorem fCrossing_other (v0 v1 v2 v3 v4 : V) : (fCrossing v0 v1 v2 v3 v4).lookup ("other" : Str) = some v3 := by
  unfold fCrossing
  rw [lookup_putF, if_neg (by decide +kernel), lookup_putF, if_pos rfl]
theorem fCrossing_choice (v0 v1 v2 v3 v4 : V) : (fCrossing v0 v1 v2 v3 v4).lookup ("choice" : Str) = some v4 := by
  unfold fCrossing
  rw [lookup_putF, if_pos rfl]
theorem fCrossing_no_told (v0 v1 v2 v3 v4 : V) : (fCrossing v0 v1 v2 v3 v4).lookup ("told" : Str) = none := by
  unfold fCrossing
  rw [lookup_putF, if_neg (by decide +kernel), lookup_putF, if_neg (by decide +kernel), lookup_putF, if_neg (by decide +kernel), lookup_putF, if_neg (by decide +kernel), lookup_putF, if_neg (by decide +kernel)]
  rfl
theorem fCrossing_no_renamed (v0 v1 v2 v3 v4 : V) : (fCrossing v0 v1 v2 v3 v4).lookup ("renamed" : Str) = none := by
  unfold fCrossing
  rw [lookup_putF, if_neg (by decide +kernel), lookup_putF, if_neg (by decide +kernel), lookup_putF, if_neg (by decide +kernel), lookup_putF, if_neg (by decide +kernel), lookup_putF, if_neg (by decide +kernel)]
  rfl
theorem fCrossing_no_row (v0 v1 v2 v3 v4 : V) : (fCrossing v0 v1 v2 v3 v4).lookup ("row" : Str) = none := by
  unfold fCrossing
  rw [lookup_putF, if_neg (by decide +kernel), lookup_putF, if_neg (by decide +kernel), lookup_putF, if_neg (by decide +kernel), lookup_putF, if_neg (by decide +kernel), lookup_putF, if_neg (by decide +kernel)]
  rfl
theorem fCrossing_no_asks (v0 v1 v2 v3 v4 : V) : (fCrossing v0 v1 v2 v3 v4).lookup ("asks" : Str) = none := by
  unfold fCrossing
  rw [lookup_putF, if_neg (by decide +kernel), lookup_putF, if_neg (by decide +kernel), lookup_putF, if_neg (by decide +kernel), lookup_putF, if_neg (by decide +kernel), lookup_putF, if_neg (by decide +kernel)]
  rfl
theorem fCrossing_no_makes (v0 v1 v2 v3 v4 : V) : (fCrossing v0 v1 v2 v3 v4).lookup ("makes" : Str) = none := by
  unfold fCrossing
  rw [lookup_putF, if_neg (by decide +kernel), lookup_putF, if_neg (by decide +kernel), lookup_putF, if_neg (by decide +kernel), lookup_putF, if_neg (by decide +kernel), lookup_putF, if_neg (by decide +kernel)]
  rfl
def fUse (v0 v1 v2 v3 : V) : List (Str × V) := putF "names" v3 (putF "given" v2 (putF "helper" v1 (putF "way" v0 ([]))))
theorem fUse_way (v0 v1 v2 v3 : V) : (fUse v0 v1 v2 v3).lookup ("way" : Str) = some v0 := by
  unfold fUse
  rw [lookup_putF, if_neg (by decide +kernel), lookup_putF, if_neg (by decide +kernel), lookup_putF, if_neg (by decide +kernel), lookup_putF, if_pos rfl]
theorem fUse_helper (v0 v1 v2 v3 : V) : (fUse v0 v1 v2 v3).lookup ("helper" : Str) = some v1 := by
  unfold fUse
  rw [lookup_putF, if_neg (by decide +kernel), lookup_putF, if_neg (by decide +kernel), lookup_putF, if_pos rfl]
theorem fUse_given (v0 v1 v2 v3 : V) : (fUse v0 v1 v2 v3).lookup ("given" : Str) = some v2 := by
  unfold fUse
  rw [lookup_putF, if_neg (by decide +kernel), lookup_putF, if_pos rfl]
theorem fUse_names (v0 v1 v2 v3 : V) : (fUse v0 v1 v2 v3).lookup ("names" : Str) = some v3 := by
  unfold fUse
  rw [lookup_putF, if_pos rfl]
theorem fUse_no_told (v0 v1 v2 v3 : V) : (fUse v0 v1 v2 v3).lookup ("told" : Str) = none := by
  unfold fUse
  rw [lookup_putF, if_neg (by decide +kernel), lookup_putF, if_neg (by decide +kernel), lookup_putF, if_neg (by decide +kernel), lookup_putF, if_neg (by decide +kernel)]
  rfl
theorem fUse_no_renamed (v0 v1 v2 v3 : V) : (fUse v0 v1 v2 v3).lookup ("renamed" : Str) = none := by
  unfold fUse
  rw [lookup_putF, if_neg (by decide +kernel), lookup_putF, if_neg (by decide +kernel), lookup_putF, if_neg (by decide +kernel), lookup_putF, if_neg (by decide +kernel)]
  rfl
theorem fUse_no_row (v0 v1 v2 v3 : V) : (fUse v0 v1 v2 v3).lookup ("row" : Str) = none := by
  unfold fUse
  rw [lookup_putF, if_neg (by decide +kernel), lookup_putF, if_neg (by decide +kernel), lookup_putF, if_neg (by decide +kernel), lookup_putF, if_neg (by decide +kernel)]
  rfl
theorem fUse_no_asks (v0 v1 v2 v3 : V) : (fUse v0 v1 v2 v3).lookup ("asks" : Str) = none := by
  unfold fUse
  rw [lookup_putF, if_neg (by decide +kernel), lookup_putF, if_neg (by decide +kernel), lookup_putF, if_neg (by decide +kernel), lookup_putF, if_neg (by decide +kernel)]
  rfl
theorem fUse_no_makes (v0 v1 v2 v3 : V) : (fUse v0 v1 v2 v3).lookup ("makes" : Str) = none := by
  unfold fUse
  rw [lookup_putF, if_neg (by decide +kernel), lookup_putF, if_neg (by decide +kernel), lookup_putF, if_neg (by decide +kernel), lookup_putF, if_neg (by decide +kernel)]
  rfl
def fHelper (v0 v1 v2 v3 v4 : V) : List (Str × V) := putF "steps" v4 (putF "answers" v3 (putF "params" v2 (putF "name" v1 (putF "way" v0 ([])))))
theorem fHelper_way (v0 v1 v2 v3 v4 : V) : (fHelper v0 v1 v2 v3 v4).lookup ("way" : Str) = some v0 := by
  unfold fHelper
  rw [lookup_putF, if_neg (by decide +kernel), lookup_putF, if_neg (by decide +kernel), lookup_putF, if_neg (by decide +kernel), lookup_putF, if_neg (by decide +kernel), lookup_putF, if_pos rfl]
theorem fHelper_name (v0 v1 v2 v3 v4 : V) : (fHelper v0 v1 v2 v3 v4).lookup ("name" : Str) = some v1 := by
  unfold fHelper
  rw [lookup_putF, if_neg (by decide +kernel), lookup_putF, if_neg (by decide +kernel), lookup_putF, if_neg (by decide +kernel), lookup_putF, if_pos rfl]
theorem fHelper_params (v0 v1 v2 v3 v4 : V) : (fHelper v0 v1 v2 v3 v4).lookup ("params" : Str) = some v2 := by
  unfold fHelper
  rw [lookup_putF, if_neg (by decide +kernel), lookup_putF, if_neg (by decide +kernel), lookup_putF, if_pos rfl]
theorem fHelper_answers (v0 v1 v2 v3 v4 : V) : (fHelper v0 v1 v2 v3 v4).lookup ("answers" : Str) = some v3 := by
  unfold fHelper
  rw [lookup_putF, if_neg (by decide +kernel), lookup_putF, if_pos rfl]
theorem fHelper_steps (v0 v1 v2 v3 v4 : V) : (fHelper v0 v1 v2 v3 v4).lookup ("steps" : Str) = some v4 := by
  unfold fHelper
  rw [lookup_putF, if_pos rfl]
theorem fHelper_no_told (v0 v1 v2 v3 v4 : V) : (fHelper v0 v1 v2 v3 v4).lookup ("told" : Str) = none := by
  unfold fHelper
  rw [lookup_putF, if_neg (by decide +kernel), lookup_putF, if_neg (by decide +kernel), lookup_putF, if_neg (by decide +kernel), lookup_putF, if_neg (by decide +kernel), lookup_putF, if_neg (by decide +kernel)]
  rfl
def fPlan (v0 : V) : List (Str × V) := putF "parts" v0 ([])
theorem fPlan_parts (v0 : V) : (fPlan v0).lookup ("parts" : Str) = some v0 := by
  unfold fPlan
  rw [lookup_putF, if_pos rfl]
theorem fPlan_no_told (v0 : V) : (fPlan v0).lookup ("told" : Str) = none := by
  unfold fPlan
  rw [lookup_putF, if_neg (by decide +kernel)]
  rfl
def fReading (v0 v1 v2 : V) : List (Str × V) := putF "inner" v2 (putF "opened" v1 (putF "parts" v0 ([])))
theorem fReading_parts (v0 v1 v2 : V) : (fReading v0 v1 v2).lookup ("parts" : Str) = some v0 := by
  unfold fReading
  rw [lookup_putF, if_neg (by decide +kernel), lookup_putF, if_neg (by decide +kernel), lookup_putF, if_pos rfl]
theorem fReading_opened (v0 v1 v2 : V) : (fReading v0 v1 v2).lookup ("opened" : Str) = some v1 := by
  unfold fReading
  rw [lookup_putF, if_neg (by decide +kernel), lookup_putF, if_pos rfl]
theorem fReading_inner (v0 v1 v2 : V) : (fReading v0 v1 v2).lookup ("inner" : Str) = some v2 := by
  unfold fReading
  rw [lookup_putF, if_pos rfl]
theorem fReading_no_take (v0 v1 v2 : V) : (fReading v0 v1 v2).lookup ("take" : Str) = none := by
  unfold fReading
  rw [lookup_putF, if_neg (by decide +kernel), lookup_putF, if_neg (by decide +kernel), lookup_putF, if_neg (by decide +kernel)]
  rfl
theorem fReading_no_take_head (v0 v1 v2 : V) : (fReading v0 v1 v2).lookup ("take_head" : Str) = none := by
  unfold fReading
  rw [lookup_putF, if_neg (by decide +kernel), lookup_putF, if_neg (by decide +kernel), lookup_putF, if_neg (by decide +kernel)]
  rfl
theorem fReading_no_take_end (v0 v1 v2 : V) : (fReading v0 v1 v2).lookup ("take_end" : Str) = none := by
  unfold fReading
  rw [lookup_putF, if_neg (by decide +kernel), lookup_putF, if_neg (by decide +kernel), lookup_putF, if_neg (by decide +kernel)]
  rfl

/-! ### heaps that keep all but lists and Readings -/
def Sm (K : PySem.W.Frag) (H H' : Hp) : Prop := ∀ b o, H b = some o → (∀ xs, o ≠ .lst xs) → (∀ dx fs, o ≠ .ins (He.ga K "Reading") dx fs) → H' b = some o
section
variable {K : PySem.W.Frag} {mg : Str → Option Value} {H H' H'' : Hp}
theorem _root_.L2.Same.sm (s : Same H H') : Sm K H H' := fun b o e _ _ => s b o e
theorem Sm.refl (H : Hp) : Sm K H H := fun _ _ e _ _ => e
theorem Sm.trans (a : Sm K H H') (b : Sm K H' H'') : Sm K H H'' := fun c o e h1 h2 => b c o (a c o e h1 h2) h1 h2
theorem Same.new {p : Addr} {o : HO} (h : H p = none) : Same H (upd H p o) := fun a u e => by
  rw [upd_ne (ne_of_none e h)]
  exact e
/-- a change of what H does not know -/
theorem Same.mut {p : Addr} {o : HO} (s : Same H H') (h : H p = none) : Same H (upd H' p o) := fun a u e => by
  rw [upd_ne (ne_of_none e h)]
  exact s a u e
/-- a list changes -/
theorem Sm.lst {p : Addr} {xs : List V} {o : HO} (h : H p = some (.lst xs)) : Sm K H (upd H p o) := fun b u e h1 _ => by
  rw [upd_ne (ne_of e h (h1 xs))]
  exact e
theorem Sm.rd {a : Addr} {u : HO} (s : Sm K H H') (h : Rd H a u) (h1 : ∀ xs, u ≠ .lst xs) (h2 : ∀ dx fs, u ≠ .ins (He.ga K "Reading") dx fs) : Rd H' a u := by
  rcases h with h | ⟨o, h⟩
  · exact .inl (s _ _ h h1 h2)
  · exact .inr ⟨o, s _ _ h (fun xs e => nomatch e) (fun dx fs e => nomatch e)⟩
theorem Sm.t {a : Addr} {xs : List V} (s : Sm K H H') (h : SqT K H a xs) : SqT K H' a xs := by
  rcases h with h | h
  · exact .inl (s.rd h (fun xs e => nomatch e) (fun dx fs e => nomatch e))
  · exact .inr h
theorem Same.t {a : Addr} {xs : List V} (s : Same H H') (h : SqT K H a xs) : SqT K H' a xs := s.sm.t h
/-! ### data of numbers, texts, None and tuples -/
mutual
def Dt (K : PySem.W.Frag) (H : Hp) (v : V) : PyData → Prop
  | .none => v = .non
  | .int i => v = .int i
  | .str x => v = .str x
  | .tuple ds => ∃ a xs, v = .ref a ∧ SqT K H a xs ∧ DtA K H xs ds
  | _ => False
def DtA (K : PySem.W.Frag) (H : Hp) (xs : List V) : List PyData → Prop
  | [] => xs = []
  | d :: ds => ∃ v vs, xs = v :: vs ∧ Dt K H v d ∧ DtA K H vs ds
end
mutual
theorem Dt.sm (s : Sm K H H') : ∀ {d : PyData} {v : V}, Dt K H v d → Dt K H' v d
  | .none, _, h => by
    unfold Dt at h ⊢
    exact h
  | .int i, _, h => by
    unfold Dt at h ⊢
    exact h
  | .str x, _, h => by
    unfold Dt at h ⊢
    exact h
  | .tuple ds, _, h => by
    unfold Dt at h ⊢
    obtain ⟨a, xs, e, q, r⟩ := h
    exact ⟨a, xs, e, s.t q, DtA.sm s r⟩
  | .bool _, _, h => by
    unfold Dt at h
    exact h.elim
  | .list _, _, h => by
    unfold Dt at h
    exact h.elim
  | .dict _, _, h => by
    unfold Dt at h
    exact h.elim
theorem DtA.sm (s : Sm K H H') : ∀ {ds : List PyData} {xs : List V}, DtA K H xs ds → DtA K H' xs ds
  | [], _, h => by
    unfold DtA at h ⊢
    exact h
  | d :: ds, _, h => by
    unfold DtA at h ⊢
    obtain ⟨v, vs, e, q, r⟩ := h
    exact ⟨v, vs, e, Dt.sm s q, DtA.sm s r⟩
end
mutual
theorem Dt.dp : ∀ {d : PyData} {v : V}, Dt K H v d → Dp K H v d
  | .none, _, h => by
    unfold Dt at h
    rw [h]
    exact .non
  | .int i, _, h => by
    unfold Dt at h
    rw [h]
    exact .int i
  | .str x, _, h => by
    unfold Dt at h
    rw [h]
    exact .str x
  | .tuple ds, _, h => by
    unfold Dt at h
    obtain ⟨a, xs, e, q, r⟩ := h
    rw [e]
    exact .tup q (DtA.dp r)
  | .bool _, _, h => by
    unfold Dt at h
    exact h.elim
  | .list _, _, h => by
    unfold Dt at h
    exact h.elim
  | .dict _, _, h => by
    unfold Dt at h
    exact h.elim
theorem DtA.dp : ∀ {ds : List PyData} {xs : List V}, DtA K H xs ds → DpAll K H xs ds
  | [], _, h => by
    unfold DtA at h
    rw [h]
    exact .nil
  | d :: ds, _, h => by
    unfold DtA at h
    obtain ⟨v, vs, e, q, r⟩ := h
    rw [e]
    exact .cons (Dt.dp q) (DtA.dp r)
end
theorem dt_int {i : Int} : Dt K H (.int i) (.int i) := by unfold Dt; rfl
theorem dt_str {x : Str} : Dt K H (.str x) (.str x) := by unfold Dt; rfl
theorem dt_non : Dt K H .non .none := by unfold Dt; rfl
theorem dt_tup {a : Addr} {xs : List V} {ds : List PyData} (h : SqT K H a xs) (r : DtA K H xs ds) : Dt K H (.ref a) (.tuple ds) := by
  unfold Dt
  exact ⟨a, xs, rfl, h, r⟩
theorem dta_nil : DtA K H [] [] := by unfold DtA; rfl
theorem dta_cons {v : V} {vs : List V} {d : PyData} {ds : List PyData} (h : Dt K H v d) (r : DtA K H vs ds) : DtA K H (v :: vs) (d :: ds) := by
  unfold DtA
  exact ⟨v, vs, rfl, h, r⟩
theorem Dt.str_inv {v : V} {x : Str} (h : Dt K H v (.str x)) : v = .str x := by unfold Dt at h; exact h
theorem Dt.int_inv {v : V} {x : Int} (h : Dt K H v (.int x)) : v = .int x := by unfold Dt at h; exact h
theorem Dt.non_inv {v : V} (h : Dt K H v .none) : v = .non := by unfold Dt at h; exact h
theorem Dt.tup_inv {v : V} {ds : List PyData} (h : Dt K H v (.tuple ds)) : ∃ a xs, v = .ref a ∧ SqT K H a xs ∧ DtA K H xs ds := by unfold Dt at h; exact h
theorem DtA.nil_inv {xs : List V} (h : DtA K H xs []) : xs = [] := by unfold DtA at h; exact h
theorem DtA.cons_inv {xs : List V} {d : PyData} {ds : List PyData} (h : DtA K H xs (d :: ds)) : ∃ v vs, xs = v :: vs ∧ Dt K H v d ∧ DtA K H vs ds := by unfold DtA at h; exact h
theorem DtA.length : ∀ {ds : List PyData} {xs : List V}, DtA K H xs ds → xs.length = ds.length
  | [], _, h => by rw [h.nil_inv]; rfl
  | d :: ds, _, h => by
    obtain ⟨v, vs, rfl, _, r⟩ := h.cons_inv
    exact congrArg Nat.succ (DtA.length r)
theorem DtA.get : ∀ {ds : List PyData} {xs : List V} {i : Nat} {v : V}, DtA K H xs ds → xs[i]? = some v → ∃ d, ds[i]? = some d ∧ Dt K H v d
  | [], _, _, _, h, e => by rw [h.nil_inv] at e; simp at e
  | d :: ds, _, 0, _, h, e => by
    obtain ⟨w, vs, rfl, q, r⟩ := h.cons_inv
    simp at e
    subst e
    exact ⟨d, rfl, q⟩
  | d :: ds, _, i + 1, _, h, e => by
    obtain ⟨w, vs, rfl, q, r⟩ := h.cons_inv
    obtain ⟨d', h1, h2⟩ := DtA.get (i := i) r (by simpa using e)
    exact ⟨d', by simpa using h1, h2⟩
theorem DtA.snoc : ∀ {ds : List PyData} {xs : List V} {v : V} {d : PyData}, DtA K H xs ds → Dt K H v d → DtA K H (xs ++ [v]) (ds ++ [d])
  | [], _, _, _, h, q => by
    rw [h.nil_inv]
    exact dta_cons q dta_nil
  | _ :: _, _, _, _, h, q => by
    obtain ⟨w, vs, rfl, p, r⟩ := h.cons_inv
    exact dta_cons p (DtA.snoc r q)
theorem DtA.append : ∀ {ds es : List PyData} {xs ys : List V}, DtA K H xs ds → DtA K H ys es → DtA K H (xs ++ ys) (ds ++ es)
  | [], _, _, _, h, q => by
    rw [h.nil_inv]
    exact q
  | _ :: _, _, _, _, h, q => by
    obtain ⟨w, vs, rfl, p, r⟩ := h.cons_inv
    exact dta_cons p (DtA.append r q)
theorem dta_strs : ∀ (ns : List Str), DtA K H (ns.map V.str) (ns.map PyData.str)
  | [] => dta_nil
  | n :: r => dta_cons dt_str (dta_strs r)
theorem dta_strs_inv : ∀ {ns : List Str} {xs : List V}, DtA K H xs (ns.map PyData.str) → xs = ns.map V.str
  | [], _, h => h.nil_inv
  | n :: r, _, h => by
    obtain ⟨v, vs, rfl, q, r⟩ := h.cons_inv
    rw [q.str_inv, dta_strs_inv r] <;> rfl
theorem dta_ints : ∀ (ns : List Int), DtA K H (ns.map V.int) (ns.map PyData.int)
  | [] => dta_nil
  | n :: r => dta_cons dt_int (dta_ints r)
theorem dt_ns {a : Addr} {ns : List Str} (h : SqT K H a (ns.map V.str)) : Dt K H (.ref a) (dNs ns) := dt_tup h (dta_strs ns)
theorem dt_w {a : Addr} {k : List Int} (h : SqT K H a (k.map V.int)) : Dt K H (.ref a) (dW k) := dt_tup h (dta_ints k)
theorem Dt.ns_inv {v : V} {ns : List Str} (h : Dt K H v (dNs ns)) : ∃ a, v = .ref a ∧ SqT K H a (ns.map V.str) := by
  obtain ⟨a, xs, e, q, r⟩ := h.tup_inv
  rw [dta_strs_inv r] at q
  exact ⟨a, e, q⟩
/-! ### instances -/
def Ins (K : PySem.W.Frag) (H : Hp) (a : Addr) (x : Str) (fs : List (Str × V)) : Prop := ∃ dx, H a = some (.ins (He.ga K x) dx fs)
theorem Ins.sm {a : Addr} {x : Str} {fs : List (Str × V)} (n : He.ga K x ≠ He.ga K "Reading") (s : Sm K H H') (h : Ins K H a x fs) : Ins K H' a x fs := by
  obtain ⟨dx, e⟩ := h
  exact ⟨dx, s _ _ e (fun xs q => nomatch q) (fun dx fs q => by injection q with q1; exact n q1)⟩
/-- the classes that are no Reading -/
theorem Tx.nr (T : Tx K mg) (x : Str) (h : x ∈ (stepCls ++ (["Helper", "Plan", "Fraction", "Near", "Far", "Other", "First", "Last", "LeftOne", "RightOne"] : List Str)) := by decide +kernel) : He.ga K x ≠ He.ga K "Reading" := by
  have e := T.says.more
  unfold ex at e
  simp only [Bool.and_eq_true] at e
  replace e := e.2
  exact of_decide_eq_true (List.all_eq_true.mp e.2.2.2.2.2.2.2 x h)
theorem Tx.isi (T : Tx K mg) (x : Str) (h : x ∈ (stepCls ++ (["Helper"] : List Str)) := by decide +kernel) : PySem.W.findIn K (.ref (He.ga K x)) "__class__" = some (some (.builtin "object.__class__")) ∧
    PySem.W.specialIn K (.builtin "object.__class__") "__get__" = some (some (.builtin "getset_descriptor.__get__")) ∧ PySem.W.takesIn K (.builtin "object.__class__") = some true ∧ PySem.W.mroIn K (He.ga K x) (.type "object") = some true := by
  have e := T.says.more
  unfold ex at e
  rw [Bool.and_eq_true] at e
  have e2 := List.all_eq_true.mp e.1 x h
  unfold isiB at e2
  simp only [Bool.and_eq_true] at e2
  exact ⟨He.eqO_ok e2.1, He.eqO_ok e2.2.1, of_decide_eq_true e2.2.2.1, of_decide_eq_true e2.2.2.2⟩
theorem Tx.kit (T : Tx K mg) (x : Str) (h : x ∈ stepCls := by decide +kernel) : PySem.W.kitOne K (.ref (He.ga K x)) (.ref (He.ga K "Step")) = some true ∧ PySem.W.kitOne K (.ref (He.ga K x)) (.ref (He.ga K "Helper")) = some false ∧ PySem.W.kitOne K (.ref (He.ga K x)) (.ref (He.ga K "Give")) = some (decide (x = "Give")) := by
  have e := T.says.more
  unfold ex at e
  simp only [Bool.and_eq_true] at e
  have e2 := List.all_eq_true.mp e.2.2.2.2.1 x h
  simp only [Bool.and_eq_true] at e2
  exact ⟨of_decide_eq_true e2.1, of_decide_eq_true e2.2.1, of_decide_eq_true e2.2.2⟩
theorem Tx.kitH (T : Tx K mg) : PySem.W.kitOne K (.ref (He.ga K "Helper")) (.ref (He.ga K "Step")) = some false ∧ PySem.W.kitOne K (.ref (He.ga K "Helper")) (.ref (He.ga K "Helper")) = some true := by
  have e := T.says.more
  unfold ex at e
  simp only [Bool.and_eq_true] at e
  exact ⟨of_decide_eq_true e.2.2.2.2.2.1, of_decide_eq_true e.2.2.2.2.2.2.1⟩
def oV : Option Str → V
  | none => .non
  | some p => .str p
theorem dt_o {o : Option Str} : Dt K H (oV o) (dO o) := by
  cases o with
  | none => exact dt_non
  | some p => exact dt_str
def FracAt (K : PySem.W.Frag) (H : Hp) (a : Addr) (x y : Int) : Prop := Ins K H a "Fraction" (fFraction (.int x) (.int y))
def ChAt (K : PySem.W.Frag) (H : Hp) (a : Addr) : Ch → Prop
  | .first => Ins K H a "First" []
  | .last => Ins K H a "Last" []
  | .left => Ins K H a "LeftOne" []
  | .right => Ins K H a "RightOne" []
  | .near p => Ins K H a "Near" (fNear (.str p))
  | .far p => Ins K H a "Far" (fFar (.str p))
  | .other p => Ins K H a "Other" (fOther (.str p))
def ChO (K : PySem.W.Frag) (H : Hp) (v : V) : Option Ch → Prop
  | none => v = .non
  | some c => ∃ a, v = .ref a ∧ ChAt K H a c
abbrev WyAt (K : PySem.W.Frag) (H : Hp) (a : Addr) (k : List Int) : Prop := SqT K H a (k.map V.int)
abbrev NsT (K : PySem.W.Frag) (H : Hp) (a : Addr) (ns : List Str) : Prop := SqT K H a (ns.map V.str)
abbrev NsL (K : PySem.W.Frag) (H : Hp) (a : Addr) (ns : List Str) : Prop := SqL K H a (ns.map V.str)
def StepAt (K : PySem.W.Frag) (H : Hp) (a : Addr) (k : List Int) : Stp → Prop
  | .give n x y => ∃ w p q, Ins K H a "Give" (fGive (.ref w) (.str n) (.ref p) (.ref q)) ∧ WyAt K H w k ∧ FracAt K H p x.vt x.vb ∧ FracAt K H q y.vt y.vb
  | .line n b c => ∃ w, Ins K H a "Through" (fThrough (.ref w) (.str n) (.str b) (.str c)) ∧ WyAt K H w k
  | .round n b c o => ∃ w, Ins K H a "About" (fAbout (.ref w) (.str n) (.str b) (.str c) (oV o)) ∧ WyAt K H w k
  | .meet n b c h => ∃ w v, Ins K H a "Crossing" (fCrossing (.ref w) (.str n) (.str b) (.str c) v) ∧ WyAt K H w k ∧ ChO K H v h
  | .use h gs ns => ∃ w g m, Ins K H a "Use" (fUse (.ref w) (.str h) (.ref g) (.ref m)) ∧ WyAt K H w k ∧ NsT K H g gs ∧ NsT K H m ns
def StepsAt (K : PySem.W.Frag) (H : Hp) : List Addr → Int → List Stp → Prop
  | as, _, [] => as = []
  | as, k, s :: r => ∃ a bs, as = a :: bs ∧ StepAt K H a [k] s ∧ StepsAt K H bs (k + 1) r
def HelpAt (K : PySem.W.Frag) (H : Hp) (a : Addr) (k : List Int) (n : Str) (ps as : List Str) (j : Int) (ss : List Stp) : Prop :=
  ∃ w p q r bs, Ins K H a "Helper" (fHelper (.ref w) (.str n) (.ref p) (.ref q) (.ref r)) ∧ WyAt K H w k ∧ NsT K H p ps ∧ NsT K H q as ∧ SqT K H r (bs.map V.ref) ∧ StepsAt K H bs j ss
def PartAt (K : PySem.W.Frag) (H : Hp) (a : Addr) (k : Int) : Prt → Prop
  | .stp s => StepAt K H a [k] s
  | .hlp n ps as ss => HelpAt K H a [k] n ps as (k + 1) ss
def PartsAt (K : PySem.W.Frag) (H : Hp) : List Addr → Int → List Prt → Prop
  | as, _, [] => as = []
  | as, k, p :: r => ∃ a bs, as = a :: bs ∧ PartAt K H a k p ∧ PartsAt K H bs (k + p.nl) r
def PlanAt (K : PySem.W.Frag) (H : Hp) (a : Addr) (ps : List Prt) : Prop := ∃ t as, Ins K H a "Plan" (fPlan (.ref t)) ∧ SqT K H t (as.map V.ref) ∧ PartsAt K H as 1 ps
theorem FracAt.sm (T : Tx K mg) (s : Sm K H H') {a : Addr} {x y : Int} (h : FracAt K H a x y) : FracAt K H' a x y := Ins.sm (T.nr "Fraction") s h
theorem ChAt.sm (T : Tx K mg) (s : Sm K H H') {a : Addr} {c : Ch} (h : ChAt K H a c) : ChAt K H' a c := by
  cases c with
  | first => exact Ins.sm (T.nr "First") s h
  | last => exact Ins.sm (T.nr "Last") s h
  | left => exact Ins.sm (T.nr "LeftOne") s h
  | right => exact Ins.sm (T.nr "RightOne") s h
  | near p => exact Ins.sm (T.nr "Near") s h
  | far p => exact Ins.sm (T.nr "Far") s h
  | other p => exact Ins.sm (T.nr "Other") s h
theorem ChO.sm (T : Tx K mg) (s : Sm K H H') {v : V} {c : Option Ch} (h : ChO K H v c) : ChO K H' v c := by
  cases c with
  | none => exact h
  | some c =>
    obtain ⟨a, e, q⟩ := h
    exact ⟨a, e, q.sm T s⟩
theorem StepAt.sm (T : Tx K mg) (s : Sm K H H') {a : Addr} {k : List Int} {z : Stp} (h : StepAt K H a k z) : StepAt K H' a k z := by
  cases z with
  | give n x y =>
    obtain ⟨w, p, q, h1, h2, h3, h4⟩ := h
    exact ⟨w, p, q, h1.sm (T.nr "Give") s, s.t h2, h3.sm T s, h4.sm T s⟩
  | line n b c =>
    obtain ⟨w, h1, h2⟩ := h
    exact ⟨w, h1.sm (T.nr "Through") s, s.t h2⟩
  | round n b c o =>
    obtain ⟨w, h1, h2⟩ := h
    exact ⟨w, h1.sm (T.nr "About") s, s.t h2⟩
  | meet n b c o =>
    obtain ⟨w, v, h1, h2, h3⟩ := h
    exact ⟨w, v, h1.sm (T.nr "Crossing") s, s.t h2, h3.sm T s⟩
  | use h0 gs ns =>
    obtain ⟨w, g, m, h1, h2, h3, h4⟩ := h
    exact ⟨w, g, m, h1.sm (T.nr "Use") s, s.t h2, s.t h3, s.t h4⟩
theorem StepsAt.sm (T : Tx K mg) (s : Sm K H H') : ∀ {ss : List Stp} {as : List Addr} {k : Int}, StepsAt K H as k ss → StepsAt K H' as k ss
  | [], _, _, h => h
  | _ :: _, _, _, h => by
    obtain ⟨a, bs, e, q, r⟩ := h
    exact ⟨a, bs, e, q.sm T s, StepsAt.sm T s r⟩
theorem HelpAt.sm (T : Tx K mg) (s : Sm K H H') {a : Addr} {k : List Int} {n : Str} {ps as : List Str} {j : Int} {ss : List Stp} (h : HelpAt K H a k n ps as j ss) : HelpAt K H' a k n ps as j ss := by
  obtain ⟨w, p, q, r, bs, h1, h2, h3, h4, h5, h6⟩ := h
  exact ⟨w, p, q, r, bs, h1.sm (T.nr "Helper") s, s.t h2, s.t h3, s.t h4, s.t h5, h6.sm T s⟩
theorem PartAt.sm (T : Tx K mg) (s : Sm K H H') {a : Addr} {k : Int} {p : Prt} (h : PartAt K H a k p) : PartAt K H' a k p := by
  cases p with
  | stp z => exact StepAt.sm T s h
  | hlp n ps as ss => exact HelpAt.sm T s h
theorem PartsAt.sm (T : Tx K mg) (s : Sm K H H') : ∀ {ps : List Prt} {as : List Addr} {k : Int}, PartsAt K H as k ps → PartsAt K H' as k ps
  | [], _, _, h => h
  | _ :: _, _, _, h => by
    obtain ⟨a, bs, e, q, r⟩ := h
    exact ⟨a, bs, e, q.sm T s, PartsAt.sm T s r⟩
theorem PlanAt.sm (T : Tx K mg) (s : Sm K H H') {a : Addr} {ps : List Prt} (h : PlanAt K H a ps) : PlanAt K H' a ps := by
  obtain ⟨t, as, h1, h2, h3⟩ := h
  exact ⟨t, as, h1.sm (T.nr "Plan") s, s.t h2, h3.sm T s⟩
theorem StepsAt.length : ∀ {ss : List Stp} {as : List Addr} {k : Int}, StepsAt K H as k ss → as.length = ss.length
  | [], _, _, h => by rw [show _ = _ from h]; rfl
  | _ :: _, _, _, h => by
    obtain ⟨a, bs, rfl, q, r⟩ := h
    exact congrArg Nat.succ (StepsAt.length r)
theorem StepsAt.get : ∀ {ss : List Stp} {as : List Addr} {k : Int} {i : Nat} {a : Addr}, StepsAt K H as k ss → as[i]? = some a → ∃ s, ss[i]? = some s ∧ StepAt K H a [k + i] s
  | [], _, _, _, _, h, e => by rw [show _ = _ from h] at e; simp at e
  | s :: r, _, k, 0, _, h, e => by
    obtain ⟨a, bs, rfl, q, r⟩ := h
    simp at e
    subst e
    exact ⟨s, rfl, by simpa using q⟩
  | s :: r, _, k, i + 1, _, h, e => by
    obtain ⟨a, bs, rfl, q, r⟩ := h
    obtain ⟨z, hz, hq⟩ := StepsAt.get (i := i) r (by simpa using e)
    refine ⟨z, by simpa using hz, ?_⟩
    have e2 : k + 1 + (i : Int) = k + ((i + 1 : Nat) : Int) := by omega
    rw [← e2]
    exact hq
theorem StepsAt.snoc : ∀ {ss : List Stp} {as : List Addr} {k : Int} {a : Addr} {s : Stp}, StepsAt K H as k ss → StepAt K H a [k + ss.length] s → StepsAt K H (as ++ [a]) k (ss ++ [s])
  | [], _, k, a, s, h, q => by
    rw [show _ = _ from h]
    exact ⟨a, [], rfl, by simpa using q, rfl⟩
  | z :: r, _, k, a, s, h, q => by
    obtain ⟨b, bs, rfl, p, h⟩ := h
    refine ⟨b, bs ++ [a], rfl, p, StepsAt.snoc h ?_⟩
    have e2 : k + 1 + (r.length : Int) = k + ((z :: r).length : Int) := by
      rw [List.length_cons]
      omega
    rw [e2]
    exact q
def nls (ps : List Prt) : Nat := (ps.map Prt.nl).sum
theorem PartsAt.get : ∀ {ps : List Prt} {as : List Addr} {k : Int} {i : Nat} {a : Addr}, PartsAt K H as k ps → as[i]? = some a → ∃ p, ps[i]? = some p ∧ PartAt K H a (k + nls (ps.take i)) p
  | [], _, _, _, _, h, e => by rw [show _ = _ from h] at e; simp at e
  | s :: r, _, k, 0, _, h, e => by
    obtain ⟨a, bs, rfl, q, r⟩ := h
    simp at e
    subst e
    exact ⟨s, rfl, by simpa [nls] using q⟩
  | s :: r, _, k, i + 1, _, h, e => by
    obtain ⟨a, bs, rfl, q, h⟩ := h
    obtain ⟨z, hz, hq⟩ := PartsAt.get (i := i) h (by simpa using e)
    refine ⟨z, by simpa using hz, ?_⟩
    have e2 : k + (s.nl : Int) + (nls (r.take i) : Int) = k + (nls ((s :: r).take (i + 1)) : Int) := by
      show _ = k + ((((s :: r.take i)).map Prt.nl).sum : Nat)
      rw [List.map_cons, List.sum_cons]
      unfold nls
      omega
    rw [← e2]
    exact hq
theorem PartsAt.length : ∀ {ps : List Prt} {as : List Addr} {k : Int}, PartsAt K H as k ps → as.length = ps.length
  | [], _, _, h => by rw [show _ = _ from h]; rfl
  | _ :: _, _, _, h => by
    obtain ⟨a, bs, rfl, q, r⟩ := h
    exact congrArg Nat.succ (PartsAt.length r)
theorem PartsAt.snoc : ∀ {ps : List Prt} {as : List Addr} {k : Int} {a : Addr} {p : Prt}, PartsAt K H as k ps → PartAt K H a (k + nls ps) p → PartsAt K H (as ++ [a]) k (ps ++ [p])
  | [], _, k, a, s, h, q => by
    rw [show _ = _ from h]
    exact ⟨a, [], rfl, by simpa [nls] using q, rfl⟩
  | z :: r, _, k, a, s, h, q => by
    obtain ⟨b, bs, rfl, p, h⟩ := h
    refine ⟨b, bs ++ [a], rfl, p, PartsAt.snoc h ?_⟩
    have e2 : k + (z.nl : Int) + (nls r : Int) = k + (nls (z :: r) : Int) := by
      unfold nls
      rw [List.map_cons, List.sum_cons]
      omega
    rw [e2]
    exact q
/-- the same by reduced fractions -/
theorem StepAt.red {a : Addr} {k : List Int} {s : Stp} (o : s.ok) (h : StepAt K H a k s) : StepAt K H a k s.red := by
  cases s with
  | give n x y =>
    obtain ⟨hx, hy⟩ := o.fr n x y rfl
    obtain ⟨w, p, q, h1, h2, h3, h4⟩ := h
    refine ⟨w, p, q, h1, h2, ?_, ?_⟩
    · rw [hx.red_vt, hx.red_vb]
      exact h3
    · rw [hy.red_vt, hy.red_vb]
      exact h4
  | _ => exact h
end
end Rod
set_option Elab.async false
set_option linter.all false
set_option maxRecDepth 100000
set_option maxHeartbeats 4000000
/-! ## comprehensions by what their elements are; more that is walked -/
namespace Rod
open PySem PySem.Spec PyProof.Rows L2 TL
theorem Paired.snoc {α β : Type} {F : α → β → Prop} {a : α} {b : β} (h : F a b) : ∀ {xs : List α} {ys : List β}, Paired F xs ys → Paired F (xs ++ [a]) (ys ++ [b])
  | _, _, .nil => .cons h .nil
  | _, _, .cons p r => .cons p (Paired.snoc h r)
theorem Paired.get {α β : Type} {F : α → β → Prop} : ∀ {xs : List α} {ys : List β} {i : Nat} {a : α} {b : β}, Paired F xs ys → xs[i]? = some a → ys[i]? = some b → F a b
  | _, _, _, _, _, .nil, e, _ => by simp at e
  | _, _, 0, _, _, .cons p r, e1, e2 => by
    simp at e1 e2
    subst e1 e2
    exact p
  | _, _, i + 1, _, _, .cons p r, e1, e2 => Paired.get (i := i) r (by simpa using e1) (by simpa using e2)
theorem take_snoc {α : Type} {l : List α} {i : Nat} {a : α} (h : l[i]? = some a) : l.take (i + 1) = l.take i ++ [a] := by
  rw [List.take_add_one, h]
  rfl
section
variable {K : PySem.W.Frag} {J : It} {n : Nat} {G : Hp → Prop} {Y : Nat → Hp → V → Hp → Prop} {g : TG} {tt : TT} {te : TE} {vs : List Nat} {σ : L2.St} {H1 : Hp} {Qd : Addr → Hp → Prop}
/-- each item gives an element; what the element is (R) stands where lists change -/
theorem lc_map {α : Type} (w : Walk J n G Y) (ds : List α) (hn : n = ds.length) (hz : ds.length ≤ 100000) (R : α → V → Hp → Prop) (hR : ∀ d v H H', Sm K H H' → R d v H → R d v H') (hG : ∀ H, Same H1 H → G H)
    (hs : ∀ i d x H H', ds[i]? = some d → Same H1 H → Y i H x H' → ∀ (Nx : VK) (Nf : Hp → Prop), (∀ y H4, Same H H4 → R d y H4 → Nx y H4) →
      g x (wipe σ vs) H' fun σ2 H2 => wipe σ2 vs = wipe σ vs ∧ tt σ2 H2 fun b H3 => if b = true then te σ2 H3 Nx else Nf H3)
    (hd : ∀ D H acc, H1 D = none → Same H1 H → H D = some (.lst acc) → Paired (fun d v => R d v H) ds acc → Qd D H) :
    ∀ D, H1 D = none → ∃ W : Nat → Nat → Hp → Prop, (∃ m, W 0 m (upd H1 D (.lst []))) ∧ ∀ i m H, W i m H →
      (J.stop i H ∧ Qd D H) ∨ (J.go i H ∧ ∃ Nx : Hp → Prop, (∀ H', Nx H' → ∃ m', m' < m ∧ W (i + 1) m' H') ∧ ∀ x H', J.yld i H x H' → g x (wipe σ vs) H' fun σ2 H2 => wipe σ2 vs = wipe σ vs ∧ tt σ2 H2 fun b H3 =>
        if b = true then te σ2 H3 fun y H4 => ∃ acc, H4 D = some (.lst acc) ∧ acc.length < sizeLine ∧ Nx (upd H4 D (.lst (acc ++ [y]))) else Nx H3) := by
  intro D hD
  refine lc_it w (Qd := fun H => Qd D H) (fun i H => Same H1 H ∧ ∃ acc, H D = some (.lst acc) ∧ Paired (fun d v => R d v H) (ds.take i) acc) ⟨Same.new hD, [], upd_same, .nil⟩ (fun i H _ p => hG H p.1) (fun i x H H' hi p y => ?_) fun H p => ?_
  · obtain ⟨s, acc, ha, hp⟩ := p
    have hi' : i < ds.length := by omega
    have ed : ds[i]? = some ds[i] := by simp [hi']
    refine hs i ds[i] x H H' ed s y _ _ fun z H4 s4 r => ⟨acc, s4 D _ ha, ?_, Same.mut (s.trans s4) hD, acc ++ [z], upd_same, ?_⟩
    · have e := hp.length
      rw [List.length_take] at e
      exact Nat.lt_of_lt_of_le (by omega : acc.length < 100001) (by decide)
    · have sm : Sm K H4 (upd H4 D (.lst (acc ++ [z]))) := Sm.lst (s4 D _ ha)
      rw [take_snoc ed]
      exact Paired.snoc (F := fun d v => R d v (upd H4 D (.lst (acc ++ [z])))) (hR _ _ _ _ sm r) (L2.Paired.mapP hp fun d v q => hR _ _ _ _ (s4.sm.trans sm) q)
  · obtain ⟨s, acc, ha, hp⟩ := p
    refine hd D H acc hD s ha ?_
    rw [hn, List.take_length] at hp
    exact hp
/-- items kept by p, each giving f -/
theorem lc_filter {α : Type} (w : Walk J n G Y) (ds : List α) (hn : n = ds.length) (hz : ds.length ≤ 100000) (p : α → Bool) (f : α → V) (hG : ∀ H, Same H1 H → G H)
    (hs : ∀ i d x H H', ds[i]? = some d → Same H1 H → Y i H x H' → ∀ (Nx : VK) (Nf : Hp → Prop), (∀ H4, Same H H4 → p d = true → Nx (f d) H4) → (∀ H4, Same H H4 → p d = false → Nf H4) →
      g x (wipe σ vs) H' fun σ2 H2 => wipe σ2 vs = wipe σ vs ∧ tt σ2 H2 fun b H3 => if b = true then te σ2 H3 Nx else Nf H3)
    (hd : ∀ D H, H1 D = none → Same H1 H → H D = some (.lst ((ds.filter p).map f)) → Qd D H) :
    ∀ D, H1 D = none → ∃ W : Nat → Nat → Hp → Prop, (∃ m, W 0 m (upd H1 D (.lst []))) ∧ ∀ i m H, W i m H →
      (J.stop i H ∧ Qd D H) ∨ (J.go i H ∧ ∃ Nx : Hp → Prop, (∀ H', Nx H' → ∃ m', m' < m ∧ W (i + 1) m' H') ∧ ∀ x H', J.yld i H x H' → g x (wipe σ vs) H' fun σ2 H2 => wipe σ2 vs = wipe σ vs ∧ tt σ2 H2 fun b H3 =>
        if b = true then te σ2 H3 fun y H4 => ∃ acc, H4 D = some (.lst acc) ∧ acc.length < sizeLine ∧ Nx (upd H4 D (.lst (acc ++ [y]))) else Nx H3) := by
  intro D hD
  refine lc_it w (Qd := fun H => Qd D H) (fun i H => Same H1 H ∧ H D = some (.lst (((ds.take i).filter p).map f))) ⟨Same.new hD, upd_same⟩ (fun i H _ q => hG H q.1) (fun i x H H' hi q y => ?_) fun H q => ?_
  · obtain ⟨s, ha⟩ := q
    have hi' : i < ds.length := by omega
    have ed : ds[i]? = some ds[i] := by simp [hi']
    refine hs i ds[i] x H H' ed s y _ _ (fun H4 s4 hp => ⟨_, s4 D _ ha, ?_, Same.mut (s.trans s4) hD, ?_⟩) fun H4 s4 hp => ⟨s.trans s4, ?_⟩
    · have h1 := List.length_filter_le p (ds.take i)
      rw [List.length_take] at h1
      rw [List.length_map]
      exact Nat.lt_of_lt_of_le (by omega : _ < 100001) (by decide)
    · rw [take_snoc ed, List.filter_append, List.map_append, List.filter_cons, if_pos hp]
      exact upd_same
    · rw [take_snoc ed, List.filter_append, List.map_append, List.filter_cons, if_neg (by rw [hp]; decide)]
      show _ = some (HO.lst (_ ++ []))
      rw [List.append_nil]
      exact s4 D _ ha
  · obtain ⟨s, ha⟩ := q
    rw [hn, List.take_length] at ha
    exact hd D H hD s ha
end
/-! ### enumerate from a count, over a list or a tuple -/
section
variable {K : PySem.W.Frag}
/-- where a sequence stands: a list or a tuple -/
inductive Sq where | l | t
def SqA (K : PySem.W.Frag) (q : Sq) (H : Hp) (a : Addr) (xs : List V) : Prop := match q with
  | .l => SqL K H a xs
  | .t => SqT K H a xs
def IteA (K : PySem.W.Frag) (q : Sq) (k0 : Int) (a : Addr) : It :=
  ⟨fun i H => ∃ (xs : List V) (x : V), SqA K q H a xs ∧ xs[i]? = some x, fun i H v H' => ∃ T x, v = .ref T ∧ H T = none ∧ H' = upd H T (.tup [.int (k0 + (i : Int)), x]) ∧ ∀ xs, SqA K q H a xs → xs[i]? = some x, fun i H => ∃ xs : List V, SqA K q H a xs ∧ xs.length = i⟩
theorem SqA.inj {X : Cx} {pins : List (Addr × Obj)} {σ : L2.St} {H : Hp} {s : Shared} {q : Sq} {a : Addr} {xs ys : List V} (I : Inv X pins σ H s) (h : SqA X.K q H a xs) (h' : SqA X.K q H a ys) : xs = ys := by
  cases q with
  | l => exact I.list_inj h h'
  | t => exact I.tuple_inj h h'
/-- the iterator of a sequence at its i-th item -/
def itS (q : Sq) (h : Heap) (it a : Addr) (i : Nat) : Prop := match q with
  | .l => h.IsListIter it a i
  | .t => h.IsTupleIter it a i
theorem itS.at {q : Sq} {h h' : Heap} {it a : Addr} {i : Nat} (x : itS q h it a i) (k : ∀ o, h.get? it = some o → h'.get? it = some o) : itS q h' it a i := by
  cases q with
  | l => exact Heap.IsListIter.at x k
  | t => exact Heap.IsTupleIter.at x k
theorem itS.ob {q : Sq} {h : Heap} {it a : Addr} {i : Nat} (x : itS q h it a i) : ∃ o, h.get? it = some o ∧ ∀ v, o.data ≠ .cell v := by
  cases q with
  | l =>
    obtain ⟨o, ho, hc, hd⟩ := x
    exact ⟨o, ho, fun v e => by rw [hd] at e; cases e⟩
  | t =>
    obtain ⟨o, ho, hc, hd⟩ := x
    exact ⟨o, ho, fun v e => by rw [hd] at e; cases e⟩
/-- what its iterator draws -/
theorem sq_draws {X : Cx} {pins : List (Addr × Obj)} {σ : L2.St} {H : Hp} {s : Shared} {q : Sq} {a it : Addr} {xs : List V} {i : Nat} (I : Inv X pins σ H s) (hc : X.calm = true) (h : SqA X.K q H a xs) (hit : itS q s.heap it a i) :
    ∃ (us : List Value) (St : Nat → Heap → Prop), Vals xs us ∧ Draws X.prog X.w X.A.in1 it [it, a] us.length (fun i v => us[i]? = some v) St ∧ St i s.heap ∧ (∀ j h, St j h → itS q h it a j) ∧ ∃ o, s.heap.get? a = some o ∧ o.cls ≠ .type "enumerate" := by
  have hh : X.A.in1.handled = none := I.ok.hd hc
  cases q with
  | l =>
    obtain ⟨its, rv, p, _⟩ := I.list h
    have hl : s.heap.IsList a its.toArray := p.isList
    obtain ⟨⟨o, n, e, ec, _⟩⟩ := (⟨p⟩ : Nonempty _)
    have hne : a ≠ it := by
      rintro rfl
      obtain ⟨o', e', ec', _⟩ := (show s.heap.IsListIter a a i from hit)
      rw [e] at e'
      cases e'
      rw [ec] at ec'
      exact absurd (Value.type.inj ec') (by decide)
    have D := Draws.list (prog := X.prog) (w := X.w) hh it a hne its.toArray
    exact ⟨its, fun i h => h.IsListIter it a i ∧ h.IsList a its.toArray, rv, by simpa using D, ⟨hit, hl⟩, fun j h st => st.1, o, e, by rw [ec]; intro z; exact absurd (Value.type.inj z) (by decide)⟩
  | t =>
    obtain ⟨its, rv, p, _⟩ := I.tuple h
    have hl : s.heap.IsTuple a its.toArray := p
    obtain ⟨⟨o, e, ec, _⟩⟩ := (⟨p⟩ : Nonempty _)
    have hne : a ≠ it := by
      rintro rfl
      obtain ⟨o', e', ec', _⟩ := (show s.heap.IsTupleIter a a i from hit)
      rw [e] at e'
      cases e'
      rw [ec] at ec'
      exact absurd (Value.type.inj ec') (by decide)
    have D := Draws.tuple (prog := X.prog) (w := X.w) hh it a hne its.toArray
    exact ⟨its, fun i h => h.IsTupleIter it a i ∧ h.IsTuple a its.toArray, rv, by simpa using D, ⟨hit, hl⟩, fun j h st => st.1, o, e, by rw [ec]; intro z; exact absurd (Value.type.inj z) (by decide)⟩
theorem turn_enumA {P : Program} {w : World} {elts : List Expr} {kk : Nat} {tpos : Pos} (q : Sq) (k0 : Int) (a e it : Addr) :
    Turn P w K (.Tuple elts kk tpos) (IteA K q k0 a) [e, it] e (fun i h => (∃ old, IsEnum h e it (k0 + (i : Int)) old) ∧ itS q h it a i ∧ e ≠ it) where
  mem := by simp
  obj := fun i h st b hb => by
    obtain ⟨⟨old, he⟩, hi, _⟩ := st
    have e' : b = e ∨ b = it := by simpa using hb
    rcases e' with z | z
    · rw [z]; exact ⟨_, he, fun v q => nomatch q⟩
    · rw [z]; exact hi.ob
  keep := fun i h h' st k => let ⟨⟨old, he⟩, hi, hne⟩ := st; ⟨⟨old, k e (by simp) _ he⟩, hi.at fun o q => k it (by simp) o q, hne⟩
  item := by
    intro X hP hw hK hc i pins s σ H E I hf st hg
    subst hP hw hK
    obtain ⟨⟨old, he⟩, hit, hne⟩ := st
    obtain ⟨xs, x, hq, hx⟩ := hg
    obtain ⟨us, St, rv, D, st0, stI, oa, ha, hca⟩ := sq_draws I hc hq hit
    obtain ⟨u, hu, ru⟩ := rv.get hx
    have hel : e < s.heap.objs.size := Heap.lt_size he
    have hil : it < s.heap.objs.size := by obtain ⟨_, q, _⟩ := hit.ob; exact Heap.lt_size q
    have hea : e ∉ [it, a] := by
      intro hm
      have e' : e = it ∨ e = a := by simpa using hm
      rcases e' with z | z
      · exact hne z
      · rw [← z, he] at ha
        cases ha
        exact hca rfl
    have hi : i < us.length := (List.getElem?_eq_some_iff.mp hu).1
    refine wpAny_pyNext_enum_itemC D he st0 hi hne hea fun x' h' tk hx' ho hst' hT hsz hk => ?_
    rw [hu] at hx'
    obtain rfl : u = x' := Option.some.inj hx'
    refine ⟨_, rfl, wpAny_letOwnedTupleGo_enum (s := { s with heap := h', toks := tk + 1 }) ho fun h'' he' sb => ?_⟩
    have hT2 : h''.get? s.heap.objs.size = some { cls := .type "tuple", data := .seq #[.int (k0 + (i : Int)) tk, u] } := (sb.2 _ (Nat.ne_of_gt hel)).trans hT
    have new : ObjOk X.prog X.w (upd H s.heap.objs.size (.tup [.int (k0 + (i : Int)), x])) h'' s.heap.objs.size (.tup [.int (k0 + (i : Int)), x]) :=
      ⟨by show 2 ≤ sizeLine; decide, [.int (k0 + (i : Int)) tk, u], .cons ⟨_, rfl⟩ (.cons ru .nil), ⟨_, hT2, rfl, _, rfl⟩⟩
    have I1 : Inv X pins σ (upd H s.heap.objs.size (.tup [.int (k0 + (i : Int)), x])) { s with heap := h'', toks := tk + 1 } :=
      I.turnedNew (ch := [e, it]) (fun b ob hb q => (sb.2 b (fun z => hb (by simp [z]))).trans (hk b ob (fun z => hb (by simp [z])) (fun z => hb (by simp [z])) q)) hf (Nat.le_refl _) new
    refine ⟨.ref s.heap.objs.size, _, I1, rfl, ⟨_, x, rfl, I.hok.fresh (Nat.le_refl _), rfl, fun ys hy => by rw [SqA.inj I hy hq]; exact hx⟩, ⟨⟨u, ?_⟩, (stI _ _ hst').at fun o q => (sb.2 it (Ne.symm hne)).trans q, hne⟩, fun b hb => ?_⟩
    · have e1 : k0 + ((i + 1 : Nat) : Int) = k0 + (i : Int) + 1 := by omega
      rw [e1]; exact he'
    · have hb' : b < s.heap.objs.size := by
        have e' : b = e ∨ b = it := by simpa using hb
        rcases e' with z | z
        · rw [z]; exact hel
        · rw [z]; exact hil
      rw [upd_ne (Nat.ne_of_lt hb')]
      exact (hf b hb).1
  done := by
    intro X hP hw hK hc i pins s σ H E I hf st hg
    subst hP hw hK
    obtain ⟨⟨old, he⟩, hit, hne⟩ := st
    obtain ⟨xs, hq, hx⟩ := hg
    obtain ⟨f0, f1, f2, f3, f4, f5⟩ := hf it (by simp)
    obtain ⟨us, St, rv, D, st0, stI, _⟩ := sq_draws I hc hq hit
    have hl := rv.length
    have ei : us.length = i := by omega
    rw [ei] at D
    exact wpAny_pyNext_enum_endD D he st0 fun h' eb => ⟨rfl, I.turned (t' := s.toks) (fun b o hb q => eb b o hb q) f0 f1 f3 f4 f5⟩
  self := fun A i s Q E st h => let ⟨⟨_, he⟩, _⟩ := st; wpAny_pyIter_enum he h
/-- as a walk -/
theorem walk_enumA {q : Sq} {k0 : Int} {a : Addr} {xs : List V} : Walk (IteA K q k0 a) xs.length (fun H => SqA K q H a xs) (YPair (fun i => some (.int (k0 + (i : Int)))) (fun i => xs[i]?)) := by
  refine ⟨fun i _ hi h => ⟨xs, xs[i], h, by simp [hi]⟩, fun _ h => ⟨xs, h, rfl⟩, fun i H v H' _ h y => ?_⟩
  obtain ⟨T, x, h1, h2, h3, h4⟩ := y
  exact ⟨T, .int (k0 + (i : Int)), x, h1, h2, h3, rfl, h4 xs h⟩
end
set_option maxHeartbeats 1000000 in
theorem meets_enumerate_new0 {v : Value} {o : Obj} {H : Heap → Prop} (B : Begins v o H) :
    Meets (Builtin.«enumerate.__new__» ⟨[.type "enumerate", v], []⟩) (fun _ R s => H s.heap ∧
      R (.ok (.ret (.ref (s.heap.push o).objs.size))) { s with heap := (s.heap.push o).push { cls := .type "enumerate", data := .fields #[.none, .bool false, .ref s.heap.objs.size, rawInt 0, .none, .none] } }) :=
  .of_wp fun prog w A R s h => by
    obtain ⟨hp, g, d, tk, os⟩ := s; obtain ⟨h1, h⟩ := h
    have hsub := sub_enumerate
    have q1 : ∀ {A' : Around} {E : Value → Shared → Prop} {Q : Value → Shared → Prop}, Q (.ref hp.objs.size) ⟨hp.push o, g, d, tk, os⟩ → wpAny (model prog w) A' (pyIter v) Q E ⟨hp, g, d, tk, os⟩ :=
      fun q => B.iter prog w _ _ ⟨hp, g, d, tk, os⟩ _ h1 q
    wp_walk using q1
    refine wpAny_stack_any fun st => wpAny_pure ?_
    split
    · rename_i c _ _ _ _ _
      cases (c == Value.type "enumerate")
      · wp_walk using q1
        exact ⟨_, rfl, h⟩
      · wp_walk using q1
        exact ⟨_, rfl, h⟩
    · wp_walk using q1
      exact ⟨_, rfl, h⟩
theorem enum_begins0 {prog : Program} {w : World} {A : Around} {E : Value → Shared → Prop} {s : Shared} {v : Value} {o : Obj} {H : Heap → Prop} {Q : Value → Shared → Prop} (B : Begins v o H) (h1 : H s.heap)
    (h : ∀ h', IsEnum h' (s.heap.objs.size + 1) s.heap.objs.size 0 .none → h'.get? s.heap.objs.size = some o → h'.objs.size = s.heap.objs.size + 2 →
      (∀ b o, s.heap.get? b = some o → h'.get? b = some o) → Q (.ref (s.heap.objs.size + 1)) { s with heap := h' }) :
    wpAny (model prog w) A (call (.type "enumerate") [v]) Q E s := by
  refine callType_new F.called_enumerate (by decide) (F.typeCall_enumerate_1 _) (F.newCall_enumerate_1 _) (fun obj => F.args_object_init_2 obj _) F.entry_enumerate_new
    (meets_enumerate_new0 B) ⟨h1, ?_⟩
  have hz : (s.heap.push o).objs.size = s.heap.objs.size + 1 := Heap.size_push ..
  show _ ∧ _
  rw [hz]
  have he : IsEnum ((s.heap.push o).push { cls := .type "enumerate", data := .fields #[.none, .bool false, .ref s.heap.objs.size, rawInt 0, .none, .none] }) (s.heap.objs.size + 1) s.heap.objs.size 0 .none := by
    have := Heap.get?_push_size (s.heap.push o) (o := { cls := .type "enumerate", data := .fields #[.none, .bool false, .ref s.heap.objs.size, rawInt 0, .none, .none] }) rfl
    rw [hz] at this; exact this
  refine ⟨⟨_, he, rfl⟩, h _ he (Heap.get?_push_of_some _ (Heap.get?_push_size _ B.free)) (by rw [Heap.size_push, hz]) fun b o x => Heap.get?_push_of_some _ (Heap.get?_push_of_some _ x)⟩
/-- enumerate(e, k) of a list -/
def iEnum1 (K : PySem.W.Frag) (ta : TA) : TI := fun σ H R => ta σ H fun vs H1 => ∃ a xs k, vs = [.ref a, .int k] ∧ SqL K H1 a xs ∧ -(2 ^ 63) ≤ k ∧ k < 2 ^ 63 ∧ R (IteA K .l k a) H1
/-- enumerate(e) of a tuple -/
def iEnumT (K : PySem.W.Frag) (ta : TA) : TI := fun σ H R => ta σ H fun vs H1 => ∃ a xs, vs = [.ref a] ∧ SqT K H1 a xs ∧ R (IteA K .t 0 a) H1
section
variable {X : Cx} {e e2 : Expr} {ta : TA} {p pos tpos : Pos} {elts : List Expr} {kk : Nat}
theorem enum_made {q : Sq} {k0 : Int} {a : Addr} {pins : List (Addr × Obj)} {σ : L2.St} {H1 : Hp} {s1 : Shared} {R : It → Hp → Prop} {h' : Heap} (I1 : Inv X pins σ H1 s1)
    (he : IsEnum h' (s1.heap.objs.size + 1) s1.heap.objs.size k0 .none) (hit : itS q h' s1.heap.objs.size a 0) (hk : ∀ b o, s1.heap.get? b = some o → h'.get? b = some o) (r : R (IteA X.K q k0 a) H1) :
    PIE X pins σ (.Tuple elts kk tpos) R (.ref (s1.heap.objs.size + 1)) { s1 with heap := h' } := by
  have I2 : Inv X pins σ H1 { s1 with heap := h' } := I1.kept (t' := s1.toks) hk
  refine ⟨s1.heap.objs.size + 1, [s1.heap.objs.size + 1, s1.heap.objs.size], _, _, H1, rfl, I2, turn_enumA q k0 a (s1.heap.objs.size + 1) s1.heap.objs.size, ⟨⟨.none, by simpa using he⟩, hit, Nat.succ_ne_self _⟩, fun b hb => ?_, r⟩
  have e' : b = s1.heap.objs.size + 1 ∨ b = s1.heap.objs.size := by simpa using hb
  have hle : s1.heap.objs.size ≤ b := by
    rcases e' with z | z
    · rw [z]; exact Nat.le_add_right _ _
    · rw [z]; exact Nat.le_refl _
  exact I1.fpOk hle (I1.hok.fresh hle)
theorem pi_enum1 (hg : Gl X "enumerate") (hm : X.mg "enumerate" = none) (ha : PA X [e, e2] ta) (hs : starEach [e, e2] X.env = (false, eval e X.env) :: starEach [e2] X.env := by rfl) (hpl : (backTo pos (starEach [e2] X.env)).any (·.1) = false := by rfl) :
    PI X (.Tuple elts kk tpos) (.Call (.Name "enumerate" p) [e, e2] [] pos) (iEnum1 X.K ta) := by
  refine ⟨fun pins s σ H R I h => ?_⟩
  refine Call_ (ld_blt I hg hm boot_enumerate (PyProof.Rows.callWith_type1 (thn (ha.run pos pins s σ H _ I h) fun us s1 ⟨vs, H1, I1, r1, q1⟩ => ?_) hs hpl))
  obtain ⟨a, xs, k, ex, hq, hk0, hk1, q⟩ := q1
  subst ex
  cases r1 with
  | cons r rr =>
    cases rr with
    | cons r2 rr =>
      cases rr
      cases r
      obtain ⟨tk, rfl⟩ := r2
      obtain ⟨its, rv, p', hz⟩ := I1.list hq
      refine enum_begins (begins_list a its.toArray) p'.isList hk0 hk1 fun h' he ho hsz hk => wpAny_pyIter_enum he ?_
      exact enum_made (q := .l) I1 he ⟨_, ho, rfl, rfl⟩ hk q
theorem pi_enumT (hg : Gl X "enumerate") (hm : X.mg "enumerate" = none) (ha : PA X [e] ta) (hs : starEach [e] X.env = [(false, eval e X.env)] := by rfl) :
    PI X (.Tuple elts kk tpos) (.Call (.Name "enumerate" p) [e] [] pos) (iEnumT X.K ta) := by
  refine ⟨fun pins s σ H R I h => ?_⟩
  refine Call_ (ld_blt I hg hm boot_enumerate (PyProof.Rows.callWith_type1 (thn (ha.run pos pins s σ H _ I h) fun us s1 ⟨vs, H1, I1, r1, q1⟩ => ?_) hs rfl))
  obtain ⟨a, xs, ex, hq, q⟩ := q1
  subst ex
  cases r1 with
  | cons r rr =>
    cases rr
    cases r
    obtain ⟨its, rv, p', hz⟩ := I1.tuple hq
    refine enum_begins0 (begins_tuple a its.toArray) (show s1.heap.IsTuple a its.toArray from p') fun h' he ho hsz hk => wpAny_pyIter_enum he ?_
    exact enum_made (q := .t) I1 he ⟨_, ho, rfl, rfl⟩ hk q
end
end Rod
set_option Elab.async false
set_option linter.all false
set_option maxRecDepth 100000
set_option maxHeartbeats 4000000
/-! ## C. The program's defs -/
namespace Rod
open PySem PySem.Spec PyProof.Rows L2 TL
section
variable {P : Program} {w : World} {K : PySem.W.Frag} {mg : Str → Option Value} {base : Heap}
/-! ### way_of -/
def spWay (K : PySem.W.Frag) : S1 := fun vs H Q => ∃ v xs, vs = [v] ∧ ((v = .non ∧ xs = []) ∨ ∃ a, v = .ref a ∧ (SqL K H a xs ∨ SqT K H a xs)) ∧ ∀ p H', Same H H' → SqT K H' p xs → Q (.ref p) H'
abbrev N_way_of : List Str := ["way"]
theorem sc_way_of : FnScope N_way_of ["way"] (defScope s_way_of) := ⟨rfl, rfl, rfl, by decide +kernel, rfl, by decide +kernel, by decide +kernel⟩
theorem ok_way_of (T : Tx K mg) : GC P w K mg base 1 "way_of" (spWay K) := by
  obtain ⟨fd, F⟩ := T.d_way_of
  have b : Binds K fd ["way"] [] := F.bindsN fun _ _ _ _ _ _ us hl => match us, hl with | [_], _ => rfl
  refine gc_fn (F.ok sc_way_of (fun vs H Q E h => ?_) (fun cdv A outer s H vs Q E hr h => ?_)) T.g_way_of F.kp b
  · obtain ⟨v, xs, rfl, _⟩ := h
    rfl
  · obtain ⟨v, xs, rfl, hw, k⟩ := h
    have nd := sc_way_of.nd
    refine ⟨_, PSs.nox (pss_cons (ps_if (pt_cmpR op_isN (pv 0) pe_non (nomark _))
      (pss_one (ps_ret (pe_tup pa_nil)))
      pss_nil)
    (pss_one (ps_ret (pe_callTy call_tuple_of (by rfl) T.f_tuple (by decide +kernel) (pa_cons (pv 0) pa_nil))))), ?_⟩
    refine ⟨v, rfl, rfl, _, rfl, ?_⟩
    rcases hw with ⟨rfl, rfl⟩ | ⟨a, rfl, hq⟩
    · refine iteT ?_
      exact ⟨by decide, fun p hp => k p _ (Same.new hp) (SqT.of upd_same)⟩
    · refine iteF ?_
      refine ⟨_, rfl, a, xs, rfl, ?_⟩
      rcases hq with hq | hq
      · exact .inl ⟨hq, fun l hl => k l _ (Same.new hl) (SqT.of upd_same)⟩
      · exact .inr ⟨hq, k a H (Same.refl H) hq⟩
/-! ### common -/
def spCommon : S1 := fun vs H Q => ∃ a b : Int, vs = [.int a, .int b] ∧ Q (.int (Int.gcd a b : Nat)) H
abbrev N_common : List Str := ["one", "other"]
theorem sc_common : FnScope N_common ["one", "other"] (defScope s_common) := ⟨rfl, rfl, rfl, by decide +kernel, rfl, by decide +kernel, by decide +kernel⟩
theorem ok_common (T : Tx K mg) : GC P w K mg base 1 "common" spCommon := by
  obtain ⟨fd, F⟩ := T.d_common
  have b : Binds K fd ["one", "other"] [] := F.bindsN fun _ _ _ _ _ _ us hl => match us, hl with | [_, _], _ => rfl
  refine gc_fn (F.ok sc_common (fun vs H Q E h => ?_) (fun cdv A outer s H vs Q E hr h => ?_)) T.g_common F.kp b
  · obtain ⟨_, _, rfl, _⟩ := h
    rfl
  · obtain ⟨a, b, rfl, k⟩ := h
    have nd := sc_common.nd
    refine ⟨_, PSs.nox (pss_cons (ps_set (i := 0) nd rfl (Or.inl rfl) (pe_callB call_abs (by rfl) T.f_abs (by decide +kernel) (pa_cons (pv 0) pa_nil)))
    (pss_cons (ps_set (i := 1) nd rfl (Or.inl rfl) (pe_callB call_abs (by rfl) T.f_abs (by decide +kernel) (pa_cons (pv 1) pa_nil)))
    (pss_cons (ps_while PassesOwn.never (pt_cmpR op_gt (pv 1) pe_int (nomark _))
      (pss_one (ps_par (i := 0) (j := 1) (by rfl) nd rfl rfl (by decide) rfl rfl (pa_cons (pv 1) (pa_cons (pe_op op_mod (pv 0) (pv 1)) pa_nil)) (by rfl))))
    (pss_one (ps_ret (pv 0)))))), ?_⟩
    have ea : ∀ z : Int, (if z < 0 then -z else z) = (z.natAbs : Int) := fun z => by split <;> omega
    refine ⟨_, rfl, a, rfl, ?_⟩
    refine ⟨_, rfl, b, rfl, ?_⟩
    rw [ea, ea]
    refine while_by (fun σ H' => H' = H ∧ ∃ x y : Nat, σ = [some (.int x), some (.int y)] ∧ Nat.gcd x y = Int.gcd a b) (fun σ _ => match σ with | [_, some (.int y)] => y.toNat | _ => 0) ⟨rfl, a.natAbs, b.natAbs, rfl, rfl⟩ ?_ ?_
    · rintro σ H' ⟨rfl, x, y, rfl, hg⟩
      refine ⟨_, rfl, _, _, rfl, rfl, _, rfl, ?_⟩
      refine ite2 (fun hy => ?_) (fun hy => ?_)
      · have hy : 0 < (y : Int) := of_decide_eq_true hy
        refine ⟨_, rfl, _, rfl, _, rfl, _, _, rfl, rfl, hy, _, _, rfl, ⟨rfl, y, x % y, rfl, ?_⟩, ?_⟩
        · rw [← hg, Nat.gcd_comm x y, Nat.gcd_rec y x, Nat.gcd_comm]
        · show ((x : Int) % (y : Int)).toNat < (y : Int).toNat
          have e : (x : Int) % (y : Int) = ((x % y : Nat) : Int) := by omega
          rw [e]
          have := Nat.mod_lt x (show 0 < y by omega)
          omega
      · have hy : ¬ 0 < (y : Int) := fun z => hy (decide_eq_true z)
        have e : y = 0 := by omega
        subst e
        refine ⟨_, rfl, ?_⟩
        rw [Nat.gcd_zero_right] at hg
        rw [hg]
        exact k
    · intro σ H Q Q' q h
      obtain ⟨v, e, i, j, e1, e2, c, e3, r⟩ := h
      exact ⟨v, e, i, j, e1, e2, c, e3, q _ _ r⟩
end
end Rod
set_option Elab.async false
set_option linter.all false
set_option maxRecDepth 100000
set_option maxHeartbeats 4000000
namespace Rod
open PySem PySem.Spec PyProof.Rows L2 TL
/-! ### numbers as texts -/
theorem num_tx (n : Nat) : tl (Str.ofString (toString ((n : Nat) : Int))) = numL n := tl_num n
theorem neg_tx {n : Nat} (h : 0 < n) : tl (Str.ofString (toString (-((n : Nat) : Int)))) = 45 :: numL n := by
  have e := PyProof.Rows.toString_neg (n := -((n : Nat) : Int)) (by omega)
  have e2 : (0 : Int) - -((n : Nat) : Int) = ((n : Nat) : Int) := by omega
  rw [e2] at e
  rw [e]
  have e3 : ∀ a b : String, tl (Str.ofString (a ++ b)) = tl (Str.ofString a) ++ tl (Str.ofString b) := fun a b => by
    rw [Str.ofString_eq_toList, Str.ofString_eq_toList, Str.ofString_eq_toList]
    simp
  rw [e3, num_tx]
  rfl
/-- str of a fraction's top and bottom -/
def fracT (a b : Int) : Str := if b = 1 then Str.ofString (toString a) else (Str.ofString (toString a) ++ ("/" : Str)) ++ Str.ofString (toString b)
theorem Fr.ok.vt_tl {f : Fr} (h : f.ok) : tl (Str.ofString (toString f.vt)) = f.red.nmL := by
  unfold Fr.vt Fr.nmL
  have e1 : f.red.neg = f.neg := rfl
  have e2 : f.red.n = f.n / f.g := rfl
  rw [e1, e2]
  by_cases hn : f.neg = true
  · rw [if_pos hn, if_pos hn]
    exact neg_tx (h.red.sg hn)
  · rw [if_neg hn, if_neg hn]
    exact num_tx _
theorem Fr.ok.text {f : Fr} (h : f.ok) : fracT f.vt f.vb = f.red.tx := by
  refine ext_tl ?_
  rw [Fr.tl_tx]
  unfold fracT Fr.txL
  have e3 : f.red.d = f.d / f.g := rfl
  by_cases hb : f.vb = 1
  · have hd : f.d / f.g = 1 := by
      have : ((f.d / f.g : Nat) : Int) = 1 := hb
      omega
    have hs : f.red.sl = false := by
      show decide (f.d / f.g ≠ 1) = false
      rw [hd]
      decide
    rw [if_pos hb, hs, if_neg (by decide), List.append_nil]
    exact h.vt_tl
  · have hd : f.d / f.g ≠ 1 := fun e => hb (by show ((f.d / f.g : Nat) : Int) = 1; rw [e]; rfl)
    have hs : f.red.sl = true := decide_eq_true hd
    rw [if_neg hb, hs, if_pos rfl, tl_append, tl_append, h.vt_tl, slash_tl, e3]
    have : tl (Str.ofString (toString f.vb)) = numL (f.d / f.g) := num_tx _
    rw [this, List.append_assoc]
    rfl
theorem log_of {i : Int} (h : i.natAbs < 10 ^ 60) : i.natAbs.log2 < 1920 := by
  have h1 : i.natAbs < 2 ^ 200 := Nat.lt_of_lt_of_le h (by decide)
  exact Nat.lt_of_lt_of_le (PySem.Flt.log2_lt_of (by decide) h1) (by decide)
theorem Fr.ok.vt_abs {f : Fr} (h : f.ok) : f.vt.natAbs < 10 ^ 60 := by
  unfold Fr.vt
  have h1 : f.n / f.g ≤ f.n := Nat.div_le_self _ _
  have h2 := h.n60
  split
  · rw [Int.natAbs_neg, Int.natAbs_natCast]
    exact Nat.lt_of_le_of_lt h1 h2
  · rw [Int.natAbs_natCast]
    exact Nat.lt_of_le_of_lt h1 h2
theorem Fr.ok.vb_abs {f : Fr} (h : f.ok) : f.vb.natAbs < 10 ^ 60 := by
  unfold Fr.vb
  rw [Int.natAbs_natCast]
  exact Nat.lt_of_le_of_lt (Nat.div_le_self _ _) h.d60
theorem Fr.ok.top_div {f : Fr} (h : f.ok) : f.top / ((f.g : Nat) : Int) = f.vt := by
  unfold Fr.top Fr.vt
  have hg := h.g1
  split
  · have hd : ((f.g : Nat) : Int) ∣ ((f.n : Nat) : Int) := Int.natCast_dvd_natCast.mpr (Nat.gcd_dvd_left _ _)
    rw [Int.neg_ediv_of_dvd hd]
    rfl
  · rfl
theorem Fr.gcd_top (f : Fr) : Int.gcd f.top ((f.d : Nat) : Int) = f.g := by
  unfold Fr.top Fr.g
  split
  · rw [Int.neg_gcd]
    exact Int.gcd_natCast_natCast _ _
  · exact Int.gcd_natCast_natCast _ _
section
variable {P : Program} {w : World} {K : PySem.W.Frag} {mg : Str → Option Value} {base : Heap}
/-! ### Fraction -/
def spFrI (K : PySem.W.Frag) : S1 := fun vs H Q => ∃ (y dx : Addr) (f : Fr), vs = [.ref y, .int f.top, .int (f.d : Nat)] ∧ H y = some (.ins (He.ga K "Fraction") dx []) ∧ f.ok ∧
  ∀ H', (∀ b o, H b = some o → b ≠ y → H' b = some o) → H' y = some (.ins (He.ga K "Fraction") dx (fFraction (.int f.vt) (.int f.vb))) → Q .non H'
abbrev N_Fraction_init : List Str := ["self", "top", "bottom", "both"]
theorem sc_Fraction_init : FnScope N_Fraction_init ["self", "top", "bottom"] (defScope s_Fraction_init) := ⟨rfl, rfl, rfl, by decide +kernel, rfl, by decide +kernel, by decide +kernel⟩
theorem ok_Fraction_init (T : Tx K mg) {fd : FuncData} (F : FunD K "__init__" "Fraction.__init__" (defArgs s_Fraction_init) (defBody s_Fraction_init) (defScope s_Fraction_init) [V.int 1] [] (He.ma K (He.ga K "Fraction") "__init__") fd) :
    FnOk P w K mg base CX0 2 (He.ma K (He.ga K "Fraction") "__init__") fd ["self", "top", "bottom"] (up (spFrI K)) := by
  have G_common := ok_common (P := P) (w := w) (base := base) T
  refine F.ok sc_Fraction_init (fun vs H Q E h => ?_) (fun cdv A outer s H vs Q E hr h => ?_)
  · obtain ⟨y, dx, f, rfl, _⟩ := h
    rfl
  · obtain ⟨y, dx, f, rfl, hy, ok, k⟩ := h
    have nd := sc_Fraction_init.nd
    have hg := ok.g1
    refine ⟨_, PSs.nox (pss_cons (ps_if (pt_cmpR op_eq (pv 2) pe_int (nomark _))
      (pss_one ps_never)
      pss_nil)
    (pss_cons (ps_set (i := 3) nd rfl (Or.inl rfl) (pe_gc G_common hr (by decide) rfl (pa_cons (pv 1) (pa_cons (pv 2) pa_nil))))
    (pss_cons (ps_if (pt_cmpR op_lt (pv 2) pe_int (nomark _))
      (pss_one (ps_set (i := 3) nd rfl (Or.inl rfl) (pe_un un_neg (pv 3))))
      pss_nil)
    (pss_cons (ps_fld (pv 0) (pe_op op_fdivW (pv 1) (pv 3)) rfl)
    (pss_one (ps_fld (pv 0) (pe_op op_fdivW (pv 2) (pv 3)) rfl)))))), ?_⟩
    refine ⟨_, rfl, rfl, _, rfl, ?_⟩
    have d0 : ¬ (V.int ((f.d : Nat) : Int) = V.int 0) := fun e => by
      have e1 := V.int.inj e
      have := ok.d1
      omega
    rw [decide_eq_false d0]
    refine iteF ?_
    refine ⟨_, rfl, _, rfl, _, _, rfl, ?_⟩
    refine ⟨_, rfl, _, _, rfl, rfl, _, rfl, ?_⟩
    rw [decide_eq_false (show ¬ ((f.d : Nat) : Int) < 0 by omega)]
    refine iteF ?_
    rw [f.gcd_top]
    have wd : CDivW f.top ((f.g : Nat) : Int) := wide_div (b := 200) (by omega) (by
      have h1 : f.g ≤ f.d := Nat.gcd_le_right _ (by have := ok.d1; omega)
      have h2 := ok.d60
      have h3 : (10 : Nat) ^ 60 < 2 ^ 200 := by decide
      omega) (by decide) (by decide)
    refine ⟨_, rfl, _, rfl, _, _, rfl, rfl, wd, _, rfl, y, _, dx, _, rfl, hy, T.c_Fraction, T.n_Fraction_top, (by show 0 < 1000; decide), ?_⟩
    refine ⟨_, rfl, _, rfl, _, _, rfl, rfl, wd, _, rfl, y, _, dx, _, rfl, upd_same, T.c_Fraction, T.n_Fraction_bottom, (by show 1 < 1000; decide), ?_⟩
    refine k _ (fun b o e hb => ?_) ?_
    · rw [upd_ne hb, upd_ne hb]
      exact e
    · rw [← ok.top_div]
      exact upd_same
def spFr (K : PySem.W.Frag) : S1 := fun vs H Q => ∃ f : Fr, vs = [.int f.top, .int (f.d : Nat)] ∧ f.ok ∧ ∀ p H', Same H H' → FracAt K H' p f.vt f.vb → Q (.ref p) H'
def spFr1 (K : PySem.W.Frag) : S1 := fun vs H Q => ∃ f : Fr, vs = [.int f.top] ∧ f.d = 1 ∧ f.ok ∧ ∀ p H', Same H H' → FracAt K H' p f.vt f.vb → Q (.ref p) H'
theorem made_same {H H1 : Hp} {x dx C : Addr} (nx : H x = none) (nd : H dx = none) (k : ∀ b o, (upd (upd H dx (.own x)) x (.ins C dx [])) b = some o → b ≠ x → H1 b = some o) : Same H H1 := Same.made nx nd k
theorem ok_Fraction (T : Tx K mg) : GC P w K mg base 3 "Fraction" (spFr K) ∧ GC P w K mg base 3 "Fraction" (spFr1 K) := by
  obtain ⟨fd, F⟩ := T.d_Fraction_init
  have G := ok_Fraction_init (P := P) (w := w) (base := base) T F
  have key : ∀ (f : Fr) (H : Hp) (Q : VK), f.ok → (∀ p H', Same H H' → FracAt K H' p f.vt f.vb → Q (.ref p) H') → ∀ y dx, H y = none → H dx = none → dx ≠ y →
      spFrI K [.ref y, .int f.top, .int (f.d : Nat)] (upd (upd H dx (.own y)) y (.ins (He.ga K "Fraction") dx [])) fun v H2 => v = .non ∧ Q (.ref y) H2 := fun f H Q ok k y dx ny nd ne =>
    ⟨y, dx, f, rfl, upd_same, ok, fun H' kp hy => ⟨rfl, k y H' (Same.made ny nd kp) ⟨dx, hy⟩⟩⟩
  refine ⟨?_, ?_⟩
  · obtain ⟨ds, hd, hb⟩ := F.binds1 (ps := ["self", "top", "bottom"]) 3 1 (by simp) rfl fun T kV doc pm an cdv ct us its h1 h2 => match us, its, h1, h2 with | [_, _, _], [_], _, _ => ⟨_, rfl, rfl⟩
    refine gc_make T.k_Fraction G T.g_Fraction hb hd fun vs H Q h => ?_
    obtain ⟨f, rfl, ok, k⟩ := h
    exact key f H Q ok k
  · obtain ⟨ds, hd, hb⟩ := F.binds1 (ps := ["self", "top", "bottom"]) 2 0 (by simp) rfl fun T kV doc pm an cdv ct us its h1 h2 => match us, its, h1, h2 with | [_, _], [_], _, _ => ⟨_, rfl, rfl⟩
    refine gc_make T.k_Fraction G T.g_Fraction hb hd fun vs H Q h => ?_
    obtain ⟨f, rfl, h1, ok, k⟩ := h
    have e := key f H Q ok k
    rw [h1] at e
    exact e
/-- what is asked of a receiver that is a Fraction -/
def rcFr (K : PySem.W.Frag) : Int × Int → V → Hp → Prop := fun i x H => ∃ p, x = .ref p ∧ FracAt K H p i.1 i.2
def spFrTold (K : PySem.W.Frag) : S1 := fun vs H Q => ∃ p a b, vs = [.ref p] ∧ FracAt K H p a b ∧ ∀ v H', Same H H' → Dt K H' v (.tuple [.int a, .int b]) → Q v H'
abbrev N_Fraction_told : List Str := ["self"]
theorem sc_Fraction_told : FnScope N_Fraction_told ["self"] (defScope s_Fraction_told) := ⟨rfl, rfl, rfl, by decide +kernel, rfl, by decide +kernel, by decide +kernel⟩
theorem ok_Fraction_told (T : Tx K mg) : VM P w K mg base 1 "told" (rcFr K) (fun i vs H Q => ∃ p, vs = [.ref p] ∧ FracAt K H p i.1 i.2 ∧ ∀ v H', Same H H' → Dt K H' v (.tuple [.int i.1, .int i.2]) → Q v H') := by
  obtain ⟨fd, F⟩ := T.d_Fraction_told
  have b : Binds K fd ["self"] [] := F.bindsN fun _ _ _ _ _ _ us hl => match us, hl with | [_], _ => rfl
  refine vm_one (sp0 := spFrTold K) T.c_Fraction T.m_Fraction_told (F.ok sc_Fraction_told (fun vs H Q E h => ?_) (fun cdv A outer s H vs Q E hr h => ?_)) b (fun i x H h => ?_) fun i vs H Q h => ?_
  · obtain ⟨_, _, _, rfl, _⟩ := h
    rfl
  · obtain ⟨p, a, b, rfl, ⟨dx, hp⟩, k⟩ := h
    refine ⟨_, PSs.nox (pss_one (ps_ret (pe_tup (pa_cons (pe_fld (pv 0) rfl) (pa_cons (pe_fld (pv 0) rfl) pa_nil))))), ?_⟩
    refine ⟨_, rfl, p, _, dx, _, _, rfl, hp, T.c_Fraction, T.n_Fraction_top, fFraction_top _ _, ?_⟩
    refine ⟨_, rfl, p, _, dx, _, _, rfl, hp, T.c_Fraction, T.n_Fraction_bottom, fFraction_bottom _ _, ?_⟩
    exact ⟨by show 2 ≤ sizeLine; decide, fun q hq => k _ _ (Same.new hq) (dt_tup (SqT.of upd_same) (dta_cons dt_int (dta_cons dt_int dta_nil)))⟩
  · obtain ⟨p, rfl, dx, hp⟩ := h
    exact ⟨p, dx, _, rfl, hp, fFraction_no_told _ _⟩
  · obtain ⟨p, rfl, h, k⟩ := h
    exact ⟨p, _, _, rfl, h, k⟩
def spFrText (K : PySem.W.Frag) : S1 := fun vs H Q => ∃ p a b, vs = [.ref p] ∧ FracAt K H p a b ∧ a.natAbs < 10 ^ 60 ∧ b.natAbs < 10 ^ 60 ∧ Q (.str (fracT a b)) H
abbrev N_Fraction_text : List Str := ["self"]
theorem sc_Fraction_text : FnScope N_Fraction_text ["self"] (defScope s_Fraction_text) := ⟨rfl, rfl, rfl, by decide +kernel, rfl, by decide +kernel, by decide +kernel⟩
theorem str_len60 {a : Int} (h : a.natAbs < 10 ^ 60) : (Str.ofString (toString a)).length ≤ 61 := by
  have e : (Str.ofString (toString a)).length = (toString a).length := by
    rw [Str.ofString_eq_toList]
    simp only [Str.length, List.size_toArray, List.length_map]
    exact String.length_toList
  rw [e]
  exact PySem.int_text_length_le10 (by decide) h
theorem ok_Fraction_text (T : Tx K mg) : VM P w K mg base 1 "text" (rcFr K) (fun i vs H Q => ∃ p, vs = [.ref p] ∧ FracAt K H p i.1 i.2 ∧ i.1.natAbs < 10 ^ 60 ∧ i.2.natAbs < 10 ^ 60 ∧ Q (.str (fracT i.1 i.2)) H) := by
  obtain ⟨fd, F⟩ := T.d_Fraction_text
  have b : Binds K fd ["self"] [] := F.bindsN fun _ _ _ _ _ _ us hl => match us, hl with | [_], _ => rfl
  refine vm_one (sp0 := spFrText K) T.c_Fraction T.m_Fraction_text (F.ok sc_Fraction_text (fun vs H Q E h => ?_) (fun cdv A outer s H vs Q E hr h => ?_)) b (fun i x H h => ?_) fun i vs H Q h => ?_
  · obtain ⟨_, _, _, rfl, _⟩ := h
    rfl
  · obtain ⟨p, a, b, rfl, ⟨dx, hp⟩, ha, hb, k⟩ := h
    refine ⟨_, PSs.nox (pss_cons (ps_if (pt_cmpR op_eq (pe_fld (pv 0) rfl) pe_int (nomark _))
      (pss_one (ps_ret (pe_callTy call_str_int (by rfl) T.f_str (by decide +kernel) (pa_cons (pe_fld (pv 0) rfl) pa_nil))))
      pss_nil)
    (pss_one (ps_ret (pe_op op_add_str (pe_op op_add_str (pe_callTy call_str_int (by rfl) T.f_str (by decide +kernel) (pa_cons (pe_fld (pv 0) rfl) pa_nil)) pe_str) (pe_callTy call_str_int (by rfl) T.f_str (by decide +kernel) (pa_cons (pe_fld (pv 0) rfl) pa_nil)))))), ?_⟩
    refine ⟨_, rfl, p, _, dx, _, _, rfl, hp, T.c_Fraction, T.n_Fraction_bottom, fFraction_bottom _ _, rfl, _, rfl, ?_⟩
    unfold fracT at k
    refine ite2 (fun e => ?_) (fun e => ?_)
    · have e1 : b = 1 := V.int.inj (of_decide_eq_true e)
      rw [if_pos e1] at k
      exact ⟨_, rfl, p, _, dx, _, _, rfl, hp, T.c_Fraction, T.n_Fraction_top, fFraction_top _ _, _, rfl, log_of ha, k⟩
    · have e1 : ¬ b = 1 := fun z => e (decide_eq_true (by rw [z]))
      rw [if_neg e1] at k
      have l1 := str_len60 ha
      have l2 := str_len60 hb
      have l3 : ("/" : Str).length = 1 := by decide +kernel
      refine ⟨_, rfl, p, _, dx, _, _, rfl, hp, T.c_Fraction, T.n_Fraction_top, fFraction_top _ _, _, rfl, log_of ha, ?_⟩
      refine ⟨_, _, rfl, rfl, ?_, ?_⟩
      · rw [l3]
        exact Nat.le_trans (Nat.add_le_add_right l1 1) (by decide)
      refine ⟨_, rfl, p, _, dx, _, _, rfl, hp, T.c_Fraction, T.n_Fraction_bottom, fFraction_bottom _ _, _, rfl, log_of hb, ?_⟩
      refine ⟨_, _, rfl, rfl, ?_, k⟩
      rw [Str.length_append, l3]
      exact Nat.le_trans (Nat.add_le_add (Nat.add_le_add_right l1 1) l2) (by decide)
  · obtain ⟨p, rfl, dx, hp⟩ := h
    exact ⟨p, dx, _, rfl, hp, fFraction_no_text _ _⟩
  · obtain ⟨p, rfl, h, h1, h2, k⟩ := h
    exact ⟨p, _, _, rfl, h, h1, h2, k⟩
end
end Rod
set_option Elab.async false
set_option linter.all false
set_option maxRecDepth 100000
set_option maxHeartbeats 4000000
namespace Rod
open PySem PySem.Spec PyProof.Rows L2 TL
/-! ### signs -/
theorem starts_one {x y : Str} {c : Nat} (hy : tl y = [c]) : Txt.startswith x y = (match tl x with | [] => false | d :: _ => d == c) := by
  unfold Txt.startswith
  rw [StrLaws.subAt_eq]
  have hl : y.length = 1 := by rw [len_tl, hy]; rfl
  have hx : x.length = (tl x).length := len_tl x
  rw [hl, hx]
  show (decide (0 + 1 ≤ (tl x).length) && (((tl x).drop 0).take 1 == tl y)) = _
  rw [hy]
  cases tl x with
  | nil => rfl
  | cons d r =>
    show (decide (0 + 1 ≤ r.length + 1) && ([d] == [c])) = (d == c)
    rw [decide_eq_true (by omega), Bool.true_and]
    simp
theorem cut_tail (z : Str) : tl (cutS z (some 1) none) = (tl z).tail := by
  unfold cutS
  have e : HT.sIx z.length 0 (some 1) = min 1 z.length := HT.sIx_nat z.length 0 1
  rw [e, HT.sIx_none]
  show ((tl z).drop (min 1 z.length)).take (z.length - min 1 z.length) = _
  have hx : z.length = (tl z).length := len_tl z
  rw [hx]
  cases tl z with
  | nil => rfl
  | cons d r =>
    show ((d :: r).drop (min 1 (r.length + 1))).take (r.length + 1 - min 1 (r.length + 1)) = r
    rw [show min 1 (r.length + 1) = 1 by omega]
    show r.take (r.length + 1 - 1) = r
    rw [Nat.add_sub_cancel, List.take_length]
theorem numL_head {n : Nat} (h : 0 < n) : ∃ c r, numL n = c :: r ∧ c ≠ 48 := by
  induction n using Nat.strongRecOn with
  | _ n ih =>
    by_cases hn : n < 10
    · exact ⟨48 + n, [], numL_lt hn, by omega⟩
    · obtain ⟨c, r, e, hc⟩ := ih (n / 10) (by omega) (by omega)
      exact ⟨c, r ++ [48 + n % 10], by rw [numL_step (by omega), e]; rfl, hc⟩
theorem numL_zero : numL 0 = [48] := numL_lt (by decide)
theorem numL_first (n : Nat) : ∃ c r, numL n = c :: r ∧ 48 ≤ c ∧ c ≤ 57 := by
  cases e : numL n with
  | nil => exact absurd e (numL_ne n)
  | cons c r => exact ⟨c, r, rfl, numL_digits n c (by rw [e]; exact List.mem_cons_self)⟩
theorem figs_tl : tl ("0123456789" : Str) = [48, 49, 50, 51, 52, 53, 54, 55, 56, 57] := by decide +kernel
theorem zero_tl : tl ("0" : Str) = [48] := by decide +kernel
theorem fig_in {c : Nat} (h : 48 ≤ c ∧ c ≤ 57) : c ∈ ("0123456789" : Str).cps.toList := by
  rw [show ("0123456789" : Str).cps.toList = [48, 49, 50, 51, 52, 53, 54, 55, 56, 57] from figs_tl]
  have : c = 48 ∨ c = 49 ∨ c = 50 ∨ c = 51 ∨ c = 52 ∨ c = 53 ∨ c = 54 ∨ c = 55 ∨ c = 56 ∨ c = 57 := by omega
  simp
  omega
theorem bls_of {α : Type} : ∀ {ds : List α} {acc : List V}, Paired (fun _ v => v = V.bl true) ds acc → acc = (List.replicate ds.length true).map V.bl
  | _, _, .nil => rfl
  | _, _, .cons h r => by rw [h, bls_of r]; rfl
theorem all_replicate : ∀ n : Nat, (List.replicate n true).all id = true
  | 0 => rfl
  | n + 1 => by
    rw [List.replicate_succ, List.all_cons, all_replicate n]
    rfl
theorem neq_str {x y : Str} (h : tl x ≠ tl y) : ¬ (V.str x = V.str y) := fun e => h (by rw [V.str.inj e])
theorem iteI {c A B : Prop} [Decidable c] (hc : c) (h : A) : if c then A else B := by
  rw [if_pos hc]
  exact h
theorem yesI {σ : L2.St} {H : Hp} {te : TE} {Nx : VK} {Nf : Hp → Prop} (h : te σ H Nx) : tYes σ H fun b H3 => if b = true then te σ H3 Nx else Nf H3 := by
  show if true = true then te σ H Nx else Nf H
  rw [if_pos rfl]
  exact h
/-! ### an assignment whose value is known, or told by P -/
theorem vq_asg {te : TE} {tz : TS} {D : Ends} {σ : L2.St} {H : Hp} {v : V} {i : Nat} (h : ∀ Q : VK, Q v H → te σ H Q) (k : tz D (σ.set i (some v)) H) : tSeq (tAsg te (gName i)) tz D σ H := h _ k
theorem vq_asgP {te : TE} {tz : TS} {D : Ends} {σ : L2.St} {H : Hp} {i : Nat} (Pv : V → Hp → Prop) (h : ∀ Q : VK, (∀ v H', Pv v H' → Q v H') → te σ H Q) (k : ∀ v H', Pv v H' → tz D (σ.set i (some v)) H') : tSeq (tAsg te (gName i)) tz D σ H := h _ k
section
variable {P : Program} {w : World} {K : PySem.W.Frag} {mg : Str → Option Value} {base : Heap}
/-! ### are_figures -/
def spFigs : S1 := fun vs H Q => ∃ (z : Str) (m n : Nat), vs = [.str z, .int (m : Nat)] ∧ tl z = numL n ∧ (numL n).length ≤ m ∧ m ≤ 100 ∧ ∀ H', Same H H' → Q (.bl true) H'
abbrev N_are_figures : List Str := ["text", "most", "sign"]
theorem sc_are_figures : FnScope N_are_figures ["text", "most"] (defScope s_are_figures) := ⟨rfl, rfl, rfl, by decide +kernel, rfl, by decide +kernel, by decide +kernel⟩
theorem ok_are_figures (T : Tx K mg) : GC P w K mg base 1 "are_figures" spFigs := by
  obtain ⟨fd, F⟩ := T.d_are_figures
  have b : Binds K fd ["text", "most"] [] := F.bindsN fun _ _ _ _ _ _ us hl => match us, hl with | [_, _], _ => rfl
  refine gc_fn (F.ok sc_are_figures (fun vs H Q E h => ?_) (fun cdv A outer s H vs Q E hr h => ?_)) T.g_are_figures F.kp b
  · obtain ⟨_, _, _, rfl, _⟩ := h
    rfl
  · obtain ⟨z, m, n, rfl, hz, hl, hm, k⟩ := h
    have nd := sc_are_figures.nd
    obtain ⟨tkF, mg_FIGURES_fractions⟩ := T.z_FIGURES_fractions
    have zl : z.length = (numL n).length := by rw [len_tl, hz]
    have zs : z.length ≤ sizeLine := by
      rw [zl]
      exact Nat.le_trans (Nat.le_trans hl hm) (by decide)
    have z1 : 1 ≤ z.length := by
      rw [zl]
      have := numL_ne n
      cases e : numL n with
      | nil => exact absurd e this
      | cons _ _ => exact Nat.succ_le_succ (Nat.zero_le _)
    refine ⟨_, PSs.nox (pss_cons (ps_if (PW.pt (pw_or (pt_not (pt_chain op_le op_le pe_int (pe_callB call_len_str (by rfl) T.f_len (by decide +kernel) (pa_cons (pv 0) pa_nil)) (pv 1))) (pw_or1 (pt_not (pt_val (pe_callB (cr_all rfl) (by rfl) T.f_all (by decide +kernel) (pa_cons (pe_lc (own := [("sign", 2)]) (by rfl) nd (pi_str (pv 0)) (blkOk_by (N := N_are_figures) (sc := defScope s_are_figures) (by decide +kernel)) (fun _ _ _ _ _ => (pg_name (i := 2) nd rfl (Or.inl rfl))) (fun _ _ _ _ _ => pts_nil) (fun _ _ _ _ _ => (pe_cmpR op_in_sign (pv 2) (pe_glob (v := .str "0123456789") rfl mg_FIGURES_fractions ⟨_, rfl⟩) (by rfl)))) pa_nil)))))))
      (pss_one (ps_ret pe_bl))
      pss_nil)
    (pss_one (ps_ret (pe_or (pe_cmpR op_eq (pv 0) pe_str (nomark _)) (pe_one (pe_not (pe_m1 PySem.F.slot_str_startswith PySem.F.type_str_startswith mt_startswith (pv 0) pe_str))))))), ?_⟩
    -- 1 <= len(text) <= most
    refine ⟨_, rfl, z, rfl, zs, _, _, rfl, rfl, _, rfl, ?_⟩
    rw [decide_eq_true (show (1 : Int) ≤ (z.length : Int) by omega)]
    refine iteT ?_
    refine ⟨_, rfl, _, _, rfl, rfl, _, rfl, ?_⟩
    rw [decide_eq_true (show (z.length : Int) ≤ (m : Int) by omega)]
    refine iteF ?_
    -- all(..)
    refine ⟨_, rfl, z, rfl, ?_⟩
    refine lc_map (K := K) (walk_str (z := z)) (tl z) (by simp [tl]) (by rw [hz]; exact Nat.le_trans (Nat.le_trans hl hm) (by decide)) (fun _ v _ => v = V.bl true) (fun _ _ _ _ _ h => h) (fun _ _ => trivial) (fun i d x H2 H3 hi s2 y Nx Nf kx => ?_) fun D H2 acc hD s2 ha hp => ?_
    · obtain ⟨rfl, c, hc, rfl⟩ := y
      refine ⟨rfl, yesI ?_⟩
      have ec : (tl z)[i]? = some c := by
        rw [← hc]
        simp [tl]
      have hin : c ∈ numL n := by
        rw [hz] at ec
        exact List.mem_of_getElem? ec
      refine ⟨_, rfl, c, _, rfl, rfl, ?_⟩
      rw [decide_eq_true (fig_in (numL_digits n c hin))]
      exact kx _ _ (Same.refl _) rfl
    · rw [bls_of hp] at ha
      refine ⟨D, _, rfl, SqL.of ha, true, ?_, ?_⟩
      · rw [all_replicate]
      refine iteF ?_
      -- text == "0" or not text.startswith("0")
      refine ⟨_, rfl, rfl, _, rfl, ?_⟩
      by_cases h0 : n = 0
      · rw [decide_eq_true (show V.str z = V.str ("0" : Str) by rw [ext_tl (x := z) (y := ("0" : Str)) (by rw [hz, h0, numL_zero, zero_tl])])]
        refine iteT ?_
        exact k _ s2
      · rw [decide_eq_false (neq_str (by
          obtain ⟨c, r, e, hc⟩ := numL_head (n := n) (by omega)
          rw [hz, e, zero_tl]
          intro q
          injection q with q1 _
          exact hc q1))]
        refine iteF ?_
        refine ⟨_, rfl, ⟨_, rfl⟩, z, _, rfl, rfl, _, rfl, ?_⟩
        rw [starts_one zero_tl, hz]
        obtain ⟨c, r, e, hc⟩ := numL_head (n := n) (by omega)
        rw [e]
        show Q (.bl (!(c == 48))) H2
        rw [beq_eq_false_iff_ne.mpr hc]
        exact k _ s2
/-! ### read_fraction -/
def spRead (K : PySem.W.Frag) : S1 := fun vs H Q => ∃ f : Fr, vs = [.str f.tx, .int 60] ∧ f.ok ∧ ∀ p H', Same H H' → FracAt K H' p f.vt f.vb → Q (.ref p) H'
theorem dash0_tl : tl ("-0" : Str) = [45, 48] := by decide +kernel
abbrev N_read_fraction : List Str := ["text", "most", "top", "stroke", "bottom", "size"]
theorem sc_read_fraction : FnScope N_read_fraction ["text", "most"] (defScope s_read_fraction) := ⟨rfl, rfl, rfl, by decide +kernel, rfl, by decide +kernel, by decide +kernel⟩
theorem ok_read_fraction (T : Tx K mg) : GC P w K mg base 4 "read_fraction" (fun vs H Q => ∃ f : Fr, vs = [.str f.tx] ∧ f.ok ∧ ∀ p H', Same H H' → FracAt K H' p f.vt f.vb → Q (.ref p) H') := by
  obtain ⟨fd, F⟩ := T.d_read_fraction
  obtain ⟨ds, hd, hb⟩ := F.binds1 (ps := ["text", "most"]) 1 0 (by simp) rfl fun T kV doc pm an cdv ct us its h1 h2 => match us, its, h1, h2 with | [_], [_], _, _ => ⟨_, rfl, rfl⟩
  have G_are_figures := ok_are_figures (P := P) (w := w) (base := base) T
  have G_Fraction := (ok_Fraction (P := P) (w := w) (base := base) T).1
  have G_Fraction1 := (ok_Fraction (P := P) (w := w) (base := base) T).2
  refine GC.imp (gc_fnD (sp := spRead K) (F.ok sc_read_fraction (fun vs H Q E h => ?_) (fun cdv A outer s H vs Q E hr h => ?_)) T.g_read_fraction F.kp hb hd) fun vs H Q h => ?_
  · obtain ⟨_, rfl, _⟩ := h
    rfl
  · obtain ⟨f, rfl, ok, k⟩ := h
    have nd := sc_read_fraction.nd
    have fl : f.tx.length ≤ sizeLine := Nat.le_trans ok.len (by decide)
    have hb0 : (("/" : Str).length == 0) = false := by decide +kernel
    have n47 : ∀ n, 47 ∉ numL n := fun n => numL_free (Or.inl (by decide))
    let nm : Str := ⟨f.nmL.toArray⟩
    let dn : Str := ⟨(numL f.d).toArray⟩
    have nmt : tl nm = f.nmL := rfl
    have dnt : tl dn = numL f.d := rfl
    have nmn : 47 ∉ tl nm := by
      rw [nmt]
      unfold Fr.nmL
      intro hm
      rcases List.mem_append.mp hm with hm | hm
      · split at hm <;> simp at hm
      · exact n47 _ hm
    have nml : nm.length ≤ 61 := by
      rw [len_tl, nmt]
      unfold Fr.nmL
      have := ok.n_len
      rw [List.length_append]
      have : (if f.neg = true then [45] else ([] : List Nat)).length ≤ 1 := by split <;> simp
      omega
    have nsl : nm.length ≤ sizeLine := Nat.le_trans nml (by decide)
    have hpart : ∃ st bt, Txt.partition f.tx "/" = (nm, st, bt) ∧ ((f.sl = false ∧ st = Str.empty) ∨ (f.sl = true ∧ st = ("/" : Str) ∧ bt = dn)) := by
      cases hs : f.sl with
      | false =>
        have e : f.tx = nm := ext_tl (by rw [Fr.tl_tx, nmt]; unfold Fr.txL; rw [hs]; simp)
        exact ⟨_, _, by rw [e]; exact partition_none slash_tl nmn, .inl ⟨rfl, rfl⟩⟩
      | true =>
        have e : f.tx = nm ++ "/" ++ dn := ext_tl (by
          rw [Fr.tl_tx, tl_append, tl_append, nmt, slash_tl, dnt]
          unfold Fr.txL
          rw [hs, if_pos rfl, List.append_assoc]
          rfl)
        exact ⟨_, _, by rw [e]; exact partition_app slash_tl nmn, .inr ⟨rfl, rfl, rfl⟩⟩
    obtain ⟨st, bt, hpt, hsl⟩ := hpart
    -- the number ahead of the stroke
    have hint : intText? nm = some f.top := by
      unfold Fr.top
      cases hn : f.neg with
      | true =>
        rw [if_pos rfl]
        have e := intText_neg (x := nm) (cs := numL f.n) (by rw [show nm.cps.toList = f.nmL from rfl]; unfold Fr.nmL; rw [hn]; rfl) (numL_digits _) (numL_ne _) (Nat.le_trans nml (by decide))
        rw [numL_val] at e
        exact e
      | false =>
        rw [if_neg (by decide)]
        have en : nm.cps.toList = numL f.n := by
          show f.nmL = _
          unfold Fr.nmL
          rw [hn]
          rfl
        have e := intText_digits (x := nm) (by rw [en]; exact numL_digits _) (by rw [en]; exact numL_ne _) (Nat.le_trans nml (by decide))
        rw [en, numL_val] at e
        exact e
    have hsize : ∃ z : Str, tl z = numL f.n ∧ ((Txt.startswith nm "-" = true ∧ cutS nm (some 1) none = z) ∨ (Txt.startswith nm "-" = false ∧ nm = z)) := by
      rw [starts_one dash_tl, nmt]
      unfold Fr.nmL
      cases hn : f.neg with
      | true => exact ⟨_, by rw [cut_tail, nmt]; unfold Fr.nmL; rw [hn]; rfl, .inl ⟨rfl, rfl⟩⟩
      | false =>
        obtain ⟨c, r, e, h1, h2⟩ := numL_first f.n
        refine ⟨nm, by rw [nmt]; unfold Fr.nmL; rw [hn]; rfl, .inr ⟨?_, rfl⟩⟩
        rw [if_neg (by decide), List.nil_append, e]
        exact beq_eq_false_iff_ne.mpr (by omega)
    have hn0 : tl nm ≠ tl ("-0" : Str) := by
      rw [nmt, dash0_tl]
      unfold Fr.nmL
      cases hn : f.neg with
      | true =>
        intro e
        have e2 : numL f.n = [48] := by
          have : [45] ++ numL f.n = [45, 48] := e
          injection this
        have := numL_inj (e2.trans numL_zero.symm)
        have := ok.sg hn
        omega
      | false =>
        obtain ⟨c, r, e, h1, h2⟩ := numL_first f.n
        rw [if_neg (by decide), List.nil_append, e]
        intro q
        injection q with q1 _
        omega
    obtain ⟨z, hz, hzc⟩ := hsize
    refine ⟨_, PSs.nox (pss_cons (ps_asg (pe_partition (pv 0) pe_str) (pg_tup rfl (pgs_cons (pg_name (i := 2) nd rfl (Or.inl rfl)) (pgs_cons (pg_name (i := 3) nd rfl (Or.inl rfl)) (pgs_cons (pg_name (i := 4) nd rfl (Or.inl rfl)) pgs_nil)))))
    (pss_cons (ps_set (i := 5) nd rfl (Or.inl rfl) (pe_ifExp (pt_val (pe_m1 PySem.F.slot_str_startswith PySem.F.type_str_startswith mt_startswith (pv 2) pe_str)) (pe_slice sl_str (pv 2) (po_some pe_int) po_none) (pv 2)))
    (pss_cons (ps_if (PW.pt (pw_or (pt_not (pt_val (pe_gc G_are_figures hr (by decide) rfl (pa_cons (pv 5) (pa_cons (pv 1) pa_nil))))) (pw_or1 (pt_cmpR op_eq (pv 2) pe_str (nomark _)))))
      (pss_one ps_never)
      pss_nil)
    (pss_cons (ps_if (pt_cmpR op_eq (pv 3) pe_str (nomark _))
      (pss_one (ps_ret (pe_gc G_Fraction1 hr (by decide) rfl (pa_cons (pe_callTy call_int_str (by rfl) T.f_int (by decide +kernel) (pa_cons (pv 2) pa_nil)) pa_nil))))
      pss_nil)
    (pss_cons (ps_if (PW.pt (pw_or (pt_not (pt_val (pe_gc G_are_figures hr (by decide) rfl (pa_cons (pv 4) (pa_cons (pv 1) pa_nil))))) (pw_or1 (pt_cmpR op_eq (pv 4) pe_str (nomark _)))))
      (pss_one ps_never)
      pss_nil)
    (pss_one (ps_ret (pe_gc G_Fraction hr (by decide) rfl (pa_cons (pe_callTy call_int_str (by rfl) T.f_int (by decide +kernel) (pa_cons (pv 2) pa_nil)) (pa_cons (pe_callTy call_int_str (by rfl) T.f_int (by decide +kernel) (pa_cons (pv 4) pa_nil)) pa_nil)))))))))), ?_⟩
    -- partition
    refine ⟨_, rfl, ⟨_, rfl⟩, f.tx, _, rfl, rfl, hb0, fl, fun p hp => ?_⟩
    rw [hpt]
    refine ⟨p, _, rfl, SqT.of upd_same, rfl, _, _, rfl, _, _, rfl, _, _, rfl, rfl, ?_⟩
    have s1 : Same H (upd H p (.tup [.str nm, .str st, .str bt])) := Same.new hp
    generalize upd H p (.tup [.str nm, .str st, .str bt]) = H1 at s1 ⊢
    -- size
    dsimp only
    refine vq_asg (v := .str z) (fun Q' k' => ?_) ?_
    · refine ⟨_, rfl, ⟨_, rfl⟩, nm, _, rfl, rfl, _, rfl, ?_⟩
      rcases hzc with ⟨hs, hc⟩ | ⟨hs, hc⟩
      · rw [hs]
        refine iteT ?_
        refine ⟨_, rfl, _, rfl, nm, rfl, nsl, ?_⟩
        rw [hc]
        exact k'
      · rw [hs]
        refine iteF ?_
        refine ⟨_, rfl, ?_⟩
        rw [hc]
        exact k'
    -- are_figures(size, most), top == "-0"
    refine ⟨_, rfl, _, rfl, z, 60, f.n, rfl, hz, ok.n_len, by decide, fun H2 s2 => ⟨true, rfl, ?_⟩⟩
    refine iteF ?_
    refine ⟨_, rfl, rfl, _, rfl, ?_⟩
    rw [decide_eq_false (neq_str hn0)]
    refine iteF ?_
    -- stroke == ""
    refine ⟨_, rfl, rfl, _, rfl, ?_⟩
    have es : Str.empty = ("" : Str) := by decide +kernel
    rcases hsl with ⟨hs, rfl⟩ | ⟨hs, rfl, rfl⟩
    · rw [decide_eq_true (show V.str Str.empty = V.str ("" : Str) by rw [es])]
      refine iteT ?_
      exact ⟨_, rfl, nm, _, rfl, hint, Nat.le_trans nml (by decide), f, rfl, ok.one hs, ok, fun p H3 s3 hp => k p H3 ((s1.trans s2).trans s3) hp⟩
    · rw [decide_eq_false (neq_str (x := ("/" : Str)) (y := ("" : Str)) (by rw [slash_tl, empty_tl]; decide))]
      refine iteF ?_
      refine ⟨_, rfl, _, rfl, dn, 60, f.d, rfl, rfl, ok.d_len, by decide, fun H3 s3 => ⟨true, rfl, ?_⟩⟩
      refine iteF ?_
      refine ⟨_, rfl, rfl, _, rfl, ?_⟩
      rw [decide_eq_false (neq_str (x := dn) (y := ("0" : Str)) (by
        rw [dnt, zero_tl]
        intro e
        have := numL_inj (e.trans numL_zero.symm)
        have := ok.d1
        omega))]
      refine iteF ?_
      have dl : dn.length ≤ 640 := by
        rw [len_tl, dnt]
        exact Nat.le_trans ok.d_len (by decide)
      have dint : intText? dn = some ((f.d : Nat) : Int) := by
        have e := intText_digits (x := dn) (numL_digits _) (numL_ne _) (Nat.le_trans dl (by decide))
        rw [show dn.cps.toList = numL f.d from rfl, numL_val] at e
        exact e
      exact ⟨_, rfl, nm, _, rfl, hint, Nat.le_trans nml (by decide), _, rfl, dn, _, rfl, dint, dl, f, rfl, ok, fun p H4 s4 hp => k p H4 (((s1.trans s2).trans s3).trans s4) hp⟩
  · obtain ⟨f, rfl, ok, k⟩ := h
    exact ⟨f, rfl, ok, k⟩
end
end Rod
set_option Elab.async false
set_option linter.all false
set_option maxRecDepth 100000
set_option maxHeartbeats 4000000
namespace Rod
open PySem PySem.Spec PyProof.Rows L2 TL
/-! ### membership of texts -/
theorem flat_str_all (ys : List Str) : (ys.map V.str).all flatV = true := by
  rw [List.all_map]
  exact List.all_eq_true.mpr fun _ _ => rfl
theorem inV_strs (x : Str) : ∀ ys : List Str, inV (.str x) (ys.map V.str) = decide (x ∈ ys)
  | [] => rfl
  | y :: r => by
    have ih := inV_strs x r
    unfold inV at ih ⊢
    rw [List.map_cons, List.any_cons, ih]
    show ((y == x) || decide (x ∈ r)) = decide (x ∈ y :: r)
    by_cases h : x = y
    · subst h
      rw [beq_self_eq_true, Bool.true_or]
      exact (decide_eq_true List.mem_cons_self).symm
    · rw [beq_eq_false_iff_ne.mpr fun e => h e.symm, Bool.false_or]
      by_cases hr : x ∈ r
      · rw [decide_eq_true hr, decide_eq_true (List.mem_cons_of_mem _ hr)]
      · rw [decide_eq_false hr, decide_eq_false fun z => (List.mem_cons.mp z).elim h hr]
theorem letters_tl : tl ("abcdefghijklmnopqrstuvwxyz" : Str) = [97, 98, 99, 100, 101, 102, 103, 104, 105, 106, 107, 108, 109, 110, 111, 112, 113, 114, 115, 116, 117, 118, 119, 120, 121, 122] := by decide +kernel
theorem low_in {c : Nat} (h : isLow c) : c ∈ ("abcdefghijklmnopqrstuvwxyz" : Str).cps.toList := by
  rw [show ("abcdefghijklmnopqrstuvwxyz" : Str).cps.toList = _ from letters_tl]
  obtain ⟨h1, h2⟩ := h
  have key : ∀ d : Nat, d < 26 → 97 + d ∈ ([97, 98, 99, 100, 101, 102, 103, 104, 105, 106, 107, 108, 109, 110, 111, 112, 113, 114, 115, 116, 117, 118, 119, 120, 121, 122] : List Nat) := by decide
  have := key (c - 97) (by omega)
  rwa [show 97 + (c - 97) = c by omega] at this
theorem dva_str (K : PySem.W.Frag) (l : List Str) : (l.map He.Dv.str).map (He.Dv.v K) = l.map V.str := by
  rw [List.map_map]
  rfl
section
variable {P : Program} {w : World} {K : PySem.W.Frag} {mg : Str → Option Value} {base : Heap}
theorem Tx.kept (T : Tx K mg) (H : Hp) : SqT K H (He.ga K "KEPT") (kept.map V.str) := by
  have e := T.says.more
  unfold ex at e
  simp only [Bool.and_eq_true] at e
  replace e := e.2
  rw [← dva_str K]
  exact He.tupB_ok e.1 H
theorem Tx.alone (T : Tx K mg) (H : Hp) : SqT K H (He.ga K "ALONE") (alone.map V.str) := by
  have e := T.says.more
  unfold ex at e
  simp only [Bool.and_eq_true] at e
  replace e := e.2
  rw [← dva_str K]
  exact He.tupB_ok e.2.1 H
theorem Tx.pointed (T : Tx K mg) (H : Hp) : SqT K H (He.ga K "POINTED") (pointed.map V.str) := by
  have e := T.says.more
  unfold ex at e
  simp only [Bool.and_eq_true] at e
  replace e := e.2
  rw [← dva_str K]
  exact He.tupB_ok e.2.2.1 H
theorem _root_.L2.Same.ls {H H' : Hp} {a : Addr} {xs : List V} (s : Same H H') (h : SqL K H a xs) : SqL K H' a xs := by
  rcases h with h | h
  · rcases h with h | ⟨o, h⟩
    · exact .inl (.inl (s _ _ h))
    · exact .inl (.inr ⟨o, s _ _ h⟩)
  · exact .inr h
/-- all of a comprehension whose elements are true -/
theorem lc_true {α : Type} {J : It} {n : Nat} {G : Hp → Prop} {Y : Nat → Hp → V → Hp → Prop} {g : TG} {te : TE} {vs : List Nat} {σ : L2.St} {H1 : Hp} {Qd : Addr → Hp → Prop}
    (wk : Walk J n G Y) (ds : List α) (hn : n = ds.length) (hz : ds.length ≤ 100000) (hG : ∀ H, Same H1 H → G H)
    (hs : ∀ i d x H H', ds[i]? = some d → Same H1 H → Y i H x H' → ∀ Nx : VK, (∀ H4, Same H H4 → Nx (.bl true) H4) → g x (wipe σ vs) H' fun σ2 H2 => wipe σ2 vs = wipe σ vs ∧ te σ2 H2 Nx)
    (mono : ∀ x σ H (Q Q' : L2.St → Hp → Prop), (∀ σ H, Q σ H → Q' σ H) → g x σ H Q → g x σ H Q')
    (hd : ∀ D H, Same H1 H → SqL K H D ((List.replicate ds.length true).map V.bl) → (List.replicate ds.length true).all id = true → Qd D H) :
    ∀ D, H1 D = none → ∃ W : Nat → Nat → Hp → Prop, (∃ m, W 0 m (upd H1 D (.lst []))) ∧ ∀ i m H, W i m H →
      (J.stop i H ∧ Qd D H) ∨ (J.go i H ∧ ∃ Nx : Hp → Prop, (∀ H', Nx H' → ∃ m', m' < m ∧ W (i + 1) m' H') ∧ ∀ x H', J.yld i H x H' → g x (wipe σ vs) H' fun σ2 H2 => wipe σ2 vs = wipe σ vs ∧ tYes σ2 H2 fun b H3 =>
        if b = true then te σ2 H3 fun y H4 => ∃ acc, H4 D = some (.lst acc) ∧ acc.length < sizeLine ∧ Nx (upd H4 D (.lst (acc ++ [y]))) else Nx H3) := by
  refine lc_map (K := K) wk ds hn hz (fun _ v _ => v = V.bl true) (fun _ _ _ _ _ h => h) hG (fun i d x H2 H3 hi s2 y Nx Nf kx => ?_) fun D H2 acc hD s2 ha hp => ?_
  · refine mono _ _ _ _ _ (fun σ2 H4 h => ⟨h.1, yesI h.2⟩) (hs i d x H2 H3 hi s2 y Nx fun H4 s4 => kx _ _ s4 rfl)
  · rw [bls_of hp] at ha
    exact hd D H2 s2 (SqL.of ha) (all_replicate _)
theorem mono_name {i : Nat} : ∀ x σ H (Q Q' : L2.St → Hp → Prop), (∀ σ H, Q σ H → Q' σ H) → gName i x σ H Q → gName i x σ H Q' := fun _ _ _ _ _ h q => h _ _ q
/-! ### is_plain -/
def spPlain : S1 := fun vs H Q => ∃ z : Str, vs = [.str z] ∧ Pl z ∧ ∀ H', Same H H' → Q (.bl true) H'
abbrev N_is_plain : List Str := ["word", "sign"]
theorem sc_is_plain : FnScope N_is_plain ["word"] (defScope s_is_plain) := ⟨rfl, rfl, rfl, by decide +kernel, rfl, by decide +kernel, by decide +kernel⟩
theorem ok_is_plain (T : Tx K mg) : GC P w K mg base 1 "is_plain" spPlain := by
  obtain ⟨fd, F⟩ := T.d_is_plain
  have b : Binds K fd ["word"] [] := F.bindsN fun _ _ _ _ _ _ us hl => match us, hl with | [_], _ => rfl
  refine gc_fn (F.ok sc_is_plain (fun vs H Q E h => ?_) (fun cdv A outer s H vs Q E hr h => ?_)) T.g_is_plain F.kp b
  · obtain ⟨_, rfl, _⟩ := h
    rfl
  · obtain ⟨z, rfl, hz, k⟩ := h
    have nd := sc_is_plain.nd
    obtain ⟨tk1, mg_LETTERS⟩ := T.z_LETTERS
    obtain ⟨tk2, mg_FIGURES_words⟩ := T.z_FIGURES_words
    obtain ⟨tk3, mg_LONGEST_PLAIN⟩ := T.i_LONGEST_PLAIN
    have zs : z.length ≤ sizeLine := Nat.le_trans hz.le (by decide)
    have h1 := hz.pos
    have h8 := hz.le
    obtain ⟨c0, r0, e0, hc0⟩ := hz.hd
    refine ⟨_, PSs.nox (pss_cons (ps_if (PW.pt (pw_or (pt_not (pt_chain op_le op_le pe_int (pe_callB call_len_str (by rfl) T.f_len (by decide +kernel) (pa_cons (pv 0) pa_nil)) (pe_glob (v := .int 8) rfl mg_LONGEST_PLAIN ⟨_, rfl⟩))) (pw_or (pt_cmpR op_in_seq (pv 0) (pe_glob (v := .ref (He.ga K "KEPT")) rfl T.g_KEPT rfl) (by rfl)) (pw_or1 (pt_cmpR op_notIn_sign (pe_ix ix_str (pv 0) pe_int (fun _ _ => rfl)) (pe_glob (v := .str "abcdefghijklmnopqrstuvwxyz") rfl mg_LETTERS ⟨_, rfl⟩) (by rfl))))))
      (pss_one (ps_ret pe_bl))
      pss_nil)
    (pss_one (ps_ret (pe_callB (cr_all rfl) (by rfl) T.f_all (by decide +kernel) (pa_cons (pe_lc (own := [("sign", 1)]) (by rfl) nd (pi_str (pv 0)) (blkOk_by (N := N_is_plain) (sc := defScope s_is_plain) (by decide +kernel)) (fun _ _ _ _ _ => (pg_name (i := 1) nd rfl (Or.inl rfl))) (fun _ _ _ _ _ => pts_nil) (fun _ _ _ _ _ => (pe_or (pe_cmpR op_in_sign (pv 1) (pe_glob (v := .str "abcdefghijklmnopqrstuvwxyz") rfl mg_LETTERS ⟨_, rfl⟩) (by rfl)) (pe_one (pe_cmpR op_in_sign (pv 1) (pe_glob (v := .str "0123456789") rfl mg_FIGURES_words ⟨_, rfl⟩) (by rfl)))))) pa_nil))))), ?_⟩
    refine ⟨_, rfl, z, rfl, zs, _, _, rfl, rfl, _, rfl, ?_⟩
    rw [decide_eq_true (show (1 : Int) ≤ (z.length : Int) by omega)]
    refine iteT ?_
    refine ⟨_, _, rfl, rfl, _, rfl, ?_⟩
    rw [decide_eq_true (show (z.length : Int) ≤ (8 : Int) by omega)]
    refine iteF ?_
    refine ⟨_, rfl, _, _, rfl, .inr (T.kept _), rfl, flat_str_all _, _, rfl, ?_⟩
    rw [if_neg (by decide), inV_strs, decide_eq_false hz.nk]
    refine iteF ?_
    refine ⟨_, rfl, z, 0, c0, rfl, rfl, zs, by rw [show z.cps.toList = c0 :: r0 from e0]; exact atI_nat (xs := c0 :: r0) (j := 0) rfl, c0, _, rfl, rfl, _, rfl, ?_⟩
    rw [decide_eq_true (low_in hc0)]
    refine iteF ?_
    refine ⟨_, rfl, z, rfl, ?_⟩
    refine lc_true (K := K) (walk_str (z := z)) (tl z) (by simp [tl]) (by rw [← len_tl]; omega) (fun _ _ => trivial) (fun i d x H2 H3 hi s2 y Nx kx => ?_) mono_name fun D H2 s2 hD ha => ?_
    · obtain ⟨rfl, c, hc, rfl⟩ := y
      refine ⟨rfl, ?_⟩
      have hin : c ∈ tl z := by
        refine List.mem_of_getElem? (i := i) ?_
        rw [← hc]
        simp [tl]
      refine ⟨_, rfl, c, _, rfl, rfl, _, rfl, ?_⟩
      rcases hz.al c hin with h | h
      · rw [decide_eq_true (low_in h)]
        refine iteT ?_
        exact kx _ (Same.refl _)
      · refine ite2 (fun _ => kx _ (Same.refl _)) fun _ => ?_
        refine ⟨_, rfl, c, _, rfl, rfl, ?_⟩
        rw [decide_eq_true (fig_in h)]
        exact kx _ (Same.refl _)
    · exact ⟨D, _, rfl, hD, by rw [ha]; exact k _ s2⟩
/-! ### is_name -/
def spName : S1 := fun vs H Q => ∃ z : Str, vs = [.str z] ∧ Nm z ∧ ∀ H', Same H H' → Q (.bl true) H'
theorem joinL_cnt {S : List Nat} : ∀ {ps : List (List Nat)}, (∀ p ∈ ps, p ≠ []) → ps.length ≤ (joinL S ps).length
  | [], _ => Nat.zero_le _
  | [p], h => by
    have := List.length_pos_iff.mpr (h p List.mem_cons_self)
    show 1 ≤ p.length
    omega
  | p :: q :: r, h => by
    have h1 := List.length_pos_iff.mpr (h p List.mem_cons_self)
    have h2 := joinL_cnt (S := S) (ps := q :: r) fun x hx => h x (List.mem_cons_of_mem _ hx)
    show (q :: r).length + 1 ≤ (p ++ (S ++ joinL S (q :: r))).length
    rw [List.length_append, List.length_append]
    omega
theorem Nm.split_len {z : Str} (h : Nm z) : (Txt.split z ".").length ≤ 40 := by
  obtain ⟨ps, hn, hp, e⟩ := h.ps
  have hs : Txt.split z "." = ps := by
    rw [e]
    exact split_join dot_tl (by decide +kernel) hn fun p q => (hp p q).ndot
  rw [hs]
  refine Nat.le_trans ?_ h.le
  rw [len_tl, e, join_eq, tl_join, ← List.length_map (f := tl)]
  refine joinL_cnt fun p hm => ?_
  obtain ⟨q, hq, rfl⟩ := List.mem_map.mp hm
  exact (hp q hq).wd.ne
abbrev N_is_name : List Str := ["word", "piece"]
theorem sc_is_name : FnScope N_is_name ["word"] (defScope s_is_name) := ⟨rfl, rfl, rfl, by decide +kernel, rfl, by decide +kernel, by decide +kernel⟩
theorem ok_is_name (T : Tx K mg) : GC P w K mg base 2 "is_name" spName := by
  have G_is_plain := ok_is_plain (P := P) (w := w) (base := base) T
  obtain ⟨fd, F⟩ := T.d_is_name
  have b : Binds K fd ["word"] [] := F.bindsN fun _ _ _ _ _ _ us hl => match us, hl with | [_], _ => rfl
  refine gc_fn (F.ok sc_is_name (fun vs H Q E h => ?_) (fun cdv A outer s H vs Q E hr h => ?_)) T.g_is_name F.kp b
  · obtain ⟨_, rfl, _⟩ := h
    rfl
  · obtain ⟨z, rfl, hz, k⟩ := h
    have nd := sc_is_name.nd
    obtain ⟨tk3, mg_LONGEST_NAME⟩ := T.i_LONGEST_NAME
    have zs : z.length ≤ sizeLine := Nat.le_trans hz.le (by decide)
    have h40 := hz.le
    refine ⟨_, PSs.nox (pss_one (ps_ret (pe_and (pe_cmpR op_le (pe_callB call_len_str (by rfl) T.f_len (by decide +kernel) (pa_cons (pv 0) pa_nil)) (pe_glob (v := .int 40) rfl mg_LONGEST_NAME ⟨_, rfl⟩) (nomark _)) (pe_one (pe_callB (cr_all rfl) (by rfl) T.f_all (by decide +kernel) (pa_cons (pe_lc (own := [("piece", 1)]) (by rfl) nd (pi_list (pe_split (pv 0) pe_str)) (blkOk_by (N := N_is_name) (sc := defScope s_is_name) (by decide +kernel)) (fun _ _ _ _ _ => (pg_name (i := 1) nd rfl (Or.inl rfl))) (fun _ _ _ _ _ => pts_nil) (fun _ _ _ _ _ => (pe_gc G_is_plain hr (by decide) rfl (pa_cons (pv 1) pa_nil)))) pa_nil)))))), ?_⟩
    refine ⟨_, rfl, z, rfl, zs, _, _, rfl, rfl, _, rfl, ?_⟩
    rw [decide_eq_true (show (z.length : Int) ≤ (40 : Int) by omega)]
    refine iteT ?_
    refine ⟨_, rfl, ⟨_, rfl⟩, z, _, rfl, rfl, by decide +kernel, Nat.le_trans (Nat.add_le_add_right h40 2) (by decide), fun p hp => ⟨p, rfl, ⟨_, SqL.of upd_same⟩, ?_⟩⟩
    have s1 : Same H (upd H p (.lst ((Txt.split z ".").map V.str))) := Same.new hp
    have hq : SqL K (upd H p (.lst ((Txt.split z ".").map V.str))) p ((Txt.split z ".").map V.str) := SqL.of upd_same
    generalize upd H p (.lst ((Txt.split z ".").map V.str)) = H1 at s1 hq ⊢
    refine lc_true (K := K) (walk_list (K := K) (a := p) (xs := (Txt.split z ".").map V.str)) (Txt.split z ".") (by simp) (Nat.le_trans hz.split_len (by decide)) (fun _ s => Same.ls s hq) (fun i d x H2 H3 hi s2 y Nx kx => ?_) mono_name fun D H2 s2 hD ha => ?_
    · obtain ⟨rfl, hx⟩ := y
      rw [List.getElem?_map, hi] at hx
      obtain rfl := Option.some.inj hx
      exact ⟨rfl, _, rfl, d, rfl, hz.split d (List.mem_of_getElem? hi), fun H4 s4 => kx _ s4⟩
    · exact ⟨D, _, rfl, hD, by rw [ha]; exact k _ (s1.trans s2)⟩
/-! ### are_names -/
def spNames (K : PySem.W.Frag) : S1 := fun vs H Q => ∃ (a : Addr) (ns : List Str), vs = [.ref a] ∧ NsL K H a ns ∧ (∀ n ∈ ns, Nm n) ∧ ns.length ≤ 100 ∧ ∀ H', Same H H' → Q (.bl true) H'
abbrev N_are_names : List Str := ["words", "word"]
theorem sc_are_names : FnScope N_are_names ["words"] (defScope s_are_names) := ⟨rfl, rfl, rfl, by decide +kernel, rfl, by decide +kernel, by decide +kernel⟩
theorem ok_are_names (T : Tx K mg) : GC P w K mg base 3 "are_names" (spNames K) := by
  have G_is_name := ok_is_name (P := P) (w := w) (base := base) T
  obtain ⟨fd, F⟩ := T.d_are_names
  have b : Binds K fd ["words"] [] := F.bindsN fun _ _ _ _ _ _ us hl => match us, hl with | [_], _ => rfl
  refine gc_fn (F.ok sc_are_names (fun vs H Q E h => ?_) (fun cdv A outer s H vs Q E hr h => ?_)) T.g_are_names F.kp b
  · obtain ⟨_, _, rfl, _⟩ := h
    rfl
  · obtain ⟨a, ns, rfl, hq, hn, hl, k⟩ := h
    have nd := sc_are_names.nd
    refine ⟨_, PSs.nox (pss_one (ps_ret (pe_callB (cr_all rfl) (by rfl) T.f_all (by decide +kernel) (pa_cons (pe_lc (own := [("word", 1)]) (by rfl) nd (pi_list (pv 0)) (blkOk_by (N := N_are_names) (sc := defScope s_are_names) (by decide +kernel)) (fun _ _ _ _ _ => (pg_name (i := 1) nd rfl (Or.inl rfl))) (fun _ _ _ _ _ => pts_nil) (fun _ _ _ _ _ => (pe_gc G_is_name hr (by decide) rfl (pa_cons (pv 1) pa_nil)))) pa_nil)))), ?_⟩
    refine ⟨_, rfl, a, rfl, ⟨_, hq⟩, ?_⟩
    refine lc_true (K := K) (walk_list (K := K) (a := a) (xs := ns.map V.str)) ns (by simp) (by omega) (fun _ s => Same.ls s hq) (fun i d x H2 H3 hi s2 y Nx kx => ?_) mono_name fun D H2 s2 hD ha => ?_
    · obtain ⟨rfl, hx⟩ := y
      rw [List.getElem?_map, hi] at hx
      obtain rfl := Option.some.inj hx
      exact ⟨rfl, _, rfl, d, rfl, hn d (List.mem_of_getElem? hi), fun H4 s4 => kx _ s4⟩
    · exact ⟨D, _, rfl, hD, by rw [ha]; exact k _ s2⟩
/-! ### words_of -/
def neE (z : Str) : Bool := !decide (V.str z = V.str ("" : Str))
def spWords (K : PySem.W.Frag) : S1 := fun vs H Q => ∃ z : Str, vs = [.str z] ∧ z.length ≤ 20000 ∧ (Txt.split z " ").length ≤ 1000 ∧ ∀ p H', Same H H' → H p = none → H' p = some (.lst (((Txt.split z " ").filter neE).map V.str)) → Q (.ref p) H'
abbrev N_words_of : List Str := ["row", "word"]
theorem sc_words_of : FnScope N_words_of ["row"] (defScope s_words_of) := ⟨rfl, rfl, rfl, by decide +kernel, rfl, by decide +kernel, by decide +kernel⟩
theorem ok_words_of (T : Tx K mg) : GC P w K mg base 1 "words_of" (spWords K) := by
  obtain ⟨fd, F⟩ := T.d_words_of
  have b : Binds K fd ["row"] [] := F.bindsN fun _ _ _ _ _ _ us hl => match us, hl with | [_], _ => rfl
  refine gc_fn (F.ok sc_words_of (fun vs H Q E h => ?_) (fun cdv A outer s H vs Q E hr h => ?_)) T.g_words_of F.kp b
  · obtain ⟨_, rfl, _⟩ := h
    rfl
  · obtain ⟨z, rfl, hz, hw, k⟩ := h
    have nd := sc_words_of.nd
    refine ⟨_, PSs.nox (pss_one (ps_ret (pe_lc (own := [("word", 1)]) (by rfl) nd (pi_list (pe_split (pv 0) pe_str)) (blkOk_by (N := N_words_of) (sc := defScope s_words_of) (by decide +kernel)) (fun _ _ _ _ _ => (pg_name (i := 1) nd rfl (Or.inl rfl))) (fun _ _ _ _ _ => (pts_one (pt_cmpR op_ne (pv 1) pe_str (nomark _)))) (fun _ _ _ _ _ => (pv 1))))), ?_⟩
    refine ⟨_, rfl, ⟨_, rfl⟩, z, _, rfl, rfl, by decide +kernel, Nat.le_trans (Nat.add_le_add_right hz 2) (by decide), fun p hp => ⟨p, rfl, ⟨_, SqL.of upd_same⟩, ?_⟩⟩
    have s1 : Same H (upd H p (.lst ((Txt.split z " ").map V.str))) := Same.new hp
    have hq : SqL K (upd H p (.lst ((Txt.split z " ").map V.str))) p ((Txt.split z " ").map V.str) := SqL.of upd_same
    generalize upd H p (.lst ((Txt.split z " ").map V.str)) = H1 at s1 hq ⊢
    refine lc_filter (walk_list (K := K) (a := p) (xs := (Txt.split z " ").map V.str)) (Txt.split z " ") (by simp) (Nat.le_trans hw (by decide)) neE V.str (fun _ s => Same.ls s hq) (fun i d x H2 H3 hi s2 y Nx Nf kx kn => ?_) fun D H2 hD s2 ha => ?_
    · obtain ⟨rfl, hx⟩ := y
      rw [List.getElem?_map, hi] at hx
      obtain rfl := Option.some.inj hx
      refine ⟨rfl, _, rfl, rfl, _, rfl, ?_⟩
      refine ite2 (fun e => ?_) fun e => ?_
      · exact ⟨_, rfl, kx _ (Same.refl _) e⟩
      · exact kn _ (Same.refl _) (by simpa [neE] using e)
    · have hn : H D = none := by
        cases e : H D with
        | none => rfl
        | some o => exact absurd (s1 _ _ e) (by rw [hD]; simp)
      exact k D H2 (s1.trans s2) hn ha
end
end Rod
set_option Elab.async false
set_option linter.all false
set_option maxRecDepth 100000
set_option maxHeartbeats 4000000
namespace Rod
open PySem PySem.Spec PyProof.Rows L2 TL
/-! ### helpers: parts and sums of sequences, tests of texts -/
theorem cutV_from (xs : List V) (i : Nat) : cutV xs (some (i : Int)) none = xs.drop i := by
  unfold cutV
  rw [HT.sIx_nat, HT.sIx_none]
  by_cases h : i ≤ xs.length
  · rw [Nat.min_eq_left h, List.take_of_length_le]
    rw [List.length_drop]
    exact Nat.le_refl _
  · rw [Nat.min_eq_right (by omega), List.drop_of_length_le (Nat.le_refl _), List.drop_of_length_le (by omega)]
    exact List.take_nil
theorem cutV_mid (xs : List V) (i j : Nat) : cutV xs (some (i : Int)) (some (j : Int)) = (xs.take j).drop i := by
  unfold cutV
  rw [HT.sIx_nat, HT.sIx_nat, List.drop_take]
  by_cases h : i ≤ xs.length
  · rw [Nat.min_eq_left h]
    by_cases hj : j ≤ xs.length
    · rw [Nat.min_eq_left hj]
    · rw [Nat.min_eq_right (show xs.length ≤ j by omega), List.take_of_length_le (by rw [List.length_drop]; omega), List.take_of_length_le (by rw [List.length_drop]; omega)]
  · rw [Nat.min_eq_right (show xs.length ≤ i by omega), List.drop_of_length_le (Nat.le_refl _), List.drop_of_length_le (show xs.length ≤ i by omega), List.take_nil, List.take_nil]
theorem cutV_to (xs : List V) (j : Nat) : cutV xs none (some (j : Int)) = xs.take j := by
  unfold cutV
  rw [HT.sIx_nat, HT.sIx_none]
  show (xs.drop 0).take (min j xs.length - 0) = _
  rw [Nat.sub_zero, List.drop_zero]
  by_cases h : j ≤ xs.length
  · rw [Nat.min_eq_left h]
  · rw [Nat.min_eq_right (by omega), List.take_of_length_le (by omega), List.take_of_length_le (by omega)]
theorem iteN {c A B : Prop} [Decidable c] (hc : ¬ c) (h : B) : if c then A else B := by
  rw [if_neg hc]
  exact h
theorem neqS {x y : Str} (h : x ≠ y) : ¬ (decide (V.str x = V.str y) = true) := fun e => h (V.str.inj (of_decide_eq_true e))
theorem eqS {x y : Str} (h : x = y) : decide (V.str x = V.str y) = true := decide_eq_true (by rw [h])
section
variable {K : PySem.W.Frag} {H : Hp} {Q : VK}
theorem slT {a : Addr} {xs : List V} {lo hi : Option Int} (h : SqT K H a xs) (q : ∀ p H', Same H H' → SqT K H' p (cutV xs lo hi) → Q (.ref p) H') : rSlA K (.ref a) lo hi H Q := by
  refine ⟨a, xs, rfl, h, fun e => q a H (Same.refl _) ?_, fun _ p hp => q p _ (Same.new hp) (SqT.of upd_same)⟩
  unfold cutV
  rw [e.1, e.2, List.drop_zero, Nat.sub_zero, List.take_length]
  exact h
theorem catT {a b : Addr} {xs ys : List V} (h1 : SqT K H a xs) (h2 : SqT K H b ys) (hz : xs.length + ys.length ≤ 100000) (q : ∀ p H', Same H H' → SqT K H' p (xs ++ ys) → Q (.ref p) H') : rCatA K (.ref a) (.ref b) H Q := by
  refine ⟨a, b, xs, ys, rfl, rfl, h1, h2, Nat.le_trans hz (by decide), fun e => q b H (Same.refl _) ?_, fun _ e => q a H (Same.refl _) ?_, fun _ _ p hp => q p _ (Same.new hp) (SqT.of upd_same)⟩
  · rw [e]
    exact h2
  · rw [e, List.append_nil]
    exact h1
theorem SqT.cast {a : Addr} {xs ys : List V} (h : SqT K H a xs) (e : xs = ys) : SqT K H a ys := e ▸ h
theorem SqL.cast {a : Addr} {xs ys : List V} (h : SqL K H a xs) (e : xs = ys) : SqL K H a ys := e ▸ h
end
section
variable {P : Program} {w : World} {K : PySem.W.Frag} {mg : Str → Option Value} {base : Heap}
/-! ### the choices -/
theorem Tx.bare (T : Tx K mg) (x : Str) (h : x ∈ bareCls := by decide +kernel) : PySem.W.makesIn K (He.ga K x) = true ∧ PySem.W.findIn K (.ref (He.ga K x)) "__init__" = some (some (.builtin "object.__init__")) ∧ PySem.W.keepIn K (.ref (He.ga K x)) = true := by
  have e := T.says.more
  unfold ex at e
  simp only [Bool.and_eq_true] at e
  replace e := e.2
  have e2 := List.all_eq_true.mp e.2.2.2.2.2.2.1 x h
  unfold bareB at e2
  simp only [Bool.and_eq_true] at e2
  exact ⟨e2.1, He.eqO_ok e2.2.1, e2.2.2⟩
def spBare (K : PySem.W.Frag) (x : Str) : S1 := fun vs H Q => vs = [] ∧ ∀ p H', Same H H' → Ins K H' p x [] → Q (.ref p) H'
theorem ok_bare (T : Tx K mg) (x : Str) (h : x ∈ bareCls) (hm : mg x = some (.ref (He.ga K x))) : GC P w K mg base 1 x (spBare K x) := by
  obtain ⟨h1, h2, h3⟩ := T.bare x h
  refine gc_bare h1 h2 h3 hm fun vs H Q q => ⟨q.1, fun y dx ny nd ne => q.2 y _ (Same.made ny nd fun b o e hb => e) ⟨dx, upd_same⟩⟩
def spPt (K : PySem.W.Frag) (x : Str) (f : V → List (Str × V)) : S1 := fun vs H Q => ∃ v, vs = [v] ∧ ∀ p H', Same H H' → Ins K H' p x (f v) → Q (.ref p) H'
def spPtI (K : PySem.W.Frag) (x : Str) (f : V → List (Str × V)) : S1 := fun vs H Q => ∃ (y dx : Addr) (v : V), vs = [.ref y, v] ∧ H y = some (.ins (He.ga K x) dx []) ∧
  ∀ H', (∀ b o, H b = some o → b ≠ y → H' b = some o) → H' y = some (.ins (He.ga K x) dx (f v)) → Q .non H'
def spWd (K : PySem.W.Frag) (ns : List Str) : S1 := fun vs H Q => ∃ v, vs = [v] ∧ ∀ p H', Same H H' → NsT K H' p ns → Q (.ref p) H'
def spWdP (K : PySem.W.Frag) (x s : Str) (f : V → List (Str × V)) : S1 := fun vs H Q => ∃ a p, vs = [.ref a] ∧ Ins K H a x (f (.str p)) ∧ ∀ q H', Same H H' → NsT K H' q [s, p] → Q (.ref q) H'
abbrev N_First_words : List Str := ["self"]
theorem sc_First_words : FnScope N_First_words ["self"] (defScope s_First_words) := ⟨rfl, rfl, rfl, by decide +kernel, rfl, by decide +kernel, by decide +kernel⟩
theorem ok_First_words (T : Tx K mg) : Runs P w K mg base 1 (He.ma K (He.ga K "First") "words") (spWd K ["first"]) := by
  obtain ⟨fd, F⟩ := T.d_First_words
  have b : Binds K fd ["self"] [] := F.bindsN fun _ _ _ _ _ _ us hl => match us, hl with | [_], _ => rfl
  refine runs_fn0 (F.ok sc_First_words (fun vs H Q E h => ?_) (fun cdv A outer s H vs Q E hr h => ?_)) b
  · obtain ⟨_, rfl, _⟩ := h
    rfl
  · obtain ⟨v, rfl, k⟩ := h
    refine ⟨_, PSs.nox (pss_one (ps_ret (pe_tup (pa_cons pe_str pa_nil)))), ?_⟩
    exact ⟨by decide, fun p hp => k p _ (Same.new hp) (SqT.of upd_same)⟩
abbrev N_Last_words : List Str := ["self"]
theorem sc_Last_words : FnScope N_Last_words ["self"] (defScope s_Last_words) := ⟨rfl, rfl, rfl, by decide +kernel, rfl, by decide +kernel, by decide +kernel⟩
theorem ok_Last_words (T : Tx K mg) : Runs P w K mg base 1 (He.ma K (He.ga K "Last") "words") (spWd K ["last"]) := by
  obtain ⟨fd, F⟩ := T.d_Last_words
  have b : Binds K fd ["self"] [] := F.bindsN fun _ _ _ _ _ _ us hl => match us, hl with | [_], _ => rfl
  refine runs_fn0 (F.ok sc_Last_words (fun vs H Q E h => ?_) (fun cdv A outer s H vs Q E hr h => ?_)) b
  · obtain ⟨_, rfl, _⟩ := h
    rfl
  · obtain ⟨v, rfl, k⟩ := h
    refine ⟨_, PSs.nox (pss_one (ps_ret (pe_tup (pa_cons pe_str pa_nil)))), ?_⟩
    exact ⟨by decide, fun p hp => k p _ (Same.new hp) (SqT.of upd_same)⟩
abbrev N_LeftOne_words : List Str := ["self"]
theorem sc_LeftOne_words : FnScope N_LeftOne_words ["self"] (defScope s_LeftOne_words) := ⟨rfl, rfl, rfl, by decide +kernel, rfl, by decide +kernel, by decide +kernel⟩
theorem ok_LeftOne_words (T : Tx K mg) : Runs P w K mg base 1 (He.ma K (He.ga K "LeftOne") "words") (spWd K ["left"]) := by
  obtain ⟨fd, F⟩ := T.d_LeftOne_words
  have b : Binds K fd ["self"] [] := F.bindsN fun _ _ _ _ _ _ us hl => match us, hl with | [_], _ => rfl
  refine runs_fn0 (F.ok sc_LeftOne_words (fun vs H Q E h => ?_) (fun cdv A outer s H vs Q E hr h => ?_)) b
  · obtain ⟨_, rfl, _⟩ := h
    rfl
  · obtain ⟨v, rfl, k⟩ := h
    refine ⟨_, PSs.nox (pss_one (ps_ret (pe_tup (pa_cons pe_str pa_nil)))), ?_⟩
    exact ⟨by decide, fun p hp => k p _ (Same.new hp) (SqT.of upd_same)⟩
abbrev N_RightOne_words : List Str := ["self"]
theorem sc_RightOne_words : FnScope N_RightOne_words ["self"] (defScope s_RightOne_words) := ⟨rfl, rfl, rfl, by decide +kernel, rfl, by decide +kernel, by decide +kernel⟩
theorem ok_RightOne_words (T : Tx K mg) : Runs P w K mg base 1 (He.ma K (He.ga K "RightOne") "words") (spWd K ["right"]) := by
  obtain ⟨fd, F⟩ := T.d_RightOne_words
  have b : Binds K fd ["self"] [] := F.bindsN fun _ _ _ _ _ _ us hl => match us, hl with | [_], _ => rfl
  refine runs_fn0 (F.ok sc_RightOne_words (fun vs H Q E h => ?_) (fun cdv A outer s H vs Q E hr h => ?_)) b
  · obtain ⟨_, rfl, _⟩ := h
    rfl
  · obtain ⟨v, rfl, k⟩ := h
    refine ⟨_, PSs.nox (pss_one (ps_ret (pe_tup (pa_cons pe_str pa_nil)))), ?_⟩
    exact ⟨by decide, fun p hp => k p _ (Same.new hp) (SqT.of upd_same)⟩
abbrev N_Near_words : List Str := ["self"]
theorem sc_Near_words : FnScope N_Near_words ["self"] (defScope s_Near_words) := ⟨rfl, rfl, rfl, by decide +kernel, rfl, by decide +kernel, by decide +kernel⟩
theorem ok_Near_words (T : Tx K mg) : Runs P w K mg base 1 (He.ma K (He.ga K "Near") "words") (spWdP K "Near" "near" fNear) := by
  obtain ⟨fd, F⟩ := T.d_Near_words
  have b : Binds K fd ["self"] [] := F.bindsN fun _ _ _ _ _ _ us hl => match us, hl with | [_], _ => rfl
  refine runs_fn0 (F.ok sc_Near_words (fun vs H Q E h => ?_) (fun cdv A outer s H vs Q E hr h => ?_)) b
  · obtain ⟨_, _, rfl, _⟩ := h
    rfl
  · obtain ⟨a, p, rfl, ⟨dx, ha⟩, k⟩ := h
    refine ⟨_, PSs.nox (pss_one (ps_ret (pe_tup (pa_cons pe_str (pa_cons (pe_fld (pv 0) rfl) pa_nil))))), ?_⟩
    refine ⟨_, rfl, a, _, dx, _, _, rfl, ha, T.c_Near, T.n_Near_point, fNear_point _, ?_⟩
    exact ⟨by show 2 ≤ sizeLine; decide, fun p hp => k p _ (Same.new hp) (SqT.of upd_same)⟩
abbrev N_Near_init : List Str := ["self", "point"]
theorem sc_Near_init : FnScope N_Near_init ["self", "point"] (defScope s_Near_init) := ⟨rfl, rfl, rfl, by decide +kernel, rfl, by decide +kernel, by decide +kernel⟩
theorem ok_Near (T : Tx K mg) : GC P w K mg base 2 "Near" (spPt K "Near" fNear) := by
  obtain ⟨fd, F⟩ := T.d_Near_init
  have b : Binds K fd ["self", "point"] [] := F.bindsN fun _ _ _ _ _ _ us hl => match us, hl with | [_, _], _ => rfl
  refine gc_make (sp := spPtI K "Near" fNear) T.k_Near (F.ok sc_Near_init (fun vs H Q E h => ?_) (fun cdv A outer s H vs Q E hr h => ?_)) T.g_Near b .nil fun vs H Q h => ?_
  · obtain ⟨_, _, _, rfl, _⟩ := h
    rfl
  · obtain ⟨y, dx, v, rfl, hy, k⟩ := h
    refine ⟨_, PSs.nox (pss_one (ps_fld (pv 0) (pv 1) rfl)), ?_⟩
    refine ⟨_, rfl, _, rfl, y, _, dx, _, rfl, hy, T.c_Near, T.n_Near_point, (by show 0 < 1000; decide), ?_⟩
    exact k _ (fun b o e hb => by rw [upd_ne hb]; exact e) upd_same
  · obtain ⟨v, rfl, k⟩ := h
    exact fun y dx ny nd ne => ⟨y, dx, v, rfl, upd_same, fun H' kp hy => ⟨rfl, k y H' (Same.made ny nd kp) ⟨dx, hy⟩⟩⟩
abbrev N_Far_words : List Str := ["self"]
theorem sc_Far_words : FnScope N_Far_words ["self"] (defScope s_Far_words) := ⟨rfl, rfl, rfl, by decide +kernel, rfl, by decide +kernel, by decide +kernel⟩
theorem ok_Far_words (T : Tx K mg) : Runs P w K mg base 1 (He.ma K (He.ga K "Far") "words") (spWdP K "Far" "far" fFar) := by
  obtain ⟨fd, F⟩ := T.d_Far_words
  have b : Binds K fd ["self"] [] := F.bindsN fun _ _ _ _ _ _ us hl => match us, hl with | [_], _ => rfl
  refine runs_fn0 (F.ok sc_Far_words (fun vs H Q E h => ?_) (fun cdv A outer s H vs Q E hr h => ?_)) b
  · obtain ⟨_, _, rfl, _⟩ := h
    rfl
  · obtain ⟨a, p, rfl, ⟨dx, ha⟩, k⟩ := h
    refine ⟨_, PSs.nox (pss_one (ps_ret (pe_tup (pa_cons pe_str (pa_cons (pe_fld (pv 0) rfl) pa_nil))))), ?_⟩
    refine ⟨_, rfl, a, _, dx, _, _, rfl, ha, T.c_Far, T.n_Far_point, fFar_point _, ?_⟩
    exact ⟨by show 2 ≤ sizeLine; decide, fun p hp => k p _ (Same.new hp) (SqT.of upd_same)⟩
abbrev N_Far_init : List Str := ["self", "point"]
theorem sc_Far_init : FnScope N_Far_init ["self", "point"] (defScope s_Far_init) := ⟨rfl, rfl, rfl, by decide +kernel, rfl, by decide +kernel, by decide +kernel⟩
theorem ok_Far (T : Tx K mg) : GC P w K mg base 2 "Far" (spPt K "Far" fFar) := by
  obtain ⟨fd, F⟩ := T.d_Far_init
  have b : Binds K fd ["self", "point"] [] := F.bindsN fun _ _ _ _ _ _ us hl => match us, hl with | [_, _], _ => rfl
  refine gc_make (sp := spPtI K "Far" fFar) T.k_Far (F.ok sc_Far_init (fun vs H Q E h => ?_) (fun cdv A outer s H vs Q E hr h => ?_)) T.g_Far b .nil fun vs H Q h => ?_
  · obtain ⟨_, _, _, rfl, _⟩ := h
    rfl
  · obtain ⟨y, dx, v, rfl, hy, k⟩ := h
    refine ⟨_, PSs.nox (pss_one (ps_fld (pv 0) (pv 1) rfl)), ?_⟩
    refine ⟨_, rfl, _, rfl, y, _, dx, _, rfl, hy, T.c_Far, T.n_Far_point, (by show 0 < 1000; decide), ?_⟩
    exact k _ (fun b o e hb => by rw [upd_ne hb]; exact e) upd_same
  · obtain ⟨v, rfl, k⟩ := h
    exact fun y dx ny nd ne => ⟨y, dx, v, rfl, upd_same, fun H' kp hy => ⟨rfl, k y H' (Same.made ny nd kp) ⟨dx, hy⟩⟩⟩
abbrev N_Other_words : List Str := ["self"]
theorem sc_Other_words : FnScope N_Other_words ["self"] (defScope s_Other_words) := ⟨rfl, rfl, rfl, by decide +kernel, rfl, by decide +kernel, by decide +kernel⟩
theorem ok_Other_words (T : Tx K mg) : Runs P w K mg base 1 (He.ma K (He.ga K "Other") "words") (spWdP K "Other" "other" fOther) := by
  obtain ⟨fd, F⟩ := T.d_Other_words
  have b : Binds K fd ["self"] [] := F.bindsN fun _ _ _ _ _ _ us hl => match us, hl with | [_], _ => rfl
  refine runs_fn0 (F.ok sc_Other_words (fun vs H Q E h => ?_) (fun cdv A outer s H vs Q E hr h => ?_)) b
  · obtain ⟨_, _, rfl, _⟩ := h
    rfl
  · obtain ⟨a, p, rfl, ⟨dx, ha⟩, k⟩ := h
    refine ⟨_, PSs.nox (pss_one (ps_ret (pe_tup (pa_cons pe_str (pa_cons (pe_fld (pv 0) rfl) pa_nil))))), ?_⟩
    refine ⟨_, rfl, a, _, dx, _, _, rfl, ha, T.c_Other, T.n_Other_point, fOther_point _, ?_⟩
    exact ⟨by show 2 ≤ sizeLine; decide, fun p hp => k p _ (Same.new hp) (SqT.of upd_same)⟩
abbrev N_Other_init : List Str := ["self", "point"]
theorem sc_Other_init : FnScope N_Other_init ["self", "point"] (defScope s_Other_init) := ⟨rfl, rfl, rfl, by decide +kernel, rfl, by decide +kernel, by decide +kernel⟩
theorem ok_Other (T : Tx K mg) : GC P w K mg base 2 "Other" (spPt K "Other" fOther) := by
  obtain ⟨fd, F⟩ := T.d_Other_init
  have b : Binds K fd ["self", "point"] [] := F.bindsN fun _ _ _ _ _ _ us hl => match us, hl with | [_, _], _ => rfl
  refine gc_make (sp := spPtI K "Other" fOther) T.k_Other (F.ok sc_Other_init (fun vs H Q E h => ?_) (fun cdv A outer s H vs Q E hr h => ?_)) T.g_Other b .nil fun vs H Q h => ?_
  · obtain ⟨_, _, _, rfl, _⟩ := h
    rfl
  · obtain ⟨y, dx, v, rfl, hy, k⟩ := h
    refine ⟨_, PSs.nox (pss_one (ps_fld (pv 0) (pv 1) rfl)), ?_⟩
    refine ⟨_, rfl, _, rfl, y, _, dx, _, rfl, hy, T.c_Other, T.n_Other_point, (by show 0 < 1000; decide), ?_⟩
    exact k _ (fun b o e hb => by rw [upd_ne hb]; exact e) upd_same
  · obtain ⟨v, rfl, k⟩ := h
    exact fun y dx ny nd ne => ⟨y, dx, v, rfl, upd_same, fun H' kp hy => ⟨rfl, k y H' (Same.made ny nd kp) ⟨dx, hy⟩⟩⟩

def rcCh (K : PySem.W.Frag) : Ch → V → Hp → Prop := fun c x H => ∃ a, x = .ref a ∧ ChAt K H a c
def spChW (K : PySem.W.Frag) : Ch → S1 := fun c vs H Q => ∃ a, vs = [.ref a] ∧ ChAt K H a c ∧ ∀ p H', Same H H' → NsT K H' p c.ws → Q (.ref p) H'
theorem ok_words (T : Tx K mg) : VM P w K mg base 1 "words" (rcCh K) (spChW K) := by
  refine ⟨fun c x H h => ?_⟩
  obtain ⟨a, rfl, ha⟩ := h
  cases c with
  | first =>
    obtain ⟨dx, e⟩ := ha
    refine ⟨a, _, dx, _, _, rfl, e, rfl, T.c_First, T.m_First_words, (ok_First_words T).imp ?_⟩
    rintro vs H Q ⟨r, rfl, a', e', h, k⟩
    injection e' with e1 e2
    exact ⟨_, by rw [e2], k⟩
  | last =>
    obtain ⟨dx, e⟩ := ha
    refine ⟨a, _, dx, _, _, rfl, e, rfl, T.c_Last, T.m_Last_words, (ok_Last_words T).imp ?_⟩
    rintro vs H Q ⟨r, rfl, a', e', h, k⟩
    injection e' with e1 e2
    exact ⟨_, by rw [e2], k⟩
  | left =>
    obtain ⟨dx, e⟩ := ha
    refine ⟨a, _, dx, _, _, rfl, e, rfl, T.c_LeftOne, T.m_LeftOne_words, (ok_LeftOne_words T).imp ?_⟩
    rintro vs H Q ⟨r, rfl, a', e', h, k⟩
    injection e' with e1 e2
    exact ⟨_, by rw [e2], k⟩
  | right =>
    obtain ⟨dx, e⟩ := ha
    refine ⟨a, _, dx, _, _, rfl, e, rfl, T.c_RightOne, T.m_RightOne_words, (ok_RightOne_words T).imp ?_⟩
    rintro vs H Q ⟨r, rfl, a', e', h, k⟩
    injection e' with e1 e2
    exact ⟨_, by rw [e2], k⟩
  | near p =>
    obtain ⟨dx, e⟩ := ha
    refine ⟨a, _, dx, _, _, rfl, e, fNear_no_words _, T.c_Near, T.m_Near_words, (ok_Near_words T).imp ?_⟩
    rintro vs H Q ⟨r, rfl, a', e', h, k⟩
    exact ⟨a', p, e', h, k⟩
  | far p =>
    obtain ⟨dx, e⟩ := ha
    refine ⟨a, _, dx, _, _, rfl, e, fFar_no_words _, T.c_Far, T.m_Far_words, (ok_Far_words T).imp ?_⟩
    rintro vs H Q ⟨r, rfl, a', e', h, k⟩
    exact ⟨a', p, e', h, k⟩
  | other p =>
    obtain ⟨dx, e⟩ := ha
    refine ⟨a, _, dx, _, _, rfl, e, fOther_no_words _, T.c_Other, T.m_Other_words, (ok_Other_words T).imp ?_⟩
    rintro vs H Q ⟨r, rfl, a', e', h, k⟩
    exact ⟨a', p, e', h, k⟩
/-! ### choice_of -/
def spChoice (K : PySem.W.Frag) : S1 := fun vs H Q => ∃ (a : Addr) (c : Ch), vs = [.ref a] ∧ NsT K H a c.ws ∧ ∀ p H', Same H H' → ChAt K H' p c → Q (.ref p) H'
abbrev N_choice_of : List Str := ["words"]
theorem sc_choice_of : FnScope N_choice_of ["words"] (defScope s_choice_of) := ⟨rfl, rfl, rfl, by decide +kernel, rfl, by decide +kernel, by decide +kernel⟩
theorem ok_choice_of (T : Tx K mg) : GC P w K mg base 3 "choice_of" (spChoice K) := by
  obtain ⟨fd, F⟩ := T.d_choice_of
  have b : Binds K fd ["words"] [] := F.bindsN fun _ _ _ _ _ _ us hl => match us, hl with | [_], _ => rfl
  have G_First := ok_bare (P := P) (w := w) (base := base) T "First" (by decide +kernel) T.g_First
  have G_Last := ok_bare (P := P) (w := w) (base := base) T "Last" (by decide +kernel) T.g_Last
  have G_LeftOne := ok_bare (P := P) (w := w) (base := base) T "LeftOne" (by decide +kernel) T.g_LeftOne
  have G_RightOne := ok_bare (P := P) (w := w) (base := base) T "RightOne" (by decide +kernel) T.g_RightOne
  have G_Near := ok_Near (P := P) (w := w) (base := base) T
  have G_Far := ok_Far (P := P) (w := w) (base := base) T
  have G_Other := ok_Other (P := P) (w := w) (base := base) T
  refine gc_fn (F.ok sc_choice_of (fun vs H Q E h => ?_) (fun cdv A outer s H vs Q E hr h => ?_)) T.g_choice_of F.kp b
  · obtain ⟨_, _, rfl, _⟩ := h
    rfl
  · obtain ⟨a, c, rfl, hq, k⟩ := h
    refine ⟨_, PSs.nox (pss_cons (ps_if (pt_cmpR op_eq (pe_ix ix_tup (pv 0) pe_int (fun _ _ => rfl)) pe_str (nomark _))
      (pss_one (ps_ret (pe_gc0 G_First hr (by decide) rfl)))
      pss_nil)
    (pss_cons (ps_if (pt_cmpR op_eq (pe_ix ix_tup (pv 0) pe_int (fun _ _ => rfl)) pe_str (nomark _))
      (pss_one (ps_ret (pe_gc0 G_Last hr (by decide) rfl)))
      pss_nil)
    (pss_cons (ps_if (pt_cmpR op_eq (pe_ix ix_tup (pv 0) pe_int (fun _ _ => rfl)) pe_str (nomark _))
      (pss_one (ps_ret (pe_gc0 G_LeftOne hr (by decide) rfl)))
      pss_nil)
    (pss_cons (ps_if (pt_cmpR op_eq (pe_ix ix_tup (pv 0) pe_int (fun _ _ => rfl)) pe_str (nomark _))
      (pss_one (ps_ret (pe_gc0 G_RightOne hr (by decide) rfl)))
      pss_nil)
    (pss_cons (ps_if (pt_cmpR op_eq (pe_ix ix_tup (pv 0) pe_int (fun _ _ => rfl)) pe_str (nomark _))
      (pss_one (ps_ret (pe_gc G_Near hr (by decide) rfl (pa_cons (pe_ix ix_tup (pv 0) pe_int (fun _ _ => rfl)) pa_nil))))
      pss_nil)
    (pss_cons (ps_if (pt_cmpR op_eq (pe_ix ix_tup (pv 0) pe_int (fun _ _ => rfl)) pe_str (nomark _))
      (pss_one (ps_ret (pe_gc G_Far hr (by decide) rfl (pa_cons (pe_ix ix_tup (pv 0) pe_int (fun _ _ => rfl)) pa_nil))))
      pss_nil)
    (pss_one (ps_ret (pe_gc G_Other hr (by decide) rfl (pa_cons (pe_ix ix_tup (pv 0) pe_int (fun _ _ => rfl)) pa_nil)))))))))), ?_⟩
    cases c with
    | first =>
      repeat (refine ⟨_, rfl, a, _, 0, _, rfl, rfl, hq, atI_nat (j := 0) rfl, rfl, _, rfl, iteN (neqS (by decide +kernel)) ?_⟩)
      refine ⟨_, rfl, a, _, 0, _, rfl, rfl, hq, atI_nat (j := 0) rfl, rfl, _, rfl, iteI (eqS rfl) ?_⟩
      exact ⟨rfl, k⟩
    | last =>
      repeat (refine ⟨_, rfl, a, _, 0, _, rfl, rfl, hq, atI_nat (j := 0) rfl, rfl, _, rfl, iteN (neqS (by decide +kernel)) ?_⟩)
      refine ⟨_, rfl, a, _, 0, _, rfl, rfl, hq, atI_nat (j := 0) rfl, rfl, _, rfl, iteI (eqS rfl) ?_⟩
      exact ⟨rfl, k⟩
    | left =>
      repeat (refine ⟨_, rfl, a, _, 0, _, rfl, rfl, hq, atI_nat (j := 0) rfl, rfl, _, rfl, iteN (neqS (by decide +kernel)) ?_⟩)
      refine ⟨_, rfl, a, _, 0, _, rfl, rfl, hq, atI_nat (j := 0) rfl, rfl, _, rfl, iteI (eqS rfl) ?_⟩
      exact ⟨rfl, k⟩
    | right =>
      repeat (refine ⟨_, rfl, a, _, 0, _, rfl, rfl, hq, atI_nat (j := 0) rfl, rfl, _, rfl, iteN (neqS (by decide +kernel)) ?_⟩)
      refine ⟨_, rfl, a, _, 0, _, rfl, rfl, hq, atI_nat (j := 0) rfl, rfl, _, rfl, iteI (eqS rfl) ?_⟩
      exact ⟨rfl, k⟩
    | near p =>
      repeat (refine ⟨_, rfl, a, _, 0, _, rfl, rfl, hq, atI_nat (j := 0) rfl, rfl, _, rfl, iteN (neqS (by decide +kernel)) ?_⟩)
      refine ⟨_, rfl, a, _, 0, _, rfl, rfl, hq, atI_nat (j := 0) rfl, rfl, _, rfl, iteI (eqS rfl) ?_⟩
      exact ⟨_, rfl, a, _, 1, _, rfl, rfl, hq, atI_nat (j := 1) rfl, _, rfl, k⟩
    | far p =>
      repeat (refine ⟨_, rfl, a, _, 0, _, rfl, rfl, hq, atI_nat (j := 0) rfl, rfl, _, rfl, iteN (neqS (by decide +kernel)) ?_⟩)
      refine ⟨_, rfl, a, _, 0, _, rfl, rfl, hq, atI_nat (j := 0) rfl, rfl, _, rfl, iteI (eqS rfl) ?_⟩
      exact ⟨_, rfl, a, _, 1, _, rfl, rfl, hq, atI_nat (j := 1) rfl, _, rfl, k⟩
    | other p =>
      repeat (refine ⟨_, rfl, a, _, 0, _, rfl, rfl, hq, atI_nat (j := 0) rfl, rfl, _, rfl, iteN (neqS (by decide +kernel)) ?_⟩)
      exact ⟨_, rfl, a, _, 1, _, rfl, rfl, hq, atI_nat (j := 1) rfl, _, rfl, k⟩
/-! ### point_of -/
def spPointOf (K : PySem.W.Frag) : S1 := fun vs H Q => ∃ (v : V) (c : Option Ch), vs = [v] ∧ ChO K H v c ∧ ∀ p H', Same H H' → NsT K H' p (chP c) → Q (.ref p) H'
theorem Ch.ws_drop (c : Ch) : c.ws.drop 1 = c.pts := by cases c <;> rfl
abbrev N_point_of : List Str := ["choice"]
theorem sc_point_of : FnScope N_point_of ["choice"] (defScope s_point_of) := ⟨rfl, rfl, rfl, by decide +kernel, rfl, by decide +kernel, by decide +kernel⟩
theorem ok_point_of (T : Tx K mg) : GC P w K mg base 2 "point_of" (spPointOf K) := by
  obtain ⟨fd, F⟩ := T.d_point_of
  have b : Binds K fd ["choice"] [] := F.bindsN fun _ _ _ _ _ _ us hl => match us, hl with | [_], _ => rfl
  have V_words := ok_words (P := P) (w := w) (base := base) T
  refine gc_fn (F.ok sc_point_of (fun vs H Q E h => ?_) (fun cdv A outer s H vs Q E hr h => ?_)) T.g_point_of F.kp b
  · obtain ⟨_, _, rfl, _⟩ := h
    rfl
  · obtain ⟨v, c, rfl, hc, k⟩ := h
    refine ⟨_, PSs.nox (pss_one (ps_ret (pe_ifExp (pt_cmpR op_isN (pv 0) pe_non (nomark _)) (pe_tup pa_nil) (pe_slice sl_tupA (pe_vm0 V_words hr (by decide) (pv 0)) (po_some pe_int) po_none)))), ?_⟩
    refine ⟨_, rfl, rfl, _, rfl, ?_⟩
    cases c with
    | none =>
      obtain rfl : v = .non := hc
      refine iteI (decide_eq_true rfl) ?_
      exact ⟨by decide, fun p hp => k p _ (Same.new hp) (SqT.of upd_same)⟩
    | some c =>
      obtain ⟨a, rfl, hc⟩ := hc
      refine iteN (fun e => nomatch (of_decide_eq_true e : V.ref a = V.non)) ?_
      refine ⟨_, rfl, c, ⟨a, rfl, hc⟩, a, rfl, hc, fun p H' s hp => ⟨1, rfl, ?_⟩⟩
      refine slT hp fun q H2 s2 hq => k q H2 (s.trans s2) (SqT.cast hq ?_)
      rw [show (1 : Int) = ((1 : Nat) : Int) from rfl, cutV_from, ← List.map_drop, Ch.ws_drop]
      try rfl
/-! ### with_point -/
def spWithPt (K : PySem.W.Frag) : S1 := fun vs H Q => ∃ (a : Addr) (p : Str) (c : Ch), vs = [.ref a, .str p] ∧ ChAt K H a c ∧ c.pts = [p] ∧ ∀ q H', Same H H' → ChAt K H' q c → Q (.ref q) H'
abbrev N_with_point : List Str := ["choice", "point"]
theorem sc_with_point : FnScope N_with_point ["choice", "point"] (defScope s_with_point) := ⟨rfl, rfl, rfl, by decide +kernel, rfl, by decide +kernel, by decide +kernel⟩
theorem ok_with_point (T : Tx K mg) : GC P w K mg base 4 "with_point" (spWithPt K) := by
  obtain ⟨fd, F⟩ := T.d_with_point
  have b : Binds K fd ["choice", "point"] [] := F.bindsN fun _ _ _ _ _ _ us hl => match us, hl with | [_, _], _ => rfl
  have V_words := ok_words (P := P) (w := w) (base := base) T
  have G_choice_of := ok_choice_of (P := P) (w := w) (base := base) T
  refine gc_fn (F.ok sc_with_point (fun vs H Q E h => ?_) (fun cdv A outer s H vs Q E hr h => ?_)) T.g_with_point F.kp b
  · obtain ⟨_, _, _, rfl, _⟩ := h
    rfl
  · obtain ⟨a, p, c, rfl, hc, hp, k⟩ := h
    refine ⟨_, PSs.nox (pss_one (ps_ret (pe_gc G_choice_of hr (by decide) rfl (pa_cons (pe_tup (pa_cons (pe_ix ix_tup (pe_vm0 V_words hr (by decide) (pv 0)) pe_int (fun _ _ => rfl)) (pa_cons (pv 1) pa_nil))) pa_nil)))), ?_⟩
    refine ⟨_, rfl, c, ⟨a, rfl, hc⟩, a, rfl, hc, fun q H' s hq => ?_⟩
    obtain ⟨t, e⟩ : ∃ t, c.ws = [t, p] := by
      cases c <;> first | exact ⟨_, congrArg (fun z => _ :: z) hp⟩ | exact absurd hp (by simp [Ch.pts])
    rw [e] at hq
    refine ⟨q, _, 0, _, rfl, rfl, hq, atI_nat (j := 0) rfl, _, rfl, ?_⟩
    refine ⟨by show 2 ≤ sizeLine; decide, fun r hr => ?_⟩
    exact ⟨r, c, rfl, SqT.cast (SqT.of upd_same) (by rw [e]; rfl), fun x H2 s2 hx => k x H2 ((s.trans (Same.new hr)).trans s2) hx⟩
/-! ### put_otherwise, by no names -/
def spPut : S1 := fun vs H Q => ∃ (n : Str) (d : Addr), vs = [.str n, .ref d] ∧ H d = some (.dK []) ∧ Q (.str n) H
abbrev N_put_otherwise : List Str := ["name", "names"]
theorem sc_put_otherwise : FnScope N_put_otherwise ["name", "names"] (defScope s_put_otherwise) := ⟨rfl, rfl, rfl, by decide +kernel, rfl, by decide +kernel, by decide +kernel⟩
theorem ok_put_otherwise (T : Tx K mg) : GC P w K mg base 1 "put_otherwise" spPut := by
  obtain ⟨fd, F⟩ := T.d_put_otherwise
  have b : Binds K fd ["name", "names"] [] := F.bindsN fun _ _ _ _ _ _ us hl => match us, hl with | [_, _], _ => rfl
  refine gc_fn (F.ok sc_put_otherwise (fun vs H Q E h => ?_) (fun cdv A outer s H vs Q E hr h => ?_)) T.g_put_otherwise F.kp b
  · obtain ⟨_, _, rfl, _⟩ := h
    rfl
  · obtain ⟨n, d, rfl, hd, k⟩ := h
    have hu := hu_of hr
    refine ⟨_, PSs.nox (pss_one (ps_ret (pe_dget2 hu (pv 1) (pv 0) (pv 0) ⟨by rfl, by rfl, by rfl, by rfl⟩))), ?_⟩
    exact ⟨_, rfl, d, rfl, .inl ⟨[], .inl hd⟩, _, rfl, _, rfl, none, .inl ⟨[], .inr n, .inl hd, rfl, rfl⟩, k⟩
end
end Rod
set_option Elab.async false
set_option linter.all false
set_option maxRecDepth 100000
set_option maxHeartbeats 4000000
namespace Rod
open PySem PySem.Spec PyProof.Rows L2 TL
/-! ### heaps that keep all but one instance -/
def Ov (y : Addr) (H H' : Hp) : Prop := ∀ b o, H b = some o → b ≠ y → H' b = some o
section
variable {K : PySem.W.Frag} {H H' H'' : Hp} {y : Addr}
theorem Ov.refl : Ov y H H := fun _ _ e _ => e
theorem _root_.L2.Same.ov (s : Same H H') : Ov y H H' := fun b o e _ => s b o e
theorem Ov.trans (a : Ov y H H') (b : Ov y H' H'') : Ov y H H'' := fun c o e n => b c o (a c o e n) n
theorem Ov.upd (a : Ov y H H') {o : HO} : Ov y H (upd H' y o) := fun b u e n => by
  rw [upd_ne n]
  exact a b u e n
theorem Ov.rd (a : Ov y H H') {b C dx : Addr} {fs : List (Str × V)} {u : HO} (hy : H y = some (.ins C dx fs)) (hu : ∀ C dx fs, u ≠ .ins C dx fs) (h : Rd H b u) : Rd H' b u := by
  rcases h with h | ⟨o, h⟩
  · exact .inl (a _ _ h (by
      rintro rfl
      rw [hy] at h
      exact hu _ _ _ (Option.some.inj h).symm))
  · exact .inr ⟨o, a _ _ h (by
      rintro rfl
      rw [hy] at h
      cases h)⟩
theorem Ov.t (a : Ov y H H') {b C dx : Addr} {fs : List (Str × V)} {xs : List V} (hy : H y = some (.ins C dx fs)) (h : SqT K H b xs) : SqT K H' b xs := by
  rcases h with h | h
  · exact .inl (a.rd hy (fun _ _ _ e => nomatch e) h)
  · exact .inr h
theorem Ov.l (a : Ov y H H') {b C dx : Addr} {fs : List (Str × V)} {xs : List V} (hy : H y = some (.ins C dx fs)) (h : SqL K H b xs) : SqL K H' b xs := by
  rcases h with h | h
  · exact .inl (a.rd hy (fun _ _ _ e => nomatch e) h)
  · exact .inr h
def SqA2 (K : PySem.W.Frag) (H : Hp) (a : Addr) (xs : List V) : Prop := SqL K H a xs ∨ SqT K H a xs
theorem Ov.a (a : Ov y H H') {b C dx : Addr} {fs : List (Str × V)} {xs : List V} (hy : H y = some (.ins C dx fs)) (h : SqA2 K H b xs) : SqA2 K H' b xs := h.imp (a.l hy) (a.t hy)
theorem _root_.L2.Same.a2 (s : Same H H') {b : Addr} {xs : List V} (h : SqA2 K H b xs) : SqA2 K H' b xs := h.imp s.ls fun z => s.sm.t z
theorem tup_any {a : Addr} {xs : List V} {Q : VK} (h : SqA2 K H a xs) (q : ∀ p H', Same H H' → SqT K H' p xs → Q (.ref p) H') :
    ∃ p ys, [V.ref a] = [.ref p] ∧ ((SqL K H p ys ∧ ∀ l, H l = none → Q (.ref l) (L2.upd H l (.tup ys))) ∨ (SqT K H p ys ∧ Q (.ref p) H)) := by
  rcases h with h | h
  · exact ⟨a, xs, rfl, .inl ⟨h, fun l hl => q l _ (Same.new hl) (SqT.of upd_same)⟩⟩
  · exact ⟨a, xs, rfl, .inr ⟨h, q a H (Same.refl _) h⟩⟩
def rTupS (K : PySem.W.Frag) : List V → Hp → VK → Prop := fun vs H Q => ∃ a xs, vs = [.ref a] ∧ SqA2 K H a xs ∧ ∀ p H', Same H H' → SqT K H' p xs → Q (.ref p) H'
theorem call_tupS {X : Cx} : CallR X (.type "tuple") (rTupS X.K) := by
  intro pins s σ H vs us Q I r h
  obtain ⟨a, xs, rfl, h, q⟩ := h
  exact call_tuple_of pins s σ H _ us Q I r (tup_any h q)
def rListS (K : PySem.W.Frag) : List V → Hp → VK → Prop := fun vs H Q => ∃ a xs, vs = [.ref a] ∧ SqA2 K H a xs ∧ ∀ p H', Same H H' → H p = none → H' p = some (.lst xs) → Q (.ref p) H'
theorem call_listS {X : Cx} : CallR X (.type "list") (rListS X.K) := by
  intro pins s σ H vs us Q I r h
  obtain ⟨a, xs, rfl, h, q⟩ := h
  exact call_list_of pins s σ H _ us Q I r ⟨a, xs, rfl, h, fun l hl => q l _ (Same.new hl) hl upd_same⟩
def rCatS (K : PySem.W.Frag) : R2 := fun x y H Q => ∃ a b xs ys, x = .ref a ∧ y = .ref b ∧ SqT K H a xs ∧ SqT K H b ys ∧ xs.length + ys.length ≤ 100000 ∧ ∀ p H', Same H H' → SqT K H' p (xs ++ ys) → Q (.ref p) H'
theorem op_catS {X : Cx} : OpR X (binaryOp .Add) (rCatS X.K) := by
  intro pins s σ H x y v u Q I rx ry h
  obtain ⟨a, b, xs, ys, rfl, rfl, h1, h2, hz, q⟩ := h
  exact op_catA pins s σ H _ _ v u Q I rx ry (catT h1 h2 hz q)
def rSlS (K : PySem.W.Frag) : V → Option Int → Option Int → Hp → VK → Prop := fun x lo hi H Q => ∃ a xs, x = .ref a ∧ SqT K H a xs ∧ ∀ p H', Same H H' → SqT K H' p (cutV xs lo hi) → Q (.ref p) H'
theorem sl_tupS {X : Cx} : SlR X (rSlS X.K) := by
  intro pins s σ H x v vl vu lo hi sl Q I rx hs pl pu h
  obtain ⟨a, xs, rfl, hx, q⟩ := h
  exact sl_tupA pins s σ H _ v vl vu lo hi sl Q I rx hs pl pu (slT hx q)
/-- what way_of takes -/
def WyIn (K : PySem.W.Frag) (H : Hp) (v : V) (xs : List V) : Prop := (v = .non ∧ xs = []) ∨ ∃ a, v = .ref a ∧ SqA2 K H a xs
end
section
variable {P : Program} {w : World} {K : PySem.W.Frag} {mg : Str → Option Value} {base : Heap}
/-! ### Give -/
def spGive (K : PySem.W.Frag) : S1 := fun vs H Q => ∃ (wv : V) (wx : List V) (v0 : V) (v1 : V) (v2 : V), vs = [wv, v0, v1, v2] ∧ WyIn K H wv wx ∧ ∀ a H', Same H H' → ∀ w' , Ins K H' a "Give" (fGive (.ref w') v0 v1 v2) → SqT K H' w' wx → Q (.ref a) H'
def spGiveI (K : PySem.W.Frag) : S1 := fun vs H Q => ∃ (y dx : Addr) (wv : V) (wx : List V) (v0 : V) (v1 : V) (v2 : V), vs = [.ref y, wv, v0, v1, v2] ∧ H y = some (.ins (He.ga K "Give") dx []) ∧ WyIn K H wv wx ∧ ∀ H', Ov y H H' → ∀ w' , H' y = some (.ins (He.ga K "Give") dx (fGive (.ref w') v0 v1 v2)) → SqT K H' w' wx → Q .non H'
abbrev N_Give_init : List Str := ["self", "way", "name", "x", "y"]
theorem sc_Give_init : FnScope N_Give_init ["self", "way", "name", "x", "y"] (defScope s_Give_init) := ⟨rfl, rfl, rfl, by decide +kernel, rfl, by decide +kernel, by decide +kernel⟩
theorem ok_Give (T : Tx K mg) : GC P w K mg base 3 "Give" (spGive K) := by
  obtain ⟨fd, F⟩ := T.d_Give_init
  have b : Binds K fd ["self", "way", "name", "x", "y"] [] := F.bindsN fun _ _ _ _ _ _ us hl => match us, hl with | [_, _, _, _, _], _ => rfl
  have hd : Vals ([] : List V) ([] : List Value) := .nil
  have G_way_of := ok_way_of (P := P) (w := w) (base := base) T
  refine gc_make (sp := spGiveI K) T.k_Give (F.ok sc_Give_init (fun vs H Q E h => ?_) (fun cdv A outer s H vs Q E hr h => ?_)) T.g_Give b hd fun vs H Q h => ?_
  · obtain ⟨_, _, _, _, _, _, _, rfl, _⟩ := h
    rfl
  · obtain ⟨y, dx, wv, wx, v0, v1, v2, rfl, hy, hw, k⟩ := h
    refine ⟨_, PSs.nox (pss_cons (ps_fld (pv 0) (pe_gc G_way_of hr (by decide) rfl (pa_cons (pv 1) pa_nil)) rfl)
    (pss_cons (ps_fld (pv 0) (pv 2) rfl)
    (pss_cons (ps_fld (pv 0) (pv 3) rfl)
    (pss_one (ps_fld (pv 0) (pv 4) rfl))))), ?_⟩
    have o : Ov y H H := Ov.refl
    refine ⟨_, rfl, wv, wx, rfl, ?_, fun w' H1 s1 hw' => ?_⟩
    · exact hw
    have o1 := o.trans (s1.ov (y := y))
    refine ⟨_, rfl, y, _, dx, _, rfl, s1 _ _ hy, T.c_Give, T.n_Give_way, (by show 0 < 1000; decide), ?_⟩
    have o2 := o1.upd (o := .ins (He.ga K "Give") dx (putF "way" (.ref w') []))
    have hw2 : SqT K _ w' wx := Ov.t (Ov.upd (H := H1) (y := y) Ov.refl (o := .ins (He.ga K "Give") dx (putF "way" (.ref w') []))) (s1 _ _ hy) hw'
    refine ⟨_, rfl, _, rfl, y, _, dx, _, rfl, upd_same, T.c_Give, T.n_Give_name, (by show 1 < 1000; decide), ?_⟩
    have q0 := o2.upd (o := .ins (He.ga K "Give") dx (putF "name" v0 (putF "way" (.ref w') [])))
    have u0 : Ov y (upd H1 y (.ins (He.ga K "Give") dx (putF "way" (.ref w') []))) (upd (upd H1 y (.ins (He.ga K "Give") dx (putF "way" (.ref w') []))) y (.ins (He.ga K "Give") dx (putF "name" v0 (putF "way" (.ref w') [])))) := Ov.upd Ov.refl
    have hw2_0 := Ov.t u0 upd_same hw2
    refine ⟨_, rfl, _, rfl, y, _, dx, _, rfl, upd_same, T.c_Give, T.n_Give_x, (by show 2 < 1000; decide), ?_⟩
    have q1 := q0.upd (o := .ins (He.ga K "Give") dx (putF "x" v1 (putF "name" v0 (putF "way" (.ref w') []))))
    have u1 : Ov y (upd (upd H1 y (.ins (He.ga K "Give") dx (putF "way" (.ref w') []))) y (.ins (He.ga K "Give") dx (putF "name" v0 (putF "way" (.ref w') [])))) (upd (upd (upd H1 y (.ins (He.ga K "Give") dx (putF "way" (.ref w') []))) y (.ins (He.ga K "Give") dx (putF "name" v0 (putF "way" (.ref w') [])))) y (.ins (He.ga K "Give") dx (putF "x" v1 (putF "name" v0 (putF "way" (.ref w') []))))) := Ov.upd Ov.refl
    have hw2_0_1 := Ov.t u1 upd_same hw2_0
    refine ⟨_, rfl, _, rfl, y, _, dx, _, rfl, upd_same, T.c_Give, T.n_Give_y, (by show 3 < 1000; decide), ?_⟩
    have q2 := q1.upd (o := .ins (He.ga K "Give") dx (putF "y" v2 (putF "x" v1 (putF "name" v0 (putF "way" (.ref w') [])))))
    have u2 : Ov y (upd (upd (upd H1 y (.ins (He.ga K "Give") dx (putF "way" (.ref w') []))) y (.ins (He.ga K "Give") dx (putF "name" v0 (putF "way" (.ref w') [])))) y (.ins (He.ga K "Give") dx (putF "x" v1 (putF "name" v0 (putF "way" (.ref w') []))))) (upd (upd (upd (upd H1 y (.ins (He.ga K "Give") dx (putF "way" (.ref w') []))) y (.ins (He.ga K "Give") dx (putF "name" v0 (putF "way" (.ref w') [])))) y (.ins (He.ga K "Give") dx (putF "x" v1 (putF "name" v0 (putF "way" (.ref w') []))))) y (.ins (He.ga K "Give") dx (putF "y" v2 (putF "x" v1 (putF "name" v0 (putF "way" (.ref w') [])))))) := Ov.upd Ov.refl
    have hw2_0_1_2 := Ov.t u2 upd_same hw2_0_1
    exact k _ q2 w' upd_same hw2_0_1_2
  · obtain ⟨wv, wx, v0, v1, v2, rfl, hw, k⟩ := h
    intro y dx ny nd ne
    have sm : Same H (upd (upd H dx (.own y)) y (.ins (He.ga K "Give") dx [])) := Same.made ny nd fun b o e hb => e
    exact ⟨y, dx, wv, wx, v0, v1, v2, rfl, upd_same, hw.imp (fun z => z) fun ⟨a, e, z⟩ => ⟨a, e, Same.a2 sm z⟩, fun H' ov w'  hy hw1  => ⟨rfl, k y H' (Same.made ny nd ov) w'  ⟨dx, hy⟩ hw1 ⟩⟩
/-! ### Through -/
def spThrough (K : PySem.W.Frag) : S1 := fun vs H Q => ∃ (wv : V) (wx : List V) (v0 : V) (v1 : V) (v2 : V), vs = [wv, v0, v1, v2] ∧ WyIn K H wv wx ∧ ∀ a H', Same H H' → ∀ w' , Ins K H' a "Through" (fThrough (.ref w') v0 v1 v2) → SqT K H' w' wx → Q (.ref a) H'
def spThroughI (K : PySem.W.Frag) : S1 := fun vs H Q => ∃ (y dx : Addr) (wv : V) (wx : List V) (v0 : V) (v1 : V) (v2 : V), vs = [.ref y, wv, v0, v1, v2] ∧ H y = some (.ins (He.ga K "Through") dx []) ∧ WyIn K H wv wx ∧ ∀ H', Ov y H H' → ∀ w' , H' y = some (.ins (He.ga K "Through") dx (fThrough (.ref w') v0 v1 v2)) → SqT K H' w' wx → Q .non H'
abbrev N_Through_init : List Str := ["self", "way", "name", "first", "second"]
theorem sc_Through_init : FnScope N_Through_init ["self", "way", "name", "first", "second"] (defScope s_Through_init) := ⟨rfl, rfl, rfl, by decide +kernel, rfl, by decide +kernel, by decide +kernel⟩
theorem ok_Through (T : Tx K mg) : GC P w K mg base 3 "Through" (spThrough K) := by
  obtain ⟨fd, F⟩ := T.d_Through_init
  have b : Binds K fd ["self", "way", "name", "first", "second"] [] := F.bindsN fun _ _ _ _ _ _ us hl => match us, hl with | [_, _, _, _, _], _ => rfl
  have hd : Vals ([] : List V) ([] : List Value) := .nil
  have G_way_of := ok_way_of (P := P) (w := w) (base := base) T
  refine gc_make (sp := spThroughI K) T.k_Through (F.ok sc_Through_init (fun vs H Q E h => ?_) (fun cdv A outer s H vs Q E hr h => ?_)) T.g_Through b hd fun vs H Q h => ?_
  · obtain ⟨_, _, _, _, _, _, _, rfl, _⟩ := h
    rfl
  · obtain ⟨y, dx, wv, wx, v0, v1, v2, rfl, hy, hw, k⟩ := h
    refine ⟨_, PSs.nox (pss_cons (ps_fld (pv 0) (pe_gc G_way_of hr (by decide) rfl (pa_cons (pv 1) pa_nil)) rfl)
    (pss_cons (ps_fld (pv 0) (pv 2) rfl)
    (pss_cons (ps_fld (pv 0) (pv 3) rfl)
    (pss_one (ps_fld (pv 0) (pv 4) rfl))))), ?_⟩
    have o : Ov y H H := Ov.refl
    refine ⟨_, rfl, wv, wx, rfl, ?_, fun w' H1 s1 hw' => ?_⟩
    · exact hw
    have o1 := o.trans (s1.ov (y := y))
    refine ⟨_, rfl, y, _, dx, _, rfl, s1 _ _ hy, T.c_Through, T.n_Through_way, (by show 0 < 1000; decide), ?_⟩
    have o2 := o1.upd (o := .ins (He.ga K "Through") dx (putF "way" (.ref w') []))
    have hw2 : SqT K _ w' wx := Ov.t (Ov.upd (H := H1) (y := y) Ov.refl (o := .ins (He.ga K "Through") dx (putF "way" (.ref w') []))) (s1 _ _ hy) hw'
    refine ⟨_, rfl, _, rfl, y, _, dx, _, rfl, upd_same, T.c_Through, T.n_Through_name, (by show 1 < 1000; decide), ?_⟩
    have q0 := o2.upd (o := .ins (He.ga K "Through") dx (putF "name" v0 (putF "way" (.ref w') [])))
    have u0 : Ov y (upd H1 y (.ins (He.ga K "Through") dx (putF "way" (.ref w') []))) (upd (upd H1 y (.ins (He.ga K "Through") dx (putF "way" (.ref w') []))) y (.ins (He.ga K "Through") dx (putF "name" v0 (putF "way" (.ref w') [])))) := Ov.upd Ov.refl
    have hw2_0 := Ov.t u0 upd_same hw2
    refine ⟨_, rfl, _, rfl, y, _, dx, _, rfl, upd_same, T.c_Through, T.n_Through_first, (by show 2 < 1000; decide), ?_⟩
    have q1 := q0.upd (o := .ins (He.ga K "Through") dx (putF "first" v1 (putF "name" v0 (putF "way" (.ref w') []))))
    have u1 : Ov y (upd (upd H1 y (.ins (He.ga K "Through") dx (putF "way" (.ref w') []))) y (.ins (He.ga K "Through") dx (putF "name" v0 (putF "way" (.ref w') [])))) (upd (upd (upd H1 y (.ins (He.ga K "Through") dx (putF "way" (.ref w') []))) y (.ins (He.ga K "Through") dx (putF "name" v0 (putF "way" (.ref w') [])))) y (.ins (He.ga K "Through") dx (putF "first" v1 (putF "name" v0 (putF "way" (.ref w') []))))) := Ov.upd Ov.refl
    have hw2_0_1 := Ov.t u1 upd_same hw2_0
    refine ⟨_, rfl, _, rfl, y, _, dx, _, rfl, upd_same, T.c_Through, T.n_Through_second, (by show 3 < 1000; decide), ?_⟩
    have q2 := q1.upd (o := .ins (He.ga K "Through") dx (putF "second" v2 (putF "first" v1 (putF "name" v0 (putF "way" (.ref w') [])))))
    have u2 : Ov y (upd (upd (upd H1 y (.ins (He.ga K "Through") dx (putF "way" (.ref w') []))) y (.ins (He.ga K "Through") dx (putF "name" v0 (putF "way" (.ref w') [])))) y (.ins (He.ga K "Through") dx (putF "first" v1 (putF "name" v0 (putF "way" (.ref w') []))))) (upd (upd (upd (upd H1 y (.ins (He.ga K "Through") dx (putF "way" (.ref w') []))) y (.ins (He.ga K "Through") dx (putF "name" v0 (putF "way" (.ref w') [])))) y (.ins (He.ga K "Through") dx (putF "first" v1 (putF "name" v0 (putF "way" (.ref w') []))))) y (.ins (He.ga K "Through") dx (putF "second" v2 (putF "first" v1 (putF "name" v0 (putF "way" (.ref w') [])))))) := Ov.upd Ov.refl
    have hw2_0_1_2 := Ov.t u2 upd_same hw2_0_1
    exact k _ q2 w' upd_same hw2_0_1_2
  · obtain ⟨wv, wx, v0, v1, v2, rfl, hw, k⟩ := h
    intro y dx ny nd ne
    have sm : Same H (upd (upd H dx (.own y)) y (.ins (He.ga K "Through") dx [])) := Same.made ny nd fun b o e hb => e
    exact ⟨y, dx, wv, wx, v0, v1, v2, rfl, upd_same, hw.imp (fun z => z) fun ⟨a, e, z⟩ => ⟨a, e, Same.a2 sm z⟩, fun H' ov w'  hy hw1  => ⟨rfl, k y H' (Same.made ny nd ov) w'  ⟨dx, hy⟩ hw1 ⟩⟩
/-! ### About -/
def spAbout (K : PySem.W.Frag) : S1 := fun vs H Q => ∃ (wv : V) (wx : List V) (v0 : V) (v1 : V) (v2 : V) (v3 : V), vs = [wv, v0, v1, v2, v3] ∧ WyIn K H wv wx ∧ ∀ a H', Same H H' → ∀ w' , Ins K H' a "About" (fAbout (.ref w') v0 v1 v2 v3) → SqT K H' w' wx → Q (.ref a) H'
def spAboutI (K : PySem.W.Frag) : S1 := fun vs H Q => ∃ (y dx : Addr) (wv : V) (wx : List V) (v0 : V) (v1 : V) (v2 : V) (v3 : V), vs = [.ref y, wv, v0, v1, v2, v3] ∧ H y = some (.ins (He.ga K "About") dx []) ∧ WyIn K H wv wx ∧ ∀ H', Ov y H H' → ∀ w' , H' y = some (.ins (He.ga K "About") dx (fAbout (.ref w') v0 v1 v2 v3)) → SqT K H' w' wx → Q .non H'
abbrev N_About_init : List Str := ["self", "way", "name", "middle", "one", "other"]
theorem sc_About_init : FnScope N_About_init ["self", "way", "name", "middle", "one", "other"] (defScope s_About_init) := ⟨rfl, rfl, rfl, by decide +kernel, rfl, by decide +kernel, by decide +kernel⟩
theorem ok_About (T : Tx K mg) : GC P w K mg base 3 "About" (spAbout K) := by
  obtain ⟨fd, F⟩ := T.d_About_init
  obtain ⟨ds, hd, b⟩ := F.binds1 (ps := ["self", "way", "name", "middle", "one", "other"]) 6 1 (by simp) rfl fun T kV doc pm an cdv ct us its h1 h2 => match us, its, h1, h2 with | [_, _, _, _, _, _], [_], _, _ => ⟨_, rfl, rfl⟩
  have G_way_of := ok_way_of (P := P) (w := w) (base := base) T
  refine gc_make (sp := spAboutI K) T.k_About (F.ok sc_About_init (fun vs H Q E h => ?_) (fun cdv A outer s H vs Q E hr h => ?_)) T.g_About b hd fun vs H Q h => ?_
  · obtain ⟨_, _, _, _, _, _, _, _, rfl, _⟩ := h
    rfl
  · obtain ⟨y, dx, wv, wx, v0, v1, v2, v3, rfl, hy, hw, k⟩ := h
    refine ⟨_, PSs.nox (pss_cons (ps_fld (pv 0) (pe_gc G_way_of hr (by decide) rfl (pa_cons (pv 1) pa_nil)) rfl)
    (pss_cons (ps_fld (pv 0) (pv 2) rfl)
    (pss_cons (ps_fld (pv 0) (pv 3) rfl)
    (pss_cons (ps_fld (pv 0) (pv 4) rfl)
    (pss_one (ps_fld (pv 0) (pv 5) rfl)))))), ?_⟩
    have o : Ov y H H := Ov.refl
    refine ⟨_, rfl, wv, wx, rfl, ?_, fun w' H1 s1 hw' => ?_⟩
    · exact hw
    have o1 := o.trans (s1.ov (y := y))
    refine ⟨_, rfl, y, _, dx, _, rfl, s1 _ _ hy, T.c_About, T.n_About_way, (by show 0 < 1000; decide), ?_⟩
    have o2 := o1.upd (o := .ins (He.ga K "About") dx (putF "way" (.ref w') []))
    have hw2 : SqT K _ w' wx := Ov.t (Ov.upd (H := H1) (y := y) Ov.refl (o := .ins (He.ga K "About") dx (putF "way" (.ref w') []))) (s1 _ _ hy) hw'
    refine ⟨_, rfl, _, rfl, y, _, dx, _, rfl, upd_same, T.c_About, T.n_About_name, (by show 1 < 1000; decide), ?_⟩
    have q0 := o2.upd (o := .ins (He.ga K "About") dx (putF "name" v0 (putF "way" (.ref w') [])))
    have u0 : Ov y (upd H1 y (.ins (He.ga K "About") dx (putF "way" (.ref w') []))) (upd (upd H1 y (.ins (He.ga K "About") dx (putF "way" (.ref w') []))) y (.ins (He.ga K "About") dx (putF "name" v0 (putF "way" (.ref w') [])))) := Ov.upd Ov.refl
    have hw2_0 := Ov.t u0 upd_same hw2
    refine ⟨_, rfl, _, rfl, y, _, dx, _, rfl, upd_same, T.c_About, T.n_About_middle, (by show 2 < 1000; decide), ?_⟩
    have q1 := q0.upd (o := .ins (He.ga K "About") dx (putF "middle" v1 (putF "name" v0 (putF "way" (.ref w') []))))
    have u1 : Ov y (upd (upd H1 y (.ins (He.ga K "About") dx (putF "way" (.ref w') []))) y (.ins (He.ga K "About") dx (putF "name" v0 (putF "way" (.ref w') [])))) (upd (upd (upd H1 y (.ins (He.ga K "About") dx (putF "way" (.ref w') []))) y (.ins (He.ga K "About") dx (putF "name" v0 (putF "way" (.ref w') [])))) y (.ins (He.ga K "About") dx (putF "middle" v1 (putF "name" v0 (putF "way" (.ref w') []))))) := Ov.upd Ov.refl
    have hw2_0_1 := Ov.t u1 upd_same hw2_0
    refine ⟨_, rfl, _, rfl, y, _, dx, _, rfl, upd_same, T.c_About, T.n_About_one, (by show 3 < 1000; decide), ?_⟩
    have q2 := q1.upd (o := .ins (He.ga K "About") dx (putF "one" v2 (putF "middle" v1 (putF "name" v0 (putF "way" (.ref w') [])))))
    have u2 : Ov y (upd (upd (upd H1 y (.ins (He.ga K "About") dx (putF "way" (.ref w') []))) y (.ins (He.ga K "About") dx (putF "name" v0 (putF "way" (.ref w') [])))) y (.ins (He.ga K "About") dx (putF "middle" v1 (putF "name" v0 (putF "way" (.ref w') []))))) (upd (upd (upd (upd H1 y (.ins (He.ga K "About") dx (putF "way" (.ref w') []))) y (.ins (He.ga K "About") dx (putF "name" v0 (putF "way" (.ref w') [])))) y (.ins (He.ga K "About") dx (putF "middle" v1 (putF "name" v0 (putF "way" (.ref w') []))))) y (.ins (He.ga K "About") dx (putF "one" v2 (putF "middle" v1 (putF "name" v0 (putF "way" (.ref w') [])))))) := Ov.upd Ov.refl
    have hw2_0_1_2 := Ov.t u2 upd_same hw2_0_1
    refine ⟨_, rfl, _, rfl, y, _, dx, _, rfl, upd_same, T.c_About, T.n_About_other, (by show 4 < 1000; decide), ?_⟩
    have q3 := q2.upd (o := .ins (He.ga K "About") dx (putF "other" v3 (putF "one" v2 (putF "middle" v1 (putF "name" v0 (putF "way" (.ref w') []))))))
    have u3 : Ov y (upd (upd (upd (upd H1 y (.ins (He.ga K "About") dx (putF "way" (.ref w') []))) y (.ins (He.ga K "About") dx (putF "name" v0 (putF "way" (.ref w') [])))) y (.ins (He.ga K "About") dx (putF "middle" v1 (putF "name" v0 (putF "way" (.ref w') []))))) y (.ins (He.ga K "About") dx (putF "one" v2 (putF "middle" v1 (putF "name" v0 (putF "way" (.ref w') [])))))) (upd (upd (upd (upd (upd H1 y (.ins (He.ga K "About") dx (putF "way" (.ref w') []))) y (.ins (He.ga K "About") dx (putF "name" v0 (putF "way" (.ref w') [])))) y (.ins (He.ga K "About") dx (putF "middle" v1 (putF "name" v0 (putF "way" (.ref w') []))))) y (.ins (He.ga K "About") dx (putF "one" v2 (putF "middle" v1 (putF "name" v0 (putF "way" (.ref w') [])))))) y (.ins (He.ga K "About") dx (putF "other" v3 (putF "one" v2 (putF "middle" v1 (putF "name" v0 (putF "way" (.ref w') []))))))) := Ov.upd Ov.refl
    have hw2_0_1_2_3 := Ov.t u3 upd_same hw2_0_1_2
    exact k _ q3 w' upd_same hw2_0_1_2_3
  · obtain ⟨wv, wx, v0, v1, v2, v3, rfl, hw, k⟩ := h
    intro y dx ny nd ne
    have sm : Same H (upd (upd H dx (.own y)) y (.ins (He.ga K "About") dx [])) := Same.made ny nd fun b o e hb => e
    exact ⟨y, dx, wv, wx, v0, v1, v2, v3, rfl, upd_same, hw.imp (fun z => z) fun ⟨a, e, z⟩ => ⟨a, e, Same.a2 sm z⟩, fun H' ov w'  hy hw1  => ⟨rfl, k y H' (Same.made ny nd ov) w'  ⟨dx, hy⟩ hw1 ⟩⟩
/-! ### Crossing -/
def spCrossing (K : PySem.W.Frag) : S1 := fun vs H Q => ∃ (wv : V) (wx : List V) (v0 : V) (v1 : V) (v2 : V) (v3 : V), vs = [wv, v0, v1, v2, v3] ∧ WyIn K H wv wx ∧ ∀ a H', Same H H' → ∀ w' , Ins K H' a "Crossing" (fCrossing (.ref w') v0 v1 v2 v3) → SqT K H' w' wx → Q (.ref a) H'
def spCrossingI (K : PySem.W.Frag) : S1 := fun vs H Q => ∃ (y dx : Addr) (wv : V) (wx : List V) (v0 : V) (v1 : V) (v2 : V) (v3 : V), vs = [.ref y, wv, v0, v1, v2, v3] ∧ H y = some (.ins (He.ga K "Crossing") dx []) ∧ WyIn K H wv wx ∧ ∀ H', Ov y H H' → ∀ w' , H' y = some (.ins (He.ga K "Crossing") dx (fCrossing (.ref w') v0 v1 v2 v3)) → SqT K H' w' wx → Q .non H'
abbrev N_Crossing_init : List Str := ["self", "way", "name", "one", "other", "choice"]
theorem sc_Crossing_init : FnScope N_Crossing_init ["self", "way", "name", "one", "other", "choice"] (defScope s_Crossing_init) := ⟨rfl, rfl, rfl, by decide +kernel, rfl, by decide +kernel, by decide +kernel⟩
theorem ok_Crossing (T : Tx K mg) : GC P w K mg base 3 "Crossing" (spCrossing K) := by
  obtain ⟨fd, F⟩ := T.d_Crossing_init
  obtain ⟨ds, hd, b⟩ := F.binds1 (ps := ["self", "way", "name", "one", "other", "choice"]) 6 1 (by simp) rfl fun T kV doc pm an cdv ct us its h1 h2 => match us, its, h1, h2 with | [_, _, _, _, _, _], [_], _, _ => ⟨_, rfl, rfl⟩
  have G_way_of := ok_way_of (P := P) (w := w) (base := base) T
  refine gc_make (sp := spCrossingI K) T.k_Crossing (F.ok sc_Crossing_init (fun vs H Q E h => ?_) (fun cdv A outer s H vs Q E hr h => ?_)) T.g_Crossing b hd fun vs H Q h => ?_
  · obtain ⟨_, _, _, _, _, _, _, _, rfl, _⟩ := h
    rfl
  · obtain ⟨y, dx, wv, wx, v0, v1, v2, v3, rfl, hy, hw, k⟩ := h
    refine ⟨_, PSs.nox (pss_cons (ps_fld (pv 0) (pe_gc G_way_of hr (by decide) rfl (pa_cons (pv 1) pa_nil)) rfl)
    (pss_cons (ps_fld (pv 0) (pv 2) rfl)
    (pss_cons (ps_fld (pv 0) (pv 3) rfl)
    (pss_cons (ps_fld (pv 0) (pv 4) rfl)
    (pss_one (ps_fld (pv 0) (pv 5) rfl)))))), ?_⟩
    have o : Ov y H H := Ov.refl
    refine ⟨_, rfl, wv, wx, rfl, ?_, fun w' H1 s1 hw' => ?_⟩
    · exact hw
    have o1 := o.trans (s1.ov (y := y))
    refine ⟨_, rfl, y, _, dx, _, rfl, s1 _ _ hy, T.c_Crossing, T.n_Crossing_way, (by show 0 < 1000; decide), ?_⟩
    have o2 := o1.upd (o := .ins (He.ga K "Crossing") dx (putF "way" (.ref w') []))
    have hw2 : SqT K _ w' wx := Ov.t (Ov.upd (H := H1) (y := y) Ov.refl (o := .ins (He.ga K "Crossing") dx (putF "way" (.ref w') []))) (s1 _ _ hy) hw'
    refine ⟨_, rfl, _, rfl, y, _, dx, _, rfl, upd_same, T.c_Crossing, T.n_Crossing_name, (by show 1 < 1000; decide), ?_⟩
    have q0 := o2.upd (o := .ins (He.ga K "Crossing") dx (putF "name" v0 (putF "way" (.ref w') [])))
    have u0 : Ov y (upd H1 y (.ins (He.ga K "Crossing") dx (putF "way" (.ref w') []))) (upd (upd H1 y (.ins (He.ga K "Crossing") dx (putF "way" (.ref w') []))) y (.ins (He.ga K "Crossing") dx (putF "name" v0 (putF "way" (.ref w') [])))) := Ov.upd Ov.refl
    have hw2_0 := Ov.t u0 upd_same hw2
    refine ⟨_, rfl, _, rfl, y, _, dx, _, rfl, upd_same, T.c_Crossing, T.n_Crossing_one, (by show 2 < 1000; decide), ?_⟩
    have q1 := q0.upd (o := .ins (He.ga K "Crossing") dx (putF "one" v1 (putF "name" v0 (putF "way" (.ref w') []))))
    have u1 : Ov y (upd (upd H1 y (.ins (He.ga K "Crossing") dx (putF "way" (.ref w') []))) y (.ins (He.ga K "Crossing") dx (putF "name" v0 (putF "way" (.ref w') [])))) (upd (upd (upd H1 y (.ins (He.ga K "Crossing") dx (putF "way" (.ref w') []))) y (.ins (He.ga K "Crossing") dx (putF "name" v0 (putF "way" (.ref w') [])))) y (.ins (He.ga K "Crossing") dx (putF "one" v1 (putF "name" v0 (putF "way" (.ref w') []))))) := Ov.upd Ov.refl
    have hw2_0_1 := Ov.t u1 upd_same hw2_0
    refine ⟨_, rfl, _, rfl, y, _, dx, _, rfl, upd_same, T.c_Crossing, T.n_Crossing_other, (by show 3 < 1000; decide), ?_⟩
    have q2 := q1.upd (o := .ins (He.ga K "Crossing") dx (putF "other" v2 (putF "one" v1 (putF "name" v0 (putF "way" (.ref w') [])))))
    have u2 : Ov y (upd (upd (upd H1 y (.ins (He.ga K "Crossing") dx (putF "way" (.ref w') []))) y (.ins (He.ga K "Crossing") dx (putF "name" v0 (putF "way" (.ref w') [])))) y (.ins (He.ga K "Crossing") dx (putF "one" v1 (putF "name" v0 (putF "way" (.ref w') []))))) (upd (upd (upd (upd H1 y (.ins (He.ga K "Crossing") dx (putF "way" (.ref w') []))) y (.ins (He.ga K "Crossing") dx (putF "name" v0 (putF "way" (.ref w') [])))) y (.ins (He.ga K "Crossing") dx (putF "one" v1 (putF "name" v0 (putF "way" (.ref w') []))))) y (.ins (He.ga K "Crossing") dx (putF "other" v2 (putF "one" v1 (putF "name" v0 (putF "way" (.ref w') [])))))) := Ov.upd Ov.refl
    have hw2_0_1_2 := Ov.t u2 upd_same hw2_0_1
    refine ⟨_, rfl, _, rfl, y, _, dx, _, rfl, upd_same, T.c_Crossing, T.n_Crossing_choice, (by show 4 < 1000; decide), ?_⟩
    have q3 := q2.upd (o := .ins (He.ga K "Crossing") dx (putF "choice" v3 (putF "other" v2 (putF "one" v1 (putF "name" v0 (putF "way" (.ref w') []))))))
    have u3 : Ov y (upd (upd (upd (upd H1 y (.ins (He.ga K "Crossing") dx (putF "way" (.ref w') []))) y (.ins (He.ga K "Crossing") dx (putF "name" v0 (putF "way" (.ref w') [])))) y (.ins (He.ga K "Crossing") dx (putF "one" v1 (putF "name" v0 (putF "way" (.ref w') []))))) y (.ins (He.ga K "Crossing") dx (putF "other" v2 (putF "one" v1 (putF "name" v0 (putF "way" (.ref w') [])))))) (upd (upd (upd (upd (upd H1 y (.ins (He.ga K "Crossing") dx (putF "way" (.ref w') []))) y (.ins (He.ga K "Crossing") dx (putF "name" v0 (putF "way" (.ref w') [])))) y (.ins (He.ga K "Crossing") dx (putF "one" v1 (putF "name" v0 (putF "way" (.ref w') []))))) y (.ins (He.ga K "Crossing") dx (putF "other" v2 (putF "one" v1 (putF "name" v0 (putF "way" (.ref w') [])))))) y (.ins (He.ga K "Crossing") dx (putF "choice" v3 (putF "other" v2 (putF "one" v1 (putF "name" v0 (putF "way" (.ref w') []))))))) := Ov.upd Ov.refl
    have hw2_0_1_2_3 := Ov.t u3 upd_same hw2_0_1_2
    exact k _ q3 w' upd_same hw2_0_1_2_3
  · obtain ⟨wv, wx, v0, v1, v2, v3, rfl, hw, k⟩ := h
    intro y dx ny nd ne
    have sm : Same H (upd (upd H dx (.own y)) y (.ins (He.ga K "Crossing") dx [])) := Same.made ny nd fun b o e hb => e
    exact ⟨y, dx, wv, wx, v0, v1, v2, v3, rfl, upd_same, hw.imp (fun z => z) fun ⟨a, e, z⟩ => ⟨a, e, Same.a2 sm z⟩, fun H' ov w'  hy hw1  => ⟨rfl, k y H' (Same.made ny nd ov) w'  ⟨dx, hy⟩ hw1 ⟩⟩
/-! ### Use -/
def spUse (K : PySem.W.Frag) : S1 := fun vs H Q => ∃ (wv : V) (wx : List V) (v0 : V) (v1 : Addr) (v1x : List V) (v2 : Addr) (v2x : List V), vs = [wv, v0, .ref v1, .ref v2] ∧ WyIn K H wv wx ∧ SqA2 K H v1 v1x ∧ SqA2 K H v2 v2x ∧ ∀ a H', Same H H' → ∀ w' v1' v2', Ins K H' a "Use" (fUse (.ref w') v0 (.ref v1') (.ref v2')) → SqT K H' w' wx → SqT K H' v1' v1x → SqT K H' v2' v2x → Q (.ref a) H'
def spUseI (K : PySem.W.Frag) : S1 := fun vs H Q => ∃ (y dx : Addr) (wv : V) (wx : List V) (v0 : V) (v1 : Addr) (v1x : List V) (v2 : Addr) (v2x : List V), vs = [.ref y, wv, v0, .ref v1, .ref v2] ∧ H y = some (.ins (He.ga K "Use") dx []) ∧ WyIn K H wv wx ∧ SqA2 K H v1 v1x ∧ SqA2 K H v2 v2x ∧ ∀ H', Ov y H H' → ∀ w' v1' v2', H' y = some (.ins (He.ga K "Use") dx (fUse (.ref w') v0 (.ref v1') (.ref v2'))) → SqT K H' w' wx → SqT K H' v1' v1x → SqT K H' v2' v2x → Q .non H'
abbrev N_Use_init : List Str := ["self", "way", "helper", "given", "names"]
theorem sc_Use_init : FnScope N_Use_init ["self", "way", "helper", "given", "names"] (defScope s_Use_init) := ⟨rfl, rfl, rfl, by decide +kernel, rfl, by decide +kernel, by decide +kernel⟩
theorem ok_Use (T : Tx K mg) : GC P w K mg base 3 "Use" (spUse K) := by
  obtain ⟨fd, F⟩ := T.d_Use_init
  have b : Binds K fd ["self", "way", "helper", "given", "names"] [] := F.bindsN fun _ _ _ _ _ _ us hl => match us, hl with | [_, _, _, _, _], _ => rfl
  have hd : Vals ([] : List V) ([] : List Value) := .nil
  have G_way_of := ok_way_of (P := P) (w := w) (base := base) T
  refine gc_make (sp := spUseI K) T.k_Use (F.ok sc_Use_init (fun vs H Q E h => ?_) (fun cdv A outer s H vs Q E hr h => ?_)) T.g_Use b hd fun vs H Q h => ?_
  · obtain ⟨_, _, _, _, _, _, _, _, _, rfl, _⟩ := h
    rfl
  · obtain ⟨y, dx, wv, wx, v0, v1, v1x, v2, v2x, rfl, hy, hw, h1, h2, k⟩ := h
    refine ⟨_, PSs.nox (pss_cons (ps_fld (pv 0) (pe_gc G_way_of hr (by decide) rfl (pa_cons (pv 1) pa_nil)) rfl)
    (pss_cons (ps_fld (pv 0) (pv 2) rfl)
    (pss_cons (ps_fld (pv 0) (pe_callTy call_tupS (by rfl) T.f_tuple (by decide +kernel) (pa_cons (pv 3) pa_nil)) rfl)
    (pss_one (ps_fld (pv 0) (pe_callTy call_tupS (by rfl) T.f_tuple (by decide +kernel) (pa_cons (pv 4) pa_nil)) rfl))))), ?_⟩
    have o : Ov y H H := Ov.refl
    refine ⟨_, rfl, wv, wx, rfl, ?_, fun w' H1 s1 hw' => ?_⟩
    · exact hw
    have o1 := o.trans (s1.ov (y := y))
    refine ⟨_, rfl, y, _, dx, _, rfl, s1 _ _ hy, T.c_Use, T.n_Use_way, (by show 0 < 1000; decide), ?_⟩
    have o2 := o1.upd (o := .ins (He.ga K "Use") dx (putF "way" (.ref w') []))
    have hw2 : SqT K _ w' wx := Ov.t (Ov.upd (H := H1) (y := y) Ov.refl (o := .ins (He.ga K "Use") dx (putF "way" (.ref w') []))) (s1 _ _ hy) hw'
    refine ⟨_, rfl, _, rfl, y, _, dx, _, rfl, upd_same, T.c_Use, T.n_Use_helper, (by show 1 < 1000; decide), ?_⟩
    have q0 := o2.upd (o := .ins (He.ga K "Use") dx (putF "helper" v0 (putF "way" (.ref w') [])))
    have u0 : Ov y (upd H1 y (.ins (He.ga K "Use") dx (putF "way" (.ref w') []))) (upd (upd H1 y (.ins (He.ga K "Use") dx (putF "way" (.ref w') []))) y (.ins (He.ga K "Use") dx (putF "helper" v0 (putF "way" (.ref w') [])))) := Ov.upd Ov.refl
    have hw2_0 := Ov.t u0 upd_same hw2
    refine ⟨_, rfl, v1, v1x, rfl, Ov.a q0 hy h1, fun v1' G1 t1 hv1 => ?_⟩
    have p1 := q0.trans (t1.ov (y := y))
    refine ⟨_, rfl, y, _, dx, _, rfl, t1 _ _ upd_same, T.c_Use, T.n_Use_given, (by show 2 < 1000; decide), ?_⟩
    have q1 := p1.upd (o := .ins (He.ga K "Use") dx (putF "given" (.ref v1') (putF "helper" v0 (putF "way" (.ref w') []))))
    have u1 : Ov y G1 (upd G1 y (.ins (He.ga K "Use") dx (putF "given" (.ref v1') (putF "helper" v0 (putF "way" (.ref w') []))))) := Ov.upd Ov.refl
    have hw2_0_1 := Ov.t u1 (t1 _ _ upd_same) (Same.t t1 hw2_0)
    have hk1 := Ov.t u1 (t1 _ _ upd_same) hv1
    refine ⟨_, rfl, v2, v2x, rfl, Ov.a q1 hy h2, fun v2' G2 t2 hv2 => ?_⟩
    have p2 := q1.trans (t2.ov (y := y))
    refine ⟨_, rfl, y, _, dx, _, rfl, t2 _ _ upd_same, T.c_Use, T.n_Use_names, (by show 3 < 1000; decide), ?_⟩
    have q2 := p2.upd (o := .ins (He.ga K "Use") dx (putF "names" (.ref v2') (putF "given" (.ref v1') (putF "helper" v0 (putF "way" (.ref w') [])))))
    have u2 : Ov y G2 (upd G2 y (.ins (He.ga K "Use") dx (putF "names" (.ref v2') (putF "given" (.ref v1') (putF "helper" v0 (putF "way" (.ref w') [])))))) := Ov.upd Ov.refl
    have hw2_0_1_2 := Ov.t u2 (t2 _ _ upd_same) (Same.t t2 hw2_0_1)
    have hk1_2 := Ov.t u2 (t2 _ _ upd_same) (Same.t t2 hk1)
    have hk2 := Ov.t u2 (t2 _ _ upd_same) hv2
    exact k _ q2 w' v1' v2' upd_same hw2_0_1_2 hk1_2 hk2
  · obtain ⟨wv, wx, v0, v1, v1x, v2, v2x, rfl, hw, h1, h2, k⟩ := h
    intro y dx ny nd ne
    have sm : Same H (upd (upd H dx (.own y)) y (.ins (He.ga K "Use") dx [])) := Same.made ny nd fun b o e hb => e
    exact ⟨y, dx, wv, wx, v0, v1, v1x, v2, v2x, rfl, upd_same, hw.imp (fun z => z) fun ⟨a, e, z⟩ => ⟨a, e, Same.a2 sm z⟩, Same.a2 sm h1, Same.a2 sm h2, fun H' ov w' v1' v2' hy hw1 g1 g2 => ⟨rfl, k y H' (Same.made ny nd ov) w' v1' v2' ⟨dx, hy⟩ hw1 g1 g2⟩⟩
/-! ### Helper -/
def spHelper (K : PySem.W.Frag) : S1 := fun vs H Q => ∃ (wv : V) (wx : List V) (v0 : V) (v1 : Addr) (v1x : List V) (v2 : Addr) (v2x : List V) (v3 : Addr) (v3x : List V), vs = [wv, v0, .ref v1, .ref v2, .ref v3] ∧ WyIn K H wv wx ∧ SqA2 K H v1 v1x ∧ SqA2 K H v2 v2x ∧ SqA2 K H v3 v3x ∧ ∀ a H', Same H H' → ∀ w' v1' v2' v3', Ins K H' a "Helper" (fHelper (.ref w') v0 (.ref v1') (.ref v2') (.ref v3')) → SqT K H' w' wx → SqT K H' v1' v1x → SqT K H' v2' v2x → SqT K H' v3' v3x → Q (.ref a) H'
def spHelperI (K : PySem.W.Frag) : S1 := fun vs H Q => ∃ (y dx : Addr) (wv : V) (wx : List V) (v0 : V) (v1 : Addr) (v1x : List V) (v2 : Addr) (v2x : List V) (v3 : Addr) (v3x : List V), vs = [.ref y, wv, v0, .ref v1, .ref v2, .ref v3] ∧ H y = some (.ins (He.ga K "Helper") dx []) ∧ WyIn K H wv wx ∧ SqA2 K H v1 v1x ∧ SqA2 K H v2 v2x ∧ SqA2 K H v3 v3x ∧ ∀ H', Ov y H H' → ∀ w' v1' v2' v3', H' y = some (.ins (He.ga K "Helper") dx (fHelper (.ref w') v0 (.ref v1') (.ref v2') (.ref v3'))) → SqT K H' w' wx → SqT K H' v1' v1x → SqT K H' v2' v2x → SqT K H' v3' v3x → Q .non H'
abbrev N_Helper_init : List Str := ["self", "way", "name", "params", "answers", "steps"]
theorem sc_Helper_init : FnScope N_Helper_init ["self", "way", "name", "params", "answers", "steps"] (defScope s_Helper_init) := ⟨rfl, rfl, rfl, by decide +kernel, rfl, by decide +kernel, by decide +kernel⟩
theorem ok_Helper (T : Tx K mg) : GC P w K mg base 3 "Helper" (spHelper K) := by
  obtain ⟨fd, F⟩ := T.d_Helper_init
  have b : Binds K fd ["self", "way", "name", "params", "answers", "steps"] [] := F.bindsN fun _ _ _ _ _ _ us hl => match us, hl with | [_, _, _, _, _, _], _ => rfl
  have hd : Vals ([] : List V) ([] : List Value) := .nil
  have G_way_of := ok_way_of (P := P) (w := w) (base := base) T
  refine gc_make (sp := spHelperI K) T.k_Helper (F.ok sc_Helper_init (fun vs H Q E h => ?_) (fun cdv A outer s H vs Q E hr h => ?_)) T.g_Helper b hd fun vs H Q h => ?_
  · obtain ⟨_, _, _, _, _, _, _, _, _, _, _, rfl, _⟩ := h
    rfl
  · obtain ⟨y, dx, wv, wx, v0, v1, v1x, v2, v2x, v3, v3x, rfl, hy, hw, h1, h2, h3, k⟩ := h
    refine ⟨_, PSs.nox (pss_cons (ps_fld (pv 0) (pe_gc G_way_of hr (by decide) rfl (pa_cons (pv 1) pa_nil)) rfl)
    (pss_cons (ps_fld (pv 0) (pv 2) rfl)
    (pss_cons (ps_fld (pv 0) (pe_callTy call_tupS (by rfl) T.f_tuple (by decide +kernel) (pa_cons (pv 3) pa_nil)) rfl)
    (pss_cons (ps_fld (pv 0) (pe_callTy call_tupS (by rfl) T.f_tuple (by decide +kernel) (pa_cons (pv 4) pa_nil)) rfl)
    (pss_one (ps_fld (pv 0) (pe_callTy call_tupS (by rfl) T.f_tuple (by decide +kernel) (pa_cons (pv 5) pa_nil)) rfl)))))), ?_⟩
    have o : Ov y H H := Ov.refl
    refine ⟨_, rfl, wv, wx, rfl, ?_, fun w' H1 s1 hw' => ?_⟩
    · exact hw
    have o1 := o.trans (s1.ov (y := y))
    refine ⟨_, rfl, y, _, dx, _, rfl, s1 _ _ hy, T.c_Helper, T.n_Helper_way, (by show 0 < 1000; decide), ?_⟩
    have o2 := o1.upd (o := .ins (He.ga K "Helper") dx (putF "way" (.ref w') []))
    have hw2 : SqT K _ w' wx := Ov.t (Ov.upd (H := H1) (y := y) Ov.refl (o := .ins (He.ga K "Helper") dx (putF "way" (.ref w') []))) (s1 _ _ hy) hw'
    refine ⟨_, rfl, _, rfl, y, _, dx, _, rfl, upd_same, T.c_Helper, T.n_Helper_name, (by show 1 < 1000; decide), ?_⟩
    have q0 := o2.upd (o := .ins (He.ga K "Helper") dx (putF "name" v0 (putF "way" (.ref w') [])))
    have u0 : Ov y (upd H1 y (.ins (He.ga K "Helper") dx (putF "way" (.ref w') []))) (upd (upd H1 y (.ins (He.ga K "Helper") dx (putF "way" (.ref w') []))) y (.ins (He.ga K "Helper") dx (putF "name" v0 (putF "way" (.ref w') [])))) := Ov.upd Ov.refl
    have hw2_0 := Ov.t u0 upd_same hw2
    refine ⟨_, rfl, v1, v1x, rfl, Ov.a q0 hy h1, fun v1' G1 t1 hv1 => ?_⟩
    have p1 := q0.trans (t1.ov (y := y))
    refine ⟨_, rfl, y, _, dx, _, rfl, t1 _ _ upd_same, T.c_Helper, T.n_Helper_params, (by show 2 < 1000; decide), ?_⟩
    have q1 := p1.upd (o := .ins (He.ga K "Helper") dx (putF "params" (.ref v1') (putF "name" v0 (putF "way" (.ref w') []))))
    have u1 : Ov y G1 (upd G1 y (.ins (He.ga K "Helper") dx (putF "params" (.ref v1') (putF "name" v0 (putF "way" (.ref w') []))))) := Ov.upd Ov.refl
    have hw2_0_1 := Ov.t u1 (t1 _ _ upd_same) (Same.t t1 hw2_0)
    have hk1 := Ov.t u1 (t1 _ _ upd_same) hv1
    refine ⟨_, rfl, v2, v2x, rfl, Ov.a q1 hy h2, fun v2' G2 t2 hv2 => ?_⟩
    have p2 := q1.trans (t2.ov (y := y))
    refine ⟨_, rfl, y, _, dx, _, rfl, t2 _ _ upd_same, T.c_Helper, T.n_Helper_answers, (by show 3 < 1000; decide), ?_⟩
    have q2 := p2.upd (o := .ins (He.ga K "Helper") dx (putF "answers" (.ref v2') (putF "params" (.ref v1') (putF "name" v0 (putF "way" (.ref w') [])))))
    have u2 : Ov y G2 (upd G2 y (.ins (He.ga K "Helper") dx (putF "answers" (.ref v2') (putF "params" (.ref v1') (putF "name" v0 (putF "way" (.ref w') [])))))) := Ov.upd Ov.refl
    have hw2_0_1_2 := Ov.t u2 (t2 _ _ upd_same) (Same.t t2 hw2_0_1)
    have hk1_2 := Ov.t u2 (t2 _ _ upd_same) (Same.t t2 hk1)
    have hk2 := Ov.t u2 (t2 _ _ upd_same) hv2
    refine ⟨_, rfl, v3, v3x, rfl, Ov.a q2 hy h3, fun v3' G3 t3 hv3 => ?_⟩
    have p3 := q2.trans (t3.ov (y := y))
    refine ⟨_, rfl, y, _, dx, _, rfl, t3 _ _ upd_same, T.c_Helper, T.n_Helper_steps, (by show 4 < 1000; decide), ?_⟩
    have q3 := p3.upd (o := .ins (He.ga K "Helper") dx (putF "steps" (.ref v3') (putF "answers" (.ref v2') (putF "params" (.ref v1') (putF "name" v0 (putF "way" (.ref w') []))))))
    have u3 : Ov y G3 (upd G3 y (.ins (He.ga K "Helper") dx (putF "steps" (.ref v3') (putF "answers" (.ref v2') (putF "params" (.ref v1') (putF "name" v0 (putF "way" (.ref w') []))))))) := Ov.upd Ov.refl
    have hw2_0_1_2_3 := Ov.t u3 (t3 _ _ upd_same) (Same.t t3 hw2_0_1_2)
    have hk1_2_3 := Ov.t u3 (t3 _ _ upd_same) (Same.t t3 hk1_2)
    have hk2_3 := Ov.t u3 (t3 _ _ upd_same) (Same.t t3 hk2)
    have hk3 := Ov.t u3 (t3 _ _ upd_same) hv3
    exact k _ q3 w' v1' v2' v3' upd_same hw2_0_1_2_3 hk1_2_3 hk2_3 hk3
  · obtain ⟨wv, wx, v0, v1, v1x, v2, v2x, v3, v3x, rfl, hw, h1, h2, h3, k⟩ := h
    intro y dx ny nd ne
    have sm : Same H (upd (upd H dx (.own y)) y (.ins (He.ga K "Helper") dx [])) := Same.made ny nd fun b o e hb => e
    exact ⟨y, dx, wv, wx, v0, v1, v1x, v2, v2x, v3, v3x, rfl, upd_same, hw.imp (fun z => z) fun ⟨a, e, z⟩ => ⟨a, e, Same.a2 sm z⟩, Same.a2 sm h1, Same.a2 sm h2, Same.a2 sm h3, fun H' ov w' v1' v2' v3' hy hw1 g1 g2 g3 => ⟨rfl, k y H' (Same.made ny nd ov) w' v1' v2' v3' ⟨dx, hy⟩ hw1 g1 g2 g3⟩⟩
/-! ### Plan -/
def spPlan (K : PySem.W.Frag) : S1 := fun vs H Q => ∃ (v0 : Addr) (v0x : List V), vs = [.ref v0] ∧ SqA2 K H v0 v0x ∧ ∀ a H', Same H H' → ∀ v0', Ins K H' a "Plan" (fPlan (.ref v0')) → SqT K H' v0' v0x → Q (.ref a) H'
def spPlanI (K : PySem.W.Frag) : S1 := fun vs H Q => ∃ (y dx : Addr) (v0 : Addr) (v0x : List V), vs = [.ref y, .ref v0] ∧ H y = some (.ins (He.ga K "Plan") dx []) ∧ SqA2 K H v0 v0x ∧ ∀ H', Ov y H H' → ∀ v0', H' y = some (.ins (He.ga K "Plan") dx (fPlan (.ref v0'))) → SqT K H' v0' v0x → Q .non H'
abbrev N_Plan_init : List Str := ["self", "parts"]
theorem sc_Plan_init : FnScope N_Plan_init ["self", "parts"] (defScope s_Plan_init) := ⟨rfl, rfl, rfl, by decide +kernel, rfl, by decide +kernel, by decide +kernel⟩
theorem ok_Plan (T : Tx K mg) : GC P w K mg base 2 "Plan" (spPlan K) := by
  obtain ⟨fd, F⟩ := T.d_Plan_init
  have b : Binds K fd ["self", "parts"] [] := F.bindsN fun _ _ _ _ _ _ us hl => match us, hl with | [_, _], _ => rfl
  have hd : Vals ([] : List V) ([] : List Value) := .nil
  refine gc_make (sp := spPlanI K) T.k_Plan (F.ok sc_Plan_init (fun vs H Q E h => ?_) (fun cdv A outer s H vs Q E hr h => ?_)) T.g_Plan b hd fun vs H Q h => ?_
  · obtain ⟨_, _, _, _, rfl, _⟩ := h
    rfl
  · obtain ⟨y, dx, v0, v0x, rfl, hy, h0, k⟩ := h
    refine ⟨_, PSs.nox (pss_one (ps_fld (pv 0) (pe_callTy call_tupS (by rfl) T.f_tuple (by decide +kernel) (pa_cons (pv 1) pa_nil)) rfl)), ?_⟩
    have o : Ov y H H := Ov.refl
    refine ⟨_, rfl, v0, v0x, rfl, Ov.a o hy h0, fun v0' G0 t0 hv0 => ?_⟩
    have p0 := o.trans (t0.ov (y := y))
    refine ⟨_, rfl, y, _, dx, _, rfl, t0 _ _ hy, T.c_Plan, T.n_Plan_parts, (by show 0 < 1000; decide), ?_⟩
    have q0 := p0.upd (o := .ins (He.ga K "Plan") dx (putF "parts" (.ref v0') ([])))
    have u0 : Ov y G0 (upd G0 y (.ins (He.ga K "Plan") dx (putF "parts" (.ref v0') ([])))) := Ov.upd Ov.refl
    have hk0 := Ov.t u0 (t0 _ _ hy) hv0
    exact k _ q0 v0' upd_same hk0
  · obtain ⟨v0, v0x, rfl, h0, k⟩ := h
    intro y dx ny nd ne
    have sm : Same H (upd (upd H dx (.own y)) y (.ins (He.ga K "Plan") dx [])) := Same.made ny nd fun b o e hb => e
    exact ⟨y, dx, v0, v0x, rfl, upd_same, Same.a2 sm h0, fun H' ov v0' hy g0 => ⟨rfl, k y H' (Same.made ny nd ov) v0' ⟨dx, hy⟩ g0⟩⟩
end
end Rod
set_option Elab.async false
set_option linter.all false
set_option maxRecDepth 100000
set_option maxHeartbeats 4000000
namespace Rod
open PySem PySem.Spec PyProof.Rows L2 TL
/-! ### rows are short -/
theorem sum_le {ys : List Str} (h : ∀ z ∈ ys, z.length ≤ 200) : (ys.map (·.length)).sum ≤ 200 * ys.length := by
  induction ys with
  | nil => exact Nat.le_refl _
  | cons y r ih =>
    have h1 := h y List.mem_cons_self
    have h2 := ih fun z hz => h z (List.mem_cons_of_mem _ hz)
    rw [List.map_cons, List.sum_cons, List.length_cons]
    omega
theorem sp_len : (" " : Str).length = 1 := by decide +kernel
theorem join_small {ys : List Str} (h : ∀ z ∈ ys, z.length ≤ 200) (hl : ys.length ≤ 40) : (ys.map (·.length)).sum + ys.length * (" " : Str).length ≤ 16777216 := by
  have := sum_le h
  rw [sp_len]
  omega
theorem kept_len : ∀ z ∈ kept, z.length ≤ 200 := by decide +kernel
theorem kL (z : Str) (h : z ∈ kept := by decide +kernel) : z.length ≤ 200 := kept_len z h
theorem Nm.l {z : Str} (h : Nm z) : z.length ≤ 200 := Nat.le_trans h.le (by decide)
def chOk : Option Ch → Prop
  | none => True
  | some c => ∀ p ∈ c.pts, Nm p
theorem chW_len {c : Option Ch} (h : ∀ p ∈ chP c, Nm p) : (∀ z ∈ chW c, z.length ≤ 200) ∧ (chW c).length ≤ 2 := by
  cases c with
  | none => exact ⟨fun z hz => (nomatch hz), Nat.zero_le _⟩
  | some c =>
    cases c <;> refine ⟨fun z hz => ?_, by show _ ≤ 2; simp [chW, Ch.ws]⟩
    case first => rw [List.mem_singleton.mp hz]; exact kL _
    case last => rw [List.mem_singleton.mp hz]; exact kL _
    case left => rw [List.mem_singleton.mp hz]; exact kL _
    case right => rw [List.mem_singleton.mp hz]; exact kL _
    all_goals
      rcases List.mem_cons.mp hz with e | hz
      · rw [e]
        exact kL _
      · exact (h z hz).l
theorem Stp.ok.ws_len {s : Stp} (h : s.ok) : (∀ z ∈ s.ws, z.length ≤ 200) ∧ s.ws.length ≤ 20 := by
  cases s with
  | give n x y =>
    obtain ⟨hx, hy⟩ := h.fr n x y rfl
    refine ⟨fun z hz => ?_, by show 4 ≤ 20; decide⟩
    rcases List.mem_cons.mp hz with e | hz
    · rw [e]; exact kL _
    rcases List.mem_cons.mp hz with e | hz
    · rw [e]; exact (h.nm n List.mem_cons_self).l
    rcases List.mem_cons.mp hz with e | hz
    · rw [e]; exact Nat.le_trans hx.len (by decide)
    · rw [List.mem_singleton.mp hz]; exact Nat.le_trans hy.len (by decide)
  | line n b c =>
    refine ⟨fun z hz => ?_, by show 4 ≤ 20; decide⟩
    rcases List.mem_cons.mp hz with e | hz
    · rw [e]; exact kL _
    · exact (h.nm z hz).l
  | round n b c o =>
    refine ⟨fun z hz => ?_, by cases o <;> simp [Stp.ws]⟩
    rcases List.mem_cons.mp hz with e | hz
    · rw [e]; exact kL _
    · exact (h.nm z hz).l
  | meet n b c o =>
    have hc := chW_len (c := o) fun p hp => h.nm p (by
      show p ∈ n :: b :: c :: chP o
      exact List.mem_cons_of_mem _ (List.mem_cons_of_mem _ (List.mem_cons_of_mem _ hp)))
    refine ⟨fun z hz => ?_, by
      show (chW o).length + 4 ≤ 20
      have := hc.2
      omega⟩
    rcases List.mem_cons.mp hz with e | hz
    · rw [e]; exact kL _
    rcases List.mem_cons.mp hz with e | hz
    · rw [e]; exact (h.nm n List.mem_cons_self).l
    rcases List.mem_cons.mp hz with e | hz
    · rw [e]; exact (h.nm b (List.mem_cons_of_mem _ List.mem_cons_self)).l
    rcases List.mem_cons.mp hz with e | hz
    · rw [e]; exact (h.nm c (List.mem_cons_of_mem _ (List.mem_cons_of_mem _ List.mem_cons_self))).l
    · exact hc.1 z hz
  | use h0 gs ns =>
    obtain ⟨_, h1, _, h2⟩ := h.us h0 gs ns rfl
    refine ⟨fun z hz => ?_, by
      show (gs ++ ("as" : Str) :: ns).length + 2 ≤ 20
      rw [List.length_append, List.length_cons]
      omega⟩
    rcases List.mem_cons.mp hz with e | hz
    · rw [e]; exact kL _
    rcases List.mem_cons.mp hz with e | hz
    · rw [e]; exact (h.nm h0 List.mem_cons_self).l
    rcases List.mem_append.mp hz with hz | hz
    · exact (h.nm z (List.mem_cons_of_mem _ (List.mem_append_left _ hz))).l
    rcases List.mem_cons.mp hz with e | hz
    · rw [e]; exact kL _
    · exact (h.nm z (List.mem_cons_of_mem _ (List.mem_append_right _ hz))).l
section
variable {P : Program} {w : World} {K : PySem.W.Frag} {mg : Str → Option Value} {base : Heap}
/-- each item gives what f tells -/
theorem paired_map {α : Type} {f : α → V} : ∀ {ds : List α} {acc : List V}, Paired (fun d v => v = f d) ds acc → acc = ds.map f
  | _, _, .nil => rfl
  | _, _, .cons h r => by rw [h, paired_map r]; rfl
theorem lc_fn {α : Type} {K : PySem.W.Frag} {J : It} {n : Nat} {G : Hp → Prop} {Y : Nat → Hp → V → Hp → Prop} {g : TG} {te : TE} {vs : List Nat} {σ : L2.St} {H1 : Hp} {Qd : Addr → Hp → Prop}
    (wk : Walk J n G Y) (ds : List α) (hn : n = ds.length) (hz : ds.length ≤ 100000) (f : α → V) (hG : ∀ H, Same H1 H → G H)
    (hs : ∀ i d x H H', ds[i]? = some d → Same H1 H → Y i H x H' → ∀ Nx : VK, (∀ H4, Same H H4 → Nx (f d) H4) → g x (wipe σ vs) H' fun σ2 H2 => wipe σ2 vs = wipe σ vs ∧ te σ2 H2 Nx)
    (mono : ∀ x σ H (Q Q' : L2.St → Hp → Prop), (∀ σ H, Q σ H → Q' σ H) → g x σ H Q → g x σ H Q')
    (hd : ∀ D H, H1 D = none → Same H1 H → H D = some (.lst (ds.map f)) → Qd D H) :
    ∀ D, H1 D = none → ∃ W : Nat → Nat → Hp → Prop, (∃ m, W 0 m (upd H1 D (.lst []))) ∧ ∀ i m H, W i m H →
      (J.stop i H ∧ Qd D H) ∨ (J.go i H ∧ ∃ Nx : Hp → Prop, (∀ H', Nx H' → ∃ m', m' < m ∧ W (i + 1) m' H') ∧ ∀ x H', J.yld i H x H' → g x (wipe σ vs) H' fun σ2 H2 => wipe σ2 vs = wipe σ vs ∧ tYes σ2 H2 fun b H3 =>
        if b = true then te σ2 H3 fun y H4 => ∃ acc, H4 D = some (.lst acc) ∧ acc.length < sizeLine ∧ Nx (upd H4 D (.lst (acc ++ [y]))) else Nx H3) := by
  refine lc_map (K := K) wk ds hn hz (fun d v _ => v = f d) (fun _ _ _ _ _ h => h) hG (fun i d x H2 H3 hi s2 y Nx Nf kx => ?_) fun D H2 acc hD s2 ha hp => ?_
  · exact mono _ _ _ _ _ (fun σ2 H4 h => ⟨h.1, yesI h.2⟩) (hs i d x H2 H3 hi s2 y Nx fun H4 s4 => kx _ _ s4 rfl)
  · rw [paired_map hp] at ha
    exact hd D H2 hD s2 ha
/-- the same where elements are made: R of what is made -/
theorem lc_mk {α : Type} {J : It} {n : Nat} {G : Hp → Prop} {Y : Nat → Hp → V → Hp → Prop} {g : TG} {te : TE} {vs : List Nat} {σ : L2.St} {H1 : Hp} {Qd : Addr → Hp → Prop}
    (wk : Walk J n G Y) (ds : List α) (hn : n = ds.length) (hz : ds.length ≤ 100000) (R : α → V → Hp → Prop) (hR : ∀ d v H H', Sm K H H' → R d v H → R d v H') (hG : ∀ H, Same H1 H → G H)
    (hs : ∀ i d x H H', ds[i]? = some d → Same H1 H → Y i H x H' → ∀ Nx : VK, (∀ y H4, Same H H4 → R d y H4 → Nx y H4) → g x (wipe σ vs) H' fun σ2 H2 => wipe σ2 vs = wipe σ vs ∧ te σ2 H2 Nx)
    (mono : ∀ x σ H (Q Q' : L2.St → Hp → Prop), (∀ σ H, Q σ H → Q' σ H) → g x σ H Q → g x σ H Q')
    (hd : ∀ D H acc, H1 D = none → Same H1 H → H D = some (.lst acc) → Paired (fun d v => R d v H) ds acc → Qd D H) :
    ∀ D, H1 D = none → ∃ W : Nat → Nat → Hp → Prop, (∃ m, W 0 m (upd H1 D (.lst []))) ∧ ∀ i m H, W i m H →
      (J.stop i H ∧ Qd D H) ∨ (J.go i H ∧ ∃ Nx : Hp → Prop, (∀ H', Nx H' → ∃ m', m' < m ∧ W (i + 1) m' H') ∧ ∀ x H', J.yld i H x H' → g x (wipe σ vs) H' fun σ2 H2 => wipe σ2 vs = wipe σ vs ∧ tYes σ2 H2 fun b H3 =>
        if b = true then te σ2 H3 fun y H4 => ∃ acc, H4 D = some (.lst acc) ∧ acc.length < sizeLine ∧ Nx (upd H4 D (.lst (acc ++ [y]))) else Nx H3) := by
  refine lc_map (K := K) wk ds hn hz R hR hG (fun i d x H2 H3 hi s2 y Nx Nf kx => ?_) hd
  exact mono _ _ _ _ _ (fun σ2 H4 h => ⟨h.1, yesI h.2⟩) (hs i d x H2 H3 hi s2 y Nx kx)
/-! ### promises of steps -/
abbrev StI : Type := List Int × Stp
def rcSt (K : PySem.W.Frag) : StI → V → Hp → Prop := fun i x H => ∃ a, x = .ref a ∧ StepAt K H a i.1 i.2
def spTold (K : PySem.W.Frag) (k : List Int) (s : Stp) : S1 := fun vs H Q => ∃ a, vs = [.ref a] ∧ StepAt K H a k s ∧ ∀ v H', Same H H' → Dt K H' v (s.td (dW k)) → Q v H'
def spAsk (K : PySem.W.Frag) (k : List Int) (s : Stp) : S1 := fun vs H Q => ∃ a, vs = [.ref a] ∧ StepAt K H a k s ∧ ∀ p H', Same H H' → NsT K H' p s.asks → Q (.ref p) H'
def spMk (K : PySem.W.Frag) (k : List Int) (s : Stp) : S1 := fun vs H Q => ∃ a, vs = [.ref a] ∧ StepAt K H a k s ∧ ∀ p H', Same H H' → NsT K H' p s.makes → Q (.ref p) H'
def spRow (K : PySem.W.Frag) (k : List Int) (s : Stp) : S1 := fun vs H Q => ∃ a, vs = [.ref a] ∧ StepAt K H a k s ∧ s.ok ∧ ∀ H', Same H H' → Q (.str s.red.row) H'
def spRen (K : PySem.W.Frag) (k : List Int) (s : Stp) : S1 := fun vs H Q => ∃ (a b d : Addr) (k' : List Int), vs = [.ref a, .ref b, .ref d] ∧ StepAt K H a k s ∧ WyAt K H b k' ∧ H d = some (.dK []) ∧ s.ok ∧ ∀ c H', Same H H' → StepAt K H' c k' s → Q (.ref c) H'
/-! ### told -/
abbrev N_Give_told : List Str := ["self"]
theorem sc_Give_told : FnScope N_Give_told ["self"] (defScope s_Give_told) := ⟨rfl, rfl, rfl, by decide +kernel, rfl, by decide +kernel, by decide +kernel⟩
theorem ok_Give_told (T : Tx K mg) (k : List Int) (n : Str) (x y : Fr) : Runs P w K mg base 2 (He.ma K (He.ga K "Give") "told") (spTold K k (.give n x y)) := by
  obtain ⟨fd, F⟩ := T.d_Give_told
  have bd : Binds K fd ["self"] [] := F.bindsN fun _ _ _ _ _ _ us hl => match us, hl with | [_], _ => rfl
  have V_told := ok_Fraction_told (P := P) (w := w) (base := base) T
  refine runs_fn0 (F.ok sc_Give_told (fun vs H Q E h => ?_) (fun cdv A outer s H vs Q E hr h => ?_)) bd
  · obtain ⟨_, rfl, _⟩ := h
    rfl
  · obtain ⟨a, rfl, ⟨wy, p, q, ⟨dx, ha⟩, hw, hp, hq⟩, kk⟩ := h
    have nd := sc_Give_told.nd
    refine ⟨_, PSs.nox (pss_one (ps_ret (pe_tup (pa_cons pe_str (pa_cons (pe_fld (pv 0) rfl) (pa_cons (pe_fld (pv 0) rfl) (pa_cons (pe_vm0 V_told hr (by decide) (pe_fld (pv 0) rfl)) (pa_cons (pe_vm0 V_told hr (by decide) (pe_fld (pv 0) rfl)) pa_nil)))))))), ?_⟩
    refine ⟨_, rfl, a, _, dx, _, _, rfl, ha, T.c_Give, T.n_Give_way, fGive_way .., ?_⟩
    refine ⟨_, rfl, a, _, dx, _, _, rfl, ha, T.c_Give, T.n_Give_name, fGive_name .., ?_⟩
    refine ⟨_, rfl, a, _, dx, _, _, rfl, ha, T.c_Give, T.n_Give_x, fGive_x .., ?_⟩
    refine ⟨(x.vt, x.vb), ⟨p, rfl, hp⟩, p, rfl, hp, fun v1 H1 s1 d1 => ?_⟩
    refine ⟨_, rfl, a, _, dx, _, _, rfl, s1 _ _ ha, T.c_Give, T.n_Give_y, fGive_y .., ?_⟩
    refine ⟨(y.vt, y.vb), ⟨q, rfl, FracAt.sm T s1.sm hq⟩, q, rfl, FracAt.sm T s1.sm hq, fun v2 H2 s2 d2 => ?_⟩
    refine ⟨by show 5 ≤ sizeLine; decide, fun r hr => kk _ _ (s1.trans (s2.trans (Same.new hr))) ?_⟩
    have sr : Same H2 (upd H2 r (.tup [V.str "give", V.ref wy, V.str n, v1, v2])) := Same.new hr
    exact dt_tup (SqT.of upd_same) (dta_cons dt_str (dta_cons (dt_w (Same.t (s1.trans (s2.trans sr)) hw)) (dta_cons dt_str (dta_cons (Dt.sm (s2.trans sr).sm d1) (dta_cons (Dt.sm sr.sm d2) dta_nil)))))
abbrev N_Through_told : List Str := ["self"]
theorem sc_Through_told : FnScope N_Through_told ["self"] (defScope s_Through_told) := ⟨rfl, rfl, rfl, by decide +kernel, rfl, by decide +kernel, by decide +kernel⟩
theorem ok_Through_told (T : Tx K mg) (k : List Int) (n b c : Str) : Runs P w K mg base 1 (He.ma K (He.ga K "Through") "told") (spTold K k (.line n b c)) := by
  obtain ⟨fd, F⟩ := T.d_Through_told
  have bd : Binds K fd ["self"] [] := F.bindsN fun _ _ _ _ _ _ us hl => match us, hl with | [_], _ => rfl
  refine runs_fn0 (F.ok sc_Through_told (fun vs H Q E h => ?_) (fun cdv A outer s H vs Q E hr h => ?_)) bd
  · obtain ⟨_, rfl, _⟩ := h
    rfl
  · obtain ⟨a, rfl, ⟨wy, ⟨dx, ha⟩, hw⟩, kk⟩ := h
    have nd := sc_Through_told.nd
    refine ⟨_, PSs.nox (pss_one (ps_ret (pe_tup (pa_cons pe_str (pa_cons (pe_fld (pv 0) rfl) (pa_cons (pe_fld (pv 0) rfl) (pa_cons (pe_fld (pv 0) rfl) (pa_cons (pe_fld (pv 0) rfl) pa_nil)))))))), ?_⟩
    refine ⟨_, rfl, a, _, dx, _, _, rfl, ha, T.c_Through, T.n_Through_way, fThrough_way .., ?_⟩
    refine ⟨_, rfl, a, _, dx, _, _, rfl, ha, T.c_Through, T.n_Through_name, fThrough_name .., ?_⟩
    refine ⟨_, rfl, a, _, dx, _, _, rfl, ha, T.c_Through, T.n_Through_first, fThrough_first .., ?_⟩
    refine ⟨_, rfl, a, _, dx, _, _, rfl, ha, T.c_Through, T.n_Through_second, fThrough_second .., ?_⟩
    refine ⟨by show 5 ≤ sizeLine; decide, fun r hr => kk _ _ (Same.new hr) ?_⟩
    exact dt_tup (SqT.of upd_same) (dta_cons dt_str (dta_cons (dt_w (Same.t (Same.new hr) hw)) (dta_cons dt_str (dta_cons dt_str (dta_cons dt_str dta_nil)))))
abbrev N_About_told : List Str := ["self"]
theorem sc_About_told : FnScope N_About_told ["self"] (defScope s_About_told) := ⟨rfl, rfl, rfl, by decide +kernel, rfl, by decide +kernel, by decide +kernel⟩
theorem ok_About_told (T : Tx K mg) (k : List Int) (n b c : Str) (o : Option Str) : Runs P w K mg base 1 (He.ma K (He.ga K "About") "told") (spTold K k (.round n b c o)) := by
  obtain ⟨fd, F⟩ := T.d_About_told
  have bd : Binds K fd ["self"] [] := F.bindsN fun _ _ _ _ _ _ us hl => match us, hl with | [_], _ => rfl
  refine runs_fn0 (F.ok sc_About_told (fun vs H Q E h => ?_) (fun cdv A outer s H vs Q E hr h => ?_)) bd
  · obtain ⟨_, rfl, _⟩ := h
    rfl
  · obtain ⟨a, rfl, ⟨wy, ⟨dx, ha⟩, hw⟩, kk⟩ := h
    have nd := sc_About_told.nd
    refine ⟨_, PSs.nox (pss_one (ps_ret (pe_tup (pa_cons pe_str (pa_cons (pe_fld (pv 0) rfl) (pa_cons (pe_fld (pv 0) rfl) (pa_cons (pe_fld (pv 0) rfl) (pa_cons (pe_fld (pv 0) rfl) (pa_cons (pe_fld (pv 0) rfl) pa_nil))))))))), ?_⟩
    refine ⟨_, rfl, a, _, dx, _, _, rfl, ha, T.c_About, T.n_About_way, fAbout_way .., ?_⟩
    refine ⟨_, rfl, a, _, dx, _, _, rfl, ha, T.c_About, T.n_About_name, fAbout_name .., ?_⟩
    refine ⟨_, rfl, a, _, dx, _, _, rfl, ha, T.c_About, T.n_About_middle, fAbout_middle .., ?_⟩
    refine ⟨_, rfl, a, _, dx, _, _, rfl, ha, T.c_About, T.n_About_one, fAbout_one .., ?_⟩
    refine ⟨_, rfl, a, _, dx, _, _, rfl, ha, T.c_About, T.n_About_other, fAbout_other .., ?_⟩
    refine ⟨by show 6 ≤ sizeLine; decide, fun r hr => kk _ _ (Same.new hr) ?_⟩
    exact dt_tup (SqT.of upd_same) (dta_cons dt_str (dta_cons (dt_w (Same.t (Same.new hr) hw)) (dta_cons dt_str (dta_cons dt_str (dta_cons dt_str (dta_cons dt_o dta_nil))))))
abbrev N_Crossing_told : List Str := ["self", "words"]
theorem sc_Crossing_told : FnScope N_Crossing_told ["self"] (defScope s_Crossing_told) := ⟨rfl, rfl, rfl, by decide +kernel, rfl, by decide +kernel, by decide +kernel⟩
theorem ok_Crossing_told (T : Tx K mg) (k : List Int) (n b c : Str) (o : Option Ch) : Runs P w K mg base 2 (He.ma K (He.ga K "Crossing") "told") (spTold K k (.meet n b c o)) := by
  obtain ⟨fd, F⟩ := T.d_Crossing_told
  have bd : Binds K fd ["self"] [] := F.bindsN fun _ _ _ _ _ _ us hl => match us, hl with | [_], _ => rfl
  have V_words := ok_words (P := P) (w := w) (base := base) T
  refine runs_fn0 (F.ok sc_Crossing_told (fun vs H Q E h => ?_) (fun cdv A outer s H vs Q E hr h => ?_)) bd
  · obtain ⟨_, rfl, _⟩ := h
    rfl
  · obtain ⟨a, rfl, ⟨wy, v, ⟨dx, ha⟩, hw, hc⟩, kk⟩ := h
    have nd := sc_Crossing_told.nd
    refine ⟨_, PSs.nox (pss_cons (ps_set (i := 1) nd rfl (Or.inl rfl) (pe_ifExp (pt_cmpR op_isN (pe_fld (pv 0) rfl) pe_non (nomark _)) pe_non (pe_vm0 V_words hr (by decide) (pe_fld (pv 0) rfl))))
    (pss_one (ps_ret (pe_tup (pa_cons pe_str (pa_cons (pe_fld (pv 0) rfl) (pa_cons (pe_fld (pv 0) rfl) (pa_cons (pe_fld (pv 0) rfl) (pa_cons (pe_fld (pv 0) rfl) (pa_cons (pv 1) pa_nil)))))))))), ?_⟩
    refine vq_asgP (fun x H' => Same H H' ∧ Dt K H' x (dC o)) (fun Q' k' => ?_) fun x H1 hx => ?_
    · refine ⟨_, rfl, a, _, dx, _, _, rfl, ha, T.c_Crossing, T.n_Crossing_choice, fCrossing_choice .., rfl, _, rfl, ?_⟩
      cases o with
      | none =>
        obtain rfl : v = .non := hc
        refine iteI (decide_eq_true rfl) ?_
        exact k' _ _ ⟨Same.refl _, dt_non⟩
      | some c1 =>
        obtain ⟨ac, rfl, hc⟩ := hc
        refine iteN (fun e => nomatch (of_decide_eq_true e : V.ref ac = V.non)) ?_
        refine ⟨_, rfl, a, _, dx, _, _, rfl, ha, T.c_Crossing, T.n_Crossing_choice, fCrossing_choice .., ?_⟩
        exact ⟨c1, ⟨ac, rfl, hc⟩, ac, rfl, hc, fun p H1 s1 hp => k' _ _ ⟨s1, dt_ns hp⟩⟩
    · obtain ⟨s1, dx1⟩ := hx
      refine ⟨_, rfl, a, _, dx, _, _, rfl, s1 _ _ ha, T.c_Crossing, T.n_Crossing_way, fCrossing_way .., ?_⟩
      refine ⟨_, rfl, a, _, dx, _, _, rfl, s1 _ _ ha, T.c_Crossing, T.n_Crossing_name, fCrossing_name .., ?_⟩
      refine ⟨_, rfl, a, _, dx, _, _, rfl, s1 _ _ ha, T.c_Crossing, T.n_Crossing_one, fCrossing_one .., ?_⟩
      refine ⟨_, rfl, a, _, dx, _, _, rfl, s1 _ _ ha, T.c_Crossing, T.n_Crossing_other, fCrossing_other .., ?_⟩
      refine ⟨_, rfl, ?_⟩
      refine ⟨by show 6 ≤ sizeLine; decide, fun r hr => kk _ _ (s1.trans (Same.new hr)) ?_⟩
      exact dt_tup (SqT.of upd_same) (dta_cons dt_str (dta_cons (dt_w (Same.t (s1.trans (Same.new hr)) hw)) (dta_cons dt_str (dta_cons dt_str (dta_cons dt_str (dta_cons (Dt.sm (Same.sm (Same.new hr)) dx1) dta_nil))))))
abbrev N_Use_told : List Str := ["self"]
theorem sc_Use_told : FnScope N_Use_told ["self"] (defScope s_Use_told) := ⟨rfl, rfl, rfl, by decide +kernel, rfl, by decide +kernel, by decide +kernel⟩
theorem ok_Use_told (T : Tx K mg) (k : List Int) (h0 : Str) (gs ns : List Str) : Runs P w K mg base 1 (He.ma K (He.ga K "Use") "told") (spTold K k (.use h0 gs ns)) := by
  obtain ⟨fd, F⟩ := T.d_Use_told
  have bd : Binds K fd ["self"] [] := F.bindsN fun _ _ _ _ _ _ us hl => match us, hl with | [_], _ => rfl
  refine runs_fn0 (F.ok sc_Use_told (fun vs H Q E h => ?_) (fun cdv A outer s H vs Q E hr h => ?_)) bd
  · obtain ⟨_, rfl, _⟩ := h
    rfl
  · obtain ⟨a, rfl, ⟨wy, g, m, ⟨dx, ha⟩, hw, hg, hm⟩, kk⟩ := h
    have nd := sc_Use_told.nd
    refine ⟨_, PSs.nox (pss_one (ps_ret (pe_tup (pa_cons pe_str (pa_cons (pe_fld (pv 0) rfl) (pa_cons (pe_fld (pv 0) rfl) (pa_cons (pe_fld (pv 0) rfl) (pa_cons (pe_fld (pv 0) rfl) pa_nil)))))))), ?_⟩
    refine ⟨_, rfl, a, _, dx, _, _, rfl, ha, T.c_Use, T.n_Use_way, fUse_way .., ?_⟩
    refine ⟨_, rfl, a, _, dx, _, _, rfl, ha, T.c_Use, T.n_Use_helper, fUse_helper .., ?_⟩
    refine ⟨_, rfl, a, _, dx, _, _, rfl, ha, T.c_Use, T.n_Use_given, fUse_given .., ?_⟩
    refine ⟨_, rfl, a, _, dx, _, _, rfl, ha, T.c_Use, T.n_Use_names, fUse_names .., ?_⟩
    refine ⟨by show 5 ≤ sizeLine; decide, fun r hr => kk _ _ (Same.new hr) ?_⟩
    exact dt_tup (SqT.of upd_same) (dta_cons dt_str (dta_cons (dt_w (Same.t (Same.new hr) hw)) (dta_cons dt_str (dta_cons (dt_ns (Same.t (Same.new hr) hg)) (dta_cons (dt_ns (Same.t (Same.new hr) hm)) dta_nil)))))
/-! ### asks -/
abbrev N_Step_asks : List Str := ["self"]
theorem sc_Step_asks : FnScope N_Step_asks ["self"] (defScope s_Step_asks) := ⟨rfl, rfl, rfl, by decide +kernel, rfl, by decide +kernel, by decide +kernel⟩
theorem ok_Give_asks (T : Tx K mg) (k : List Int) (n : Str) (x y : Fr) : Runs P w K mg base 1 (He.ma K (He.ga K "Give") "asks") (spAsk K k (.give n x y)) := by
  obtain ⟨fd, F⟩ := T.d_Give_asks
  have bd : Binds K fd ["self"] [] := F.bindsN fun _ _ _ _ _ _ us hl => match us, hl with | [_], _ => rfl
  refine runs_fn0 (F.ok sc_Step_asks (fun vs H Q E h => ?_) (fun cdv A outer s H vs Q E hr h => ?_)) bd
  · obtain ⟨_, rfl, _⟩ := h
    rfl
  · obtain ⟨a, rfl, ⟨wy, p, q, ⟨dx, ha⟩, hw, hp, hq⟩, kk⟩ := h
    have nd := sc_Step_asks.nd
    refine ⟨_, PSs.nox (pss_one (ps_ret (pe_tup pa_nil))), ?_⟩
    exact ⟨by decide, fun r hr => kk _ _ (Same.new hr) (SqT.of upd_same)⟩
abbrev N_Through_asks : List Str := ["self"]
theorem sc_Through_asks : FnScope N_Through_asks ["self"] (defScope s_Through_asks) := ⟨rfl, rfl, rfl, by decide +kernel, rfl, by decide +kernel, by decide +kernel⟩
theorem ok_Through_asks (T : Tx K mg) (k : List Int) (n b c : Str) : Runs P w K mg base 1 (He.ma K (He.ga K "Through") "asks") (spAsk K k (.line n b c)) := by
  obtain ⟨fd, F⟩ := T.d_Through_asks
  have bd : Binds K fd ["self"] [] := F.bindsN fun _ _ _ _ _ _ us hl => match us, hl with | [_], _ => rfl
  refine runs_fn0 (F.ok sc_Through_asks (fun vs H Q E h => ?_) (fun cdv A outer s H vs Q E hr h => ?_)) bd
  · obtain ⟨_, rfl, _⟩ := h
    rfl
  · obtain ⟨a, rfl, ⟨wy, ⟨dx, ha⟩, hw⟩, kk⟩ := h
    have nd := sc_Through_asks.nd
    refine ⟨_, PSs.nox (pss_one (ps_ret (pe_tup (pa_cons (pe_fld (pv 0) rfl) (pa_cons (pe_fld (pv 0) rfl) pa_nil))))), ?_⟩
    refine ⟨_, rfl, a, _, dx, _, _, rfl, ha, T.c_Through, T.n_Through_first, fThrough_first .., ?_⟩
    refine ⟨_, rfl, a, _, dx, _, _, rfl, ha, T.c_Through, T.n_Through_second, fThrough_second .., ?_⟩
    exact ⟨by show 2 ≤ sizeLine; decide, fun r hr => kk _ _ (Same.new hr) (SqT.of upd_same)⟩
abbrev N_About_asks : List Str := ["self"]
theorem sc_About_asks : FnScope N_About_asks ["self"] (defScope s_About_asks) := ⟨rfl, rfl, rfl, by decide +kernel, rfl, by decide +kernel, by decide +kernel⟩
theorem ok_About_asks (T : Tx K mg) (k : List Int) (n b c : Str) (o : Option Str) : Runs P w K mg base 1 (He.ma K (He.ga K "About") "asks") (spAsk K k (.round n b c o)) := by
  obtain ⟨fd, F⟩ := T.d_About_asks
  have bd : Binds K fd ["self"] [] := F.bindsN fun _ _ _ _ _ _ us hl => match us, hl with | [_], _ => rfl
  refine runs_fn0 (F.ok sc_About_asks (fun vs H Q E h => ?_) (fun cdv A outer s H vs Q E hr h => ?_)) bd
  · obtain ⟨_, rfl, _⟩ := h
    rfl
  · obtain ⟨a, rfl, ⟨wy, ⟨dx, ha⟩, hw⟩, kk⟩ := h
    have nd := sc_About_asks.nd
    refine ⟨_, PSs.nox (pss_cons (ps_if (pt_cmpR op_isN (pe_fld (pv 0) rfl) pe_non (nomark _))
      (pss_one (ps_ret (pe_tup (pa_cons (pe_fld (pv 0) rfl) (pa_cons (pe_fld (pv 0) rfl) pa_nil)))))
      pss_nil)
    (pss_one (ps_ret (pe_tup (pa_cons (pe_fld (pv 0) rfl) (pa_cons (pe_fld (pv 0) rfl) (pa_cons (pe_fld (pv 0) rfl) pa_nil))))))), ?_⟩
    refine ⟨_, rfl, a, _, dx, _, _, rfl, ha, T.c_About, T.n_About_other, fAbout_other .., rfl, _, rfl, ?_⟩
    cases o with
    | none =>
      refine iteI (decide_eq_true rfl) ?_
      refine ⟨_, rfl, a, _, dx, _, _, rfl, ha, T.c_About, T.n_About_middle, fAbout_middle .., ?_⟩
      refine ⟨_, rfl, a, _, dx, _, _, rfl, ha, T.c_About, T.n_About_one, fAbout_one .., ?_⟩
      exact ⟨by show 2 ≤ sizeLine; decide, fun r hr => kk _ _ (Same.new hr) (SqT.of upd_same)⟩
    | some o =>
      refine iteN (fun e => nomatch (of_decide_eq_true e : V.str o = V.non)) ?_
      refine ⟨_, rfl, a, _, dx, _, _, rfl, ha, T.c_About, T.n_About_middle, fAbout_middle .., ?_⟩
      refine ⟨_, rfl, a, _, dx, _, _, rfl, ha, T.c_About, T.n_About_one, fAbout_one .., ?_⟩
      refine ⟨_, rfl, a, _, dx, _, _, rfl, ha, T.c_About, T.n_About_other, fAbout_other .., ?_⟩
      exact ⟨by show 3 ≤ sizeLine; decide, fun r hr => kk _ _ (Same.new hr) (SqT.of upd_same)⟩
abbrev N_Crossing_asks : List Str := ["self"]
theorem sc_Crossing_asks : FnScope N_Crossing_asks ["self"] (defScope s_Crossing_asks) := ⟨rfl, rfl, rfl, by decide +kernel, rfl, by decide +kernel, by decide +kernel⟩
theorem ok_Crossing_asks (T : Tx K mg) (k : List Int) (n b c : Str) (o : Option Ch) : Runs P w K mg base 3 (He.ma K (He.ga K "Crossing") "asks") (spAsk K k (.meet n b c o)) := by
  obtain ⟨fd, F⟩ := T.d_Crossing_asks
  have bd : Binds K fd ["self"] [] := F.bindsN fun _ _ _ _ _ _ us hl => match us, hl with | [_], _ => rfl
  have G_point_of := ok_point_of (P := P) (w := w) (base := base) T
  refine runs_fn0 (F.ok sc_Crossing_asks (fun vs H Q E h => ?_) (fun cdv A outer s H vs Q E hr h => ?_)) bd
  · obtain ⟨_, rfl, _⟩ := h
    rfl
  · obtain ⟨a, rfl, ⟨wy, v, ⟨dx, ha⟩, hw, hc⟩, kk⟩ := h
    have nd := sc_Crossing_asks.nd
    refine ⟨_, PSs.nox (pss_one (ps_ret (pe_op op_catS (pe_tup (pa_cons (pe_fld (pv 0) rfl) (pa_cons (pe_fld (pv 0) rfl) pa_nil))) (pe_gc G_point_of hr (by decide) rfl (pa_cons (pe_fld (pv 0) rfl) pa_nil))))), ?_⟩
    refine ⟨_, rfl, a, _, dx, _, _, rfl, ha, T.c_Crossing, T.n_Crossing_one, fCrossing_one .., ?_⟩
    refine ⟨_, rfl, a, _, dx, _, _, rfl, ha, T.c_Crossing, T.n_Crossing_other, fCrossing_other .., ?_⟩
    refine ⟨by show 2 ≤ sizeLine; decide, fun r hr => ?_⟩
    have s1 : Same H (upd H r (.tup [V.str b, V.str c])) := Same.new hr
    have h1 : SqT K (upd H r (.tup [V.str b, V.str c])) r [V.str b, V.str c] := SqT.of upd_same
    generalize upd H r (.tup [V.str b, V.str c]) = H1 at s1 h1 ⊢
    refine ⟨_, rfl, a, _, dx, _, _, rfl, s1 _ _ ha, T.c_Crossing, T.n_Crossing_choice, fCrossing_choice .., ?_⟩
    refine ⟨v, o, rfl, ChO.sm T s1.sm hc, fun t H2 s2 ht => ?_⟩
    refine ⟨r, t, _, _, rfl, rfl, Same.t s2 h1, ht, ?_, fun u H3 s3 hu => kk u H3 (s1.trans (s2.trans s3)) hu⟩
    cases o with
    | none => show 2 + 0 ≤ 100000; decide
    | some c => cases c <;> (first | (show 2 + 0 ≤ 100000; decide) | (show 2 + 1 ≤ 100000; decide))
abbrev N_Use_asks : List Str := ["self"]
theorem sc_Use_asks : FnScope N_Use_asks ["self"] (defScope s_Use_asks) := ⟨rfl, rfl, rfl, by decide +kernel, rfl, by decide +kernel, by decide +kernel⟩
theorem ok_Use_asks (T : Tx K mg) (k : List Int) (h0 : Str) (gs ns : List Str) : Runs P w K mg base 1 (He.ma K (He.ga K "Use") "asks") (spAsk K k (.use h0 gs ns)) := by
  obtain ⟨fd, F⟩ := T.d_Use_asks
  have bd : Binds K fd ["self"] [] := F.bindsN fun _ _ _ _ _ _ us hl => match us, hl with | [_], _ => rfl
  refine runs_fn0 (F.ok sc_Use_asks (fun vs H Q E h => ?_) (fun cdv A outer s H vs Q E hr h => ?_)) bd
  · obtain ⟨_, rfl, _⟩ := h
    rfl
  · obtain ⟨a, rfl, ⟨wy, g, m, ⟨dx, ha⟩, hw, hg, hm⟩, kk⟩ := h
    have nd := sc_Use_asks.nd
    refine ⟨_, PSs.nox (pss_one (ps_ret (pe_fld (pv 0) rfl))), ?_⟩
    exact ⟨_, rfl, a, _, dx, _, _, rfl, ha, T.c_Use, T.n_Use_given, fUse_given .., kk _ _ (Same.refl _) hg⟩
/-! ### makes -/
abbrev N_Step_makes : List Str := ["self"]
theorem sc_Step_makes : FnScope N_Step_makes ["self"] (defScope s_Step_makes) := ⟨rfl, rfl, rfl, by decide +kernel, rfl, by decide +kernel, by decide +kernel⟩
theorem ok_Give_makes (T : Tx K mg) (k : List Int) (n : Str) (x y : Fr) : Runs P w K mg base 1 (He.ma K (He.ga K "Give") "makes") (spMk K k (.give n x y)) := by
  obtain ⟨fd, F⟩ := T.d_Give_makes
  have bd : Binds K fd ["self"] [] := F.bindsN fun _ _ _ _ _ _ us hl => match us, hl with | [_], _ => rfl
  refine runs_fn0 (F.ok sc_Step_makes (fun vs H Q E h => ?_) (fun cdv A outer s H vs Q E hr h => ?_)) bd
  · obtain ⟨_, rfl, _⟩ := h
    rfl
  · obtain ⟨a, rfl, ⟨wy, p, q, ⟨dx, ha⟩, hw, hp, hq⟩, kk⟩ := h
    have nd := sc_Step_makes.nd
    refine ⟨_, PSs.nox (pss_one (ps_ret (pe_tup (pa_cons (pe_fld (pv 0) rfl) pa_nil)))), ?_⟩
    refine ⟨_, rfl, a, _, dx, _, _, rfl, ha, T.c_Give, T.n_Give_name, fGive_name .., ?_⟩
    exact ⟨by show 1 ≤ sizeLine; decide, fun r hr => kk _ _ (Same.new hr) (SqT.of upd_same)⟩
theorem ok_Through_makes (T : Tx K mg) (k : List Int) (n b c : Str) : Runs P w K mg base 1 (He.ma K (He.ga K "Through") "makes") (spMk K k (.line n b c)) := by
  obtain ⟨fd, F⟩ := T.d_Through_makes
  have bd : Binds K fd ["self"] [] := F.bindsN fun _ _ _ _ _ _ us hl => match us, hl with | [_], _ => rfl
  refine runs_fn0 (F.ok sc_Step_makes (fun vs H Q E h => ?_) (fun cdv A outer s H vs Q E hr h => ?_)) bd
  · obtain ⟨_, rfl, _⟩ := h
    rfl
  · obtain ⟨a, rfl, ⟨wy, ⟨dx, ha⟩, hw⟩, kk⟩ := h
    have nd := sc_Step_makes.nd
    refine ⟨_, PSs.nox (pss_one (ps_ret (pe_tup (pa_cons (pe_fld (pv 0) rfl) pa_nil)))), ?_⟩
    refine ⟨_, rfl, a, _, dx, _, _, rfl, ha, T.c_Through, T.n_Through_name, fThrough_name .., ?_⟩
    exact ⟨by show 1 ≤ sizeLine; decide, fun r hr => kk _ _ (Same.new hr) (SqT.of upd_same)⟩
theorem ok_About_makes (T : Tx K mg) (k : List Int) (n b c : Str) (o : Option Str) : Runs P w K mg base 1 (He.ma K (He.ga K "About") "makes") (spMk K k (.round n b c o)) := by
  obtain ⟨fd, F⟩ := T.d_About_makes
  have bd : Binds K fd ["self"] [] := F.bindsN fun _ _ _ _ _ _ us hl => match us, hl with | [_], _ => rfl
  refine runs_fn0 (F.ok sc_Step_makes (fun vs H Q E h => ?_) (fun cdv A outer s H vs Q E hr h => ?_)) bd
  · obtain ⟨_, rfl, _⟩ := h
    rfl
  · obtain ⟨a, rfl, ⟨wy, ⟨dx, ha⟩, hw⟩, kk⟩ := h
    have nd := sc_Step_makes.nd
    refine ⟨_, PSs.nox (pss_one (ps_ret (pe_tup (pa_cons (pe_fld (pv 0) rfl) pa_nil)))), ?_⟩
    refine ⟨_, rfl, a, _, dx, _, _, rfl, ha, T.c_About, T.n_About_name, fAbout_name .., ?_⟩
    exact ⟨by show 1 ≤ sizeLine; decide, fun r hr => kk _ _ (Same.new hr) (SqT.of upd_same)⟩
theorem ok_Crossing_makes (T : Tx K mg) (k : List Int) (n b c : Str) (o : Option Ch) : Runs P w K mg base 1 (He.ma K (He.ga K "Crossing") "makes") (spMk K k (.meet n b c o)) := by
  obtain ⟨fd, F⟩ := T.d_Crossing_makes
  have bd : Binds K fd ["self"] [] := F.bindsN fun _ _ _ _ _ _ us hl => match us, hl with | [_], _ => rfl
  refine runs_fn0 (F.ok sc_Step_makes (fun vs H Q E h => ?_) (fun cdv A outer s H vs Q E hr h => ?_)) bd
  · obtain ⟨_, rfl, _⟩ := h
    rfl
  · obtain ⟨a, rfl, ⟨wy, v, ⟨dx, ha⟩, hw, hc⟩, kk⟩ := h
    have nd := sc_Step_makes.nd
    refine ⟨_, PSs.nox (pss_one (ps_ret (pe_tup (pa_cons (pe_fld (pv 0) rfl) pa_nil)))), ?_⟩
    refine ⟨_, rfl, a, _, dx, _, _, rfl, ha, T.c_Crossing, T.n_Crossing_name, fCrossing_name .., ?_⟩
    exact ⟨by show 1 ≤ sizeLine; decide, fun r hr => kk _ _ (Same.new hr) (SqT.of upd_same)⟩
abbrev N_Use_makes : List Str := ["self"]
theorem sc_Use_makes : FnScope N_Use_makes ["self"] (defScope s_Use_makes) := ⟨rfl, rfl, rfl, by decide +kernel, rfl, by decide +kernel, by decide +kernel⟩
theorem ok_Use_makes (T : Tx K mg) (k : List Int) (h0 : Str) (gs ns : List Str) : Runs P w K mg base 1 (He.ma K (He.ga K "Use") "makes") (spMk K k (.use h0 gs ns)) := by
  obtain ⟨fd, F⟩ := T.d_Use_makes
  have bd : Binds K fd ["self"] [] := F.bindsN fun _ _ _ _ _ _ us hl => match us, hl with | [_], _ => rfl
  refine runs_fn0 (F.ok sc_Use_makes (fun vs H Q E h => ?_) (fun cdv A outer s H vs Q E hr h => ?_)) bd
  · obtain ⟨_, rfl, _⟩ := h
    rfl
  · obtain ⟨a, rfl, ⟨wy, g, m, ⟨dx, ha⟩, hw, hg, hm⟩, kk⟩ := h
    have nd := sc_Use_makes.nd
    refine ⟨_, PSs.nox (pss_one (ps_ret (pe_fld (pv 0) rfl))), ?_⟩
    exact ⟨_, rfl, a, _, dx, _, _, rfl, ha, T.c_Use, T.n_Use_names, fUse_names .., kk _ _ (Same.refl _) hm⟩
/-! ### row -/
abbrev N_Give_row : List Str := ["self"]
theorem sc_Give_row : FnScope N_Give_row ["self"] (defScope s_Give_row) := ⟨rfl, rfl, rfl, by decide +kernel, rfl, by decide +kernel, by decide +kernel⟩
theorem ok_Give_row (T : Tx K mg) (k : List Int) (n : Str) (x y : Fr) : Runs P w K mg base 2 (He.ma K (He.ga K "Give") "row") (spRow K k (.give n x y)) := by
  obtain ⟨fd, F⟩ := T.d_Give_row
  have bd : Binds K fd ["self"] [] := F.bindsN fun _ _ _ _ _ _ us hl => match us, hl with | [_], _ => rfl
  have V_text := ok_Fraction_text (P := P) (w := w) (base := base) T
  refine runs_fn0 (F.ok sc_Give_row (fun vs H Q E h => ?_) (fun cdv A outer s H vs Q E hr h => ?_)) bd
  · obtain ⟨_, rfl, _⟩ := h
    rfl
  · obtain ⟨a, rfl, ⟨wy, p, q, ⟨dx, ha⟩, hw, hp, hq⟩, ok, kk⟩ := h
    have nd := sc_Give_row.nd
    refine ⟨_, PSs.nox (pss_one (ps_ret (pe_join pe_str (pe_lst (pa_cons pe_str (pa_cons (pe_fld (pv 0) rfl) (pa_cons (pe_vm0 V_text hr (by decide) (pe_fld (pv 0) rfl)) (pa_cons (pe_vm0 V_text hr (by decide) (pe_fld (pv 0) rfl)) pa_nil)))))))), ?_⟩
    obtain ⟨hx, hy⟩ := ok.fr n x y rfl
    refine ⟨⟨_, rfl⟩, ?_⟩
    refine ⟨_, rfl, a, _, dx, _, _, rfl, ha, T.c_Give, T.n_Give_name, fGive_name .., ?_⟩
    refine ⟨_, rfl, a, _, dx, _, _, rfl, ha, T.c_Give, T.n_Give_x, fGive_x .., ?_⟩
    refine ⟨(x.vt, x.vb), ⟨p, rfl, hp⟩, p, rfl, hp, hx.vt_abs, hx.vb_abs, ?_⟩
    refine ⟨_, rfl, a, _, dx, _, _, rfl, ha, T.c_Give, T.n_Give_y, fGive_y .., ?_⟩
    refine ⟨(y.vt, y.vb), ⟨q, rfl, hq⟩, q, rfl, hq, hy.vt_abs, hy.vb_abs, ?_⟩
    rw [hx.text, hy.text]
    refine ⟨by show 4 ≤ sizeLine; decide, fun r hr => ?_⟩
    have wl := Stp.ok.ws_len (Stp.ok.red ok)
    exact ⟨" ", r, (Stp.give n x y).red.ws, rfl, rfl, .inl (SqL.of upd_same), join_small wl.1 (Nat.le_trans wl.2 (by decide)), kk _ (Same.new hr)⟩
abbrev N_Through_row : List Str := ["self"]
theorem sc_Through_row : FnScope N_Through_row ["self"] (defScope s_Through_row) := ⟨rfl, rfl, rfl, by decide +kernel, rfl, by decide +kernel, by decide +kernel⟩
theorem ok_Through_row (T : Tx K mg) (k : List Int) (n b c : Str) : Runs P w K mg base 1 (He.ma K (He.ga K "Through") "row") (spRow K k (.line n b c)) := by
  obtain ⟨fd, F⟩ := T.d_Through_row
  have bd : Binds K fd ["self"] [] := F.bindsN fun _ _ _ _ _ _ us hl => match us, hl with | [_], _ => rfl
  refine runs_fn0 (F.ok sc_Through_row (fun vs H Q E h => ?_) (fun cdv A outer s H vs Q E hr h => ?_)) bd
  · obtain ⟨_, rfl, _⟩ := h
    rfl
  · obtain ⟨a, rfl, ⟨wy, ⟨dx, ha⟩, hw⟩, ok, kk⟩ := h
    have nd := sc_Through_row.nd
    refine ⟨_, PSs.nox (pss_one (ps_ret (pe_join pe_str (pe_lst (pa_cons pe_str (pa_cons (pe_fld (pv 0) rfl) (pa_cons (pe_fld (pv 0) rfl) (pa_cons (pe_fld (pv 0) rfl) pa_nil)))))))), ?_⟩
    refine ⟨⟨_, rfl⟩, ?_⟩
    refine ⟨_, rfl, a, _, dx, _, _, rfl, ha, T.c_Through, T.n_Through_name, fThrough_name .., ?_⟩
    refine ⟨_, rfl, a, _, dx, _, _, rfl, ha, T.c_Through, T.n_Through_first, fThrough_first .., ?_⟩
    refine ⟨_, rfl, a, _, dx, _, _, rfl, ha, T.c_Through, T.n_Through_second, fThrough_second .., ?_⟩
    refine ⟨by show 4 ≤ sizeLine; decide, fun r hr => ?_⟩
    have wl := Stp.ok.ws_len ok
    exact ⟨" ", r, (Stp.line n b c).ws, rfl, rfl, .inl (SqL.of upd_same), join_small wl.1 (Nat.le_trans wl.2 (by decide)), kk _ (Same.new hr)⟩
abbrev N_About_row : List Str := ["self"]
theorem sc_About_row : FnScope N_About_row ["self"] (defScope s_About_row) := ⟨rfl, rfl, rfl, by decide +kernel, rfl, by decide +kernel, by decide +kernel⟩
theorem ok_About_row (T : Tx K mg) (k : List Int) (n b c : Str) (o : Option Str) : Runs P w K mg base 2 (He.ma K (He.ga K "About") "row") (spRow K k (.round n b c o)) := by
  obtain ⟨fd, F⟩ := T.d_About_row
  have bd : Binds K fd ["self"] [] := F.bindsN fun _ _ _ _ _ _ us hl => match us, hl with | [_], _ => rfl
  have V_asks : VM P w K mg base 1 "asks" (fun (i : StI) x H => ∃ a, x = .ref a ∧ StepAt K H a i.1 i.2 ∧ ∃ n b c o, i.2 = .round n b c o) (fun i => spAsk K i.1 i.2) := by
    refine ⟨fun i x H h => ?_⟩
    obtain ⟨k, s⟩ := i
    obtain ⟨a, rfl, ha, n, b, c, o, rfl⟩ := h
    have ha0 := ha
    obtain ⟨wy, ⟨dx, e⟩, r⟩ := ha
    exact ⟨a, _, dx, _, _, rfl, e, fAbout_no_asks .., T.c_About, T.m_About_asks, (ok_About_asks T k n b c o).imp fun vs H' Q h => h.elim fun _ h => h.2⟩
  refine runs_fn0 (F.ok sc_About_row (fun vs H Q E h => ?_) (fun cdv A outer s H vs Q E hr h => ?_)) bd
  · obtain ⟨_, rfl, _⟩ := h
    rfl
  · obtain ⟨a, rfl, ⟨wy, ⟨dx, ha⟩, hw⟩, ok, kk⟩ := h
    have nd := sc_About_row.nd
    refine ⟨_, PSs.nox (pss_one (ps_ret (pe_join pe_str (pe_op op_catS (pe_tup (pa_cons pe_str (pa_cons (pe_fld (pv 0) rfl) pa_nil))) (pe_vm0 V_asks hr (by decide) (pv 0)))))), ?_⟩
    refine ⟨⟨_, rfl⟩, ?_⟩
    refine ⟨_, rfl, a, _, dx, _, _, rfl, ha, T.c_About, T.n_About_name, fAbout_name .., ?_⟩
    refine ⟨by show 2 ≤ sizeLine; decide, fun r hr => ?_⟩
    have s1 : Same H (upd H r (.tup [V.str "round", V.str n])) := Same.new hr
    have h1 : SqT K (upd H r (.tup [V.str "round", V.str n])) r [V.str "round", V.str n] := SqT.of upd_same
    generalize upd H r (.tup [V.str "round", V.str n]) = H1 at s1 h1 ⊢
    refine ⟨_, rfl, (k, .round n b c o), ⟨a, rfl, StepAt.sm T s1.sm ⟨wy, ⟨dx, ha⟩, hw⟩, n, b, c, o, rfl⟩, a, rfl, StepAt.sm T s1.sm ⟨wy, ⟨dx, ha⟩, hw⟩, fun t H2 s2 ht => ?_⟩
    refine ⟨r, t, _, _, rfl, rfl, Same.t s2 h1, ht, by cases o <;> simp [Stp.asks], fun u H3 s3 hu => ?_⟩
    have wl := Stp.ok.ws_len ok
    exact ⟨" ", u, (Stp.round n b c o).ws, rfl, rfl, .inr hu, join_small wl.1 (Nat.le_trans wl.2 (by decide)), kk _ (s1.trans (s2.trans s3))⟩
abbrev N_Crossing_row : List Str := ["self", "words"]
theorem sc_Crossing_row : FnScope N_Crossing_row ["self"] (defScope s_Crossing_row) := ⟨rfl, rfl, rfl, by decide +kernel, rfl, by decide +kernel, by decide +kernel⟩
theorem ok_Crossing_row (T : Tx K mg) (k : List Int) (n b c : Str) (o : Option Ch) : Runs P w K mg base 2 (He.ma K (He.ga K "Crossing") "row") (spRow K k (.meet n b c o)) := by
  obtain ⟨fd, F⟩ := T.d_Crossing_row
  have bd : Binds K fd ["self"] [] := F.bindsN fun _ _ _ _ _ _ us hl => match us, hl with | [_], _ => rfl
  have V_words := ok_words (P := P) (w := w) (base := base) T
  refine runs_fn0 (F.ok sc_Crossing_row (fun vs H Q E h => ?_) (fun cdv A outer s H vs Q E hr h => ?_)) bd
  · obtain ⟨_, rfl, _⟩ := h
    rfl
  · obtain ⟨a, rfl, ⟨wy, v, ⟨dx, ha⟩, hw, hc⟩, ok, kk⟩ := h
    have nd := sc_Crossing_row.nd
    refine ⟨_, PSs.nox (pss_cons (ps_set (i := 1) nd rfl (Or.inl rfl) (pe_ifExp (pt_cmpR op_isN (pe_fld (pv 0) rfl) pe_non (nomark _)) (pe_tup pa_nil) (pe_vm0 V_words hr (by decide) (pe_fld (pv 0) rfl))))
    (pss_one (ps_ret (pe_join pe_str (pe_op op_catS (pe_tup (pa_cons pe_str (pa_cons (pe_fld (pv 0) rfl) (pa_cons (pe_fld (pv 0) rfl) (pa_cons (pe_fld (pv 0) rfl) pa_nil))))) (pv 1)))))), ?_⟩
    refine vq_asgP (fun x H' => Same H H' ∧ ∃ p, x = .ref p ∧ NsT K H' p (chW o)) (fun Q' k' => ?_) fun x H1 hx => ?_
    · refine ⟨_, rfl, a, _, dx, _, _, rfl, ha, T.c_Crossing, T.n_Crossing_choice, fCrossing_choice .., rfl, _, rfl, ?_⟩
      cases o with
      | none =>
        obtain rfl : v = .non := hc
        refine iteI (decide_eq_true rfl) ?_
        exact ⟨by decide, fun p hp => k' _ _ ⟨Same.new hp, p, rfl, SqT.of upd_same⟩⟩
      | some c1 =>
        obtain ⟨ac, rfl, hc⟩ := hc
        refine iteN (fun e => nomatch (of_decide_eq_true e : V.ref ac = V.non)) ?_
        refine ⟨_, rfl, a, _, dx, _, _, rfl, ha, T.c_Crossing, T.n_Crossing_choice, fCrossing_choice .., ?_⟩
        exact ⟨c1, ⟨ac, rfl, hc⟩, ac, rfl, hc, fun p H1 s1 hp => k' _ _ ⟨s1, p, rfl, hp⟩⟩
    · obtain ⟨s1, p, rfl, hp⟩ := hx
      refine ⟨⟨_, rfl⟩, ?_⟩
      refine ⟨_, rfl, a, _, dx, _, _, rfl, s1 _ _ ha, T.c_Crossing, T.n_Crossing_name, fCrossing_name .., ?_⟩
      refine ⟨_, rfl, a, _, dx, _, _, rfl, s1 _ _ ha, T.c_Crossing, T.n_Crossing_one, fCrossing_one .., ?_⟩
      refine ⟨_, rfl, a, _, dx, _, _, rfl, s1 _ _ ha, T.c_Crossing, T.n_Crossing_other, fCrossing_other .., ?_⟩
      refine ⟨by show 4 ≤ sizeLine; decide, fun r hr => ?_⟩
      have s2 : Same H1 (upd H1 r (.tup [V.str "meet", V.str n, V.str b, V.str c])) := Same.new hr
      have h2 : SqT K (upd H1 r (.tup [V.str "meet", V.str n, V.str b, V.str c])) r [V.str "meet", V.str n, V.str b, V.str c] := SqT.of upd_same
      generalize upd H1 r (.tup [V.str "meet", V.str n, V.str b, V.str c]) = H2 at s2 h2 ⊢
      have wl := Stp.ok.ws_len ok
      refine ⟨_, rfl, r, p, _, _, rfl, rfl, h2, Same.t s2 hp, ?_, fun u H3 s3 hu => ?_⟩
      · rw [List.length_map]
        have e : (Stp.meet n b c o).ws.length = (chW o).length + 4 := rfl
        have := wl.2
        show 4 + _ ≤ _
        omega
      · exact ⟨" ", u, (Stp.meet n b c o).ws, rfl, rfl, .inr hu, join_small wl.1 (Nat.le_trans wl.2 (by decide)), kk _ (s1.trans (s2.trans s3))⟩
abbrev N_Use_row : List Str := ["self"]
theorem sc_Use_row : FnScope N_Use_row ["self"] (defScope s_Use_row) := ⟨rfl, rfl, rfl, by decide +kernel, rfl, by decide +kernel, by decide +kernel⟩
theorem ok_Use_row (T : Tx K mg) (k : List Int) (h0 : Str) (gs ns : List Str) : Runs P w K mg base 1 (He.ma K (He.ga K "Use") "row") (spRow K k (.use h0 gs ns)) := by
  obtain ⟨fd, F⟩ := T.d_Use_row
  have bd : Binds K fd ["self"] [] := F.bindsN fun _ _ _ _ _ _ us hl => match us, hl with | [_], _ => rfl
  refine runs_fn0 (F.ok sc_Use_row (fun vs H Q E h => ?_) (fun cdv A outer s H vs Q E hr h => ?_)) bd
  · obtain ⟨_, rfl, _⟩ := h
    rfl
  · obtain ⟨a, rfl, ⟨wy, g, m, ⟨dx, ha⟩, hw, hg, hm⟩, ok, kk⟩ := h
    have nd := sc_Use_row.nd
    refine ⟨_, PSs.nox (pss_one (ps_ret (pe_join pe_str (pe_op op_catS (pe_op op_catS (pe_op op_catS (pe_tup (pa_cons pe_str (pa_cons (pe_fld (pv 0) rfl) pa_nil))) (pe_fld (pv 0) rfl)) (pe_tup (pa_cons pe_str pa_nil))) (pe_fld (pv 0) rfl))))), ?_⟩
    obtain ⟨_, hl1, _, hl2⟩ := ok.us h0 gs ns rfl
    refine ⟨⟨_, rfl⟩, ?_⟩
    refine ⟨_, rfl, a, _, dx, _, _, rfl, ha, T.c_Use, T.n_Use_helper, fUse_helper .., ?_⟩
    refine ⟨by show 2 ≤ sizeLine; decide, fun r hr => ?_⟩
    have s1 : Same H (upd H r (.tup [V.str "use", V.str h0])) := Same.new hr
    have h1 : SqT K (upd H r (.tup [V.str "use", V.str h0])) r [V.str "use", V.str h0] := SqT.of upd_same
    generalize upd H r (.tup [V.str "use", V.str h0]) = H1 at s1 h1 ⊢
    refine ⟨_, rfl, a, _, dx, _, _, rfl, s1 _ _ ha, T.c_Use, T.n_Use_given, fUse_given .., ?_⟩
    refine ⟨r, g, _, _, rfl, rfl, h1, Same.t s1 hg, by rw [List.length_map]; show 2 + _ ≤ _; omega, fun t H2 s2 ht => ?_⟩
    refine ⟨by show 1 ≤ sizeLine; decide, fun r2 hr2 => ?_⟩
    have s3 : Same H2 (upd H2 r2 (.tup [V.str "as"])) := Same.new hr2
    have h3 : SqT K (upd H2 r2 (.tup [V.str "as"])) r2 [V.str "as"] := SqT.of upd_same
    generalize upd H2 r2 (.tup [V.str "as"]) = H3 at s3 h3 ⊢
    refine ⟨t, r2, _, _, rfl, rfl, Same.t s3 ht, h3, by rw [List.length_append, List.length_map]; show 2 + _ + 1 ≤ _; omega, fun t4 H4 s4 ht4 => ?_⟩
    refine ⟨_, rfl, a, _, dx, _, _, rfl, s4 _ _ (s3 _ _ (s2 _ _ (s1 _ _ ha))), T.c_Use, T.n_Use_names, fUse_names .., ?_⟩
    refine ⟨t4, m, _, _, rfl, rfl, ht4, Same.t s4 (Same.t s3 (Same.t s2 (Same.t s1 hm))), by rw [List.length_append, List.length_append, List.length_map, List.length_map]; show 2 + _ + 1 + _ ≤ _; omega, fun u H5 s5 hu => ?_⟩
    have wl := Stp.ok.ws_len ok
    refine ⟨" ", u, (Stp.use h0 gs ns).ws, rfl, rfl, .inr (SqT.cast hu ?_), join_small wl.1 (Nat.le_trans wl.2 (by decide)), kk _ (s1.trans (s2.trans (s3.trans (s4.trans s5))))⟩
    show ([V.str "use", V.str h0] ++ gs.map V.str ++ [V.str "as"]) ++ ns.map V.str = (("use" : Str) :: h0 :: (gs ++ ("as" : Str) :: ns)).map V.str
    simp
/-! ### renamed, by no names -/
abbrev N_Give_renamed : List Str := ["self", "way", "names"]
theorem sc_Give_renamed : FnScope N_Give_renamed ["self", "way", "names"] (defScope s_Give_renamed) := ⟨rfl, rfl, rfl, by decide +kernel, rfl, by decide +kernel, by decide +kernel⟩
theorem ok_Give_renamed (T : Tx K mg) (k : List Int) (n : Str) (x y : Fr) : Runs P w K mg base 4 (He.ma K (He.ga K "Give") "renamed") (spRen K k (.give n x y)) := by
  obtain ⟨fd, F⟩ := T.d_Give_renamed
  have bd : Binds K fd ["self", "way", "names"] [] := F.bindsN fun _ _ _ _ _ _ us hl => match us, hl with | [_, _, _], _ => rfl
  have G_put_otherwise := ok_put_otherwise (P := P) (w := w) (base := base) T
  have G_Give := ok_Give (P := P) (w := w) (base := base) T
  refine runs_fn0 (F.ok sc_Give_renamed (fun vs H Q E h => ?_) (fun cdv A outer s H vs Q E hr h => ?_)) bd
  · obtain ⟨_, _, _, _, rfl, _⟩ := h
    rfl
  · obtain ⟨a, wb, d, k2, rfl, ⟨wy, p, q, ⟨dx, ha⟩, hw, hp, hq⟩, hb, hd, ok, kk⟩ := h
    have nd := sc_Give_renamed.nd
    refine ⟨_, PSs.nox (pss_one (ps_ret (pe_gc G_Give hr (by decide) rfl (pa_cons (pv 1) (pa_cons (pe_gc G_put_otherwise hr (by decide) rfl (pa_cons (pe_fld (pv 0) rfl) (pa_cons (pv 2) pa_nil))) (pa_cons (pe_fld (pv 0) rfl) (pa_cons (pe_fld (pv 0) rfl) pa_nil))))))), ?_⟩
    refine ⟨_, rfl, ?_⟩
    refine ⟨_, rfl, a, _, dx, _, _, rfl, ha, T.c_Give, T.n_Give_name, fGive_name .., ?_⟩
    refine ⟨_, rfl, n, d, rfl, hd, ?_⟩
    refine ⟨_, rfl, a, _, dx, _, _, rfl, ha, T.c_Give, T.n_Give_x, fGive_x .., ?_⟩
    refine ⟨_, rfl, a, _, dx, _, _, rfl, ha, T.c_Give, T.n_Give_y, fGive_y .., ?_⟩
    exact ⟨_, _, _, _, _, rfl, .inr ⟨wb, rfl, .inr hb⟩, fun c H' s1 w' hi hw' => kk c H' s1 ⟨w', p, q, hi, hw', FracAt.sm T s1.sm hp, FracAt.sm T s1.sm hq⟩⟩
abbrev N_Through_renamed : List Str := ["self", "way", "names", "name", "first", "second", "one"]
theorem sc_Through_renamed : FnScope N_Through_renamed ["self", "way", "names"] (defScope s_Through_renamed) := ⟨rfl, rfl, rfl, by decide +kernel, rfl, by decide +kernel, by decide +kernel⟩
theorem ok_Through_renamed (T : Tx K mg) (k : List Int) (n b c : Str) : Runs P w K mg base 4 (He.ma K (He.ga K "Through") "renamed") (spRen K k (.line n b c)) := by
  obtain ⟨fd, F⟩ := T.d_Through_renamed
  have bd : Binds K fd ["self", "way", "names"] [] := F.bindsN fun _ _ _ _ _ _ us hl => match us, hl with | [_, _, _], _ => rfl
  have G_put_otherwise := ok_put_otherwise (P := P) (w := w) (base := base) T
  have G_Through := ok_Through (P := P) (w := w) (base := base) T
  refine runs_fn0 (F.ok sc_Through_renamed (fun vs H Q E h => ?_) (fun cdv A outer s H vs Q E hr h => ?_)) bd
  · obtain ⟨_, _, _, _, rfl, _⟩ := h
    rfl
  · obtain ⟨a, wb, d, k2, rfl, ⟨wy, ⟨dx, ha⟩, hw⟩, hb, hd, ok, kk⟩ := h
    have nd := sc_Through_renamed.nd
    refine ⟨_, PSs.nox (pss_cons (ps_asg (pe_lc (own := [("one", 6)]) (by rfl) nd (pi_tup (pe_tup (pa_cons (pe_fld (pv 0) rfl) (pa_cons (pe_fld (pv 0) rfl) (pa_cons (pe_fld (pv 0) rfl) pa_nil))))) (blkOk_by (N := N_Through_renamed) (sc := defScope s_Through_renamed) (by decide +kernel)) (fun _ _ _ _ _ => (pg_name (i := 6) nd rfl (Or.inl rfl))) (fun _ _ _ _ _ => pts_nil) (fun _ _ _ _ _ => (pe_gc G_put_otherwise hr (by decide) rfl (pa_cons (pv 6) (pa_cons (pv 2) pa_nil))))) (pg_unl rfl (pgs_cons (pg_name (i := 3) nd rfl (Or.inl rfl)) (pgs_cons (pg_name (i := 4) nd rfl (Or.inl rfl)) (pgs_cons (pg_name (i := 5) nd rfl (Or.inl rfl)) pgs_nil)))))
    (pss_one (ps_ret (pe_gc G_Through hr (by decide) rfl (pa_cons (pv 1) (pa_cons (pv 3) (pa_cons (pv 4) (pa_cons (pv 5) pa_nil)))))))), ?_⟩
    refine ⟨_, rfl, a, _, dx, _, _, rfl, ha, T.c_Through, T.n_Through_name, fThrough_name .., ?_⟩
    refine ⟨_, rfl, a, _, dx, _, _, rfl, ha, T.c_Through, T.n_Through_first, fThrough_first .., ?_⟩
    refine ⟨_, rfl, a, _, dx, _, _, rfl, ha, T.c_Through, T.n_Through_second, fThrough_second .., ?_⟩
    refine ⟨by show 3 ≤ sizeLine; decide, fun t ht => ⟨t, rfl, ⟨_, SqT.of upd_same⟩, ?_⟩⟩
    have s1 : Same H (upd H t (.tup [V.str n, V.str b, V.str c])) := Same.new ht
    have h1 : SqT K (upd H t (.tup [V.str n, V.str b, V.str c])) t [V.str n, V.str b, V.str c] := SqT.of upd_same
    generalize upd H t (.tup [V.str n, V.str b, V.str c]) = H1 at s1 h1 ⊢
    refine lc_fn (K := K) (walk_tup (K := K) (a := t) (xs := [V.str n, V.str b, V.str c])) [n, b, c] rfl (by show 3 ≤ 100000; decide) V.str (fun _ s => Same.t s h1) (fun i z x H2 H3 hi s2 y Nx kx => ?_) mono_name fun D H2 hD s2 ha2 => ?_
    · obtain ⟨rfl, hx⟩ := y
      have hx : ([n, b, c].map V.str)[i]? = some x := hx
      rw [List.getElem?_map, hi] at hx
      obtain rfl := Option.some.inj hx
      exact ⟨rfl, _, rfl, _, rfl, z, d, rfl, s2 _ _ (s1 _ _ hd), kx _ (Same.refl _)⟩
    refine ⟨D, _, rfl, SqL.of ha2, rfl, _, _, rfl, _, _, rfl, _, _, rfl, rfl, ?_⟩
    exact ⟨_, rfl, _, rfl, _, rfl, _, rfl, _, _, _, _, _, rfl, .inr ⟨wb, rfl, .inr (Same.t (s1.trans s2) hb)⟩, fun c' H' s3 w' hi hw' => kk c' H' (s1.trans (s2.trans s3)) ⟨w', hi, hw'⟩⟩
abbrev N_About_renamed : List Str := ["self", "way", "names", "name", "middle", "one", "word"]
theorem sc_About_renamed : FnScope N_About_renamed ["self", "way", "names"] (defScope s_About_renamed) := ⟨rfl, rfl, rfl, by decide +kernel, rfl, by decide +kernel, by decide +kernel⟩
theorem ok_About_renamed (T : Tx K mg) (k : List Int) (n b c : Str) (o : Option Str) : Runs P w K mg base 4 (He.ma K (He.ga K "About") "renamed") (spRen K k (.round n b c o)) := by
  obtain ⟨fd, F⟩ := T.d_About_renamed
  have bd : Binds K fd ["self", "way", "names"] [] := F.bindsN fun _ _ _ _ _ _ us hl => match us, hl with | [_, _, _], _ => rfl
  have G_put_otherwise := ok_put_otherwise (P := P) (w := w) (base := base) T
  have G_About := ok_About (P := P) (w := w) (base := base) T
  refine runs_fn0 (F.ok sc_About_renamed (fun vs H Q E h => ?_) (fun cdv A outer s H vs Q E hr h => ?_)) bd
  · obtain ⟨_, _, _, _, rfl, _⟩ := h
    rfl
  · obtain ⟨a, wb, d, k2, rfl, ⟨wy, ⟨dx, ha⟩, hw⟩, hb, hd, ok, kk⟩ := h
    have nd := sc_About_renamed.nd
    refine ⟨_, PSs.nox (pss_cons (ps_asg (pe_lc (own := [("word", 6)]) (by rfl) nd (pi_tup (pe_tup (pa_cons (pe_fld (pv 0) rfl) (pa_cons (pe_fld (pv 0) rfl) (pa_cons (pe_fld (pv 0) rfl) pa_nil))))) (blkOk_by (N := N_About_renamed) (sc := defScope s_About_renamed) (by decide +kernel)) (fun _ _ _ _ _ => (pg_name (i := 6) nd rfl (Or.inl rfl))) (fun _ _ _ _ _ => pts_nil) (fun _ _ _ _ _ => (pe_gc G_put_otherwise hr (by decide) rfl (pa_cons (pv 6) (pa_cons (pv 2) pa_nil))))) (pg_unl rfl (pgs_cons (pg_name (i := 3) nd rfl (Or.inl rfl)) (pgs_cons (pg_name (i := 4) nd rfl (Or.inl rfl)) (pgs_cons (pg_name (i := 5) nd rfl (Or.inl rfl)) pgs_nil)))))
    (pss_one (ps_ret (pe_gc G_About hr (by decide) rfl (pa_cons (pv 1) (pa_cons (pv 3) (pa_cons (pv 4) (pa_cons (pv 5) (pa_cons (pe_ifExp (pt_cmpR op_isN (pe_fld (pv 0) rfl) pe_non (nomark _)) pe_non (pe_gc G_put_otherwise hr (by decide) rfl (pa_cons (pe_fld (pv 0) rfl) (pa_cons (pv 2) pa_nil)))) pa_nil))))))))), ?_⟩
    refine ⟨_, rfl, a, _, dx, _, _, rfl, ha, T.c_About, T.n_About_name, fAbout_name .., ?_⟩
    refine ⟨_, rfl, a, _, dx, _, _, rfl, ha, T.c_About, T.n_About_middle, fAbout_middle .., ?_⟩
    refine ⟨_, rfl, a, _, dx, _, _, rfl, ha, T.c_About, T.n_About_one, fAbout_one .., ?_⟩
    refine ⟨by show 3 ≤ sizeLine; decide, fun t ht => ⟨t, rfl, ⟨_, SqT.of upd_same⟩, ?_⟩⟩
    have s1 : Same H (upd H t (.tup [V.str n, V.str b, V.str c])) := Same.new ht
    have h1 : SqT K (upd H t (.tup [V.str n, V.str b, V.str c])) t [V.str n, V.str b, V.str c] := SqT.of upd_same
    generalize upd H t (.tup [V.str n, V.str b, V.str c]) = H1 at s1 h1 ⊢
    refine lc_fn (K := K) (walk_tup (K := K) (a := t) (xs := [V.str n, V.str b, V.str c])) [n, b, c] rfl (by show 3 ≤ 100000; decide) V.str (fun _ s => Same.t s h1) (fun i z x H2 H3 hi s2 y Nx kx => ?_) mono_name fun D H2 hD s2 ha2 => ?_
    · obtain ⟨rfl, hx⟩ := y
      have hx : ([n, b, c].map V.str)[i]? = some x := hx
      rw [List.getElem?_map, hi] at hx
      obtain rfl := Option.some.inj hx
      exact ⟨rfl, _, rfl, _, rfl, z, d, rfl, s2 _ _ (s1 _ _ hd), kx _ (Same.refl _)⟩
    refine ⟨D, _, rfl, SqL.of ha2, rfl, _, _, rfl, _, _, rfl, _, _, rfl, rfl, ?_⟩
    refine ⟨_, rfl, _, rfl, _, rfl, _, rfl, ?_⟩
    have h2 := s2 _ _ (s1 _ _ ha)
    refine ⟨_, rfl, a, _, dx, _, _, rfl, h2, T.c_About, T.n_About_other, fAbout_other .., rfl, _, rfl, ?_⟩
    cases o with
    | none =>
      refine iteI (decide_eq_true rfl) ?_
      exact ⟨_, _, _, _, _, _, rfl, .inr ⟨wb, rfl, .inr (Same.t (s1.trans s2) hb)⟩, fun c' H' s3 w' hi hw' => kk c' H' (s1.trans (s2.trans s3)) ⟨w', hi, hw'⟩⟩
    | some o =>
      refine iteN (fun e => nomatch (of_decide_eq_true e : V.str o = V.non)) ?_
      refine ⟨_, rfl, a, _, dx, _, _, rfl, h2, T.c_About, T.n_About_other, fAbout_other .., ?_⟩
      exact ⟨_, rfl, o, d, rfl, s2 _ _ (s1 _ _ hd), _, _, _, _, _, _, rfl, .inr ⟨wb, rfl, .inr (Same.t (s1.trans s2) hb)⟩, fun c' H' s3 w' hi hw' => kk c' H' (s1.trans (s2.trans s3)) ⟨w', hi, hw'⟩⟩
abbrev N_Crossing_renamed : List Str := ["self", "way", "names", "name", "one", "other", "choice", "point", "word"]
theorem sc_Crossing_renamed : FnScope N_Crossing_renamed ["self", "way", "names"] (defScope s_Crossing_renamed) := ⟨rfl, rfl, rfl, by decide +kernel, rfl, by decide +kernel, by decide +kernel⟩
theorem ok_Crossing_renamed (T : Tx K mg) (k : List Int) (n b c : Str) (o : Option Ch) : Runs P w K mg base 5 (He.ma K (He.ga K "Crossing") "renamed") (spRen K k (.meet n b c o)) := by
  obtain ⟨fd, F⟩ := T.d_Crossing_renamed
  have bd : Binds K fd ["self", "way", "names"] [] := F.bindsN fun _ _ _ _ _ _ us hl => match us, hl with | [_, _, _], _ => rfl
  have G_put_otherwise := ok_put_otherwise (P := P) (w := w) (base := base) T
  have G_point_of := ok_point_of (P := P) (w := w) (base := base) T
  have G_with_point := ok_with_point (P := P) (w := w) (base := base) T
  have G_Crossing := ok_Crossing (P := P) (w := w) (base := base) T
  refine runs_fn0 (F.ok sc_Crossing_renamed (fun vs H Q E h => ?_) (fun cdv A outer s H vs Q E hr h => ?_)) bd
  · obtain ⟨_, _, _, _, rfl, _⟩ := h
    rfl
  · obtain ⟨a, wb, d, k2, rfl, ⟨wy, v, ⟨dx, ha⟩, hw, hc⟩, hb, hd, ok, kk⟩ := h
    have nd := sc_Crossing_renamed.nd
    refine ⟨_, PSs.nox (pss_cons (ps_asg (pe_lc (own := [("word", 8)]) (by rfl) nd (pi_tup (pe_tup (pa_cons (pe_fld (pv 0) rfl) (pa_cons (pe_fld (pv 0) rfl) (pa_cons (pe_fld (pv 0) rfl) pa_nil))))) (blkOk_by (N := N_Crossing_renamed) (sc := defScope s_Crossing_renamed) (by decide +kernel)) (fun _ _ _ _ _ => (pg_name (i := 8) nd rfl (Or.inl rfl))) (fun _ _ _ _ _ => pts_nil) (fun _ _ _ _ _ => (pe_gc G_put_otherwise hr (by decide) rfl (pa_cons (pv 8) (pa_cons (pv 2) pa_nil))))) (pg_unl rfl (pgs_cons (pg_name (i := 3) nd rfl (Or.inl rfl)) (pgs_cons (pg_name (i := 4) nd rfl (Or.inl rfl)) (pgs_cons (pg_name (i := 5) nd rfl (Or.inl rfl)) pgs_nil)))))
    (pss_cons (ps_set (i := 6) nd rfl (Or.inl rfl) (pe_fld (pv 0) rfl))
    (pss_cons (ps_for PassesOwn.never rfl (pi_tup (pe_gc G_point_of hr (by decide) rfl (pa_cons (pv 6) pa_nil))) (pg_name (i := 7) nd rfl (Or.inl rfl))
      (pss_one (ps_set (i := 6) nd rfl (Or.inl rfl) (pe_gc G_with_point hr (by decide) rfl (pa_cons (pv 6) (pa_cons (pe_gc G_put_otherwise hr (by decide) rfl (pa_cons (pv 7) (pa_cons (pv 2) pa_nil))) pa_nil))))))
    (pss_one (ps_ret (pe_gc G_Crossing hr (by decide) rfl (pa_cons (pv 1) (pa_cons (pv 3) (pa_cons (pv 4) (pa_cons (pv 5) (pa_cons (pv 6) pa_nil))))))))))), ?_⟩
    refine ⟨_, rfl, a, _, dx, _, _, rfl, ha, T.c_Crossing, T.n_Crossing_name, fCrossing_name .., ?_⟩
    refine ⟨_, rfl, a, _, dx, _, _, rfl, ha, T.c_Crossing, T.n_Crossing_one, fCrossing_one .., ?_⟩
    refine ⟨_, rfl, a, _, dx, _, _, rfl, ha, T.c_Crossing, T.n_Crossing_other, fCrossing_other .., ?_⟩
    refine ⟨by show 3 ≤ sizeLine; decide, fun t ht => ⟨t, rfl, ⟨_, SqT.of upd_same⟩, ?_⟩⟩
    have s1 : Same H (upd H t (.tup [V.str n, V.str b, V.str c])) := Same.new ht
    have h1 : SqT K (upd H t (.tup [V.str n, V.str b, V.str c])) t [V.str n, V.str b, V.str c] := SqT.of upd_same
    generalize upd H t (.tup [V.str n, V.str b, V.str c]) = H1 at s1 h1 ⊢
    refine lc_fn (K := K) (walk_tup (K := K) (a := t) (xs := [V.str n, V.str b, V.str c])) [n, b, c] rfl (by show 3 ≤ 100000; decide) V.str (fun _ s => Same.t s h1) (fun i z x H2 H3 hi s2 y Nx kx => ?_) mono_name fun D H2 hD s2 ha2 => ?_
    · obtain ⟨rfl, hx⟩ := y
      have hx : ([n, b, c].map V.str)[i]? = some x := hx
      rw [List.getElem?_map, hi] at hx
      obtain rfl := Option.some.inj hx
      exact ⟨rfl, _, rfl, _, rfl, z, d, rfl, s2 _ _ (s1 _ _ hd), kx _ (Same.refl _)⟩
    refine ⟨D, _, rfl, SqL.of ha2, rfl, _, _, rfl, _, _, rfl, _, _, rfl, rfl, ?_⟩
    have h2 := s2 _ _ (s1 _ _ ha)
    have c2 : ChO K H2 v o := ChO.sm T (s1.trans s2).sm hc
    refine ⟨_, rfl, a, _, dx, _, _, rfl, h2, T.c_Crossing, T.n_Crossing_choice, fCrossing_choice .., ?_⟩
    refine ⟨_, rfl, v, o, rfl, c2, fun t3 H3 s3 ht3 => ⟨t3, rfl, ⟨_, ht3⟩, ?_⟩⟩
    refine for_it (walk_tup (K := K) (a := t3) (xs := (chP o).map V.str)) (fun i σ H' => Same H3 H' ∧ ∃ (v' : V) (pt : Option V), σ = [some (.ref a), some (.ref wb), some (.ref d), some (.str n), some (.str b), some (.str c), some v', pt, none] ∧ ChO K H' v' o) ⟨Same.refl _, v, none, rfl, ChO.sm T s3.sm c2⟩ (fun i σ H' _ q => Same.t q.1 ht3) (fun i x σ H4 H5 hi q y => ?_) fun σ H4 q => ?_
    · obtain ⟨s4, v', pt, rfl, hc4⟩ := q
      obtain ⟨rfl, hx⟩ := y
      rw [List.getElem?_map] at hx
      obtain ⟨z, hz, rfl⟩ := Option.map_eq_some_iff.mp hx
      obtain ⟨c1, rfl⟩ : ∃ c1, o = some c1 := by
        cases o with
        | none => exact absurd hz (by simp [chP])
        | some c1 => exact ⟨c1, rfl⟩
      obtain ⟨ac, rfl, hc5⟩ := hc4
      have hp : c1.pts = [z] := by
        have hz : c1.pts[i]? = some z := hz
        cases c1 <;> cases i <;> simp_all [Ch.pts]
      refine ⟨_, rfl, _, rfl, _, rfl, z, d, rfl, s4 _ _ (s3 _ _ (s2 _ _ (s1 _ _ hd))), ac, z, c1, rfl, hc5, hp, fun q H6 s6 hq => ?_⟩
      exact ⟨s4.trans s6, _, _, rfl, q, rfl, hq⟩
    · obtain ⟨s4, v', pt, rfl, hc4⟩ := q
      exact ⟨_, rfl, _, rfl, _, rfl, _, rfl, _, rfl, _, _, _, _, _, _, rfl, .inr ⟨wb, rfl, .inr (Same.t (s1.trans (s2.trans (s3.trans s4))) hb)⟩, fun c' H' s5 w' hi hw' => kk c' H' (s1.trans (s2.trans (s3.trans (s4.trans s5)))) ⟨w', v', hi, hw', ChO.sm T s5.sm hc4⟩⟩
abbrev N_Use_renamed : List Str := ["self", "way", "names", "given", "name"]
theorem sc_Use_renamed : FnScope N_Use_renamed ["self", "way", "names"] (defScope s_Use_renamed) := ⟨rfl, rfl, rfl, by decide +kernel, rfl, by decide +kernel, by decide +kernel⟩
theorem ok_Use_renamed (T : Tx K mg) (k : List Int) (h0 : Str) (gs ns : List Str) : Runs P w K mg base 4 (He.ma K (He.ga K "Use") "renamed") (spRen K k (.use h0 gs ns)) := by
  obtain ⟨fd, F⟩ := T.d_Use_renamed
  have bd : Binds K fd ["self", "way", "names"] [] := F.bindsN fun _ _ _ _ _ _ us hl => match us, hl with | [_, _, _], _ => rfl
  have G_put_otherwise := ok_put_otherwise (P := P) (w := w) (base := base) T
  have G_Use := ok_Use (P := P) (w := w) (base := base) T
  refine runs_fn0 (F.ok sc_Use_renamed (fun vs H Q E h => ?_) (fun cdv A outer s H vs Q E hr h => ?_)) bd
  · obtain ⟨_, _, _, _, rfl, _⟩ := h
    rfl
  · obtain ⟨a, wb, d, k2, rfl, ⟨wy, g, m, ⟨dx, ha⟩, hw, hg, hm⟩, hb, hd, ok, kk⟩ := h
    have nd := sc_Use_renamed.nd
    refine ⟨_, PSs.nox (pss_cons (ps_setLc (i := 3) (own := [("name", 4)]) (by rfl) nd rfl rfl (sw_true rfl rfl rfl (by decide +kernel)) (pi_tup (pe_fld (pv 0) rfl)) (blkOk_by (N := N_Use_renamed) (sc := defScope s_Use_renamed) (by decide +kernel)) (fun _ _ _ _ _ => (pg_name (i := 4) nd rfl (Or.inl rfl))) (fun _ _ _ _ _ => pts_nil) (fun _ _ _ _ _ => (pe_gc G_put_otherwise hr (by decide) rfl (pa_cons (pv 4) (pa_cons (pv 2) pa_nil)))))
    (pss_one (ps_ret (pe_gc G_Use hr (by decide) rfl (pa_cons (pv 1) (pa_cons (pe_fld (pv 0) rfl) (pa_cons (pv 3) (pa_cons (pe_lc (own := [("name", 4)]) (by rfl) nd (pi_tup (pe_fld (pv 0) rfl)) (blkOk_by (N := N_Use_renamed) (sc := defScope s_Use_renamed) (by decide +kernel)) (fun _ _ _ _ _ => (pg_name (i := 4) nd rfl (Or.inl rfl))) (fun _ _ _ _ _ => pts_nil) (fun _ _ _ _ _ => (pe_gc G_put_otherwise hr (by decide) rfl (pa_cons (pv 4) (pa_cons (pv 2) pa_nil))))) pa_nil)))))))), ?_⟩
    obtain ⟨_, hl1, _, hl2⟩ := ok.us h0 gs ns rfl
    refine ⟨_, rfl, a, _, dx, _, _, rfl, ha, T.c_Use, T.n_Use_given, fUse_given .., ?_⟩
    refine ⟨g, rfl, ⟨_, hg⟩, ?_⟩
    refine lc_fn (K := K) (walk_tup (K := K) (a := g) (xs := gs.map V.str)) gs (by simp) (by omega) V.str (fun _ s => Same.t s (hg)) (fun i z x H2 H3 hi s2 y Nx kx => ?_) mono_name fun D5 G5 hD5 s5 ha5 => ?_
    · obtain ⟨rfl, hx⟩ := y
      rw [List.getElem?_map, hi] at hx
      obtain rfl := Option.some.inj hx
      exact ⟨rfl, _, rfl, _, rfl, z, d, rfl, s2 _ _ (hd), kx _ (Same.refl _)⟩
    refine ⟨_, rfl, ?_⟩
    refine ⟨_, rfl, a, _, dx, _, _, rfl, s5 _ _ ha, T.c_Use, T.n_Use_helper, fUse_helper .., ?_⟩
    refine ⟨_, rfl, ?_⟩
    refine ⟨_, rfl, a, _, dx, _, _, rfl, s5 _ _ ha, T.c_Use, T.n_Use_names, fUse_names .., ?_⟩
    refine ⟨m, rfl, ⟨_, Same.t s5 hm⟩, ?_⟩
    refine lc_fn (K := K) (walk_tup (K := K) (a := m) (xs := ns.map V.str)) ns (by simp) (by omega) V.str (fun _ s => Same.t s (Same.t s5 hm)) (fun i z x H2 H3 hi s2 y Nx kx => ?_) mono_name fun D6 G6 hD6 s6 ha6 => ?_
    · obtain ⟨rfl, hx⟩ := y
      rw [List.getElem?_map, hi] at hx
      obtain rfl := Option.some.inj hx
      exact ⟨rfl, _, rfl, _, rfl, z, d, rfl, s2 _ _ (s5 _ _ hd), kx _ (Same.refl _)⟩
    exact ⟨_, _, _, _, _, _, _, rfl, .inr ⟨wb, rfl, .inr (Same.t (s5.trans s6) hb)⟩, .inl (SqL.of (s6 _ _ ha5)), .inl (SqL.of ha6), fun c' H' s7 w' g' m' hi hw' hg' hm' => kk c' H' (s5.trans (s6.trans s7)) ⟨w', g', m', hi, hw', hg', hm'⟩⟩
theorem runs_mono {f : Addr} {sp : S1} {i j : Nat} (h : i ≤ j) (R : Runs P w K mg base i f sp) : Runs P w K mg base j f sp := fun X e1 e2 e3 e4 e5 hr => R X e1 e2 e3 e4 e5 (hr.mono h)
/-! ### by any step -/
theorem ok_told (T : Tx K mg) : VM P w K mg base 2 "told" (rcSt K) (fun i => spTold K i.1 i.2) := by
  refine ⟨fun i x H h => ?_⟩
  obtain ⟨k, s⟩ := i
  obtain ⟨a, rfl, ha⟩ := h
  cases s with
  | give n x y =>
    have ha0 := ha
    obtain ⟨wy, p, q, ⟨dx, e⟩, r⟩ := ha
    exact ⟨a, _, dx, _, _, rfl, e, fGive_no_told .., T.c_Give, T.m_Give_told, (runs_mono (by decide) (ok_Give_told T k n x y)).imp fun vs H' Q h => h.elim fun _ h => h.2⟩
  | line n b c =>
    have ha0 := ha
    obtain ⟨wy, ⟨dx, e⟩, r⟩ := ha
    exact ⟨a, _, dx, _, _, rfl, e, fThrough_no_told .., T.c_Through, T.m_Through_told, (runs_mono (by decide) (ok_Through_told T k n b c)).imp fun vs H' Q h => h.elim fun _ h => h.2⟩
  | round n b c o =>
    have ha0 := ha
    obtain ⟨wy, ⟨dx, e⟩, r⟩ := ha
    exact ⟨a, _, dx, _, _, rfl, e, fAbout_no_told .., T.c_About, T.m_About_told, (runs_mono (by decide) (ok_About_told T k n b c o)).imp fun vs H' Q h => h.elim fun _ h => h.2⟩
  | meet n b c o =>
    have ha0 := ha
    obtain ⟨wy, v, ⟨dx, e⟩, r⟩ := ha
    exact ⟨a, _, dx, _, _, rfl, e, fCrossing_no_told .., T.c_Crossing, T.m_Crossing_told, (runs_mono (by decide) (ok_Crossing_told T k n b c o)).imp fun vs H' Q h => h.elim fun _ h => h.2⟩
  | use h0 gs ns =>
    have ha0 := ha
    obtain ⟨wy, g, m, ⟨dx, e⟩, r⟩ := ha
    exact ⟨a, _, dx, _, _, rfl, e, fUse_no_told .., T.c_Use, T.m_Use_told, (runs_mono (by decide) (ok_Use_told T k h0 gs ns)).imp fun vs H' Q h => h.elim fun _ h => h.2⟩
theorem ok_asks (T : Tx K mg) : VM P w K mg base 3 "asks" (rcSt K) (fun i => spAsk K i.1 i.2) := by
  refine ⟨fun i x H h => ?_⟩
  obtain ⟨k, s⟩ := i
  obtain ⟨a, rfl, ha⟩ := h
  cases s with
  | give n x y =>
    have ha0 := ha
    obtain ⟨wy, p, q, ⟨dx, e⟩, r⟩ := ha
    exact ⟨a, _, dx, _, _, rfl, e, fGive_no_asks .., T.c_Give, T.m_Give_asks, (runs_mono (by decide) (ok_Give_asks T k n x y)).imp fun vs H' Q h => h.elim fun _ h => h.2⟩
  | line n b c =>
    have ha0 := ha
    obtain ⟨wy, ⟨dx, e⟩, r⟩ := ha
    exact ⟨a, _, dx, _, _, rfl, e, fThrough_no_asks .., T.c_Through, T.m_Through_asks, (runs_mono (by decide) (ok_Through_asks T k n b c)).imp fun vs H' Q h => h.elim fun _ h => h.2⟩
  | round n b c o =>
    have ha0 := ha
    obtain ⟨wy, ⟨dx, e⟩, r⟩ := ha
    exact ⟨a, _, dx, _, _, rfl, e, fAbout_no_asks .., T.c_About, T.m_About_asks, (runs_mono (by decide) (ok_About_asks T k n b c o)).imp fun vs H' Q h => h.elim fun _ h => h.2⟩
  | meet n b c o =>
    have ha0 := ha
    obtain ⟨wy, v, ⟨dx, e⟩, r⟩ := ha
    exact ⟨a, _, dx, _, _, rfl, e, fCrossing_no_asks .., T.c_Crossing, T.m_Crossing_asks, (runs_mono (by decide) (ok_Crossing_asks T k n b c o)).imp fun vs H' Q h => h.elim fun _ h => h.2⟩
  | use h0 gs ns =>
    have ha0 := ha
    obtain ⟨wy, g, m, ⟨dx, e⟩, r⟩ := ha
    exact ⟨a, _, dx, _, _, rfl, e, fUse_no_asks .., T.c_Use, T.m_Use_asks, (runs_mono (by decide) (ok_Use_asks T k h0 gs ns)).imp fun vs H' Q h => h.elim fun _ h => h.2⟩
theorem ok_makes (T : Tx K mg) : VM P w K mg base 1 "makes" (rcSt K) (fun i => spMk K i.1 i.2) := by
  refine ⟨fun i x H h => ?_⟩
  obtain ⟨k, s⟩ := i
  obtain ⟨a, rfl, ha⟩ := h
  cases s with
  | give n x y =>
    have ha0 := ha
    obtain ⟨wy, p, q, ⟨dx, e⟩, r⟩ := ha
    exact ⟨a, _, dx, _, _, rfl, e, fGive_no_makes .., T.c_Give, T.m_Give_makes, (runs_mono (by decide) (ok_Give_makes T k n x y)).imp fun vs H' Q h => h.elim fun _ h => h.2⟩
  | line n b c =>
    have ha0 := ha
    obtain ⟨wy, ⟨dx, e⟩, r⟩ := ha
    exact ⟨a, _, dx, _, _, rfl, e, fThrough_no_makes .., T.c_Through, T.m_Through_makes, (runs_mono (by decide) (ok_Through_makes T k n b c)).imp fun vs H' Q h => h.elim fun _ h => h.2⟩
  | round n b c o =>
    have ha0 := ha
    obtain ⟨wy, ⟨dx, e⟩, r⟩ := ha
    exact ⟨a, _, dx, _, _, rfl, e, fAbout_no_makes .., T.c_About, T.m_About_makes, (runs_mono (by decide) (ok_About_makes T k n b c o)).imp fun vs H' Q h => h.elim fun _ h => h.2⟩
  | meet n b c o =>
    have ha0 := ha
    obtain ⟨wy, v, ⟨dx, e⟩, r⟩ := ha
    exact ⟨a, _, dx, _, _, rfl, e, fCrossing_no_makes .., T.c_Crossing, T.m_Crossing_makes, (runs_mono (by decide) (ok_Crossing_makes T k n b c o)).imp fun vs H' Q h => h.elim fun _ h => h.2⟩
  | use h0 gs ns =>
    have ha0 := ha
    obtain ⟨wy, g, m, ⟨dx, e⟩, r⟩ := ha
    exact ⟨a, _, dx, _, _, rfl, e, fUse_no_makes .., T.c_Use, T.m_Use_makes, (runs_mono (by decide) (ok_Use_makes T k h0 gs ns)).imp fun vs H' Q h => h.elim fun _ h => h.2⟩
theorem ok_row (T : Tx K mg) : VM P w K mg base 2 "row" (rcSt K) (fun i => spRow K i.1 i.2) := by
  refine ⟨fun i x H h => ?_⟩
  obtain ⟨k, s⟩ := i
  obtain ⟨a, rfl, ha⟩ := h
  cases s with
  | give n x y =>
    have ha0 := ha
    obtain ⟨wy, p, q, ⟨dx, e⟩, r⟩ := ha
    exact ⟨a, _, dx, _, _, rfl, e, fGive_no_row .., T.c_Give, T.m_Give_row, (runs_mono (by decide) (ok_Give_row T k n x y)).imp fun vs H' Q h => h.elim fun _ h => h.2⟩
  | line n b c =>
    have ha0 := ha
    obtain ⟨wy, ⟨dx, e⟩, r⟩ := ha
    exact ⟨a, _, dx, _, _, rfl, e, fThrough_no_row .., T.c_Through, T.m_Through_row, (runs_mono (by decide) (ok_Through_row T k n b c)).imp fun vs H' Q h => h.elim fun _ h => h.2⟩
  | round n b c o =>
    have ha0 := ha
    obtain ⟨wy, ⟨dx, e⟩, r⟩ := ha
    exact ⟨a, _, dx, _, _, rfl, e, fAbout_no_row .., T.c_About, T.m_About_row, (runs_mono (by decide) (ok_About_row T k n b c o)).imp fun vs H' Q h => h.elim fun _ h => h.2⟩
  | meet n b c o =>
    have ha0 := ha
    obtain ⟨wy, v, ⟨dx, e⟩, r⟩ := ha
    exact ⟨a, _, dx, _, _, rfl, e, fCrossing_no_row .., T.c_Crossing, T.m_Crossing_row, (runs_mono (by decide) (ok_Crossing_row T k n b c o)).imp fun vs H' Q h => h.elim fun _ h => h.2⟩
  | use h0 gs ns =>
    have ha0 := ha
    obtain ⟨wy, g, m, ⟨dx, e⟩, r⟩ := ha
    exact ⟨a, _, dx, _, _, rfl, e, fUse_no_row .., T.c_Use, T.m_Use_row, (runs_mono (by decide) (ok_Use_row T k h0 gs ns)).imp fun vs H' Q h => h.elim fun _ h => h.2⟩
theorem ok_renamed (T : Tx K mg) : VM P w K mg base 5 "renamed" (rcSt K) (fun i => spRen K i.1 i.2) := by
  refine ⟨fun i x H h => ?_⟩
  obtain ⟨k, s⟩ := i
  obtain ⟨a, rfl, ha⟩ := h
  cases s with
  | give n x y =>
    have ha0 := ha
    obtain ⟨wy, p, q, ⟨dx, e⟩, r⟩ := ha
    exact ⟨a, _, dx, _, _, rfl, e, fGive_no_renamed .., T.c_Give, T.m_Give_renamed, (runs_mono (by decide) (ok_Give_renamed T k n x y)).imp fun vs H' Q h => h.elim fun _ h => h.2⟩
  | line n b c =>
    have ha0 := ha
    obtain ⟨wy, ⟨dx, e⟩, r⟩ := ha
    exact ⟨a, _, dx, _, _, rfl, e, fThrough_no_renamed .., T.c_Through, T.m_Through_renamed, (runs_mono (by decide) (ok_Through_renamed T k n b c)).imp fun vs H' Q h => h.elim fun _ h => h.2⟩
  | round n b c o =>
    have ha0 := ha
    obtain ⟨wy, ⟨dx, e⟩, r⟩ := ha
    exact ⟨a, _, dx, _, _, rfl, e, fAbout_no_renamed .., T.c_About, T.m_About_renamed, (runs_mono (by decide) (ok_About_renamed T k n b c o)).imp fun vs H' Q h => h.elim fun _ h => h.2⟩
  | meet n b c o =>
    have ha0 := ha
    obtain ⟨wy, v, ⟨dx, e⟩, r⟩ := ha
    exact ⟨a, _, dx, _, _, rfl, e, fCrossing_no_renamed .., T.c_Crossing, T.m_Crossing_renamed, (runs_mono (by decide) (ok_Crossing_renamed T k n b c o)).imp fun vs H' Q h => h.elim fun _ h => h.2⟩
  | use h0 gs ns =>
    have ha0 := ha
    obtain ⟨wy, g, m, ⟨dx, e⟩, r⟩ := ha
    exact ⟨a, _, dx, _, _, rfl, e, fUse_no_renamed .., T.c_Use, T.m_Use_renamed, (runs_mono (by decide) (ok_Use_renamed T k h0 gs ns)).imp fun vs H' Q h => h.elim fun _ h => h.2⟩
end
end Rod
set_option Elab.async false
set_option linter.all false
set_option maxRecDepth 100000
set_option maxHeartbeats 4000000
namespace Rod
open PySem PySem.Spec PyProof.Rows L2 TL
section
variable {X : Cx}
theorem ip_ext : PIp X .Add rExt2 := iop_ext
def rCountS (K : PySem.W.Frag) : V → List V → Hp → VK → Prop := fun x xs H Q => ∃ (p : Addr) (ns : List Str) (z : Str), x = .ref p ∧ xs = [.str z] ∧ SqL K H p (ns.map V.str) ∧ Q (.int ((ns.countP fun y => y == z : Nat) : Int)) H
theorem flats_all (ys : List Str) : (ys.map V.str).all flatV = true := by
  rw [List.all_map]
  exact List.all_eq_true.mpr fun _ _ => rfl
theorem count_vals {z : Str} : ∀ {ns : List Str} {us : List Value}, Vals (ns.map V.str) us → us.countP (eqU (.str z)) = ns.countP fun y => y == z
  | [], _, r => by
    cases r
    rfl
  | n :: ns, _, r => by
    cases r with
    | cons ru rr =>
      rw [List.countP_cons, List.countP_cons, count_vals rr, eqU_of ru rfl]
      rfl
theorem mt_countS : MtR X "list.count" (rCountS X.K) := by
  intro pins s σ H x xs v us Q I rx rxs h
  obtain ⟨p, ns, z, rfl, rfl, hs, q⟩ := h
  cases rx
  obtain ⟨u, rfl, ru⟩ := rxs.one
  obtain ⟨its, rv, ⟨⟨cls, dd, data, sl⟩, n, ho, hc, hdn, hd⟩, hlen⟩ := I.list hs
  simp only at hc hd
  subst hc hd
  refine call_meets PySem.F.slot_list_count ⟨_, ho, rfl⟩ PySem.F.entry_list_count (PySem.F.args_list_count_2 _ _)
    (SeqAt.list_countAt p its.toArray n dd sl u (eqU (.str z))) ⟨ho, fun y hy => mem_eqAt ru rfl rv (flats_all ns) y (by simpa using hy), ?_⟩
  have ec : its.toArray.toList.countP (eqU (.str z)) = ns.countP fun y => y == z := count_vals rv
  refine ⟨.int ((ns.countP fun y => y == z : Nat) : Int), H, I.tok _, ⟨s.toks, ?_⟩, q⟩
  show Value.int ((its.toArray.toList.countP (eqU (.str z)) : Nat) : Int) s.toks = _
  rw [ec]
end
end Rod
set_option Elab.async false
set_option linter.all false
set_option maxRecDepth 100000
set_option maxHeartbeats 4000000
namespace Rod
open PySem PySem.Spec PyProof.Rows L2 TL
/-! ### steps and parts with their ways -/
def wst : Int → List Stp → List StI
  | _, [] => []
  | k, s :: r => ([k], s) :: wst (k + 1) r
abbrev PtI : Type := Int × Prt
def wpt : Int → List Prt → List PtI
  | _, [] => []
  | k, p :: r => (k, p) :: wpt (k + p.nl) r
theorem wst_len : ∀ (ss : List Stp) (k : Int), (wst k ss).length = ss.length
  | [], _ => rfl
  | s :: r, k => congrArg Nat.succ (wst_len r (k + 1))
theorem wpt_len : ∀ (ss : List Prt) (k : Int), (wpt k ss).length = ss.length
  | [], _ => rfl
  | s :: r, k => congrArg Nat.succ (wpt_len r (k + s.nl))
theorem wst_snd : ∀ (ss : List Stp) (k : Int), (wst k ss).map Prod.snd = ss
  | [], _ => rfl
  | s :: r, k => congrArg (List.cons s) (wst_snd r (k + 1))
theorem wpt_snd : ∀ (ss : List Prt) (k : Int), (wpt k ss).map Prod.snd = ss
  | [], _ => rfl
  | s :: r, k => congrArg (List.cons s) (wpt_snd r (k + s.nl))
theorem wst_tds : ∀ (ss : List Stp) (k : Int), (wst k ss).map (fun d => d.2.td (dW d.1)) = tds k ss
  | [], _ => rfl
  | s :: r, k => congrArg (List.cons _) (wst_tds r (k + 1))
theorem wpt_ptds : ∀ (ss : List Prt) (k : Int), (wpt k ss).map (fun d => d.2.td d.1) = ptds k ss
  | [], _ => rfl
  | s :: r, k => congrArg (List.cons _) (wpt_ptds r (k + s.nl))
/-! ### lengths -/
theorem joinL_len (S : List Nat) : ∀ ps : List (List Nat), (joinL S ps).length ≤ (ps.map fun p => p.length + S.length).sum
  | [] => Nat.le_refl _
  | [p] => by
    show p.length ≤ p.length + S.length + 0
    omega
  | p :: q :: r => by
    show (p ++ (S ++ joinL S (q :: r))).length ≤ (p.length + S.length) + ((q :: r).map fun p => p.length + S.length).sum
    have := joinL_len S (q :: r)
    rw [List.length_append, List.length_append]
    omega
theorem sum_map_le {α : Type} {f : α → Nat} {b : Nat} : ∀ {l : List α}, (∀ x ∈ l, f x ≤ b) → (l.map f).sum ≤ b * l.length
  | [], _ => Nat.le_refl _
  | x :: r, h => by
    have h1 := h x List.mem_cons_self
    have h2 := sum_map_le (l := r) fun z hz => h z (List.mem_cons_of_mem _ hz)
    rw [List.map_cons, List.sum_cons, List.length_cons, Nat.mul_succ]
    omega
theorem rowT_len {ws : List Str} (h : ∀ z ∈ ws, z.length ≤ 200) (hl : ws.length ≤ 20) : (rowT ws).length ≤ 4020 := by
  rw [len_tl, rowT_tl]
  refine Nat.le_trans (joinL_len _ _) ?_
  rw [List.map_map]
  have := sum_map_le (l := ws) (f := (fun p : List Nat => p.length + [32].length) ∘ tl) (b := 201) fun z hz => by
    have := h z hz
    rw [len_tl] at this
    show (tl z).length + 1 ≤ 201
    omega
  omega
def Ln.ok : Ln → Prop
  | .stp s => s.ok
  | .head n ps as => Pl n ∧ (∀ p ∈ ps, Pl p) ∧ (∀ p ∈ as, Pl p) ∧ ps ≠ [] ∧ ps.length ≤ 4 ∧ as ≠ [] ∧ as.length ≤ 3
  | .fin => True
theorem Ln.ok.ws_len {l : Ln} (h : l.ok) : (∀ z ∈ l.ws, z.length ≤ 200) ∧ l.ws.length ≤ 20 := by
  cases l with
  | stp s => exact Stp.ok.ws_len h
  | fin => exact ⟨fun z hz => by rw [List.mem_singleton.mp hz]; exact kL _, by show 1 ≤ 20; decide⟩
  | head n ps as =>
    obtain ⟨h1, h2, h3, _, h4, _, h5⟩ := h
    refine ⟨fun z hz => ?_, ?_⟩
    · rcases List.mem_cons.mp hz with e | hz
      · rw [e]; exact kL _
      rcases List.mem_cons.mp hz with e | hz
      · rw [e]; exact h1.nm.l
      rcases List.mem_append.mp hz with hz | hz
      · exact (h2 z hz).nm.l
      rcases List.mem_cons.mp hz with e | hz
      · rw [e]; exact kL _
      · exact (h3 z hz).nm.l
    · show (ps ++ ("gives" : Str) :: as).length + 2 ≤ 20
      rw [List.length_append, List.length_cons]
      omega
theorem Ln.ok.row_len {l : Ln} (h : l.ok) : l.row.length ≤ 4020 := rowT_len h.ws_len.1 h.ws_len.2
theorem Prt.ok.lns {p : Prt} (h : p.ok) : ∀ l ∈ p.lns, l.ok := by
  cases p with
  | stp s => exact fun l hl => by rw [List.mem_singleton.mp hl]; exact h
  | hlp n ps as ss =>
    intro l hl
    obtain ⟨h1, h2, h3, h4, h5, h6, h7, h8, h9⟩ := (h : Prt.hok n ps as ss)
    rcases List.mem_cons.mp hl with e | hl
    · rw [e]; exact ⟨h1, h2, h3, h4, h5, h6, h7⟩
    rcases List.mem_append.mp hl with hl | hl
    · obtain ⟨s, hs, rfl⟩ := List.mem_map.mp hl
      exact (h9 s hs).1
    · rw [List.mem_singleton.mp hl]; trivial
theorem lines_ok {ps : List Prt} (h : ∀ p ∈ ps, p.ok) : ∀ l ∈ lines ps, l.ok := fun l hl => by
  obtain ⟨p, hp, hl⟩ := List.mem_flatMap.mp hl
  exact (h p hp).lns l hl
theorem Prt.ok.nl_le {p : Prt} (h : p.ok) : p.nl ≤ 7 := by
  cases p with
  | stp s =>
    show 1 ≤ 7
    decide
  | hlp n ps as ss =>
    have := (h : Prt.hok n ps as ss).sl
    show ss.length + 2 ≤ 7
    omega
theorem lines_len {ps : List Prt} (h : ∀ p ∈ ps, p.ok) : (lines ps).length ≤ 7 * ps.length := by
  induction ps with
  | nil => exact Nat.le_refl _
  | cons p r ih =>
    have h1 := (h p List.mem_cons_self).nl_le
    have h2 := ih fun q hq => h q (List.mem_cons_of_mem _ hq)
    rw [lines_cons, List.length_append, Prt.lns_len, List.length_cons]
    omega
section
variable {P : Program} {w : World} {K : PySem.W.Frag} {mg : Str → Option Value} {base : Heap} {H : Hp}
theorem StepsAt.ww : ∀ {ss : List Stp} {as : List Addr} {k : Int}, StepsAt K H as k ss → ∀ (i : Nat) (d : StI), (wst k ss)[i]? = some d → ∃ a, as[i]? = some a ∧ StepAt K H a d.1 d.2
  | [], _, _, _, i, d, e => by simp [wst] at e
  | s :: r, _, k, h, 0, d, e => by
    obtain ⟨a, bs, rfl, q, r⟩ := h
    simp [wst] at e
    subst e
    exact ⟨a, rfl, q⟩
  | s :: r, _, k, h, i + 1, d, e => by
    obtain ⟨a, bs, rfl, q, r⟩ := h
    simp [wst] at e
    obtain ⟨b, h1, h2⟩ := StepsAt.ww r i d e
    exact ⟨b, by simpa using h1, h2⟩
theorem PartsAt.ww : ∀ {ss : List Prt} {as : List Addr} {k : Int}, PartsAt K H as k ss → ∀ (i : Nat) (d : PtI), (wpt k ss)[i]? = some d → ∃ a, as[i]? = some a ∧ PartAt K H a d.1 d.2
  | [], _, _, _, i, d, e => by simp [wpt] at e
  | s :: r, _, k, h, 0, d, e => by
    obtain ⟨a, bs, rfl, q, r⟩ := h
    simp [wpt] at e
    subst e
    exact ⟨a, rfl, q⟩
  | s :: r, _, k, h, i + 1, d, e => by
    obtain ⟨a, bs, rfl, q, r⟩ := h
    simp [wpt] at e
    obtain ⟨b, h1, h2⟩ := PartsAt.ww r i d e
    exact ⟨b, by simpa using h1, h2⟩
theorem PartsAt.len : ∀ {ss : List Prt} {as : List Addr} {k : Int}, PartsAt K H as k ss → as.length = ss.length
  | [], _, _, h => by rw [show _ = _ from h]; rfl
  | _ :: _, _, _, h => by
    obtain ⟨a, bs, rfl, q, r⟩ := h
    exact congrArg Nat.succ (PartsAt.len r)
theorem _root_.L2.Same.back {H H' : Hp} {a : Addr} (s : Same H H') (h : H' a = none) : H a = none := by
  cases e : H a with
  | none => rfl
  | some o => exact absurd (s _ _ e) (by rw [h]; simp)
theorem paired_dta {α : Type} {f : α → PyData} : ∀ {ds : List α} {acc : List V}, Paired (fun d v => Dt K H v (f d)) ds acc → DtA K H acc (ds.map f)
  | _, _, .nil => dta_nil
  | _, _, .cons h r => dta_cons h (paired_dta r)
theorem isi_step (T : Tx K mg) {a : Addr} {k : List Int} {s : Stp} (h : StepAt K H a k s) : ∃ t, TyX K H (.ref a) t ∧ PySem.W.kitOne K t (.ref (He.ga K "Step")) = some true ∧ PySem.W.kitOne K t (.ref (He.ga K "Helper")) = some false ∧
    PySem.W.kitOne K t (.ref (He.ga K "Give")) = some s.isGive := by
  cases s with
  | give n x y =>
    obtain ⟨w, p, q, ⟨dx, e⟩, _⟩ := h
    obtain ⟨i1, i2, i3, i4⟩ := T.isi "Give"
    exact ⟨_, .base (.ins e T.c_Give i1 i2 i3 i4), T.kit "Give"⟩
  | line n b c =>
    obtain ⟨w, ⟨dx, e⟩, _⟩ := h
    obtain ⟨i1, i2, i3, i4⟩ := T.isi "Through"
    exact ⟨_, .base (.ins e T.c_Through i1 i2 i3 i4), T.kit "Through"⟩
  | round n b c o =>
    obtain ⟨w, ⟨dx, e⟩, _⟩ := h
    obtain ⟨i1, i2, i3, i4⟩ := T.isi "About"
    exact ⟨_, .base (.ins e T.c_About i1 i2 i3 i4), T.kit "About"⟩
  | meet n b c o =>
    obtain ⟨w, v, ⟨dx, e⟩, _⟩ := h
    obtain ⟨i1, i2, i3, i4⟩ := T.isi "Crossing"
    exact ⟨_, .base (.ins e T.c_Crossing i1 i2 i3 i4), T.kit "Crossing"⟩
  | use h0 gs ns =>
    obtain ⟨w, g, m, ⟨dx, e⟩, _⟩ := h
    obtain ⟨i1, i2, i3, i4⟩ := T.isi "Use"
    exact ⟨_, .base (.ins e T.c_Use i1 i2 i3 i4), T.kit "Use"⟩
theorem isi_help (T : Tx K mg) {a dx : Addr} {fs : List (Str × V)} (e : H a = some (.ins (He.ga K "Helper") dx fs)) : ∃ t, TyX K H (.ref a) t ∧ PySem.W.kitOne K t (.ref (He.ga K "Step")) = some false ∧ PySem.W.kitOne K t (.ref (He.ga K "Helper")) = some true := by
  obtain ⟨i1, i2, i3, i4⟩ := T.isi "Helper"
  exact ⟨_, .base (.ins e T.c_Helper i1 i2 i3 i4), T.kitH⟩
/-! ### told of helpers, parts, plans -/
def spHTold (K : PySem.W.Frag) (k : List Int) (n : Str) (ps as : List Str) (j : Int) (ss : List Stp) : S1 := fun vs H Q => ∃ a, vs = [.ref a] ∧ HelpAt K H a k n ps as j ss ∧ ss.length ≤ 1000 ∧ ∀ v H', Same H H' → Dt K H' v (.tuple [.str "helper", dW k, .str n, dNs ps, dNs as, .tuple (tds j ss)]) → Q v H'
abbrev N_Helper_told : List Str := ["self", "steps", "step"]
theorem sc_Helper_told : FnScope N_Helper_told ["self"] (defScope s_Helper_told) := ⟨rfl, rfl, rfl, by decide +kernel, rfl, by decide +kernel, by decide +kernel⟩
theorem ok_Helper_told (T : Tx K mg) (k : List Int) (n : Str) (ps as : List Str) (j : Int) (ss : List Stp) : Runs P w K mg base 3 (He.ma K (He.ga K "Helper") "told") (spHTold K k n ps as j ss) := by
  obtain ⟨fd, F⟩ := T.d_Helper_told
  have bd : Binds K fd ["self"] [] := F.bindsN fun _ _ _ _ _ _ us hl => match us, hl with | [_], _ => rfl
  have V_told := ok_told (P := P) (w := w) (base := base) T
  refine runs_fn0 (F.ok sc_Helper_told (fun vs H Q E h => ?_) (fun cdv A outer s H vs Q E hr h => ?_)) bd
  · obtain ⟨_, rfl, _⟩ := h
    rfl
  · obtain ⟨a, rfl, ⟨w0, p, q, r, bs, ⟨dx, ha⟩, hw, hp, hq, hr0, hs⟩, hz, kk⟩ := h
    have nd := sc_Helper_told.nd
    refine ⟨_, PSs.nox (pss_cons (ps_set (i := 1) nd rfl (Or.inl rfl) (pe_callTy call_tupS (by rfl) T.f_tuple (by decide +kernel) (pa_cons (pe_lc (own := [("step", 2)]) (by rfl) nd (pi_tup (pe_fld (pv 0) rfl)) (blkOk_by (N := N_Helper_told) (sc := defScope s_Helper_told) (by decide +kernel)) (fun _ _ _ _ _ => (pg_name (i := 2) nd rfl (Or.inl rfl))) (fun _ _ _ _ _ => pts_nil) (fun _ _ _ _ _ => (pe_vm0 V_told hr (by decide) (pv 2)))) pa_nil)))
    (pss_one (ps_ret (pe_tup (pa_cons pe_str (pa_cons (pe_fld (pv 0) rfl) (pa_cons (pe_fld (pv 0) rfl) (pa_cons (pe_fld (pv 0) rfl) (pa_cons (pe_fld (pv 0) rfl) (pa_cons (pv 1) pa_nil)))))))))), ?_⟩
    refine ⟨_, rfl, a, _, dx, _, _, rfl, ha, T.c_Helper, T.n_Helper_steps, fHelper_steps .., r, rfl, ⟨_, hr0⟩, ?_⟩
    refine lc_mk (K := K) (walk_tup (K := K) (a := r) (xs := bs.map V.ref)) (wst j ss) (by rw [List.length_map, hs.length, wst_len]) (by rw [wst_len]; omega) (fun d v H => Dt K H v (d.2.td (dW d.1))) (fun _ _ _ _ sm h => h.sm sm) (fun _ s => Same.t s hr0) (fun i d x H2 H3 hi s2 y Nx kx => ?_) mono_name fun D H2 acc hD s2 ha2 hp2 => ?_
    · obtain ⟨rfl, hx⟩ := y
      obtain ⟨b, hb, hsb⟩ := (hs.sm T s2.sm).ww i d hi
      rw [List.getElem?_map, hb] at hx
      obtain rfl := Option.some.inj hx
      exact ⟨rfl, _, rfl, d, ⟨b, rfl, hsb⟩, b, rfl, hsb, fun v H' s' dv => kx v H' s' dv⟩
    · refine ⟨D, acc, rfl, .inl (SqL.of ha2), fun t H3 s3 ht => ?_⟩
      have d3 : Dt K H3 (.ref t) (.tuple (tds j ss)) := dt_tup ht (by
        rw [← wst_tds]
        exact (paired_dta hp2).sm s3.sm)
      refine ⟨_, rfl, a, _, dx, _, _, rfl, s3 _ _ (s2 _ _ ha), T.c_Helper, T.n_Helper_way, fHelper_way .., ?_⟩
      refine ⟨_, rfl, a, _, dx, _, _, rfl, s3 _ _ (s2 _ _ ha), T.c_Helper, T.n_Helper_name, fHelper_name .., ?_⟩
      refine ⟨_, rfl, a, _, dx, _, _, rfl, s3 _ _ (s2 _ _ ha), T.c_Helper, T.n_Helper_params, fHelper_params .., ?_⟩
      refine ⟨_, rfl, a, _, dx, _, _, rfl, s3 _ _ (s2 _ _ ha), T.c_Helper, T.n_Helper_answers, fHelper_answers .., ?_⟩
      refine ⟨_, rfl, ?_⟩
      refine ⟨by show 6 ≤ sizeLine; decide, fun u hu => kk _ _ (s2.trans (s3.trans (Same.new hu))) ?_⟩
      have s4 := s2.trans (s3.trans (Same.new (o := .tup [V.str "helper", .ref w0, .str n, .ref p, .ref q, .ref t]) hu))
      exact dt_tup (SqT.of upd_same) (dta_cons dt_str (dta_cons (dt_w (Same.t s4 hw)) (dta_cons dt_str (dta_cons (dt_ns (Same.t s4 hp)) (dta_cons (dt_ns (Same.t s4 hq)) (dta_cons (Dt.sm (Same.sm (Same.new hu)) d3) dta_nil))))))
def rcPt (K : PySem.W.Frag) : PtI → V → Hp → Prop := fun i x H => ∃ a, x = .ref a ∧ PartAt K H a i.1 i.2 ∧ i.2.ok
def spPTold (K : PySem.W.Frag) (i : PtI) : S1 := fun vs H Q => ∃ a, vs = [.ref a] ∧ PartAt K H a i.1 i.2 ∧ ∀ v H', Same H H' → Dt K H' v (i.2.td i.1) → Q v H'
theorem ok_ptold (T : Tx K mg) : VM P w K mg base 3 "told" (rcPt K) (spPTold K) := by
  refine ⟨fun i x H h => ?_⟩
  obtain ⟨k, p⟩ := i
  obtain ⟨a, rfl, ha, hok⟩ := h
  cases p with
  | stp s =>
    obtain ⟨a', C, dx, fs, f, e1, e2, e3, c, m, r⟩ := (ok_told (P := P) (w := w) (base := base) T).ex ([k], s) (.ref a) H ⟨a, rfl, ha⟩
    refine ⟨a', C, dx, fs, f, e1, e2, e3, c, m, (runs_mono (by decide) r).imp fun vs H' Q h => ?_⟩
    obtain ⟨r', e, b, e', hb, q⟩ := h
    exact ⟨r', e, b, e', hb, q⟩
  | hlp n ps as ss =>
    obtain ⟨w0, p, q, r, bs, ⟨dx, e⟩, _⟩ := ha
    refine ⟨a, _, dx, _, _, rfl, e, fHelper_no_told .., T.c_Helper, T.m_Helper_told, (ok_Helper_told T [k] n ps as (k + 1) ss).imp fun vs H' Q h => ?_⟩
    obtain ⟨r', e1, b, e', hb, q⟩ := h
    have hl := (hok : Prt.hok n ps as ss).sl
    exact ⟨b, e', hb, by omega, q⟩
def rcPlan (K : PySem.W.Frag) : List Prt → V → Hp → Prop := fun i x H => ∃ a, x = .ref a ∧ PlanAt K H a i
def spPlTold (K : PySem.W.Frag) (ps : List Prt) : S1 := fun vs H Q => ∃ a, vs = [.ref a] ∧ PlanAt K H a ps ∧ (∀ p ∈ ps, p.ok) ∧ ps.length ≤ 1000 ∧ ∀ v H', Same H H' → Dt K H' v (.tuple (ptds 1 ps)) → Q v H'
abbrev N_Plan_told : List Str := ["self", "part"]
theorem sc_Plan_told : FnScope N_Plan_told ["self"] (defScope s_Plan_told) := ⟨rfl, rfl, rfl, by decide +kernel, rfl, by decide +kernel, by decide +kernel⟩
theorem ok_Plan_told (T : Tx K mg) (ps : List Prt) : Runs P w K mg base 4 (He.ma K (He.ga K "Plan") "told") (spPlTold K ps) := by
  obtain ⟨fd, F⟩ := T.d_Plan_told
  have bd : Binds K fd ["self"] [] := F.bindsN fun _ _ _ _ _ _ us hl => match us, hl with | [_], _ => rfl
  have V_told := ok_ptold (P := P) (w := w) (base := base) T
  refine runs_fn0 (F.ok sc_Plan_told (fun vs H Q E h => ?_) (fun cdv A outer s H vs Q E hr h => ?_)) bd
  · obtain ⟨_, rfl, _⟩ := h
    rfl
  · obtain ⟨a, rfl, ⟨t, bs, ⟨dx, ha⟩, ht, hs⟩, hok, hz, kk⟩ := h
    have nd := sc_Plan_told.nd
    refine ⟨_, PSs.nox (pss_one (ps_ret (pe_callTy call_tupS (by rfl) T.f_tuple (by decide +kernel) (pa_cons (pe_lc (own := [("part", 1)]) (by rfl) nd (pi_tup (pe_fld (pv 0) rfl)) (blkOk_by (N := N_Plan_told) (sc := defScope s_Plan_told) (by decide +kernel)) (fun _ _ _ _ _ => (pg_name (i := 1) nd rfl (Or.inl rfl))) (fun _ _ _ _ _ => pts_nil) (fun _ _ _ _ _ => (pe_vm0 V_told hr (by decide) (pv 1)))) pa_nil)))), ?_⟩
    refine ⟨_, rfl, a, _, dx, _, _, rfl, ha, T.c_Plan, T.n_Plan_parts, fPlan_parts .., t, rfl, ⟨_, ht⟩, ?_⟩
    refine lc_mk (K := K) (walk_tup (K := K) (a := t) (xs := bs.map V.ref)) (wpt 1 ps) (by rw [List.length_map, hs.len, wpt_len]) (by rw [wpt_len]; omega) (fun d v H => Dt K H v (d.2.td d.1)) (fun _ _ _ _ sm h => h.sm sm) (fun _ s => Same.t s ht) (fun i d x H2 H3 hi s2 y Nx kx => ?_) mono_name fun D H2 acc hD s2 ha2 hp2 => ?_
    · obtain ⟨rfl, hx⟩ := y
      obtain ⟨b, hb, hsb⟩ := (hs.sm T s2.sm).ww i d hi
      rw [List.getElem?_map, hb] at hx
      obtain rfl := Option.some.inj hx
      have hm : d.2 ∈ ps := by
        rw [← wpt_snd ps 1]
        exact List.mem_map_of_mem (List.mem_of_getElem? hi)
      exact ⟨rfl, _, rfl, d, ⟨b, rfl, hsb, hok _ hm⟩, b, rfl, hsb, fun v H' s' dv => kx v H' s' dv⟩
    · refine ⟨D, acc, rfl, .inl (SqL.of ha2), fun t H3 s3 ht => kk _ _ (s2.trans s3) (dt_tup ht ?_)⟩
      rw [← wpt_ptds]
      exact (paired_dta hp2).sm s3.sm
theorem ok_pltold (T : Tx K mg) : VM P w K mg base 4 "told" (rcPlan K) (spPlTold K) := by
  refine ⟨fun i x H h => ?_⟩
  obtain ⟨a, rfl, t, bs, ⟨dx, e⟩, _⟩ := h
  exact ⟨a, _, dx, _, _, rfl, e, fPlan_no_told .., T.c_Plan, T.m_Plan_told, (ok_Plan_told T i).imp fun vs H' Q h => h.elim fun _ h => h.2⟩
/-! ### rows_of -/
def spRows (K : PySem.W.Frag) : S1 := fun vs H Q => ∃ (a : Addr) (k : Int) (p : Prt), vs = [.ref a] ∧ PartAt K H a k p ∧ p.ok ∧ ∀ q H', Same H H' → H q = none → H' q = some (.lst ((p.red.lns.map Ln.row).map V.str)) → Q (.ref q) H'
abbrev N_rows_of : List Str := ["part", "head", "step"]
theorem sc_rows_of : FnScope N_rows_of ["part"] (defScope s_rows_of) := ⟨rfl, rfl, rfl, by decide +kernel, rfl, by decide +kernel, by decide +kernel⟩
theorem ok_rows_of (T : Tx K mg) : GC P w K mg base 3 "rows_of" (spRows K) := by
  obtain ⟨fd, F⟩ := T.d_rows_of
  have bd : Binds K fd ["part"] [] := F.bindsN fun _ _ _ _ _ _ us hl => match us, hl with | [_], _ => rfl
  have V_row := ok_row (P := P) (w := w) (base := base) T
  refine gc_fn (F.ok sc_rows_of (fun vs H Q E h => ?_) (fun cdv A outer s H vs Q E hr h => ?_)) T.g_rows_of F.kp bd
  · obtain ⟨_, _, _, rfl, _⟩ := h
    rfl
  · obtain ⟨a, k, p, rfl, ha, hok, kk⟩ := h
    have nd := sc_rows_of.nd
    refine ⟨_, PSs.nox (pss_cons (ps_if (pt_val (pe_callB call_isi (by rfl) T.f_isinstance (by decide +kernel) (pa_cons (pv 0) (pa_cons (pe_glob (v := .ref (He.ga K "Step")) rfl T.g_Step rfl) pa_nil))))
      (pss_one (ps_ret (pe_lst (pa_cons (pe_vm0 V_row hr (by decide) (pv 0)) pa_nil))))
      pss_nil)
    (pss_cons (ps_set (i := 1) nd rfl (Or.inl rfl) (pe_join pe_str (pe_op op_catS (pe_op op_catS (pe_op op_catS (pe_tup (pa_cons pe_str (pa_cons (pe_fld (pv 0) rfl) pa_nil))) (pe_fld (pv 0) rfl)) (pe_tup (pa_cons pe_str pa_nil))) (pe_fld (pv 0) rfl))))
    (pss_one (ps_ret (pe_op op_cat (pe_op op_cat (pe_lst (pa_cons (pv 1) pa_nil)) (pe_lc (own := [("step", 2)]) (by rfl) nd (pi_tup (pe_fld (pv 0) rfl)) (blkOk_by (N := N_rows_of) (sc := defScope s_rows_of) (by decide +kernel)) (fun _ _ _ _ _ => (pg_name (i := 2) nd rfl (Or.inl rfl))) (fun _ _ _ _ _ => pts_nil) (fun _ _ _ _ _ => (pe_vm0 V_row hr (by decide) (pv 2))))) (pe_lst (pa_cons pe_str pa_nil))))))), ?_⟩
    cases p with
    | stp s0 =>
      have ha : StepAt K H a [k] s0 := ha
      obtain ⟨t, ty, k1, k2, k3⟩ := isi_step T ha
      refine ⟨_, rfl, _, _, t, _, true, rfl, .own _, ty, k1, true, rfl, iteI rfl ?_⟩
      refine ⟨_, rfl, ([k], s0), ⟨a, rfl, ha⟩, a, rfl, ha, hok, fun H1 s1 => ?_⟩
      exact ⟨by show 1 ≤ sizeLine; decide, fun q hq => kk q _ (s1.trans (Same.new hq)) (Same.back s1 hq) upd_same⟩
    | hlp n ps as ss =>
      obtain ⟨w0, p, q, r, bs, ⟨dx, ha⟩, hw, hp, hq, hr0, hs⟩ := ha
      obtain ⟨t, ty, k1, k2⟩ := isi_help T ha
      obtain ⟨h1, h2, h3, h4, h5, h6, h7, h8, h9⟩ := (hok : Prt.hok n ps as ss)
      refine ⟨_, rfl, _, _, t, _, false, rfl, .own _, ty, k1, false, rfl, iteN (by decide) ?_⟩
      refine ⟨⟨_, rfl⟩, _, rfl, a, _, dx, _, _, rfl, ha, T.c_Helper, T.n_Helper_name, fHelper_name .., ?_⟩
      refine ⟨by show 2 ≤ sizeLine; decide, fun u hu => ?_⟩
      have s1 : Same H (upd H u (.tup [V.str "helper", V.str n])) := Same.new hu
      have g1 : SqT K (upd H u (.tup [V.str "helper", V.str n])) u [V.str "helper", V.str n] := SqT.of upd_same
      generalize upd H u (.tup [V.str "helper", V.str n]) = H1 at s1 g1 ⊢
      refine ⟨_, rfl, a, _, dx, _, _, rfl, s1 _ _ ha, T.c_Helper, T.n_Helper_params, fHelper_params .., ?_⟩
      refine ⟨u, p, _, _, rfl, rfl, g1, Same.t s1 hp, by rw [List.length_map]; show 2 + _ ≤ _; omega, fun t2 H2 s2 ht2 => ?_⟩
      refine ⟨by show 1 ≤ sizeLine; decide, fun u3 hu3 => ?_⟩
      have s3 : Same H2 (upd H2 u3 (.tup [V.str "gives"])) := Same.new hu3
      have g3 : SqT K (upd H2 u3 (.tup [V.str "gives"])) u3 [V.str "gives"] := SqT.of upd_same
      generalize upd H2 u3 (.tup [V.str "gives"]) = H3 at s3 g3 ⊢
      refine ⟨t2, u3, _, _, rfl, rfl, Same.t s3 ht2, g3, by rw [List.length_append, List.length_map]; show 2 + _ + 1 ≤ _; omega, fun t4 H4 s4 ht4 => ?_⟩
      have sx := s1.trans (s2.trans (s3.trans s4))
      refine ⟨_, rfl, a, _, dx, _, _, rfl, sx _ _ ha, T.c_Helper, T.n_Helper_answers, fHelper_answers .., ?_⟩
      refine ⟨t4, q, _, _, rfl, rfl, ht4, Same.t sx hq, by rw [List.length_append, List.length_append, List.length_map, List.length_map]; show 2 + _ + 1 + _ ≤ _; omega, fun t5 H5 s5 ht5 => ?_⟩
      have lok : (Ln.head n ps as).ok := ⟨h1, h2, h3, h4, h5, h6, h7⟩
      refine ⟨" ", t5, (Ln.head n ps as).ws, rfl, rfl, .inr (SqT.cast ht5 ?_), join_small lok.ws_len.1 (Nat.le_trans lok.ws_len.2 (by decide)), ?_⟩
      · show ([V.str "helper", V.str n] ++ ps.map V.str ++ [V.str "gives"]) ++ as.map V.str = (("helper" : Str) :: n :: (ps ++ ("gives" : Str) :: as)).map V.str
        simp
      have sy := sx.trans s5
      clear ht5 ht4 ht2 g1 g3
      -- [head] + [..] + ["end"]
      refine ⟨_, rfl, by show 1 ≤ sizeLine; decide, fun l1 hl1 => ?_⟩
      have s6 : Same H5 (upd H5 l1 (.lst [V.str (Txt.join " " (Ln.head n ps as).ws)])) := Same.new hl1
      have g6 : (upd H5 l1 (.lst [V.str (Txt.join " " (Ln.head n ps as).ws)])) l1 = some (.lst [V.str (Txt.join " " (Ln.head n ps as).ws)]) := upd_same
      generalize upd H5 l1 (.lst [V.str (Txt.join " " (Ln.head n ps as).ws)]) = H6 at s6 g6 ⊢
      have sz := sy.trans s6
      refine ⟨_, rfl, a, _, dx, _, _, rfl, sz _ _ ha, T.c_Helper, T.n_Helper_steps, fHelper_steps .., r, rfl, ⟨_, Same.t sz hr0⟩, ?_⟩
      refine lc_fn (K := K) (walk_tup (K := K) (a := r) (xs := bs.map V.ref)) (wst (k + 1) ss) (by rw [List.length_map, hs.length, wst_len]) (by rw [wst_len]; omega) (fun d => V.str d.2.red.row) (fun _ s => Same.t (sz.trans s) hr0) (fun i d x H7 H8 hi s7 y Nx kx => ?_) mono_name fun D H7 hD s7 ha7 => ?_
      · obtain ⟨rfl, hx⟩ := y
        obtain ⟨b, hb, hsb⟩ := (hs.sm T (sz.trans s7).sm).ww i d hi
        rw [List.getElem?_map, hb] at hx
        obtain rfl := Option.some.inj hx
        have hm : d.2 ∈ ss := by
          rw [← wst_snd ss (k + 1)]
          exact List.mem_map_of_mem (List.mem_of_getElem? hi)
        exact ⟨rfl, _, rfl, d, ⟨b, rfl, hsb⟩, b, rfl, hsb, (h9 _ hm).1, fun H' s' => kx H' s'⟩
      · have e7 : (wst (k + 1) ss).map (fun d => V.str d.2.red.row) = (ss.map fun z => V.str z.red.row) := by
          conv => rhs; rw [← wst_snd ss (k + 1), List.map_map]
          rfl
        rw [e7] at ha7
        refine ⟨l1, D, _, _, rfl, rfl, s7 _ _ g6, ha7, by rw [List.length_map]; show 1 + _ ≤ _; exact Nat.le_trans (by omega : 1 + ss.length ≤ 10) (by decide), fun l2 hl2 => ?_⟩
        have s8 : Same H7 (upd H7 l2 (.lst ([V.str (Txt.join " " (Ln.head n ps as).ws)] ++ ss.map fun z => V.str z.red.row))) := Same.new hl2
        have g8 : (upd H7 l2 (.lst ([V.str (Txt.join " " (Ln.head n ps as).ws)] ++ ss.map fun z => V.str z.red.row))) l2 = some (.lst ([V.str (Txt.join " " (Ln.head n ps as).ws)] ++ ss.map fun z => V.str z.red.row)) := upd_same
        generalize upd H7 l2 (.lst ([V.str (Txt.join " " (Ln.head n ps as).ws)] ++ ss.map fun z => V.str z.red.row)) = H8 at s8 g8 ⊢
        refine ⟨by show 1 ≤ sizeLine; decide, fun l3 hl3 => ?_⟩
        have s9 : Same H8 (upd H8 l3 (.lst [V.str "end"])) := Same.new hl3
        have g9 : (upd H8 l3 (.lst [V.str "end"])) l3 = some (.lst [V.str "end"]) := upd_same
        generalize upd H8 l3 (.lst [V.str "end"]) = H9 at s9 g9 ⊢
        refine ⟨l2, l3, _, _, rfl, rfl, s9 _ _ g8, g9, by rw [List.length_append, List.length_map]; show 1 + _ + 1 ≤ _; exact Nat.le_trans (by omega : 1 + ss.length + 1 ≤ 10) (by decide), fun l4 hl4 => ?_⟩
        have st := sz.trans (s7.trans (s8.trans s9))
        refine kk l4 _ (st.trans (Same.new hl4)) (Same.back st hl4) ?_
        rw [upd_same]
        show some (HO.lst (([V.str (Ln.head n ps as).row] ++ ss.map fun z => V.str z.red.row) ++ [V.str "end"])) = some (HO.lst (((Ln.head n ps as :: ((ss.map Stp.red).map Ln.stp ++ [Ln.fin])).map Ln.row).map V.str))
        have ee : ("end" : Str) = Ln.fin.row := by
          show _ = Txt.join " " [("end" : Str)]
          rw [join_eq]
          rfl
        rw [ee]
        simp only [List.map_cons, List.map_append, List.map_map, List.map_nil, List.cons_append, List.nil_append]
        rfl
/-! ### written -/
def spWritten (K : PySem.W.Frag) : S1 := fun vs H Q => ∃ (a : Addr) (ps : List Prt), vs = [.ref a] ∧ PlanAt K H a ps ∧ (∀ p ∈ ps, p.ok) ∧ ps.length ≤ 100 ∧ ∀ H', Same H H' → Q (.str (textP (ps.map Prt.red))) H'
theorem rows_append (a b : List Prt) : rows (a ++ b) = rows a ++ rows b := by
  unfold rows lines
  rw [List.flatMap_append, List.map_append]
abbrev N_written : List Str := ["plan", "found", "part", "row"]
theorem sc_written : FnScope N_written ["plan"] (defScope s_written) := ⟨rfl, rfl, rfl, by decide +kernel, rfl, by decide +kernel, by decide +kernel⟩
theorem ok_written (T : Tx K mg) : GC P w K mg base 4 "written" (spWritten K) := by
  obtain ⟨fd, F⟩ := T.d_written
  have bd : Binds K fd ["plan"] [] := F.bindsN fun _ _ _ _ _ _ us hl => match us, hl with | [_], _ => rfl
  have G_rows_of := ok_rows_of (P := P) (w := w) (base := base) T
  refine gc_fn (F.ok sc_written (fun vs H Q E h => ?_) (fun cdv A outer s H vs Q E hr h => ?_)) T.g_written F.kp bd
  · obtain ⟨_, _, rfl, _⟩ := h
    rfl
  · obtain ⟨a, ps, rfl, ⟨t, bs, ⟨dx, ha⟩, ht, hs⟩, hok, hz, kk⟩ := h
    have nd := sc_written.nd
    have hokr := oks_red hok
    have rl : (rows (ps.map Prt.red)).length ≤ 700 := by
      unfold rows
      have := lines_len hokr
      rw [List.length_map] at this ⊢
      omega
    have rw1 : ∀ z ∈ rows (ps.map Prt.red), z.length ≤ 4020 := fun z hz => by
      obtain ⟨l, hl, rfl⟩ := List.mem_map.mp hz
      exact (lines_ok hokr l hl).row_len
    refine ⟨_, PSs.nox (pss_cons (ps_set (i := 1) nd rfl (Or.inl rfl) (pe_lst pa_nil))
    (pss_cons (ps_for PassesOwn.never rfl (pi_tup (pe_fld (pv 0) rfl)) (pg_name (i := 2) nd rfl (Or.inl rfl))
      (pss_one (ps_aug (i := 1) nd rfl (Or.inl rfl) (pe_gc G_rows_of hr (by decide) rfl (pa_cons (pv 2) pa_nil)) ip_ext)))
    (pss_one (ps_ret (pe_join pe_str (pe_lc (own := [("row", 3)]) (by rfl) nd (pi_list (pv 1)) (blkOk_by (N := N_written) (sc := defScope s_written) (by decide +kernel)) (fun _ _ _ _ _ => (pg_name (i := 3) nd rfl (Or.inl rfl))) (fun _ _ _ _ _ => pts_nil) (fun _ _ _ _ _ => (pe_op op_add_str (pv 3) pe_str)))))))), ?_⟩
    refine ⟨by decide, fun f hf => ?_⟩
    have s1 : Same H (upd H f (.lst [])) := Same.new hf
    refine ⟨_, rfl, a, _, dx, _, _, rfl, s1 _ _ ha, T.c_Plan, T.n_Plan_parts, fPlan_parts .., t, rfl, ⟨_, Same.t s1 ht⟩, ?_⟩
    refine for_it (walk_tup (K := K) (a := t) (xs := bs.map V.ref)) (fun i σ H' => Same H H' ∧ ∃ pt : Option V, σ = [some (.ref a), some (.ref f), pt, none] ∧ H' f = some (.lst ((rows ((ps.take i).map Prt.red)).map V.str))) ⟨s1, none, rfl, upd_same⟩ (fun i σ H' _ q => Same.t q.1 ht) (fun i x σ H4 H5 hi q y => ?_) fun σ H4 q => ?_
    · obtain ⟨s4, pt, rfl, hf4⟩ := q
      obtain ⟨rfl, hx⟩ := y
      have hi' : i < ps.length := by rw [List.length_map, hs.len] at hi; exact hi
      obtain ⟨dd, hd⟩ : ∃ dd, (wpt 1 ps)[i]? = some dd := ⟨_, List.getElem?_eq_getElem (by rw [wpt_len]; exact hi')⟩
      obtain ⟨b, hb, hsb⟩ := (hs.sm T s4.sm).ww i _ hd
      rw [List.getElem?_map, hb] at hx
      obtain rfl := Option.some.inj hx
      have hp : ps[i]? = some dd.2 := by
        conv => lhs; rw [← wpt_snd ps 1]
        rw [List.getElem?_map, hd]
        rfl
      have hm := List.mem_of_getElem? hp
      refine ⟨_, rfl, _, rfl, b, _, _, rfl, hsb, hok _ hm, fun q H6 s6 hq0 hq => ?_⟩
      refine ⟨f, q, _, _, rfl, rfl, s6 _ _ hf4, hq, ?_, ?_⟩
      · rw [List.length_map, List.length_map, List.length_map]
        have e1 : (rows ((ps.take i).map Prt.red)).length ≤ 700 := by
          have h1 : ∀ p ∈ ps.take i, p.ok := fun p hp => hok p (List.mem_of_mem_take hp)
          unfold rows
          have := lines_len (oks_red h1)
          rw [List.length_map, List.length_take] at this
          rw [List.length_map]
          omega
        have e2 : (dd.2.red.lns).length ≤ 7 := by
          rw [Prt.lns_len, Prt.nl_red]
          exact (hok _ hm).nl_le
        exact Nat.le_trans (by omega : _ ≤ 707) (by decide)
      · refine ⟨Same.mut (s4.trans s6) hf, _, rfl, ?_⟩
        rw [upd_same, take_snoc hp, List.map_append, rows_append]
        simp [rows, lines]
    · obtain ⟨s4, pt, rfl, hf4⟩ := q
      have e : (bs.map V.ref).length = ps.length := by rw [List.length_map, hs.len]
      rw [e, List.take_length] at hf4
      refine ⟨⟨_, rfl⟩, _, rfl, f, rfl, ⟨_, SqL.of hf4⟩, ?_⟩
      refine lc_fn (K := K) (walk_list (K := K) (a := f) (xs := (rows (ps.map Prt.red)).map V.str)) (rows (ps.map Prt.red)) (by simp) (by omega) (fun z => V.str (z ++ "\n")) (fun _ s => Same.ls s (SqL.of hf4)) (fun i z x H2 H3 hi s2 y Nx kx => ?_) mono_name fun D H2 hD s2 ha2 => ?_
      · obtain ⟨rfl, hx⟩ := y
        rw [List.getElem?_map, hi] at hx
        obtain rfl := Option.some.inj hx
        refine ⟨rfl, _, rfl, _, _, rfl, rfl, ?_, kx _ (Same.refl _)⟩
        have := rw1 z (List.mem_of_getElem? hi)
        have e1 : ("\n" : Str).length = 1 := by decide +kernel
        rw [e1]
        exact Nat.le_trans (Nat.add_le_add_right this 1) (by decide)
      · refine ⟨"", D, (rows (ps.map Prt.red)).map (fun z => z ++ "\n"), rfl, rfl, .inl (SqL.of (by rw [ha2, List.map_map]; rfl)), ?_, kk _ (s4.trans s2)⟩
        have e1 : ("" : Str).length = 0 := by decide +kernel
        rw [e1, Nat.mul_zero, Nat.add_zero]
        refine Nat.le_trans (sum_map_le (b := 4021) fun z hz => ?_) ?_
        · obtain ⟨y, hy, rfl⟩ := List.mem_map.mp hz
          have := rw1 y hy
          have e1 : ("\n" : Str).length = 1 := by decide +kernel
          rw [Str.length_append, e1]
          omega
        · rw [List.length_map]
          omega
end
end Rod
set_option Elab.async false
set_option linter.all false
set_option maxRecDepth 100000
set_option maxHeartbeats 4000000
namespace Rod
open PySem PySem.Spec PyProof.Rows L2 TL
/-! ### tests of whole numbers, parts of texts' lists -/
theorem neI {i j : Int} (h : i = j) : ¬ ((!decide (V.int i = V.int j)) = true) := by rw [h]; simp
theorem eqIt {i j : Int} (h : i = j) : decide (V.int i = V.int j) = true := decide_eq_true (by rw [h])
theorem eqIf {i j : Int} (h : i ≠ j) : ¬ (decide (V.int i = V.int j) = true) := fun e => h (V.int.inj (of_decide_eq_true e))
theorem ltF {i j : Int} (h : j ≤ i) : ¬ (decide (i < j) = true) := fun e => absurd (of_decide_eq_true e) (by omega)
theorem neS {x y : Str} (h : x = y) : ¬ ((!decide (V.str x = V.str y)) = true) := by rw [h]; simp
theorem cut_from (ws : List Str) (i : Nat) : cutV (ws.map V.str) (some (i : Int)) none = (ws.drop i).map V.str := by rw [cutV_from, List.map_drop]
theorem cut_mid (ws : List Str) (i j : Nat) : cutV (ws.map V.str) (some (i : Int)) (some (j : Int)) = ((ws.take j).drop i).map V.str := by rw [cutV_mid, List.map_drop, List.map_take]
theorem cut_to (ws : List Str) (j : Nat) : cutV (ws.map V.str) none (some (j : Int)) = (ws.take j).map V.str := by rw [cutV_to, List.map_take]
theorem ne_non {a : Addr} : ¬ (decide (V.ref a = V.non) = true) := fun e => nomatch (of_decide_eq_true e : V.ref a = V.non)
theorem ne_nonN {a : Addr} : (!decide (V.ref a = V.non)) = true := by
  rw [decide_eq_false fun e => nomatch (e : V.ref a = V.non)]
  rfl
theorem is_non : decide (V.non = V.non) = true := decide_eq_true rfl
theorem is_nonN : ¬ ((!decide (V.non = V.non)) = true) := by simp
/-! ### names are no kept words -/
theorem kept_dot : ∀ z ∈ kept, 46 ∉ tl z := by decide +kernel
theorem Nm.nk {z : Str} (h : Nm z) : z ∉ kept := fun hk => by
  have hs : Txt.split z "." = [z] := by
    have e : z = Txt.join "." [z] := by
      rw [join_eq]
      rfl
    conv => lhs; rw [e]
    exact split_join dot_tl (by decide +kernel) (by simp) fun p hp => by
      rw [List.mem_singleton.mp hp]
      exact kept_dot z hk
  exact (h.split z (by rw [hs]; exact List.mem_cons_self)).nk hk
theorem Nm.ne {z y : Str} (h : Nm z) (hy : y ∈ kept := by decide +kernel) : z ≠ y := fun e => h.nk (e ▸ hy)
section
variable {P : Program} {w : World} {K : PySem.W.Frag} {mg : Str → Option Value} {base : Heap}
def spOf (K : PySem.W.Frag) (s : Stp) : S1 := fun vs H Q => ∃ (a wy : Addr) (k : List Int), vs = [.ref a, .ref wy] ∧ NsL K H a s.ws ∧ WyAt K H wy k ∧ s.ok ∧ ∀ p H', Same H H' → StepAt K H' p k s → Q (.ref p) H'
/-! ### give_of -/
abbrev N_give_of : List Str := ["words", "way", "numbers", "word"]
theorem sc_give_of : FnScope N_give_of ["words", "way"] (defScope s_give_of) := ⟨rfl, rfl, rfl, by decide +kernel, rfl, by decide +kernel, by decide +kernel⟩
theorem ok_give_of (T : Tx K mg) : GC P w K mg base 5 "give_of" (fun vs H Q => ∃ n x y, spOf K (.give n x y) vs H Q) := by
  obtain ⟨fd, F⟩ := T.d_give_of
  have bd : Binds K fd ["words", "way"] [] := F.bindsN fun _ _ _ _ _ _ us hl => match us, hl with | [_, _], _ => rfl
  have G_is_name := ok_is_name (P := P) (w := w) (base := base) T
  have G_read_fraction := ok_read_fraction (P := P) (w := w) (base := base) T
  have G_Give := ok_Give (P := P) (w := w) (base := base) T
  refine gc_fn (F.ok sc_give_of (fun vs H Q E h => ?_) (fun cdv A outer s H vs Q E hr h => ?_)) T.g_give_of F.kp bd
  · obtain ⟨_, _, _, _, _, _, rfl, _⟩ := h
    rfl
  · obtain ⟨n, x, y, a, wy, k, rfl, hq, hw, ok, kk⟩ := h
    have nd := sc_give_of.nd
    obtain ⟨hx, hy⟩ := ok.fr n x y rfl
    refine ⟨_, PSs.nox (pss_cons (ps_if (PW.pt (pw_or (pt_cmpR op_ne (pe_callB call_len_seq (by rfl) T.f_len (by decide +kernel) (pa_cons (pv 0) pa_nil)) pe_int (nomark _)) (pw_or1 (pt_not (pt_val (pe_gc G_is_name hr (by decide) rfl (pa_cons (pe_ix ix_list (pv 0) pe_int (fun _ _ => rfl)) pa_nil)))))))
      (pss_one (ps_ret pe_non))
      pss_nil)
    (pss_one (ps_try_never (fun _ _ z => z) (pss_one (ps_setLc (i := 2) (own := [("word", 3)]) (by rfl) nd rfl rfl (sw_true rfl rfl rfl (by decide +kernel)) (pi_list (pe_slice sl_list (pv 0) (po_some pe_int) po_none)) (blkOk_by (N := N_give_of) (sc := defScope s_give_of) (by decide +kernel)) (fun _ _ _ _ _ => (pg_name (i := 3) nd rfl (Or.inl rfl))) (fun _ _ _ _ _ => pts_nil) (fun _ _ _ _ _ => (pe_gc G_read_fraction hr (by decide) rfl (pa_cons (pv 3) pa_nil))))) (pss_one (ps_ret (pe_gc G_Give hr (by decide) rfl (pa_cons (pv 1) (pa_cons (pe_ix ix_list (pv 0) pe_int (fun _ _ => rfl)) (pa_cons (pe_ix ix_list (pv 2) pe_int (fun _ _ => rfl)) (pa_cons (pe_ix ix_list (pv 2) pe_int (fun _ _ => rfl)) pa_nil)))))))))), ?_⟩
    refine ⟨_, rfl, a, _, rfl, .inl hq, rfl, _, rfl, iteN (neI rfl) ?_⟩
    refine ⟨_, rfl, a, _, 1, _, rfl, rfl, hq, atI_nat (j := 1) rfl, n, rfl, ok.nm n List.mem_cons_self, fun H1 s1 => ⟨true, rfl, iteN (by decide) ?_⟩⟩
    refine ⟨_, rfl, 2, rfl, a, _, rfl, Same.ls s1 hq, fun p hp => ⟨p, rfl, ⟨_, SqL.of upd_same⟩, ?_⟩⟩
    have hc : cutV ((Stp.give n x y).ws.map V.str) (some 2) none = [x, y].map fun f => V.str f.tx := cut_from (Stp.give n x y).ws 2
    rw [hc]
    have s2 : Same H (upd H1 p (.lst ([x, y].map fun f => V.str f.tx))) := s1.trans (Same.new hp)
    have h2 : SqL K (upd H1 p (.lst ([x, y].map fun f => V.str f.tx))) p ([x, y].map fun f => V.str f.tx) := SqL.of upd_same
    generalize upd H1 p (.lst ([x, y].map fun f => V.str f.tx)) = H2 at s2 h2 ⊢
    refine lc_mk (K := K) (walk_list (K := K) (a := p) (xs := [x, y].map fun f => V.str f.tx)) [x, y] rfl (by show 2 ≤ 100000; decide) (fun f v H => ∃ q, v = .ref q ∧ FracAt K H q f.vt f.vb) (fun _ _ _ _ sm h => ⟨h.choose, h.choose_spec.1, h.choose_spec.2.sm T sm⟩) (fun _ s => Same.ls s h2) (fun i f z H3 H4 hi s3 yy Nx kx => ?_) mono_name fun D H3 acc hD s3 ha3 hp3 => ?_
    · obtain ⟨rfl, hz⟩ := yy
      rw [List.getElem?_map, hi] at hz
      obtain rfl := Option.some.inj hz
      have hf : f.ok := by
        have hm := List.mem_of_getElem? hi
        simp at hm
        rcases hm with rfl | rfl
        · exact hx
        · exact hy
      exact ⟨rfl, _, rfl, f, rfl, hf, fun q H' s' hq' => kx _ _ s' ⟨q, rfl, hq'⟩⟩
    · cases hp3 with
      | cons h1 r1 =>
        cases r1 with
        | cons h2' r2 =>
          cases r2
          obtain ⟨p1, rfl, f1⟩ := h1
          obtain ⟨p2, rfl, f2⟩ := h2'
          have sx := s2.trans s3
          exact ⟨_, rfl, _, rfl, a, _, 1, _, rfl, rfl, Same.ls sx hq, atI_nat (j := 1) rfl, _, rfl, D, _, 0, _, rfl, rfl, SqL.of ha3, atI_nat (j := 0) rfl, _, rfl, D, _, 1, _, rfl, rfl, SqL.of ha3, atI_nat (j := 1) rfl,
            _, _, _, _, _, rfl, .inr ⟨wy, rfl, .inr (Same.t sx hw)⟩, fun c H' s' w' hi hw' => kk c H' (sx.trans s') ⟨w', p1, p2, hi, hw', f1.sm T s'.sm, f2.sm T s'.sm⟩⟩
/-! ### choice_told -/
def spChTold (K : PySem.W.Frag) : S1 := fun vs H Q => ∃ (a : Addr) (c : Option Ch), vs = [.ref a] ∧ NsL K H a (chW c) ∧ (∀ p ∈ chP c, Nm p) ∧ ∀ v H', Same H H' → ChO K H' v c → Q v H'
abbrev N_choice_told : List Str := ["words", "alone"]
theorem sc_choice_told : FnScope N_choice_told ["words"] (defScope s_choice_told) := ⟨rfl, rfl, rfl, by decide +kernel, rfl, by decide +kernel, by decide +kernel⟩
theorem ok_choice_told (T : Tx K mg) : GC P w K mg base 4 "choice_told" (spChTold K) := by
  obtain ⟨fd, F⟩ := T.d_choice_told
  have bd : Binds K fd ["words"] [] := F.bindsN fun _ _ _ _ _ _ us hl => match us, hl with | [_], _ => rfl
  have G_is_name := ok_is_name (P := P) (w := w) (base := base) T
  have G_choice_of := ok_choice_of (P := P) (w := w) (base := base) T
  refine gc_fn (F.ok sc_choice_told (fun vs H Q E h => ?_) (fun cdv A outer s H vs Q E hr h => ?_)) T.g_choice_told F.kp bd
  · obtain ⟨_, _, rfl, _⟩ := h
    rfl
  · obtain ⟨a, c, rfl, hq, hn, kk⟩ := h
    have nd := sc_choice_told.nd
    refine ⟨_, PSs.nox (pss_cons (ps_set (i := 1) nd rfl (Or.inl rfl) (pe_and (pe_cmpR op_eq (pe_callB call_len_seq (by rfl) T.f_len (by decide +kernel) (pa_cons (pv 0) pa_nil)) pe_int (nomark _)) (pe_one (pe_cmpR op_in_seq (pe_ix ix_list (pv 0) pe_int (fun _ _ => rfl)) (pe_glob (v := .ref (He.ga K "ALONE")) rfl T.g_ALONE rfl) (by rfl)))))
    (pss_cons (ps_if (PW.pt (pw_or (pt_val (pv 1)) (pw_or1 (PW.pt (pw_and (pt_cmpR op_eq (pe_callB call_len_seq (by rfl) T.f_len (by decide +kernel) (pa_cons (pv 0) pa_nil)) pe_int (nomark _)) (pw_and (pt_cmpR op_in_seq (pe_ix ix_list (pv 0) pe_int (fun _ _ => rfl)) (pe_glob (v := .ref (He.ga K "POINTED")) rfl T.g_POINTED rfl) (by rfl)) (pw_and1 (pt_val (pe_gc G_is_name hr (by decide) rfl (pa_cons (pe_ix ix_list (pv 0) pe_int (fun _ _ => rfl)) pa_nil))))))))))
      (pss_one (ps_ret (pe_gc G_choice_of hr (by decide) rfl (pa_cons (pe_callTy call_tupS (by rfl) T.f_tuple (by decide +kernel) (pa_cons (pv 0) pa_nil)) pa_nil))))
      pss_nil)
    (pss_one (ps_ret pe_non)))), ?_⟩
    cases c with
    | none =>
      refine ⟨_, rfl, a, _, rfl, .inl hq, rfl, _, rfl, iteN (eqIf (by decide)) ?_⟩
      refine ⟨_, rfl, false, rfl, iteN (by decide) ?_⟩
      refine ⟨_, rfl, a, _, rfl, .inl hq, rfl, _, rfl, iteN (eqIf (by decide)) ?_⟩
      exact iteN (by decide) (kk _ _ (Same.refl _) rfl)
    | some c =>
      cases c
      case first =>
        refine ⟨_, rfl, a, _, rfl, .inl hq, rfl, _, rfl, iteI (eqIt rfl) ?_⟩
        refine ⟨_, rfl, a, _, 0, _, rfl, rfl, hq, atI_nat (j := 0) rfl, _, _, rfl, .inr (T.alone _), rfl, flat_str_all _, ?_⟩
        rw [if_neg (by decide), inV_strs, decide_eq_true (show ("first" : Str) ∈ alone by decide +kernel)]
        exact ⟨_, rfl, true, rfl, iteI rfl (iteI rfl ⟨_, rfl, a, _, rfl, .inl hq, fun p H1 s1 hp => ⟨p, .first, rfl, hp, fun q H2 s2 hc => kk _ _ (s1.trans s2) ⟨q, rfl, hc⟩⟩⟩)⟩
      case last =>
        refine ⟨_, rfl, a, _, rfl, .inl hq, rfl, _, rfl, iteI (eqIt rfl) ?_⟩
        refine ⟨_, rfl, a, _, 0, _, rfl, rfl, hq, atI_nat (j := 0) rfl, _, _, rfl, .inr (T.alone _), rfl, flat_str_all _, ?_⟩
        rw [if_neg (by decide), inV_strs, decide_eq_true (show ("last" : Str) ∈ alone by decide +kernel)]
        exact ⟨_, rfl, true, rfl, iteI rfl (iteI rfl ⟨_, rfl, a, _, rfl, .inl hq, fun p H1 s1 hp => ⟨p, .last, rfl, hp, fun q H2 s2 hc => kk _ _ (s1.trans s2) ⟨q, rfl, hc⟩⟩⟩)⟩
      case left =>
        refine ⟨_, rfl, a, _, rfl, .inl hq, rfl, _, rfl, iteI (eqIt rfl) ?_⟩
        refine ⟨_, rfl, a, _, 0, _, rfl, rfl, hq, atI_nat (j := 0) rfl, _, _, rfl, .inr (T.alone _), rfl, flat_str_all _, ?_⟩
        rw [if_neg (by decide), inV_strs, decide_eq_true (show ("left" : Str) ∈ alone by decide +kernel)]
        exact ⟨_, rfl, true, rfl, iteI rfl (iteI rfl ⟨_, rfl, a, _, rfl, .inl hq, fun p H1 s1 hp => ⟨p, .left, rfl, hp, fun q H2 s2 hc => kk _ _ (s1.trans s2) ⟨q, rfl, hc⟩⟩⟩)⟩
      case right =>
        refine ⟨_, rfl, a, _, rfl, .inl hq, rfl, _, rfl, iteI (eqIt rfl) ?_⟩
        refine ⟨_, rfl, a, _, 0, _, rfl, rfl, hq, atI_nat (j := 0) rfl, _, _, rfl, .inr (T.alone _), rfl, flat_str_all _, ?_⟩
        rw [if_neg (by decide), inV_strs, decide_eq_true (show ("right" : Str) ∈ alone by decide +kernel)]
        exact ⟨_, rfl, true, rfl, iteI rfl (iteI rfl ⟨_, rfl, a, _, rfl, .inl hq, fun p H1 s1 hp => ⟨p, .right, rfl, hp, fun q H2 s2 hc => kk _ _ (s1.trans s2) ⟨q, rfl, hc⟩⟩⟩)⟩
      case near p =>
        refine ⟨_, rfl, a, _, rfl, .inl hq, rfl, _, rfl, iteN (eqIf (by show ((2 : Nat) : Int) ≠ 1; decide)) ?_⟩
        refine ⟨_, rfl, false, rfl, iteN (by decide) ?_⟩
        refine ⟨_, rfl, a, _, rfl, .inl hq, rfl, _, rfl, iteI (eqIt rfl) ?_⟩
        refine ⟨_, rfl, a, _, 0, _, rfl, rfl, hq, atI_nat (j := 0) rfl, _, _, rfl, .inr (T.pointed _), rfl, flat_str_all _, ?_⟩
        rw [if_neg (by decide), inV_strs, decide_eq_true (show ("near" : Str) ∈ pointed by decide +kernel)]
        refine ⟨true, rfl, iteI rfl ⟨_, rfl, a, _, 1, _, rfl, rfl, hq, atI_nat (j := 1) rfl, p, rfl, hn p List.mem_cons_self, fun H1 s1 => ⟨true, rfl, iteI rfl ?_⟩⟩⟩
        exact ⟨_, rfl, a, _, rfl, .inl (Same.ls s1 hq), fun t H2 s2 hp => ⟨t, .near p, rfl, hp, fun q H3 s3 hc => kk _ _ (s1.trans (s2.trans s3)) ⟨q, rfl, hc⟩⟩⟩
      case far p =>
        refine ⟨_, rfl, a, _, rfl, .inl hq, rfl, _, rfl, iteN (eqIf (by show ((2 : Nat) : Int) ≠ 1; decide)) ?_⟩
        refine ⟨_, rfl, false, rfl, iteN (by decide) ?_⟩
        refine ⟨_, rfl, a, _, rfl, .inl hq, rfl, _, rfl, iteI (eqIt rfl) ?_⟩
        refine ⟨_, rfl, a, _, 0, _, rfl, rfl, hq, atI_nat (j := 0) rfl, _, _, rfl, .inr (T.pointed _), rfl, flat_str_all _, ?_⟩
        rw [if_neg (by decide), inV_strs, decide_eq_true (show ("far" : Str) ∈ pointed by decide +kernel)]
        refine ⟨true, rfl, iteI rfl ⟨_, rfl, a, _, 1, _, rfl, rfl, hq, atI_nat (j := 1) rfl, p, rfl, hn p List.mem_cons_self, fun H1 s1 => ⟨true, rfl, iteI rfl ?_⟩⟩⟩
        exact ⟨_, rfl, a, _, rfl, .inl (Same.ls s1 hq), fun t H2 s2 hp => ⟨t, .far p, rfl, hp, fun q H3 s3 hc => kk _ _ (s1.trans (s2.trans s3)) ⟨q, rfl, hc⟩⟩⟩
      case other p =>
        refine ⟨_, rfl, a, _, rfl, .inl hq, rfl, _, rfl, iteN (eqIf (by show ((2 : Nat) : Int) ≠ 1; decide)) ?_⟩
        refine ⟨_, rfl, false, rfl, iteN (by decide) ?_⟩
        refine ⟨_, rfl, a, _, rfl, .inl hq, rfl, _, rfl, iteI (eqIt rfl) ?_⟩
        refine ⟨_, rfl, a, _, 0, _, rfl, rfl, hq, atI_nat (j := 0) rfl, _, _, rfl, .inr (T.pointed _), rfl, flat_str_all _, ?_⟩
        rw [if_neg (by decide), inV_strs, decide_eq_true (show ("other" : Str) ∈ pointed by decide +kernel)]
        refine ⟨true, rfl, iteI rfl ⟨_, rfl, a, _, 1, _, rfl, rfl, hq, atI_nat (j := 1) rfl, p, rfl, hn p List.mem_cons_self, fun H1 s1 => ⟨true, rfl, iteI rfl ?_⟩⟩⟩
        exact ⟨_, rfl, a, _, rfl, .inl (Same.ls s1 hq), fun t H2 s2 hp => ⟨t, .other p, rfl, hp, fun q H3 s3 hc => kk _ _ (s1.trans (s2.trans s3)) ⟨q, rfl, hc⟩⟩⟩
/-! ### meet_of -/
abbrev N_meet_of : List Str := ["words", "way", "choice"]
theorem sc_meet_of : FnScope N_meet_of ["words", "way"] (defScope s_meet_of) := ⟨rfl, rfl, rfl, by decide +kernel, rfl, by decide +kernel, by decide +kernel⟩
theorem ok_meet_of (T : Tx K mg) : GC P w K mg base 5 "meet_of" (fun vs H Q => ∃ n b c o, spOf K (.meet n b c o) vs H Q) := by
  obtain ⟨fd, F⟩ := T.d_meet_of
  have bd : Binds K fd ["words", "way"] [] := F.bindsN fun _ _ _ _ _ _ us hl => match us, hl with | [_, _], _ => rfl
  have G_are_names := ok_are_names (P := P) (w := w) (base := base) T
  have G_choice_told := ok_choice_told (P := P) (w := w) (base := base) T
  have G_Crossing := ok_Crossing (P := P) (w := w) (base := base) T
  refine gc_fn (F.ok sc_meet_of (fun vs H Q E h => ?_) (fun cdv A outer s H vs Q E hr h => ?_)) T.g_meet_of F.kp bd
  · obtain ⟨_, _, _, _, _, _, _, rfl, _⟩ := h
    rfl
  · obtain ⟨n, b, c, o, a, wy, k, rfl, hq, hw, ok, kk⟩ := h
    have nd := sc_meet_of.nd
    have hl : ((((Stp.meet n b c o).ws.map V.str).length : Nat) : Int) = ((chW o).length + 4 : Nat) := by
      rw [List.length_map]
      rfl
    refine ⟨_, PSs.nox (pss_cons (ps_if (PW.pt (pw_or (pt_cmpR op_lt (pe_callB call_len_seq (by rfl) T.f_len (by decide +kernel) (pa_cons (pv 0) pa_nil)) pe_int (nomark _)) (pw_or1 (pt_not (pt_val (pe_gc G_are_names hr (by decide) rfl (pa_cons (pe_slice sl_list (pv 0) (po_some pe_int) (po_some pe_int)) pa_nil)))))))
      (pss_one (ps_ret pe_non))
      pss_nil)
    (pss_cons (ps_set (i := 2) nd rfl (Or.inl rfl) (pe_gc G_choice_told hr (by decide) rfl (pa_cons (pe_slice sl_list (pv 0) (po_some pe_int) po_none) pa_nil)))
    (pss_cons (ps_if (PW.pt (pw_and (pt_cmpR op_gt (pe_callB call_len_seq (by rfl) T.f_len (by decide +kernel) (pa_cons (pv 0) pa_nil)) pe_int (nomark _)) (pw_and1 (pt_cmpR op_isN (pv 2) pe_non (nomark _)))))
      (pss_one (ps_ret pe_non))
      pss_nil)
    (pss_one (ps_ret (pe_gc G_Crossing hr (by decide) rfl (pa_cons (pv 1) (pa_cons (pe_ix ix_list (pv 0) pe_int (fun _ _ => rfl)) (pa_cons (pe_ix ix_list (pv 0) pe_int (fun _ _ => rfl)) (pa_cons (pe_ix ix_list (pv 0) pe_int (fun _ _ => rfl)) (pa_cons (pv 2) pa_nil))))))))))), ?_⟩
    refine ⟨_, rfl, a, _, rfl, .inl hq, _, _, rfl, rfl, _, rfl, iteN (ltF (by rw [hl]; omega)) ?_⟩
    refine ⟨_, rfl, 1, rfl, 4, rfl, a, _, rfl, hq, fun p hp => ?_⟩
    have hc : cutV ((Stp.meet n b c o).ws.map V.str) (some 1) (some 4) = [n, b, c].map V.str := cut_mid (Stp.meet n b c o).ws 1 4
    rw [hc]
    have s1 : Same H (upd H p (.lst ([n, b, c].map V.str))) := Same.new hp
    refine ⟨p, [n, b, c], rfl, SqL.of upd_same, fun z hz => ok.nm z (List.mem_append_left (chP o) hz), by show 3 ≤ 100; decide, fun H2 s2 => ⟨true, rfl, iteN (by decide) ?_⟩⟩
    have s3 := s1.trans s2
    refine ⟨_, rfl, 4, rfl, a, _, rfl, Same.ls s3 hq, fun p2 hp2 => ?_⟩
    have hc2 : cutV ((Stp.meet n b c o).ws.map V.str) (some 4) none = (chW o).map V.str := cut_from (Stp.meet n b c o).ws 4
    rw [hc2]
    have s4 := s3.trans (Same.new (o := .lst ((chW o).map V.str)) hp2)
    refine ⟨p2, o, rfl, SqL.of upd_same, fun z hz => ok.nm z (by
      show z ∈ n :: b :: c :: chP o
      exact List.mem_cons_of_mem _ (List.mem_cons_of_mem _ (List.mem_cons_of_mem _ hz))), fun v H5 s5 hv => ?_⟩
    have s6 := s4.trans s5
    refine ⟨_, rfl, a, _, rfl, .inl (Same.ls s6 hq), _, _, rfl, rfl, _, rfl, ?_⟩
    cases o with
    | none =>
      refine iteN (by rw [hl]; simp [chW]) ?_
      refine iteN (by decide) ?_
      exact ⟨_, rfl, _, rfl, a, _, 1, _, rfl, rfl, Same.ls s6 hq, atI_nat (j := 1) rfl, _, rfl, a, _, 2, _, rfl, rfl, Same.ls s6 hq, atI_nat (j := 2) rfl, _, rfl, a, _, 3, _, rfl, rfl, Same.ls s6 hq, atI_nat (j := 3) rfl, _, rfl,
        _, _, _, _, _, _, rfl, .inr ⟨wy, rfl, .inr (Same.t s6 hw)⟩, fun c' H' s' w' hi hw' => kk c' H' (s6.trans s') ⟨w', v, hi, hw', ChO.sm T s'.sm hv⟩⟩
    | some c1 =>
      have hv0 := hv
      obtain ⟨ac, rfl, hc1⟩ := hv
      refine ite2 (fun _ => ?_) (fun _ => ?_)
      · refine ⟨_, rfl, rfl, _, rfl, iteN ne_non ?_⟩
        exact ⟨_, rfl, _, rfl, a, _, 1, _, rfl, rfl, Same.ls s6 hq, atI_nat (j := 1) rfl, _, rfl, a, _, 2, _, rfl, rfl, Same.ls s6 hq, atI_nat (j := 2) rfl, _, rfl, a, _, 3, _, rfl, rfl, Same.ls s6 hq, atI_nat (j := 3) rfl, _, rfl,
          _, _, _, _, _, _, rfl, .inr ⟨wy, rfl, .inr (Same.t s6 hw)⟩, fun c' H' s' w' hi hw' => kk c' H' (s6.trans s') ⟨w', _, hi, hw', ChO.sm T s'.sm hv0⟩⟩
      · refine iteN (by decide) ?_
        exact ⟨_, rfl, _, rfl, a, _, 1, _, rfl, rfl, Same.ls s6 hq, atI_nat (j := 1) rfl, _, rfl, a, _, 2, _, rfl, rfl, Same.ls s6 hq, atI_nat (j := 2) rfl, _, rfl, a, _, 3, _, rfl, rfl, Same.ls s6 hq, atI_nat (j := 3) rfl, _, rfl,
          _, _, _, _, _, _, rfl, .inr ⟨wy, rfl, .inr (Same.t s6 hw)⟩, fun c' H' s' w' hi hw' => kk c' H' (s6.trans s') ⟨w', _, hi, hw', ChO.sm T s'.sm hv0⟩⟩
/-! ### use_of, head_of: the words about a middle one -/
theorem take_app {α : Type} {a b : List α} {n : Nat} (h : n = a.length) : (a ++ b).take n = a := by rw [h, List.take_left]
theorem drop_app {α : Type} {a b : List α} {n : Nat} (h : n = a.length) : (a ++ b).drop n = b := by rw [h, List.drop_left]
/-- t :: h :: gs ++ m :: ns -/
structure Mid (ws : List Str) (t h m : Str) (gs ns : List Str) : Prop where
  e : ws = t :: h :: (gs ++ m :: ns)
  ht : t ≠ m
  hh : h ≠ m
  hg : ∀ g ∈ gs, g ≠ m
  g0 : gs ≠ []
  gl : gs.length ≤ 4
  n0 : ns ≠ []
  nl : ns.length ≤ 4
namespace Mid
variable {ws gs ns : List Str} {t h m : Str}
theorem len (M : Mid ws t h m gs ns) : ((ws.map V.str).length : Int) = ((gs.length + ns.length + 3 : Nat) : Int) := by
  rw [List.length_map, M.e, List.length_cons, List.length_cons, List.length_append, List.length_cons]
  omega
theorem gp (M : Mid ws t h m gs ns) : 1 ≤ gs.length := List.length_pos_iff.mpr M.g0
theorem np (M : Mid ws t h m gs ns) : 1 ≤ ns.length := List.length_pos_iff.mpr M.n0
theorem mem (M : Mid ws t h m gs ns) : m ∈ ws := by rw [M.e]; simp
theorem at_ (M : Mid ws t h m gs ns) : (ws.map V.str)[gs.length + 2]? = some (.str m) := by
  rw [List.getElem?_map, M.e]
  show ((gs ++ m :: ns)[gs.length]?).map V.str = _
  rw [List.getElem?_append_right (Nat.le_refl _), Nat.sub_self]
  rfl
theorem ahead (M : Mid ws t h m gs ns) {i : Nat} {z : V} (hi : i < gs.length + 2) (e : (ws.map V.str)[i]? = some z) : eqV z (.str m) = false := by
  rw [List.getElem?_map, M.e] at e
  have key : ∀ x : Str, x ≠ m → eqV (.str x) (.str m) = false := fun x hx => beq_eq_false_iff_ne.mpr hx
  match i, hi, e with
  | 0, _, e =>
    obtain rfl := Option.some.inj e
    exact key _ M.ht
  | 1, _, e =>
    obtain rfl := Option.some.inj e
    exact key _ M.hh
  | j + 2, hi, e =>
    have e : ((gs ++ m :: ns)[j]?).map V.str = some z := e
    rw [List.getElem?_append_left (by omega)] at e
    obtain ⟨x, hx, rfl⟩ := Option.map_eq_some_iff.mp e
    exact key _ (M.hg x (List.mem_of_getElem? hx))
theorem cut1 (M : Mid ws t h m gs ns) : cutV (ws.map V.str) (some 1) (some ((gs.length + 2 : Nat) : Int)) = (h :: gs).map V.str := by
  have e := cut_mid ws 1 (gs.length + 2)
  rw [show (some (1 : Int)) = some ((1 : Nat) : Int) from rfl, e, M.e]
  show ((h :: (gs ++ m :: ns)).take (gs.length + 1)).map V.str = _
  exact congrArg _ (take_app (a := h :: gs) (b := m :: ns) rfl)
theorem cut2 (M : Mid ws t h m gs ns) : cutV (ws.map V.str) (some 2) (some ((gs.length + 2 : Nat) : Int)) = gs.map V.str := by
  have e := cut_mid ws 2 (gs.length + 2)
  rw [show (some (2 : Int)) = some ((2 : Nat) : Int) from rfl, e, M.e]
  show ((gs ++ m :: ns).take gs.length).map V.str = _
  rw [take_app rfl]
theorem cut3 (M : Mid ws t h m gs ns) : cutV (ws.map V.str) (some ((gs.length + 2 : Nat) + 1 : Int)) none = ns.map V.str := by
  have e := cut_from ws (gs.length + 2 + 1)
  rw [show (some (((gs.length + 2 : Nat) : Int) + 1)) = some ((gs.length + 2 + 1 : Nat) : Int) from rfl, e, M.e]
  show ((gs ++ m :: ns).drop (gs.length + 1)).map V.str = _
  rw [show gs ++ m :: ns = (gs ++ [m]) ++ ns by simp, drop_app (by simp)]
end Mid
abbrev N_use_of : List Str := ["words", "way", "at"]
theorem sc_use_of : FnScope N_use_of ["words", "way"] (defScope s_use_of) := ⟨rfl, rfl, rfl, by decide +kernel, rfl, by decide +kernel, by decide +kernel⟩
theorem ok_use_of (T : Tx K mg) : GC P w K mg base 5 "use_of" (fun vs H Q => ∃ h0 gs ns, spOf K (.use h0 gs ns) vs H Q) := by
  obtain ⟨fd, F⟩ := T.d_use_of
  have bd : Binds K fd ["words", "way"] [] := F.bindsN fun _ _ _ _ _ _ us hl => match us, hl with | [_, _], _ => rfl
  have G_are_names := ok_are_names (P := P) (w := w) (base := base) T
  have G_Use := ok_Use (P := P) (w := w) (base := base) T
  refine gc_fn (F.ok sc_use_of (fun vs H Q E h => ?_) (fun cdv A outer s H vs Q E hr h => ?_)) T.g_use_of F.kp bd
  · obtain ⟨_, _, _, _, _, _, rfl, _⟩ := h
    rfl
  · obtain ⟨h0, gs, ns, a, wy, k, rfl, hq, hw, ok, kk⟩ := h
    have nd := sc_use_of.nd
    obtain ⟨g0, gl, n0, nl⟩ := ok.us h0 gs ns rfl
    have nh : Nm h0 := ok.nm h0 List.mem_cons_self
    have ng : ∀ z ∈ gs, Nm z := fun z hz => ok.nm z (List.mem_cons_of_mem _ (List.mem_append_left _ hz))
    have nn : ∀ z ∈ ns, Nm z := fun z hz => ok.nm z (List.mem_cons_of_mem _ (List.mem_append_right _ hz))
    have M : Mid (Stp.use h0 gs ns).ws "use" h0 "as" gs ns := ⟨rfl, by decide +kernel, nh.ne, fun g hg => (ng g hg).ne, g0, gl, n0, by omega⟩
    generalize (Stp.use h0 gs ns).ws = ws at M hq
    have gp := M.gp
    have np := M.np
    refine ⟨_, PSs.nox (pss_cons (ps_if (pt_cmpR op_notIn_seq pe_str (pv 0) (by rfl))
      (pss_one (ps_ret pe_non))
      pss_nil)
    (pss_cons (ps_set (i := 2) nd rfl (Or.inl rfl) (pe_bm PySem.F.plainAttrs_list PySem.F.slot_list_index PySem.F.type_list_index mt_index (pv 0) (pa_cons pe_str pa_nil)))
    (pss_cons (ps_if (PW.pt (pw_or (pt_cmpR op_lt (pv 2) pe_int (nomark _)) (pw_or (pt_cmpR op_eq (pv 2) (pe_op op_sub (pe_callB call_len_seq (by rfl) T.f_len (by decide +kernel) (pa_cons (pv 0) pa_nil)) pe_int) (nomark _)) (pw_or1 (pt_not (pt_val (pe_gc G_are_names hr (by decide) rfl (pa_cons (pe_op op_cat (pe_slice sl_list (pv 0) (po_some pe_int) (po_some (pv 2))) (pe_slice sl_list (pv 0) (po_some (pe_op op_add (pv 2) pe_int)) po_none)) pa_nil))))))))
      (pss_one (ps_ret pe_non))
      pss_nil)
    (pss_one (ps_ret (pe_gc G_Use hr (by decide) rfl (pa_cons (pv 1) (pa_cons (pe_ix ix_list (pv 0) pe_int (fun _ _ => rfl)) (pa_cons (pe_callTy call_tupS (by rfl) T.f_tuple (by decide +kernel) (pa_cons (pe_slice sl_list (pv 0) (po_some pe_int) (po_some (pv 2))) pa_nil)) (pa_cons (pe_callTy call_tupS (by rfl) T.f_tuple (by decide +kernel) (pa_cons (pe_slice sl_list (pv 0) (po_some (pe_op op_add (pv 2) pe_int)) po_none) pa_nil)) pa_nil)))))))))), ?_⟩
    refine ⟨_, rfl, _, _, rfl, .inl hq, rfl, flat_str_all _, _, rfl, ?_⟩
    rw [if_pos rfl, inV_strs, decide_eq_true M.mem]
    refine iteN (by decide) ?_
    refine ⟨_, rfl, .inl ⟨rfl, _, hq⟩, a, _, _, gs.length + 2, _, rfl, rfl, hq, rfl, flat_str_all _, M.at_, beq_self_eq_true _, fun i z hi e => M.ahead hi e, ?_⟩
    refine ⟨_, rfl, _, _, rfl, rfl, _, rfl, iteN (ltF (by omega)) ?_⟩
    refine ⟨_, rfl, _, rfl, a, _, rfl, .inl hq, _, _, rfl, rfl, rfl, _, rfl, iteN (eqIf (by rw [M.len]; omega)) ?_⟩
    refine ⟨_, rfl, 1, rfl, _, rfl, _, rfl, a, _, rfl, hq, fun p1 hp1 => ?_⟩
    rw [M.cut1]
    have s1 : Same H (upd H p1 (.lst ((h0 :: gs).map V.str))) := Same.new hp1
    have h1 : upd H p1 (.lst ((h0 :: gs).map V.str)) p1 = some (.lst ((h0 :: gs).map V.str)) := upd_same
    generalize upd H p1 (.lst ((h0 :: gs).map V.str)) = H1 at s1 h1 ⊢
    refine ⟨_, rfl, _, rfl, _, _, rfl, rfl, _, rfl, a, _, rfl, Same.ls s1 hq, fun p2 hp2 => ?_⟩
    rw [M.cut3]
    have s2 : Same H1 (upd H1 p2 (.lst (ns.map V.str))) := Same.new hp2
    have h2 : upd H1 p2 (.lst (ns.map V.str)) p2 = some (.lst (ns.map V.str)) := upd_same
    generalize upd H1 p2 (.lst (ns.map V.str)) = H2 at s2 h2 ⊢
    refine ⟨p1, p2, _, _, rfl, rfl, s2 _ _ h1, h2, ?_, fun p3 hp3 => ?_⟩
    · rw [List.length_map, List.length_map, List.length_cons]
      exact Nat.le_trans (by omega : _ ≤ 20) (by decide)
    have s3 : Same H2 (upd H2 p3 (.lst ((h0 :: gs).map V.str ++ ns.map V.str))) := Same.new hp3
    have h3 : SqL K (upd H2 p3 (.lst ((h0 :: gs).map V.str ++ ns.map V.str))) p3 (((h0 :: gs) ++ ns).map V.str) := SqL.of (by rw [upd_same, List.map_append])
    generalize upd H2 p3 (.lst ((h0 :: gs).map V.str ++ ns.map V.str)) = H3 at s3 h3 ⊢
    refine ⟨p3, (h0 :: gs) ++ ns, rfl, h3, fun z hz => ok.nm z hz, by
      rw [List.length_append, List.length_cons]
      omega, fun H4 s4 => ⟨true, rfl, iteN (by decide) ?_⟩⟩
    have s5 := s1.trans (s2.trans (s3.trans s4))
    refine ⟨_, rfl, _, rfl, a, _, 1, _, rfl, rfl, Same.ls s5 hq, atI_nat (j := 1) (by rw [M.e]; rfl), ?_⟩
    refine ⟨_, rfl, 2, rfl, _, rfl, _, rfl, a, _, rfl, Same.ls s5 hq, fun p6 hp6 => ?_⟩
    rw [M.cut2]
    refine ⟨p6, _, rfl, .inl (SqL.of upd_same), fun t7 H7 s7 ht7 => ?_⟩
    have s8 := s5.trans ((Same.new (o := .lst (gs.map V.str)) hp6).trans s7)
    refine ⟨_, rfl, _, rfl, _, _, rfl, rfl, _, rfl, a, _, rfl, Same.ls s8 hq, fun p8 hp8 => ?_⟩
    rw [M.cut3]
    refine ⟨p8, _, rfl, .inl (SqL.of upd_same), fun t9 H9 s9 ht9 => ?_⟩
    have s10 := (Same.new (o := .lst (ns.map V.str)) hp8).trans s9
    have s11 := s8.trans s10
    exact ⟨_, _, _, _, _, _, _, rfl, .inr ⟨wy, rfl, .inr (Same.t s11 hw)⟩, .inr (Same.t s10 ht7), .inr ht9, fun c' H' s' w' g' m' hi hw' hg' hm' => kk c' H' (s11.trans s') ⟨w', g', m', hi, hw', hg', hm'⟩⟩
end
end Rod
set_option Elab.async false
set_option linter.all false
set_option maxRecDepth 100000
set_option maxHeartbeats 4000000
namespace Rod
open PySem PySem.Spec PyProof.Rows L2 TL
section
variable {P : Program} {w : World} {K : PySem.W.Frag} {mg : Str → Option Value} {base : Heap}
/-! ### step_of -/
theorem at0 {ws : List Str} {z : Str} {r : List Str} (e : ws = z :: r) : atI (ws.map V.str) 0 = some (.str z) := atI_nat (j := 0) (by rw [e]; rfl)
abbrev N_step_of : List Str := ["words", "way"]
theorem sc_step_of : FnScope N_step_of ["words", "way"] (defScope s_step_of) := ⟨rfl, rfl, rfl, by decide +kernel, rfl, by decide +kernel, by decide +kernel⟩
theorem ok_step_of (T : Tx K mg) : GC P w K mg base 6 "step_of" (fun vs H Q => ∃ s, spOf K s vs H Q) := by
  obtain ⟨fd, F⟩ := T.d_step_of
  have bd : Binds K fd ["words", "way"] [] := F.bindsN fun _ _ _ _ _ _ us hl => match us, hl with | [_, _], _ => rfl
  have G_are_names := ok_are_names (P := P) (w := w) (base := base) T
  have G_give_of := ok_give_of (P := P) (w := w) (base := base) T
  have G_meet_of := ok_meet_of (P := P) (w := w) (base := base) T
  have G_use_of := ok_use_of (P := P) (w := w) (base := base) T
  have G_Through := ok_Through (P := P) (w := w) (base := base) T
  have G_About := ok_About (P := P) (w := w) (base := base) T
  refine gc_fn (F.ok sc_step_of (fun vs H Q E h => ?_) (fun cdv A outer s H vs Q E hr h => ?_)) T.g_step_of F.kp bd
  · obtain ⟨_, _, _, _, rfl, _⟩ := h
    rfl
  · obtain ⟨s0, a, wy, k, rfl, hq, hw, ok, kk⟩ := h
    refine ⟨_, PSs.nox (pss_cons (ps_if (pt_cmpR op_eq (pe_ix ix_list (pv 0) pe_int (fun _ _ => rfl)) pe_str (nomark _))
      (pss_one (ps_ret (pe_gc G_give_of hr (by decide) rfl (pa_cons (pv 0) (pa_cons (pv 1) pa_nil)))))
      pss_nil)
    (pss_cons (ps_if (pt_cmpR op_eq (pe_ix ix_list (pv 0) pe_int (fun _ _ => rfl)) pe_str (nomark _))
      (pss_one (ps_ret (pe_gc G_meet_of hr (by decide) rfl (pa_cons (pv 0) (pa_cons (pv 1) pa_nil)))))
      pss_nil)
    (pss_cons (ps_if (pt_cmpR op_eq (pe_ix ix_list (pv 0) pe_int (fun _ _ => rfl)) pe_str (nomark _))
      (pss_one (ps_ret (pe_gc G_use_of hr (by decide) rfl (pa_cons (pv 0) (pa_cons (pv 1) pa_nil)))))
      pss_nil)
    (pss_cons (ps_if (PW.pt (pw_and (pt_cmpR op_eq (pe_ix ix_list (pv 0) pe_int (fun _ _ => rfl)) pe_str (nomark _)) (pw_and (pt_cmpR op_eq (pe_callB call_len_seq (by rfl) T.f_len (by decide +kernel) (pa_cons (pv 0) pa_nil)) pe_int (nomark _)) (pw_and1 (pt_val (pe_gc G_are_names hr (by decide) rfl (pa_cons (pe_slice sl_list (pv 0) (po_some pe_int) po_none) pa_nil)))))))
      (pss_one (ps_ret (pe_gc G_Through hr (by decide) rfl (pa_cons (pv 1) (pa_cons (pe_ix ix_list (pv 0) pe_int (fun _ _ => rfl)) (pa_cons (pe_ix ix_list (pv 0) pe_int (fun _ _ => rfl)) (pa_cons (pe_ix ix_list (pv 0) pe_int (fun _ _ => rfl)) pa_nil)))))))
      pss_nil)
    (pss_cons (ps_if (PW.pt (pw_or (pt_cmpR op_ne (pe_ix ix_list (pv 0) pe_int (fun _ _ => rfl)) pe_str (nomark _)) (pw_or (pt_cmpR op_notIn_seq (pe_callB call_len_seq (by rfl) T.f_len (by decide +kernel) (pa_cons (pv 0) pa_nil)) (pe_tup (pa_cons pe_int (pa_cons pe_int pa_nil))) (by rfl)) (pw_or1 (pt_not (pt_val (pe_gc G_are_names hr (by decide) rfl (pa_cons (pe_slice sl_list (pv 0) (po_some pe_int) po_none) pa_nil))))))))
      (pss_one (ps_ret pe_non))
      pss_nil)
    (pss_one (ps_ret (pe_gc G_About hr (by decide) rfl (pa_cons (pv 1) (pa_cons (pe_ix ix_list (pv 0) pe_int (fun _ _ => rfl)) (pa_cons (pe_ix ix_list (pv 0) pe_int (fun _ _ => rfl)) (pa_cons (pe_ix ix_list (pv 0) pe_int (fun _ _ => rfl)) (pa_cons (pe_ifExp (pt_cmpR op_eq (pe_callB call_len_seq (by rfl) T.f_len (by decide +kernel) (pa_cons (pv 0) pa_nil)) pe_int (nomark _)) pe_non (pe_ix ix_list (pv 0) pe_int (fun _ _ => rfl))) pa_nil))))))))))))), ?_⟩
    cases s0 with
    | give n x y =>
      refine ⟨_, rfl, a, _, 0, _, rfl, rfl, hq, at0 rfl, rfl, _, rfl, iteI (eqS rfl) ?_⟩
      exact ⟨_, rfl, _, rfl, n, x, y, a, wy, k, rfl, hq, hw, ok, kk⟩
    | meet n b c o =>
      repeat (refine ⟨_, rfl, a, _, 0, _, rfl, rfl, hq, at0 rfl, rfl, _, rfl, iteN (neqS (by decide +kernel)) ?_⟩)
      refine ⟨_, rfl, a, _, 0, _, rfl, rfl, hq, at0 rfl, rfl, _, rfl, iteI (eqS rfl) ?_⟩
      exact ⟨_, rfl, _, rfl, n, b, c, o, a, wy, k, rfl, hq, hw, ok, kk⟩
    | use h0 gs ns =>
      repeat (refine ⟨_, rfl, a, _, 0, _, rfl, rfl, hq, at0 rfl, rfl, _, rfl, iteN (neqS (by decide +kernel)) ?_⟩)
      refine ⟨_, rfl, a, _, 0, _, rfl, rfl, hq, at0 rfl, rfl, _, rfl, iteI (eqS rfl) ?_⟩
      exact ⟨_, rfl, _, rfl, h0, gs, ns, a, wy, k, rfl, hq, hw, ok, kk⟩
    | line n b c =>
      repeat (refine ⟨_, rfl, a, _, 0, _, rfl, rfl, hq, at0 rfl, rfl, _, rfl, iteN (neqS (by decide +kernel)) ?_⟩)
      refine ⟨_, rfl, a, _, 0, _, rfl, rfl, hq, at0 rfl, rfl, _, rfl, iteI (eqS rfl) ?_⟩
      refine ⟨_, rfl, a, _, rfl, .inl hq, rfl, _, rfl, iteI (eqIt rfl) ?_⟩
      refine ⟨_, rfl, 1, rfl, a, _, rfl, hq, fun p hp => ?_⟩
      have hc : cutV ((Stp.line n b c).ws.map V.str) (some 1) none = [n, b, c].map V.str := cut_from (Stp.line n b c).ws 1
      rw [hc]
      have s1 : Same H (upd H p (.lst ([n, b, c].map V.str))) := Same.new hp
      refine ⟨p, [n, b, c], rfl, SqL.of upd_same, fun z hz => ok.nm z hz, by show 3 ≤ 100; decide, fun H2 s2 => ⟨true, rfl, iteI rfl ?_⟩⟩
      have s3 := s1.trans s2
      exact ⟨_, rfl, _, rfl, a, _, 1, _, rfl, rfl, Same.ls s3 hq, atI_nat (j := 1) rfl, _, rfl, a, _, 2, _, rfl, rfl, Same.ls s3 hq, atI_nat (j := 2) rfl, _, rfl, a, _, 3, _, rfl, rfl, Same.ls s3 hq, atI_nat (j := 3) rfl,
        _, _, _, _, _, rfl, .inr ⟨wy, rfl, .inr (Same.t s3 hw)⟩, fun c' H' s' w' hi hw' => kk c' H' (s3.trans s') ⟨w', hi, hw'⟩⟩
    | round n b c o =>
      repeat (refine ⟨_, rfl, a, _, 0, _, rfl, rfl, hq, at0 rfl, rfl, _, rfl, iteN (neqS (by decide +kernel)) ?_⟩)
      refine iteN (by decide) ?_
      refine ⟨_, rfl, a, _, 0, _, rfl, rfl, hq, at0 rfl, rfl, _, rfl, iteN (neS rfl) ?_⟩
      refine ⟨_, rfl, a, _, rfl, .inl hq, ?_⟩
      refine ⟨by show 2 ≤ sizeLine; decide, fun p0 hp0 => ?_⟩
      have s0 : Same H (upd H p0 (.tup [V.int 4, V.int 5])) := Same.new hp0
      refine ⟨p0, _, rfl, .inr (SqT.of upd_same), rfl, rfl, _, rfl, ?_⟩
      rw [if_pos rfl]
      have hin : inV (V.int (((Stp.round n b c o).ws.map V.str).length : Nat)) [V.int 4, V.int 5] = true := by cases o <;> rfl
      rw [hin]
      refine iteN (by decide) ?_
      generalize upd H p0 (.tup [V.int 4, V.int 5]) = H0 at s0 ⊢
      refine ⟨_, rfl, 1, rfl, a, _, rfl, Same.ls s0 hq, fun p hp => ?_⟩
      have hc : cutV ((Stp.round n b c o).ws.map V.str) (some 1) none = (n :: b :: c :: o.toList).map V.str := cut_from (Stp.round n b c o).ws 1
      rw [hc]
      have s1 : Same H (upd H0 p (.lst ((n :: b :: c :: o.toList).map V.str))) := s0.trans (Same.new hp)
      refine ⟨p, n :: b :: c :: o.toList, rfl, SqL.of upd_same, fun z hz => ok.nm z hz, by cases o <;> simp, fun H2 s2 => ⟨true, rfl, iteN (by decide) ?_⟩⟩
      have s3 := s1.trans s2
      refine ⟨_, rfl, _, rfl, a, _, 1, _, rfl, rfl, Same.ls s3 hq, atI_nat (j := 1) rfl, _, rfl, a, _, 2, _, rfl, rfl, Same.ls s3 hq, atI_nat (j := 2) rfl, _, rfl, a, _, 3, _, rfl, rfl, Same.ls s3 hq, atI_nat (j := 3) rfl, ?_⟩
      cases o with
      | none =>
        refine ⟨_, rfl, a, _, rfl, .inl (Same.ls s3 hq), rfl, _, rfl, iteI (eqIt rfl) ?_⟩
        exact ⟨_, _, _, _, _, _, rfl, .inr ⟨wy, rfl, .inr (Same.t s3 hw)⟩, fun c' H' s' w' hi hw' => kk c' H' (s3.trans s') ⟨w', hi, hw'⟩⟩
      | some o =>
        refine ⟨_, rfl, a, _, rfl, .inl (Same.ls s3 hq), rfl, _, rfl, iteN (eqIf (by show ((5 : Nat) : Int) ≠ 4; decide)) ?_⟩
        exact ⟨_, rfl, a, _, 4, _, rfl, rfl, Same.ls s3 hq, atI_nat (j := 4) rfl, _, _, _, _, _, _, rfl, .inr ⟨wy, rfl, .inr (Same.t s3 hw)⟩, fun c' H' s' w' hi hw' => kk c' H' (s3.trans s') ⟨w', hi, hw'⟩⟩
/-! ### head_of -/
def spHead (K : PySem.W.Frag) : S1 := fun vs H Q => ∃ (a wy : Addr) (k : List Int) (n : Str) (ps as : List Str), vs = [.ref a, .ref wy] ∧ NsL K H a (Ln.head n ps as).ws ∧ WyAt K H wy k ∧ (Ln.head n ps as).ok ∧ ∀ p H', Same H H' → HelpAt K H' p k n ps as 0 [] → Q (.ref p) H'
abbrev N_head_of : List Str := ["words", "way", "at", "word"]
theorem sc_head_of : FnScope N_head_of ["words", "way"] (defScope s_head_of) := ⟨rfl, rfl, rfl, by decide +kernel, rfl, by decide +kernel, by decide +kernel⟩
theorem ok_head_of (T : Tx K mg) : GC P w K mg base 5 "head_of" (spHead K) := by
  obtain ⟨fd, F⟩ := T.d_head_of
  have bd : Binds K fd ["words", "way"] [] := F.bindsN fun _ _ _ _ _ _ us hl => match us, hl with | [_, _], _ => rfl
  have G_is_plain := ok_is_plain (P := P) (w := w) (base := base) T
  have G_Helper := ok_Helper (P := P) (w := w) (base := base) T
  refine gc_fn (F.ok sc_head_of (fun vs H Q E h => ?_) (fun cdv A outer s H vs Q E hr h => ?_)) T.g_head_of F.kp bd
  · obtain ⟨_, _, _, _, _, _, rfl, _⟩ := h
    rfl
  · obtain ⟨a, wy, k, h0, gs, ns, rfl, hq, hw, ok, kk⟩ := h
    have nd := sc_head_of.nd
    obtain ⟨nh, ng, nn, g0, gl, n0, nl⟩ := ok
    have M : Mid (Ln.head h0 gs ns).ws "helper" h0 "gives" gs ns := ⟨rfl, by decide +kernel, nh.nm.ne, fun g hg => (ng g hg).nm.ne, g0, gl, n0, by omega⟩
    generalize (Ln.head h0 gs ns).ws = ws at M hq
    have gp := M.gp
    have np := M.np
    refine ⟨_, PSs.nox (pss_cons (ps_if (pt_cmpR op_notIn_seq pe_str (pv 0) (by rfl))
      (pss_one (ps_ret pe_non))
      pss_nil)
    (pss_cons (ps_set (i := 2) nd rfl (Or.inl rfl) (pe_bm PySem.F.plainAttrs_list PySem.F.slot_list_index PySem.F.type_list_index mt_index (pv 0) (pa_cons pe_str pa_nil)))
    (pss_cons (ps_if (PW.pt (pw_or (pt_cmpR op_lt (pv 2) pe_int (nomark _)) (pw_or (pt_cmpR op_eq (pv 2) (pe_op op_sub (pe_callB call_len_seq (by rfl) T.f_len (by decide +kernel) (pa_cons (pv 0) pa_nil)) pe_int) (nomark _)) (pw_or1 (pt_not (pt_val (pe_callB (cr_all rfl) (by rfl) T.f_all (by decide +kernel) (pa_cons (pe_lc (own := [("word", 3)]) (by rfl) nd (pi_list (pe_op op_cat (pe_slice sl_list (pv 0) (po_some pe_int) (po_some (pv 2))) (pe_slice sl_list (pv 0) (po_some (pe_op op_add (pv 2) pe_int)) po_none))) (blkOk_by (N := N_head_of) (sc := defScope s_head_of) (by decide +kernel)) (fun _ _ _ _ _ => (pg_name (i := 3) nd rfl (Or.inl rfl))) (fun _ _ _ _ _ => pts_nil) (fun _ _ _ _ _ => (pe_gc G_is_plain hr (by decide) rfl (pa_cons (pv 3) pa_nil)))) pa_nil))))))))
      (pss_one (ps_ret pe_non))
      pss_nil)
    (pss_one (ps_ret (pe_gc G_Helper hr (by decide) rfl (pa_cons (pv 1) (pa_cons (pe_ix ix_list (pv 0) pe_int (fun _ _ => rfl)) (pa_cons (pe_slice sl_list (pv 0) (po_some pe_int) (po_some (pv 2))) (pa_cons (pe_slice sl_list (pv 0) (po_some (pe_op op_add (pv 2) pe_int)) po_none) (pa_cons (pe_tup pa_nil) pa_nil))))))))))), ?_⟩
    refine ⟨_, rfl, _, _, rfl, .inl hq, rfl, flat_str_all _, _, rfl, ?_⟩
    rw [if_pos rfl, inV_strs, decide_eq_true M.mem]
    refine iteN (by decide) ?_
    refine ⟨_, rfl, .inl ⟨rfl, _, hq⟩, a, _, _, gs.length + 2, _, rfl, rfl, hq, rfl, flat_str_all _, M.at_, beq_self_eq_true _, fun i z hi e => M.ahead hi e, ?_⟩
    refine ⟨_, rfl, _, _, rfl, rfl, _, rfl, iteN (ltF (by omega)) ?_⟩
    refine ⟨_, rfl, _, rfl, a, _, rfl, .inl hq, _, _, rfl, rfl, rfl, _, rfl, iteN (eqIf (by rw [M.len]; omega)) ?_⟩
    refine ⟨_, rfl, 1, rfl, _, rfl, _, rfl, a, _, rfl, hq, fun p1 hp1 => ?_⟩
    rw [M.cut1]
    have s1 : Same H (upd H p1 (.lst ((h0 :: gs).map V.str))) := Same.new hp1
    have h1 : upd H p1 (.lst ((h0 :: gs).map V.str)) p1 = some (.lst ((h0 :: gs).map V.str)) := upd_same
    generalize upd H p1 (.lst ((h0 :: gs).map V.str)) = H1 at s1 h1 ⊢
    refine ⟨_, rfl, _, rfl, _, _, rfl, rfl, _, rfl, a, _, rfl, Same.ls s1 hq, fun p2 hp2 => ?_⟩
    rw [M.cut3]
    have s2 : Same H1 (upd H1 p2 (.lst (ns.map V.str))) := Same.new hp2
    have h2 : upd H1 p2 (.lst (ns.map V.str)) p2 = some (.lst (ns.map V.str)) := upd_same
    generalize upd H1 p2 (.lst (ns.map V.str)) = H2 at s2 h2 ⊢
    refine ⟨p1, p2, _, _, rfl, rfl, s2 _ _ h1, h2, ?_, fun p3 hp3 => ?_⟩
    · rw [List.length_map, List.length_map, List.length_cons]
      exact Nat.le_trans (by omega : _ ≤ 20) (by decide)
    have s3 : Same H2 (upd H2 p3 (.lst ((h0 :: gs).map V.str ++ ns.map V.str))) := Same.new hp3
    have h3 : SqL K (upd H2 p3 (.lst ((h0 :: gs).map V.str ++ ns.map V.str))) p3 (((h0 :: gs) ++ ns).map V.str) := SqL.of (by rw [upd_same, List.map_append])
    generalize upd H2 p3 (.lst ((h0 :: gs).map V.str ++ ns.map V.str)) = H3 at s3 h3 ⊢
    refine ⟨p3, rfl, ⟨_, h3⟩, ?_⟩
    refine lc_true (K := K) (walk_list (K := K) (a := p3) (xs := ((h0 :: gs) ++ ns).map V.str)) ((h0 :: gs) ++ ns) (by rw [List.length_map]) (by rw [List.length_append, List.length_cons]; omega) (fun _ s => Same.ls s h3) (fun i d x H4 H5 hi s4 y Nx kx => ?_) mono_name fun D H4 s4 hD ha => ?_
    · obtain ⟨rfl, hx⟩ := y
      rw [List.getElem?_map, hi] at hx
      obtain rfl := Option.some.inj hx
      refine ⟨rfl, _, rfl, d, rfl, ?_, fun H6 s6 => kx _ s6⟩
      rcases List.mem_append.mp (List.mem_of_getElem? hi) with hm | hm
      · rcases List.mem_cons.mp hm with e | hm
        · rw [e]; exact nh
        · exact ng d hm
      · exact nn d hm
    refine ⟨D, _, rfl, hD, ?_⟩
    rw [ha]
    refine ⟨true, rfl, iteN (by decide) ?_⟩
    have s5 := s1.trans (s2.trans (s3.trans s4))
    refine ⟨_, rfl, _, rfl, a, _, 1, _, rfl, rfl, Same.ls s5 hq, atI_nat (j := 1) (by rw [M.e]; rfl), ?_⟩
    refine ⟨_, rfl, 2, rfl, _, rfl, _, rfl, a, _, rfl, Same.ls s5 hq, fun p6 hp6 => ?_⟩
    rw [M.cut2]
    have s6 := Same.new (o := .lst (gs.map V.str)) hp6
    have s8 := s5.trans s6
    refine ⟨_, rfl, _, rfl, _, _, rfl, rfl, _, rfl, a, _, rfl, Same.ls s8 hq, fun p8 hp8 => ?_⟩
    rw [M.cut3]
    have s9 := Same.new (o := .lst (ns.map V.str)) hp8
    refine ⟨by decide, fun p10 hp10 => ?_⟩
    have s10 := Same.new (o := .tup []) hp10
    have s11 := s8.trans (s9.trans s10)
    exact ⟨_, _, _, _, _, _, _, _, _, rfl, .inr ⟨wy, rfl, .inr (Same.t s11 hw)⟩, .inl (Same.ls (s9.trans s10) (SqL.of upd_same)), .inl (Same.ls s10 (SqL.of upd_same)), .inr (SqT.of upd_same),
      fun c' H' s' w' v1 v2 v3 hi hw' g1 g2 g3 => kk c' H' (s11.trans s') ⟨w', v1, v2, v3, [], hi, hw', g1, g2, g3, rfl⟩⟩
end
end Rod
set_option Elab.async false
set_option linter.all false
set_option maxRecDepth 100000
set_option maxHeartbeats 4000000
namespace Rod
open PySem PySem.Spec PyProof.Rows L2 TL
/-! ### where a reader stands in the lines -/
abbrev OpS : Type := Option (Int × Str × List Str × List Str)
theorem lines_nls : ∀ ps : List Prt, (lines ps).length = nls ps
  | [] => rfl
  | p :: r => by
    rw [lines_cons, List.length_append, Prt.lns_len, lines_nls r]
    rfl
theorem nls_app (a b : List Prt) : nls (a ++ b) = nls a + nls b := by
  unfold nls
  rw [List.map_append, List.sum_append]
theorem nls_one (p : Prt) : nls [p] = p.nl := by
  show p.nl + 0 = p.nl
  rfl
theorem Prt.nl1 (p : Prt) : 1 ≤ p.nl := by
  cases p with
  | stp s => exact Nat.le_refl 1
  | hlp n ps as ss =>
    show 1 ≤ ss.length + 2
    omega
inductive PosL (ps : List Prt) : Nat → List Prt → OpS → List Stp → Prop
  | out (dn rest : List Prt) (e : ps = dn ++ rest) : PosL ps (nls dn) dn none []
  | inn (dn : List Prt) (n : Str) (qs as : List Str) (ss1 ss2 : List Stp) (rest : List Prt) (e : ps = dn ++ .hlp n qs as (ss1 ++ ss2) :: rest) :
    PosL ps (nls dn + 1 + ss1.length) dn (some (1 + (nls dn : Nat), n, qs, as)) ss1
inductive TStep (k : Int) : List Prt → OpS → List Stp → Ln → List Prt → OpS → List Stp → Prop
  | head (dn : List Prt) (inn : List Stp) (n : Str) (qs as : List Str) : TStep k dn none inn (.head n qs as) dn (some (k, n, qs, as)) []
  | fin (dn : List Prt) (inn : List Stp) (n : Str) (qs as : List Str) (j : Int) (e : j = 1 + (nls dn : Nat)) : TStep k dn (some (j, n, qs, as)) inn .fin (dn ++ [.hlp n qs as inn]) none []
  | stp0 (dn : List Prt) (inn : List Stp) (s : Stp) (e : k = 1 + (nls dn : Nat)) : TStep k dn none inn (.stp s) (dn ++ [.stp s]) none []
  | stp1 (dn : List Prt) (inn : List Stp) (s : Stp) (n : Str) (qs as : List Str) (j : Int) (e : k = j + 1 + (inn.length : Nat)) (g : s.isGive = false) : TStep k dn (some (j, n, qs, as)) inn (.stp s) dn (some (j, n, qs, as)) (inn ++ [s])
theorem lines_app (a b : List Prt) : lines (a ++ b) = lines a ++ lines b := List.flatMap_append
theorem line_at {dn rest : List Prt} {p : Prt} {j : Nat} (h : j < p.nl) : (lines (dn ++ p :: rest))[nls dn + j]? = p.lns[j]? := by
  rw [lines_app, List.getElem?_append_right (by rw [lines_nls]; omega), lines_nls, Nat.add_sub_cancel_left, lines_cons, List.getElem?_append_left (by rw [Prt.lns_len]; exact h)]
theorem PosL.step {ps : List Prt} {i : Nat} {dn : List Prt} {op : OpS} {inn : List Stp} {l : Ln} (h : PosL ps i dn op inn) (hl : (lines ps)[i]? = some l) (ok : ∀ p ∈ ps, p.ok) :
    ∃ dn' op' inn', TStep (1 + (i : Nat)) dn op inn l dn' op' inn' ∧ PosL ps (i + 1) dn' op' inn' ∧ dn'.length ≤ ps.length ∧ dn.length < ps.length ∧ inn.length ≤ 5 := by
  cases h with
  | out dn rest e =>
    subst e
    cases rest with
    | nil =>
      rw [List.append_nil, List.getElem?_eq_none (by rw [lines_nls]; exact Nat.le_refl _)] at hl
      cases hl
    | cons p rest =>
      have e := line_at (dn := dn) (rest := rest) (p := p) (j := 0) p.nl1
      rw [Nat.add_zero, hl] at e
      have hd : dn.length < (dn ++ p :: rest).length := by rw [List.length_append, List.length_cons]; omega
      have hd2 : (dn ++ [p]).length ≤ (dn ++ p :: rest).length := by rw [List.length_append, List.length_append, List.length_cons]; simp
      cases p with
      | stp s =>
        obtain rfl := Option.some.inj e
        refine ⟨_, _, _, .stp0 dn [] s rfl, ?_, hd2, hd, Nat.zero_le _⟩
        have q := PosL.out (ps := dn ++ .stp s :: rest) (dn ++ [.stp s]) rest (by simp)
        rw [nls_app, nls_one] at q
        exact q
      | hlp n qs as ss =>
        obtain rfl := Option.some.inj e
        refine ⟨_, _, _, .head dn [] n qs as, ?_, Nat.le_of_lt hd, hd, Nat.zero_le _⟩
        exact PosL.inn (ps := dn ++ .hlp n qs as ss :: rest) dn n qs as [] ss rest rfl
  | inn dn n qs as _ ss2 rest e =>
    subst e
    have hok : Prt.hok n qs as (inn ++ ss2) := ok (.hlp n qs as (inn ++ ss2)) (by simp)
    have hd : dn.length < (dn ++ Prt.hlp n qs as (inn ++ ss2) :: rest).length := by rw [List.length_append, List.length_cons]; omega
    have hd2 : (dn ++ [Prt.hlp n qs as (inn ++ ss2)]).length ≤ (dn ++ Prt.hlp n qs as (inn ++ ss2) :: rest).length := by rw [List.length_append, List.length_append, List.length_cons]; simp
    have h5 : inn.length ≤ 5 := by
      have := hok.sl
      rw [List.length_append] at this
      omega
    have e := line_at (dn := dn) (rest := rest) (p := .hlp n qs as (inn ++ ss2)) (j := 1 + inn.length) (by
      show _ < (inn ++ ss2).length + 2
      rw [List.length_append]
      omega)
    rw [← Nat.add_assoc, hl] at e
    have e2 : (Prt.hlp n qs as (inn ++ ss2)).lns[1 + inn.length]? = ((inn ++ ss2).map Ln.stp ++ [Ln.fin])[inn.length]? := by
      rw [Nat.add_comm]
      rfl
    rw [e2, List.map_append, List.append_assoc, List.getElem?_append_right (by rw [List.length_map]; exact Nat.le_refl _), List.length_map, Nat.sub_self] at e
    cases ss2 with
    | nil =>
      obtain rfl := Option.some.inj e
      rw [List.append_nil] at hd hd2 ⊢
      refine ⟨_, _, _, .fin dn inn n qs as _ rfl, ?_, hd2, hd, h5⟩
      have q := PosL.out (ps := dn ++ .hlp n qs as inn :: rest) (dn ++ [.hlp n qs as inn]) rest (by simp)
      rw [nls_app, nls_one] at q
      rw [show nls dn + 1 + inn.length + 1 = nls dn + (Prt.hlp n qs as inn).nl by
        show _ = nls dn + (inn.length + 2)
        omega]
      exact q
    | cons s ss2 =>
      obtain rfl := Option.some.inj e
      refine ⟨_, _, _, .stp1 dn inn s n qs as _ (by omega) (hok.sm s (by simp)).2, ?_, Nat.le_of_lt hd, hd, h5⟩
      have q := PosL.inn (ps := dn ++ .hlp n qs as (inn ++ s :: ss2) :: rest) dn n qs as (inn ++ [s]) ss2 rest (by simp)
      rw [List.length_append] at q
      exact q
theorem PosL.done {ps : List Prt} {i : Nat} {dn : List Prt} {op : OpS} {inn : List Stp} (h : PosL ps i dn op inn) (hi : i = (lines ps).length) : op = none ∧ dn = ps := by
  cases h with
  | out dn rest e =>
    subst e
    rw [lines_nls, nls_app] at hi
    cases rest with
    | nil => exact ⟨rfl, (List.append_nil _).symm⟩
    | cons p r =>
      have := p.nl1
      have e : nls (p :: r) = p.nl + nls r := rfl
      omega
  | inn dn n qs as _ ss2 rest e =>
    subst e
    rw [lines_nls, nls_app] at hi
    have e : nls (Prt.hlp n qs as (inn ++ ss2) :: rest) = ((inn ++ ss2).length + 2) + nls rest := rfl
    rw [e, List.length_append] at hi
    omega
/-! ### signs -/
theorem sok_of {z : Str} (h : ∀ c ∈ tl z, c < 0x110000) : PyData.strOk z = true := by
  unfold PyData.strOk
  rw [Array.all_eq_true]
  intro i hi
  refine decide_eq_true (h _ ?_)
  show z.cps[i] ∈ z.cps.toList
  simp
theorem kept_sok : ∀ z ∈ kept, PyData.strOk z = true := by decide +kernel
theorem Nm.sok {z : Str} (h : Nm z) : PyData.strOk z = true := sok_of fun c hc => by
  rcases h.al c hc with h | h | h
  · omega
  · have := h.2
    omega
  · have := h.2
    omega
theorem Fr.sok (f : Fr) : PyData.strOk f.tx = true := sok_of fun c hc => by
  rw [Fr.tl_tx] at hc
  have := f.signs c hc
  omega
theorem Ch.sok {c : Option Ch} (h : ∀ p ∈ chP c, Nm p) : ∀ z ∈ chW c, PyData.strOk z = true := by
  cases c with
  | none => exact fun z hz => (nomatch hz)
  | some c =>
    cases c
    case first => exact fun z hz => by rw [List.mem_singleton.mp hz]; exact kept_sok _ (by decide +kernel)
    case last => exact fun z hz => by rw [List.mem_singleton.mp hz]; exact kept_sok _ (by decide +kernel)
    case left => exact fun z hz => by rw [List.mem_singleton.mp hz]; exact kept_sok _ (by decide +kernel)
    case right => exact fun z hz => by rw [List.mem_singleton.mp hz]; exact kept_sok _ (by decide +kernel)
    all_goals
      intro z hz
      rcases List.mem_cons.mp hz with e | hz
      · rw [e]
        exact kept_sok _ (by decide +kernel)
      · exact (h z hz).sok
theorem Stp.ok.sok {s : Stp} (h : s.ok) : ∀ z ∈ s.ws, PyData.strOk z = true := by
  cases s with
  | give n x y =>
    intro z hz
    rcases List.mem_cons.mp hz with e | hz
    · rw [e]; exact kept_sok _ (by decide +kernel)
    rcases List.mem_cons.mp hz with e | hz
    · rw [e]; exact (h.nm n List.mem_cons_self).sok
    rcases List.mem_cons.mp hz with e | hz
    · rw [e]; exact x.sok
    · rw [List.mem_singleton.mp hz]; exact y.sok
  | line n b c =>
    intro z hz
    rcases List.mem_cons.mp hz with e | hz
    · rw [e]; exact kept_sok _ (by decide +kernel)
    · exact (h.nm z hz).sok
  | round n b c o =>
    intro z hz
    rcases List.mem_cons.mp hz with e | hz
    · rw [e]; exact kept_sok _ (by decide +kernel)
    · exact (h.nm z hz).sok
  | meet n b c o =>
    have hc := Ch.sok (c := o) fun p hp => h.nm p (by
      show p ∈ n :: b :: c :: chP o
      exact List.mem_cons_of_mem _ (List.mem_cons_of_mem _ (List.mem_cons_of_mem _ hp)))
    intro z hz
    rcases List.mem_cons.mp hz with e | hz
    · rw [e]; exact kept_sok _ (by decide +kernel)
    rcases List.mem_cons.mp hz with e | hz
    · rw [e]; exact (h.nm n List.mem_cons_self).sok
    rcases List.mem_cons.mp hz with e | hz
    · rw [e]; exact (h.nm b (List.mem_cons_of_mem _ List.mem_cons_self)).sok
    rcases List.mem_cons.mp hz with e | hz
    · rw [e]; exact (h.nm c (List.mem_cons_of_mem _ (List.mem_cons_of_mem _ List.mem_cons_self))).sok
    · exact hc z hz
  | use h0 gs ns =>
    intro z hz
    rcases List.mem_cons.mp hz with e | hz
    · rw [e]; exact kept_sok _ (by decide +kernel)
    rcases List.mem_cons.mp hz with e | hz
    · rw [e]; exact (h.nm h0 List.mem_cons_self).sok
    rcases List.mem_append.mp hz with hz | hz
    · exact (h.nm z (List.mem_cons_of_mem _ (List.mem_append_left _ hz))).sok
    rcases List.mem_cons.mp hz with e | hz
    · rw [e]; exact kept_sok _ (by decide +kernel)
    · exact (h.nm z (List.mem_cons_of_mem _ (List.mem_append_right _ hz))).sok
theorem Ln.ok.sok {l : Ln} (h : l.ok) : ∀ z ∈ l.ws, PyData.strOk z = true := by
  cases l with
  | stp s => exact Stp.ok.sok h
  | fin => exact fun z hz => by rw [List.mem_singleton.mp hz]; exact kept_sok _ (by decide +kernel)
  | head n ps as =>
    obtain ⟨h1, h2, h3, _⟩ := h
    intro z hz
    rcases List.mem_cons.mp hz with e | hz
    · rw [e]; exact kept_sok _ (by decide +kernel)
    rcases List.mem_cons.mp hz with e | hz
    · rw [e]; exact h1.nm.sok
    rcases List.mem_append.mp hz with hz | hz
    · exact (h2 z hz).nm.sok
    rcases List.mem_cons.mp hz with e | hz
    · rw [e]; exact kept_sok _ (by decide +kernel)
    · exact (h3 z hz).nm.sok
theorem Stp.ok.wds {s : Stp} (h : s.ok) : ∀ z ∈ s.ws, Wd z := by
  cases s with
  | give n x y =>
    intro z hz
    rcases List.mem_cons.mp hz with e | hz
    · rw [e]; exact wdK _
    rcases List.mem_cons.mp hz with e | hz
    · rw [e]; exact (h.nm n List.mem_cons_self).wd
    rcases List.mem_cons.mp hz with e | hz
    · rw [e]; exact x.wd
    · rw [List.mem_singleton.mp hz]; exact y.wd
  | line n b c =>
    intro z hz
    rcases List.mem_cons.mp hz with e | hz
    · rw [e]; exact wdK _
    · exact (h.nm z hz).wd
  | round n b c o =>
    intro z hz
    rcases List.mem_cons.mp hz with e | hz
    · rw [e]; exact wdK _
    · exact (h.nm z hz).wd
  | meet n b c o =>
    have hc : ∀ p ∈ chP o, Nm p := fun p hp => h.nm p (by
      show p ∈ n :: b :: c :: chP o
      exact List.mem_cons_of_mem _ (List.mem_cons_of_mem _ (List.mem_cons_of_mem _ hp)))
    intro z hz
    rcases List.mem_cons.mp hz with e | hz
    · rw [e]; exact wdK _
    rcases List.mem_cons.mp hz with e | hz
    · rw [e]; exact (h.nm n List.mem_cons_self).wd
    rcases List.mem_cons.mp hz with e | hz
    · rw [e]; exact (h.nm b (List.mem_cons_of_mem _ List.mem_cons_self)).wd
    rcases List.mem_cons.mp hz with e | hz
    · rw [e]; exact (h.nm c (List.mem_cons_of_mem _ (List.mem_cons_of_mem _ List.mem_cons_self))).wd
    · cases o with
      | none => exact (nomatch hz)
      | some c1 =>
        cases c1
        case first => rw [List.mem_singleton.mp hz]; exact wdK _
        case last => rw [List.mem_singleton.mp hz]; exact wdK _
        case left => rw [List.mem_singleton.mp hz]; exact wdK _
        case right => rw [List.mem_singleton.mp hz]; exact wdK _
        all_goals
          rcases List.mem_cons.mp hz with e | hz
          · rw [e]
            exact wdK _
          · exact (hc z hz).wd
  | use h0 gs ns =>
    intro z hz
    rcases List.mem_cons.mp hz with e | hz
    · rw [e]; exact wdK _
    rcases List.mem_cons.mp hz with e | hz
    · rw [e]; exact (h.nm h0 List.mem_cons_self).wd
    rcases List.mem_append.mp hz with hz | hz
    · exact (h.nm z (List.mem_cons_of_mem _ (List.mem_append_left _ hz))).wd
    rcases List.mem_cons.mp hz with e | hz
    · rw [e]; exact wdK _
    · exact (h.nm z (List.mem_cons_of_mem _ (List.mem_append_right _ hz))).wd
theorem Ln.ok.wds {l : Ln} (h : l.ok) : ∀ z ∈ l.ws, Wd z := by
  cases l with
  | stp s => exact Stp.ok.wds h
  | fin => exact fun z hz => by rw [List.mem_singleton.mp hz]; exact wdK _
  | head n ps as =>
    obtain ⟨h1, h2, h3, _⟩ := h
    intro z hz
    rcases List.mem_cons.mp hz with e | hz
    · rw [e]; exact wdK _
    rcases List.mem_cons.mp hz with e | hz
    · rw [e]; exact h1.wd
    rcases List.mem_append.mp hz with hz | hz
    · exact (h2 z hz).wd
    rcases List.mem_cons.mp hz with e | hz
    · rw [e]; exact wdK _
    · exact (h3 z hz).wd
theorem Ln.ws_ne (l : Ln) : ∃ t r, l.ws = t :: r ∧ t ∈ kept := by
  cases l with
  | stp s => cases s <;> exact ⟨_, _, rfl, by decide +kernel⟩
  | head n ps as => exact ⟨_, _, rfl, by decide +kernel⟩
  | fin => exact ⟨_, _, rfl, by decide +kernel⟩
theorem Ln.ok.words {l : Ln} (h : l.ok) : (Txt.split l.row " ").filter neE = l.ws := by
  obtain ⟨t, r, e, _⟩ := l.ws_ne
  have hs : Txt.split l.row " " = l.ws := split_row (by rw [e]; simp) h.wds
  rw [hs]
  refine List.filter_eq_self.mpr fun z hz => ?_
  unfold neE
  rw [decide_eq_false fun e => (h.wds z hz).ne0 (V.str.inj e)]
  rfl
theorem kept_hash : ∀ z ∈ kept, Txt.startswith z "#" = false := by decide +kernel
theorem eqv_nil (ws : List Str) : PyData.eqv (.list (ws.map PyData.str)) (.list []) = decide (ws = []) := by
  cases ws <;> rfl
theorem depth_strs (ws : List Str) : PyData.depthAll (ws.map PyData.str) = 0 := by
  induction ws with
  | nil => rfl
  | cons z r ih =>
    show max 0 (PyData.depthAll (r.map PyData.str)) = 0
    rw [ih]
    rfl
theorem canLay_strs {ws : List Str} (h : ∀ z ∈ ws, PyData.strOk z = true) : PyData.canLayAll0 (ws.map PyData.str) = true := by
  induction ws with
  | nil => rfl
  | cons z r ih =>
    show (PyData.strOk z && PyData.canLayAll0 (r.map PyData.str)) = true
    rw [h z List.mem_cons_self, ih fun y hy => h y (List.mem_cons_of_mem _ hy)]
    rfl
theorem shaped_strs {ws : List Str} (h : ∀ z ∈ ws, PyData.strOk z = true) : SeqAt.shaped (.list (ws.map PyData.str)) = true := by
  unfold SeqAt.shaped
  rw [Bool.and_eq_true]
  refine ⟨canLay_strs h, decide_eq_true ?_⟩
  show PyData.depthAll (ws.map PyData.str) + 1 ≤ 64
  rw [depth_strs]
  decide
end Rod
set_option Elab.async false
set_option linter.all false
set_option maxRecDepth 100000
set_option maxHeartbeats 4000000
namespace Rod
open PySem PySem.Spec PyProof.Rows L2 TL
/-! ### a reading -/
def fR3 (a b c : V) : List (Str × V) := [("parts", a), ("opened", b), ("inner", c)]
theorem putF_ne {f g : Str} {x v : V} {r : List (Str × V)} (h : g ≠ f) : putF f v ((g, x) :: r) = (g, x) :: putF f v r := if_neg h
theorem putF_hit {f : Str} {x v : V} {r : List (Str × V)} : putF f v ((f, x) :: r) = (f, v) :: r := if_pos rfl
theorem fR_eq (a b c : V) : fReading a b c = fR3 a b c := by
  unfold fReading
  rw [show putF "parts" a [] = [(("parts" : Str), a)] from rfl, putF_ne (by decide +kernel), putF_ne (by decide +kernel)]
  show (("parts" : Str), a) :: putF "inner" c ((("opened" : Str), b) :: []) = _
  rw [putF_ne (by decide +kernel)]
  rfl
theorem fR_opened (a b c x : V) : putF "opened" x (fReading a b c) = fReading a x c := by
  rw [fR_eq, fR_eq]
  unfold fR3
  rw [putF_ne (by decide +kernel), putF_hit]
theorem fR_inner (a b c x : V) : putF "inner" x (fReading a b c) = fReading a b x := by
  rw [fR_eq, fR_eq]
  unfold fR3
  rw [putF_ne (by decide +kernel), putF_ne (by decide +kernel), putF_hit]
section
variable {P : Program} {w : World} {K : PySem.W.Frag} {mg : Str → Option Value} {base : Heap} {H H' : Hp}
abbrev RdI (K : PySem.W.Frag) (H : Hp) (r dx pl : Addr) (v : V) (il : Addr) : Prop := H r = some (.ins (He.ga K "Reading") dx (fReading (.ref pl) v (.ref il)))
theorem Sm.ins {r dx : Addr} {fs : List (Str × V)} {o : HO} (h : H r = some (.ins (He.ga K "Reading") dx fs)) : Sm K H (upd H r o) := fun b u e _ h2 => by
  rw [upd_ne (fun z => by
    rw [z, h] at e
    exact h2 _ _ (Option.some.inj e).symm)]
  exact e
/-- what is opened, and the list of its steps -/
def OpAt (K : PySem.W.Frag) (H : Hp) (v : V) (ys : List V) : OpS → List Stp → Prop
  | none, _ => v = .non
  | some (j, n, qs, as), inn => ∃ h bs, v = .ref h ∧ HelpAt K H h [j] n qs as 0 [] ∧ ys = bs.map V.ref ∧ StepsAt K H bs (j + 1) inn
theorem OpAt.sm (T : Tx K mg) (s : Sm K H H') {v : V} {ys : List V} : ∀ {op : OpS} {inn : List Stp}, OpAt K H v ys op inn → OpAt K H' v ys op inn
  | none, _, h => h
  | some (j, n, qs, as), _, ⟨h, bs, e1, e2, e3, e4⟩ => ⟨h, bs, e1, e2.sm T s, e3, e4.sm T s⟩
structure RSt (K : PySem.W.Frag) (H : Hp) (r pl il : Addr) (dn : List Prt) (op : OpS) (inn : List Stp) : Prop where
  ne : pl ≠ il
  ex : ∃ dx v as ys, RdI K H r dx pl v il ∧ H pl = some (.lst (as.map V.ref)) ∧ PartsAt K H as 1 dn ∧ H il = some (.lst ys) ∧ OpAt K H v ys op inn
theorem RSt.sm (T : Tx K mg) {r pl il : Addr} {dn : List Prt} {op : OpS} {inn : List Stp} (h : RSt K H r pl il dn op inn) (s : Same H H') : RSt K H' r pl il dn op inn := by
  obtain ⟨ne, dx, v, as, ys, h1, h2, h3, h4, h5⟩ := h
  exact ⟨ne, dx, v, as, ys, s _ _ h1, s _ _ h2, h3.sm T s.sm, s _ _ h4, h5.sm T s.sm⟩
/-- all but the reading and its two lists stands -/
def Kx (r pl il : Addr) (H H' : Hp) : Prop := ∀ b o, H b = some o → b ≠ r → b ≠ pl → b ≠ il → H' b = some o
/-! ### Reading() -/
def spReadI (K : PySem.W.Frag) : S1 := fun vs H Q => ∃ (y dx : Addr), vs = [.ref y] ∧ H y = some (.ins (He.ga K "Reading") dx []) ∧ ∀ H' pl il, Ov y H H' → H pl = none → H il = none → pl ≠ il → RdI K H' y dx pl .non il → H' pl = some (.lst []) → H' il = some (.lst []) → Q .non H'
def spReadM (K : PySem.W.Frag) : S1 := fun vs H Q => vs = [] ∧ ∀ r pl il H', Same H H' → H r = none → H pl = none → H il = none → RSt K H' r pl il [] none [] → Q (.ref r) H'
abbrev N_Reading_init : List Str := ["self"]
theorem sc_Reading_init : FnScope N_Reading_init ["self"] (defScope s_Reading_init) := ⟨rfl, rfl, rfl, by decide +kernel, rfl, by decide +kernel, by decide +kernel⟩
theorem ok_Reading (T : Tx K mg) : GC P w K mg base 2 "Reading" (spReadM K) := by
  obtain ⟨fd, F⟩ := T.d_Reading_init
  have bd : Binds K fd ["self"] [] := F.bindsN fun _ _ _ _ _ _ us hl => match us, hl with | [_], _ => rfl
  refine gc_make (sp := spReadI K) T.k_Reading (F.ok sc_Reading_init (fun vs H Q E h => ?_) (fun cdv A outer s H vs Q E hr h => ?_)) T.g_Reading bd .nil fun vs H Q h => ?_
  · obtain ⟨_, _, rfl, _⟩ := h
    rfl
  · obtain ⟨y, dx, rfl, hy, kk⟩ := h
    refine ⟨_, PSs.nox (pss_cons (ps_fld (pv 0) (pe_lst pa_nil) rfl)
    (pss_cons (ps_fld (pv 0) pe_non rfl)
    (pss_one (ps_fld (pv 0) (pe_lst pa_nil) rfl)))), ?_⟩
    refine ⟨by decide, fun pl hpl => ?_⟩
    have ny1 : pl ≠ y := fun e => by rw [e, hy] at hpl; cases hpl
    have s1 : Same H (upd H pl (.lst [])) := Same.new hpl
    have g1 : upd H pl (.lst []) pl = some (.lst []) := upd_same
    generalize upd H pl (.lst []) = H1 at s1 g1 ⊢
    refine ⟨_, rfl, y, _, dx, _, rfl, s1 _ _ hy, T.c_Reading, T.n_Reading_parts, (by show 0 < 1000; decide), ?_⟩
    refine ⟨_, rfl, y, _, dx, _, rfl, upd_same, T.c_Reading, T.n_Reading_opened, (by show 1 < 1000; decide), ?_⟩
    refine ⟨by decide, fun il hil => ?_⟩
    have ny2 : il ≠ y := fun e => by rw [e, upd_same] at hil; cases hil
    rw [upd_ne ny2, upd_ne ny2] at hil
    refine ⟨_, rfl, y, _, dx, _, rfl, (by rw [upd_ne (Ne.symm ny2)]; exact upd_same), T.c_Reading, T.n_Reading_inner, (by show 2 < 1000; decide), ?_⟩
    refine kk _ pl il (fun b o e hb => ?_) hpl (Same.back s1 hil) (fun e => by rw [← e, g1] at hil; cases hil) upd_same ?_ ?_
    · have hb2 : b ≠ il := fun z => by
        have := s1 _ _ e
        rw [z, hil] at this
        cases this
      rw [upd_ne hb, upd_ne hb2, upd_ne hb, upd_ne hb]
      exact s1 _ _ e
    · have n3 : pl ≠ il := fun e => by rw [← e, g1] at hil; cases hil
      rw [upd_ne ny1, upd_ne n3, upd_ne ny1, upd_ne ny1]
      exact g1
    · rw [upd_ne ny2]
      exact upd_same
  · obtain ⟨rfl, kk⟩ := h
    intro y dx ny nd ne
    refine ⟨y, dx, rfl, upd_same, fun H' pl il ov hp hi n2 h1 h2 h3 => ⟨rfl, ?_⟩⟩
    have sm : Same H (upd (upd H dx (.own y)) y (.ins (He.ga K "Reading") dx [])) := Same.made ny nd fun b o e hb => e
    exact kk y pl il H' (Same.made ny nd ov) ny (Same.back sm hp) (Same.back sm hi) ⟨n2, dx, .non, [], [], h1, h2, rfl, h3, rfl⟩
/-! ### take_head, take_end, take -/
def rcRd (K : PySem.W.Frag) : Unit → V → Hp → Prop := fun _ x H => ∃ r dx pl v il, x = .ref r ∧ RdI K H r dx pl v il
theorem RSt.rc {r pl il : Addr} {dn : List Prt} {op : OpS} {inn : List Stp} (h : RSt K H r pl il dn op inn) : rcRd K () (.ref r) H := by
  obtain ⟨ne, dx, v, as, ys, h1, _⟩ := h
  exact ⟨r, dx, pl, v, il, rfl, h1⟩
def spTHead (K : PySem.W.Frag) : S1 := fun vs H Q => ∃ (r wa wy pl il : Addr) (k : Int) (dn : List Prt) (inn : List Stp) (n : Str) (qs as : List Str), vs = [.ref r, .ref wa, .ref wy] ∧ RSt K H r pl il dn none inn ∧ NsL K H wa (Ln.head n qs as).ws ∧ WyAt K H wy [k] ∧
  (Ln.head n qs as).ok ∧ ∀ H' il', Kx r pl il H H' → H il' = none → RSt K H' r pl il' dn (some (k, n, qs, as)) [] → Q (.bl true) H'
abbrev N_Reading_take_head : List Str := ["self", "words", "way", "head"]
theorem sc_Reading_take_head : FnScope N_Reading_take_head ["self", "words", "way"] (defScope s_Reading_take_head) := ⟨rfl, rfl, rfl, by decide +kernel, rfl, by decide +kernel, by decide +kernel⟩
theorem ok_take_head (T : Tx K mg) : VM P w K mg base 6 "take_head" (rcRd K) (fun _ => spTHead K) := by
  obtain ⟨fd, F⟩ := T.d_Reading_take_head
  have bd : Binds K fd ["self", "words", "way"] [] := F.bindsN fun _ _ _ _ _ _ us hl => match us, hl with | [_, _, _], _ => rfl
  have G_head_of := ok_head_of (P := P) (w := w) (base := base) T
  refine vm_one (sp0 := spTHead K) T.c_Reading T.m_Reading_take_head (F.ok sc_Reading_take_head (fun vs H Q E h => ?_) (fun cdv A outer s H vs Q E hr h => ?_)) bd (fun i x H h => ?_) fun i vs H Q h => h
  · obtain ⟨_, _, _, _, _, _, _, _, _, _, _, rfl, _⟩ := h
    rfl
  · obtain ⟨r, wa, wy, pl, il, k, dn, inn, n, qs, as, rfl, st, hq, hw, ok, kk⟩ := h
    have nd := sc_Reading_take_head.nd
    refine ⟨_, PSs.nox (pss_cons (ps_set (i := 3) nd rfl (Or.inl rfl) (pe_gc G_head_of hr (by decide) rfl (pa_cons (pv 1) (pa_cons (pv 2) pa_nil))))
    (pss_cons (ps_if (PW.pt (pw_or (pt_cmpR op_notN (pe_fld (pv 0) rfl) pe_non (nomark _)) (pw_or1 (pt_cmpR op_isN (pv 3) pe_non (nomark _)))))
      (pss_one (ps_ret pe_bl))
      pss_nil)
    (pss_cons (ps_fld (pv 0) (pv 3) rfl)
    (pss_cons (ps_fld (pv 0) (pe_lst pa_nil) rfl)
    (pss_one (ps_ret pe_bl)))))), ?_⟩
    refine ⟨_, rfl, _, rfl, wa, wy, [k], n, qs, as, rfl, hq, hw, ok, fun h H1 s1 hh => ?_⟩
    obtain ⟨ne, dx, v, as1, ys, h1, h2, h3, h4, h5⟩ := st
    obtain rfl : v = .non := h5
    refine ⟨_, rfl, r, _, dx, _, _, rfl, s1 _ _ h1, T.c_Reading, T.n_Reading_opened, fReading_opened .., rfl, _, rfl, iteN is_nonN ?_⟩
    refine ⟨_, rfl, rfl, _, rfl, iteN ne_non ?_⟩
    refine ⟨_, rfl, _, rfl, r, _, dx, _, rfl, s1 _ _ h1, T.c_Reading, T.n_Reading_opened, (by rw [fR_eq]; show 3 < 1000; decide), ?_⟩
    rw [fR_opened]
    have m2 : Sm K H1 (upd H1 r (.ins (He.ga K "Reading") dx (fReading (.ref pl) (.ref h) (.ref il)))) := Sm.ins (s1 _ _ h1)
    have npl : pl ≠ r := fun e => by rw [e, h1] at h2; cases h2
    refine ⟨by decide, fun il' hil' => ?_⟩
    have nil : il' ≠ r := fun e => by rw [e, upd_same] at hil'; cases hil'
    rw [upd_ne nil] at hil'
    refine ⟨_, rfl, r, _, dx, _, rfl, (by rw [upd_ne (Ne.symm nil)]; exact upd_same), T.c_Reading, T.n_Reading_inner, (by rw [fR_eq]; show 3 < 1000; decide), ?_⟩
    rw [fR_inner]
    have n3 : pl ≠ il' := fun e => by
      have := s1 _ _ h2
      rw [e, hil'] at this
      cases this
    have e2 : upd H1 r (.ins (He.ga K "Reading") dx (fReading (.ref pl) (.ref h) (.ref il))) il' = none := by
      rw [upd_ne nil]
      exact hil'
    have m3 := m2.trans (Same.sm (Same.new (o := .lst []) e2))
    have m4 := m3.trans (Sm.ins (K := K) (o := .ins (He.ga K "Reading") dx (fReading (.ref pl) (.ref h) (.ref il'))) (by rw [upd_ne (Ne.symm nil)]; exact upd_same))
    refine kk _ il' (fun b o e hb hb2 hb3 => ?_) (Same.back s1 hil') ⟨n3, dx, .ref h, as1, [], upd_same, ?_, (h3.sm T s1.sm).sm T m4, ?_, h, [], rfl, hh.sm T m4, rfl, rfl⟩
    · have hb4 : b ≠ il' := fun z => by
        have := s1 _ _ e
        rw [z, hil'] at this
        cases this
      rw [upd_ne hb, upd_ne hb4, upd_ne hb]
      exact s1 _ _ e
    · rw [upd_ne npl, upd_ne n3, upd_ne npl]
      exact s1 _ _ h2
    · rw [upd_ne nil]
      exact upd_same
  · obtain ⟨r, dx, pl, v, il, rfl, h⟩ := h
    exact ⟨r, dx, _, rfl, h, fReading_no_take_head ..⟩
def spTEnd (K : PySem.W.Frag) : S1 := fun vs H Q => ∃ (r wa pl il : Addr) (dn : List Prt) (inn : List Stp) (n : Str) (qs as : List Str), vs = [.ref r, .ref wa] ∧ RSt K H r pl il dn (some (1 + (nls dn : Nat), n, qs, as)) inn ∧ NsL K H wa ["end"] ∧ dn.length ≤ 1000 ∧
  ∀ H', Kx r pl il H H' → RSt K H' r pl il (dn ++ [.hlp n qs as inn]) none [] → Q (.bl true) H'
abbrev N_Reading_take_end : List Str := ["self", "words", "head"]
theorem sc_Reading_take_end : FnScope N_Reading_take_end ["self", "words"] (defScope s_Reading_take_end) := ⟨rfl, rfl, rfl, by decide +kernel, rfl, by decide +kernel, by decide +kernel⟩
theorem ok_take_end (T : Tx K mg) : VM P w K mg base 4 "take_end" (rcRd K) (fun _ => spTEnd K) := by
  obtain ⟨fd, F⟩ := T.d_Reading_take_end
  have bd : Binds K fd ["self", "words"] [] := F.bindsN fun _ _ _ _ _ _ us hl => match us, hl with | [_, _], _ => rfl
  have G_Helper := ok_Helper (P := P) (w := w) (base := base) T
  refine vm_one (sp0 := spTEnd K) T.c_Reading T.m_Reading_take_end (F.ok sc_Reading_take_end (fun vs H Q E h => ?_) (fun cdv A outer s H vs Q E hr h => ?_)) bd (fun i x H h => ?_) fun i vs H Q h => h
  · obtain ⟨_, _, _, _, _, _, _, _, _, rfl, _⟩ := h
    rfl
  · obtain ⟨r, wa, pl, il, dn, inn, n, qs, as, rfl, st, hq, hz, kk⟩ := h
    have nd := sc_Reading_take_end.nd
    refine ⟨_, PSs.nox (pss_cons (ps_set (i := 2) nd rfl (Or.inl rfl) (pe_fld (pv 0) rfl))
    (pss_cons (ps_if (PW.pt (pw_or (pt_cmpR op_isN (pv 2) pe_non (nomark _)) (pw_or1 (pt_cmpR op_gt (pe_callB call_len_seq (by rfl) T.f_len (by decide +kernel) (pa_cons (pv 1) pa_nil)) pe_int (nomark _)))))
      (pss_one (ps_ret pe_bl))
      pss_nil)
    (pss_cons (ps_expr (pe_bm PySem.F.plainAttrs_list PySem.F.slot_list_append PySem.F.type_list_append mt_append (pe_fld (pv 0) rfl) (pa_cons (pe_gc G_Helper hr (by decide) rfl (pa_cons (pe_fld (pv 2) rfl) (pa_cons (pe_fld (pv 2) rfl) (pa_cons (pe_fld (pv 2) rfl) (pa_cons (pe_fld (pv 2) rfl) (pa_cons (pe_fld (pv 0) rfl) pa_nil)))))) pa_nil)))
    (pss_cons (ps_fld (pv 0) pe_non rfl)
    (pss_one (ps_ret pe_bl)))))), ?_⟩
    obtain ⟨ne, dx, v, as1, ys, h1, h2, h3, h4, h, bs, rfl, ⟨w0, p0, q0, r0, bs0, ⟨hx, ha⟩, hw, hp, hq2, hr0, hs0⟩, rfl, hs⟩ := st
    refine ⟨_, rfl, r, _, dx, _, _, rfl, h1, T.c_Reading, T.n_Reading_opened, fReading_opened .., ?_⟩
    refine ⟨_, rfl, rfl, _, rfl, iteN ne_non ?_⟩
    refine ⟨_, rfl, wa, _, rfl, .inl hq, _, _, rfl, rfl, _, rfl, iteN (ltF (by decide)) ?_⟩
    refine ⟨_, rfl, r, _, dx, _, _, rfl, h1, T.c_Reading, T.n_Reading_parts, fReading_parts .., .inl ⟨rfl, _, SqL.of h2⟩, ?_⟩
    refine ⟨_, rfl, h, _, hx, _, _, rfl, ha, T.c_Helper, T.n_Helper_way, fHelper_way .., ?_⟩
    refine ⟨_, rfl, h, _, hx, _, _, rfl, ha, T.c_Helper, T.n_Helper_name, fHelper_name .., ?_⟩
    refine ⟨_, rfl, h, _, hx, _, _, rfl, ha, T.c_Helper, T.n_Helper_params, fHelper_params .., ?_⟩
    refine ⟨_, rfl, h, _, hx, _, _, rfl, ha, T.c_Helper, T.n_Helper_answers, fHelper_answers .., ?_⟩
    refine ⟨_, rfl, r, _, dx, _, _, rfl, h1, T.c_Reading, T.n_Reading_inner, fReading_inner .., ?_⟩
    refine ⟨_, _, _, _, _, _, _, _, _, rfl, .inr ⟨w0, rfl, .inr hw⟩, .inr hp, .inr hq2, .inl (SqL.of h4), fun c H1 s1 w1 p1 q1 r1 hi hw1 hp1 hq1 hr1 => ?_⟩
    refine ⟨pl, _, _, rfl, rfl, s1 _ _ h2, ?_, ?_⟩
    · rw [List.length_map, h3.len]
      exact Nat.lt_of_le_of_lt hz (by decide)
    have m1 : Sm K H1 (upd H1 pl (.lst (as1.map V.ref ++ [.ref c]))) := Sm.lst (s1 _ _ h2)
    have npl : r ≠ pl := fun e => by rw [← e, h1] at h2; cases h2
    have nil : il ≠ r := fun e => by rw [e, h1] at h4; cases h4
    refine ⟨_, rfl, r, _, dx, _, rfl, (by rw [upd_ne npl]; exact s1 _ _ h1), T.c_Reading, T.n_Reading_opened, (by rw [fR_eq]; show 3 < 1000; decide), ?_⟩
    rw [fR_opened]
    have m2 := m1.trans (Sm.ins (K := K) (o := .ins (He.ga K "Reading") dx (fReading (.ref pl) .non (.ref il))) (by rw [upd_ne npl]; exact s1 _ _ h1))
    have hpart : PartAt K H1 c (1 + (nls dn : Nat)) (.hlp n qs as inn) := ⟨w1, p1, q1, r1, bs, hi, hw1, hp1, hq1, hr1, hs.sm T s1.sm⟩
    refine kk _ (fun b o e hb hb2 hb3 => ?_) ⟨ne, dx, .non, as1 ++ [c], bs.map V.ref, upd_same, ?_, ((h3.sm T s1.sm).snoc hpart).sm T m2, ?_, rfl⟩
    · rw [upd_ne hb, upd_ne hb2]
      exact s1 _ _ e
    · rw [upd_ne (Ne.symm npl), upd_same, List.map_append]
      rfl
    · rw [upd_ne nil, upd_ne (Ne.symm ne)]
      exact s1 _ _ h4
  · obtain ⟨r, dx, pl, v, il, rfl, h⟩ := h
    exact ⟨r, dx, _, rfl, h, fReading_no_take_end ..⟩
def spTake (K : PySem.W.Frag) : S1 := fun vs H Q => ∃ (r wa wy pl il : Addr) (k : Int) (dn dn' : List Prt) (op op' : OpS) (inn inn' : List Stp) (l : Ln), vs = [.ref r, .ref wa, .ref wy] ∧ RSt K H r pl il dn op inn ∧ NsL K H wa l.ws ∧ WyAt K H wy [k] ∧ l.ok ∧
  TStep k dn op inn l dn' op' inn' ∧ dn.length ≤ 1000 ∧ inn.length ≤ 1000 ∧ ∀ H' il', Kx r pl il H H' → (il' = il ∨ H il' = none) → RSt K H' r pl il' dn' op' inn' → Q (.bl true) H'
abbrev N_Reading_take : List Str := ["self", "words", "way", "step"]
theorem sc_Reading_take : FnScope N_Reading_take ["self", "words", "way"] (defScope s_Reading_take) := ⟨rfl, rfl, rfl, by decide +kernel, rfl, by decide +kernel, by decide +kernel⟩
theorem ok_take (T : Tx K mg) : VM P w K mg base 7 "take" (rcRd K) (fun _ => spTake K) := by
  obtain ⟨fd, F⟩ := T.d_Reading_take
  have bd : Binds K fd ["self", "words", "way"] [] := F.bindsN fun _ _ _ _ _ _ us hl => match us, hl with | [_, _, _], _ => rfl
  have G_step_of := ok_step_of (P := P) (w := w) (base := base) T
  have V_take_head := ok_take_head (P := P) (w := w) (base := base) T
  have V_take_end := ok_take_end (P := P) (w := w) (base := base) T
  refine vm_one (sp0 := spTake K) T.c_Reading T.m_Reading_take (F.ok sc_Reading_take (fun vs H Q E h => ?_) (fun cdv A outer s H vs Q E hr h => ?_)) bd (fun i x H h => ?_) fun i vs H Q h => h
  · obtain ⟨_, _, _, _, _, _, _, _, _, _, _, _, _, rfl, _⟩ := h
    rfl
  · obtain ⟨r, wa, wy, pl, il, k, dn, dn', op, op', inn, inn', l, rfl, st, hq, hw, ok, ts, hz, hz2, kk⟩ := h
    have nd := sc_Reading_take.nd
    refine ⟨_, PSs.nox (pss_cons (ps_if (pt_cmpR op_eq (pe_ix ix_list (pv 1) pe_int (fun _ _ => rfl)) pe_str (nomark _))
      (pss_one (ps_ret (pe_vm V_take_head hr (by decide) (pv 0) (pa_cons (pv 1) (pa_cons (pv 2) pa_nil)))))
      pss_nil)
    (pss_cons (ps_if (pt_cmpR op_eq (pe_ix ix_list (pv 1) pe_int (fun _ _ => rfl)) pe_str (nomark _))
      (pss_one (ps_ret (pe_vm V_take_end hr (by decide) (pv 0) (pa_cons (pv 1) pa_nil))))
      pss_nil)
    (pss_cons (ps_set (i := 3) nd rfl (Or.inl rfl) (pe_gc G_step_of hr (by decide) rfl (pa_cons (pv 1) (pa_cons (pv 2) pa_nil))))
    (pss_cons (ps_if (PW.pt (pw_or (pt_cmpR op_isN (pv 3) pe_non (nomark _)) (pw_or1 (PW.pt (pw_and (pt_cmpR op_notN (pe_fld (pv 0) rfl) pe_non (nomark _)) (pw_and1 (pt_val (pe_callB call_isi (by rfl) T.f_isinstance (by decide +kernel) (pa_cons (pv 3) (pa_cons (pe_glob (v := .ref (He.ga K "Give")) rfl T.g_Give rfl) pa_nil))))))))))
      (pss_one (ps_ret pe_bl))
      pss_nil)
    (pss_cons (ps_if (pt_cmpR op_isN (pe_fld (pv 0) rfl) pe_non (nomark _))
      (pss_one (ps_expr (pe_bm PySem.F.plainAttrs_list PySem.F.slot_list_append PySem.F.type_list_append mt_append (pe_fld (pv 0) rfl) (pa_cons (pv 3) pa_nil))))
      (pss_one (ps_expr (pe_bm PySem.F.plainAttrs_list PySem.F.slot_list_append PySem.F.type_list_append mt_append (pe_fld (pv 0) rfl) (pa_cons (pv 3) pa_nil)))))
    (pss_one (ps_ret pe_bl))))))), ?_⟩
    have stepcase : ∀ s0 : Stp, l = .stp s0 → ∃ t r1, s0.ws = t :: r1 ∧ t ≠ ("helper" : Str) ∧ t ≠ ("end" : Str) := fun s0 _ => by
      cases s0 <;> exact ⟨_, _, rfl, by decide +kernel, by decide +kernel⟩
    cases ts with
    | head _ n qs as =>
      refine ⟨_, rfl, wa, _, 0, _, rfl, rfl, hq, at0 rfl, rfl, _, rfl, iteI (eqS rfl) ?_⟩
      exact ⟨_, rfl, (), st.rc, _, rfl, _, rfl, r, wa, wy, pl, il, k, _, _, n, qs, as, rfl, st, hq, hw, ok, fun H' il' kx hn st' => kk H' il' kx (.inr hn) st'⟩
    | fin _ n qs as j e =>
      subst e
      refine ⟨_, rfl, wa, _, 0, _, rfl, rfl, hq, at0 rfl, rfl, _, rfl, iteN (neqS (by decide +kernel)) ?_⟩
      refine ⟨_, rfl, wa, _, 0, _, rfl, rfl, hq, at0 rfl, rfl, _, rfl, iteI (eqS rfl) ?_⟩
      exact ⟨_, rfl, (), st.rc, _, rfl, r, wa, pl, il, _, _, n, qs, as, rfl, st, hq, hz, fun H' kx st' => kk H' il kx (.inl rfl) st'⟩
    | stp0 _ s0 e =>
      subst e
      obtain ⟨t, r1, et, n1, n2⟩ := stepcase s0 rfl
      refine ⟨_, rfl, wa, _, 0, _, rfl, rfl, hq, at0 (z := t) (r := r1) et, rfl, _, rfl, iteN (neqS n1) ?_⟩
      refine ⟨_, rfl, wa, _, 0, _, rfl, rfl, hq, at0 (z := t) (r := r1) et, rfl, _, rfl, iteN (neqS n2) ?_⟩
      refine ⟨_, rfl, _, rfl, s0, wa, wy, _, rfl, hq, hw, ok, fun c H1 s1 hc => ?_⟩
      refine ⟨_, rfl, rfl, _, rfl, iteN ne_non ?_⟩
      obtain ⟨ne, dx, v, as1, ys, h1, h2, h3, h4, h5⟩ := st
      obtain rfl : v = .non := h5
      refine ⟨_, rfl, r, _, dx, _, _, rfl, s1 _ _ h1, T.c_Reading, T.n_Reading_opened, fReading_opened .., rfl, _, rfl, iteN is_nonN ?_⟩
      refine iteN (by decide) ?_
      refine ⟨_, rfl, r, _, dx, _, _, rfl, s1 _ _ h1, T.c_Reading, T.n_Reading_opened, fReading_opened .., rfl, _, rfl, iteI is_non ?_⟩
      refine ⟨_, rfl, r, _, dx, _, _, rfl, s1 _ _ h1, T.c_Reading, T.n_Reading_parts, fReading_parts .., .inl ⟨rfl, _, SqL.of (s1 _ _ h2)⟩, ?_⟩
      refine ⟨_, rfl, pl, _, _, rfl, rfl, s1 _ _ h2, ?_, ?_⟩
      · rw [List.length_map, h3.len]
        exact Nat.lt_of_le_of_lt hz (by decide)
      have m1 : Sm K H1 (upd H1 pl (.lst (as1.map V.ref ++ [.ref c]))) := Sm.lst (s1 _ _ h2)
      have npl : r ≠ pl := fun e => by rw [← e, h1] at h2; cases h2
      have hpart : PartAt K H1 c (1 + (nls dn : Nat)) (.stp s0) := hc
      refine kk _ il (fun b o e hb hb2 hb3 => ?_) (.inl rfl) ⟨ne, dx, .non, as1 ++ [c], ys, ?_, ?_, ((h3.sm T s1.sm).snoc hpart).sm T m1, ?_, rfl⟩
      · rw [upd_ne hb2]
        exact s1 _ _ e
      · show upd _ _ _ _ = _
        rw [upd_ne npl]
        exact s1 _ _ h1
      · rw [upd_same, List.map_append]
        rfl
      · rw [upd_ne (Ne.symm ne)]
        exact s1 _ _ h4
    | stp1 _ s0 n qs as j e g =>
      subst e
      obtain ⟨t, r1, et, n1, n2⟩ := stepcase s0 rfl
      refine ⟨_, rfl, wa, _, 0, _, rfl, rfl, hq, at0 (z := t) (r := r1) et, rfl, _, rfl, iteN (neqS n1) ?_⟩
      refine ⟨_, rfl, wa, _, 0, _, rfl, rfl, hq, at0 (z := t) (r := r1) et, rfl, _, rfl, iteN (neqS n2) ?_⟩
      refine ⟨_, rfl, _, rfl, s0, wa, wy, _, rfl, hq, hw, ok, fun c H1 s1 hc => ?_⟩
      refine ⟨_, rfl, rfl, _, rfl, iteN ne_non ?_⟩
      obtain ⟨ne, dx, v, as1, ys, h1, h2, h3, h4, h, bs, rfl, hh, rfl, hs⟩ := st
      refine ⟨_, rfl, r, _, dx, _, _, rfl, s1 _ _ h1, T.c_Reading, T.n_Reading_opened, fReading_opened .., rfl, _, rfl, iteI ne_nonN ?_⟩
      obtain ⟨t0, ty, _, _, k3⟩ := isi_step T hc
      refine ⟨_, rfl, _, _, t0, _, s0.isGive, rfl, .own _, ty, k3, s0.isGive, rfl, iteN (by rw [g]; decide) ?_⟩
      refine ⟨_, rfl, r, _, dx, _, _, rfl, s1 _ _ h1, T.c_Reading, T.n_Reading_opened, fReading_opened .., rfl, _, rfl, iteN ne_non ?_⟩
      refine ⟨_, rfl, r, _, dx, _, _, rfl, s1 _ _ h1, T.c_Reading, T.n_Reading_inner, fReading_inner .., .inl ⟨rfl, _, SqL.of (s1 _ _ h4)⟩, ?_⟩
      refine ⟨_, rfl, il, _, _, rfl, rfl, s1 _ _ h4, ?_, ?_⟩
      · rw [List.length_map, hs.length]
        exact Nat.lt_of_le_of_lt hz2 (by decide)
      have m1 : Sm K H1 (upd H1 il (.lst (bs.map V.ref ++ [.ref c]))) := Sm.lst (s1 _ _ h4)
      have nil : r ≠ il := fun e => by rw [← e, h1] at h4; cases h4
      refine kk _ il (fun b o e hb hb2 hb3 => ?_) (.inl rfl) ⟨ne, dx, .ref h, as1, bs.map V.ref ++ [.ref c], ?_, ?_, (h3.sm T s1.sm).sm T m1, upd_same, h, bs ++ [c], rfl, (hh.sm T s1.sm).sm T m1, by rw [List.map_append]; rfl, ((hs.sm T s1.sm).snoc hc).sm T m1⟩
      · rw [upd_ne hb3]
        exact s1 _ _ e
      · show upd _ _ _ _ = _
        rw [upd_ne nil]
        exact s1 _ _ h1
      · rw [upd_ne ne]
        exact s1 _ _ h2
  · obtain ⟨r, dx, pl, v, il, rfl, h⟩ := h
    exact ⟨r, dx, _, rfl, h, fReading_no_take ..⟩
end
end Rod
set_option Elab.async false
set_option linter.all false
set_option maxRecDepth 100000
set_option maxHeartbeats 4000000
namespace Rod
open PySem PySem.Spec PyProof.Rows L2 TL
/-! ### read -/
def wordsR (z : Str) : List Str := (Txt.split z " ").filter neE
structure Skip (z : Str) : Prop where
  zl : z.length ≤ 20000
  sl : (Txt.split z " ").length ≤ 1000
  wk : wordsR z = [] ∨ ∃ u r, wordsR z = u :: r ∧ Txt.startswith u "#" = true ∧ u.length ≤ 20000
  so : ∀ u ∈ wordsR z, PyData.strOk u = true
def spRd (K : PySem.W.Frag) : S1 := fun vs H Q => ∃ (z : Str) (ps : List Prt) (sk : List Str), vs = [.str z] ∧ z.length ≤ 6000 ∧ Txt.split z "\n" = rows ps ++ sk ∧ (∀ u ∈ sk, Skip u) ∧ (rows ps ++ sk).length ≤ 1000 ∧ (∀ p ∈ ps, p.ok) ∧ ps.length ≤ 1000 ∧
  ∀ a H', Same H H' → PlanAt K H' a ps → Q (.ref a) H'
section
variable {P : Program} {w : World} {K : PySem.W.Frag} {mg : Str → Option Value} {base : Heap} {H H' : Hp}
theorem dp_strs {a : Addr} {ws : List Str} (h : SqL K H a (ws.map V.str)) : Dp K H (.ref a) (.list (ws.map PyData.str)) := .lst h (dta_strs ws).dp
abbrev N_read : List Str := ["text", "reading", "rows", "number", "row", "words"]
theorem sc_read : FnScope N_read ["text"] (defScope s_read) := ⟨rfl, rfl, rfl, by decide +kernel, rfl, by decide +kernel, by decide +kernel⟩
theorem ok_read (T : Tx K mg) : GC P w K mg base 8 "read" (spRd K) := by
  obtain ⟨fd, F⟩ := T.d_read
  have bd : Binds K fd ["text"] [] := F.bindsN fun _ _ _ _ _ _ us hl => match us, hl with | [_], _ => rfl
  have G_Reading := ok_Reading (P := P) (w := w) (base := base) T
  have G_words_of := ok_words_of (P := P) (w := w) (base := base) T
  have G_Plan := ok_Plan (P := P) (w := w) (base := base) T
  have V_take := ok_take (P := P) (w := w) (base := base) T
  obtain ⟨tk1, mg_MOST_SIGNS⟩ := T.i_MOST_SIGNS
  refine gc_fn (F.ok sc_read (fun vs H Q E h => ?_) (fun cdv A outer s H vs Q E hr h => ?_)) T.g_read F.kp bd
  · obtain ⟨_, _, _, rfl, _⟩ := h
    rfl
  · obtain ⟨z, ps, sk, rfl, hz, hsp, hsk, hn, ok, hpl, kk⟩ := h
    have nd := sc_read.nd
    have zs : z.length ≤ sizeLine := Nat.le_trans hz (by decide)
    refine ⟨_, PSs.nox (pss_cons (ps_if (pt_cmpR op_gt (pe_callB call_len_str (by rfl) T.f_len (by decide +kernel) (pa_cons (pv 0) pa_nil)) (pe_glob (v := .int 6000) rfl mg_MOST_SIGNS ⟨_, rfl⟩) (nomark _))
      (pss_one ps_never)
      pss_nil)
    (pss_cons (ps_set (i := 1) nd rfl (Or.inl rfl) (pe_gc0 G_Reading hr (by decide) rfl))
    (pss_cons (ps_set (i := 2) nd rfl (Or.inl rfl) (pe_split (pv 0) pe_str))
    (pss_cons (ps_for PassesOwn.never rfl (pi_enum1 (by rfl) T.f_enumerate (pa_cons (pv 2) (pa_cons pe_int pa_nil))) (pg_tup rfl (pgs_cons (pg_name (i := 3) nd rfl (Or.inl rfl)) (pgs_cons (pg_name (i := 4) nd rfl (Or.inl rfl)) pgs_nil)))
      (pss_cons (ps_set (i := 5) nd rfl (Or.inl rfl) (pe_gc G_words_of hr (by decide) rfl (pa_cons (pv 4) pa_nil)))
      (pss_cons (ps_if (PW.pt (pw_or (pt_cmpR (op_eqD hr.units) (pv 5) (pe_lst pa_nil) (nomark _)) (pw_or1 (pt_val (pe_m1 PySem.F.slot_str_startswith PySem.F.type_str_startswith mt_startswith (pe_ix ix_list (pv 5) pe_int (fun _ _ => rfl)) pe_str)))))
        (pss_one ps_continue)
        pss_nil)
      (pss_one (ps_if (pt_not (pt_val (pe_vm V_take hr (by decide) (pv 1) (pa_cons (pv 5) (pa_cons (pe_tup (pa_cons (pv 3) pa_nil)) pa_nil)))))
        (pss_one ps_never)
        pss_nil)))))
    (pss_cons (ps_if (pt_cmpR op_notN (pe_fld (pv 1) rfl) pe_non (nomark _))
      (pss_one ps_never)
      pss_nil)
    (pss_one (ps_ret (pe_gc G_Plan hr (by decide) rfl (pa_cons (pe_fld (pv 1) rfl) pa_nil))))))))), ?_⟩
    refine ⟨_, rfl, z, rfl, zs, _, _, rfl, rfl, _, rfl, ?_⟩
    rw [decide_eq_false (show ¬ (6000 : Int) < (z.length : Int) by omega)]
    refine iteN (by decide) ?_
    refine ⟨rfl, fun r pl il H1 s1 nr npl nil st1 => ?_⟩
    refine ⟨_, rfl, ⟨_, rfl⟩, z, _, rfl, rfl, by decide +kernel, Nat.le_trans (Nat.add_le_add_right hz 2) (by decide), fun rl hrl => ?_⟩
    rw [hsp]
    have s2 : Same H1 (upd H1 rl (.lst ((rows ps ++ sk).map V.str))) := Same.new hrl
    have g2 : SqL K (upd H1 rl (.lst ((rows ps ++ sk).map V.str))) rl ((rows ps ++ sk).map V.str) := SqL.of upd_same
    have e2 : (upd H1 rl (.lst ((rows ps ++ sk).map V.str))) rl = some (.lst ((rows ps ++ sk).map V.str)) := upd_same
    have st2 := st1.sm T s2
    have nrl : rl ≠ r ∧ rl ≠ pl ∧ rl ≠ il := by
      obtain ⟨_, dx, v, as, ys, h1, h2, h3, h4, h5⟩ := st1
      exact ⟨fun e => (by subst e; exact nomatch (hrl.symm.trans h1)), fun e => (by rw [← e, hrl] at h2; cases h2), fun e => (by rw [← e, hrl] at h4; cases h4)⟩
    generalize upd H1 rl (.lst ((rows ps ++ sk).map V.str)) = H2 at s2 g2 e2 st2 ⊢
    have rowsl : (rows ps).length = (lines ps).length := by
      unfold rows
      rw [List.length_map]
    refine ⟨_, rfl, rl, _, 1, rfl, g2, by decide, by decide, ?_⟩
    refine for_it (walk_enumA (K := K) (q := .l) (k0 := 1) (a := rl) (xs := (rows ps ++ sk).map V.str)) (fun i σ H' => ∃ (il : Addr) (nv rv wv : Option V) (dn : List Prt) (op : OpS) (inn : List Stp),
      σ = [some (.str z), some (.ref r), some (.ref rl), nv, rv, wv] ∧ Same H H' ∧ H' rl = some (.lst ((rows ps ++ sk).map V.str)) ∧ rl ≠ il ∧ H il = none ∧ RSt K H' r pl il dn op inn ∧ PosL ps (min i (lines ps).length) dn op inn)
      ⟨il, none, none, none, [], none, [], rfl, s1.trans s2, e2, nrl.2.2, nil, st2, by rw [Nat.zero_min]; exact PosL.out [] ps rfl⟩ (fun i σ H' _ ⟨_, _, _, _, _, _, _, q⟩ => SqL.of q.2.2.1) (fun i x σ H4 H5 hi q y => ?_) fun σ H4 q => ?_
    · obtain ⟨il, nv, rv, wv, dn, op, inn, rfl, s4, hrl4, nril, nil, st, pos⟩ := q
      obtain ⟨t, x1, x2, rfl, ht, rfl, ex1, ex2⟩ := y
      obtain rfl := Option.some.inj ex1
      have ex2 : ((rows ps ++ sk).map V.str)[i]? = some x2 := ex2
      rw [List.getElem?_map] at ex2
      obtain ⟨row, hrow, rfl⟩ := Option.map_eq_some_iff.mp ex2
      have s5 : Same H4 (upd H4 t (.tup [V.int (1 + (i : Int)), V.str row])) := Same.new ht
      refine ⟨t, _, rfl, SqT.of upd_same, rfl, _, _, rfl, _, _, rfl, rfl, ?_⟩
      have st5 := st.sm T s5
      have hrl5 := s5 _ _ hrl4
      have s45 := s4.trans s5
      generalize upd H4 t (.tup [V.int (1 + (i : Int)), V.str row]) = H5 at s5 st5 hrl5 s45 ⊢
      -- the row's words
      have hfacts : row.length ≤ 20000 ∧ (Txt.split row " ").length ≤ 1000 ∧ (∀ u ∈ wordsR row, PyData.strOk u = true) := by
        by_cases hlt : i < (rows ps).length
        · rw [List.getElem?_append_left hlt] at hrow
          unfold rows at hrow
          rw [List.getElem?_map] at hrow
          obtain ⟨l, hl, rfl⟩ := Option.map_eq_some_iff.mp hrow
          have lok := lines_ok ok l (List.mem_of_getElem? hl)
          refine ⟨Nat.le_trans lok.row_len (by decide), ?_, ?_⟩
          · obtain ⟨t, r, e, _⟩ := l.ws_ne
            rw [show Txt.split l.row " " = l.ws from split_row (by rw [e]; simp) lok.wds]
            exact Nat.le_trans lok.ws_len.2 (by decide)
          · rw [show wordsR l.row = l.ws from lok.words]
            exact lok.sok
        · rw [List.getElem?_append_right (by omega)] at hrow
          have k := hsk _ (List.mem_of_getElem? hrow)
          exact ⟨k.zl, k.sl, k.so⟩
      refine ⟨_, rfl, row, rfl, hfacts.1, hfacts.2.1, fun wa H6 s6 hwn hwa => ?_⟩
      have hwa : H6 wa = some (.lst ((wordsR row).map V.str)) := hwa
      refine ⟨_, rfl, by decide, fun em hem => ?_⟩
      have s7 : Same H6 (upd H6 em (.lst [])) := Same.new hem
      have e7 : (upd H6 em (.lst [])) em = some (.lst []) := upd_same
      generalize upd H6 em (.lst []) = H7 at s7 e7 ⊢
      have hwa7 := s7 _ _ hwa
      have st7 := (st5.sm T s6).sm T s7
      have s47 := s45.trans (s6.trans s7)
      have hrl7 := s7 _ _ (s6 _ _ hrl5)
      refine ⟨_, _, dp_strs (SqL.of hwa7), .lst (SqL.of e7) .nil, shaped_strs hfacts.2.2, rfl, _, rfl, ?_⟩
      rw [eqv_nil]
      by_cases hlt : i < (lines ps).length
      · -- a line
        have hl : ∃ l, (lines ps)[i]? = some l ∧ row = l.row := by
          rw [List.getElem?_append_left (by omega)] at hrow
          unfold rows at hrow
          rw [List.getElem?_map] at hrow
          obtain ⟨l, hl, e⟩ := Option.map_eq_some_iff.mp hrow
          exact ⟨l, hl, e.symm⟩
        obtain ⟨l, hl, rfl⟩ := hl
        have lok := lines_ok ok l (List.mem_of_getElem? hl)
        obtain ⟨t1, r1, e1, hk1⟩ := l.ws_ne
        have ew : wordsR l.row = l.ws := lok.words
        rw [ew] at hwa7 ⊢
        rw [decide_eq_false (by rw [e1]; simp)]
        refine iteN (by decide) ?_
        refine ⟨_, rfl, wa, _, 0, _, rfl, rfl, SqL.of hwa7, at0 e1, ⟨_, rfl⟩, t1, _, rfl, rfl, _, rfl, ?_⟩
        rw [kept_hash t1 hk1]
        refine iteN (by decide) ?_
        rw [Nat.min_eq_left (Nat.le_of_lt hlt)] at pos
        obtain ⟨dn', op', inn', ts, pos', h1, h2, h3⟩ := pos.step hl ok
        refine ⟨_, rfl, (), st7.rc, _, rfl, _, rfl, by show 1 ≤ sizeLine; decide, fun wy hwy => ?_⟩
        have s8 : Same H7 (upd H7 wy (.tup [V.int (1 + (i : Int))])) := Same.new hwy
        have g8 : WyAt K (upd H7 wy (.tup [V.int (1 + (i : Int))])) wy [1 + (i : Int)] := SqT.of upd_same
        generalize upd H7 wy (.tup [V.int (1 + (i : Int))]) = H8 at s8 g8 ⊢
        refine ⟨r, wa, wy, pl, il, _, dn, dn', op, op', inn, inn', l, rfl, st7.sm T s8, SqL.of (s8 _ _ hwa7), g8, lok, ts, by omega, by omega, fun H9 il' kx hil st9 => ⟨true, rfl, iteN (by decide) ?_⟩⟩
        have s48 := s47.trans s8
        refine ⟨il', _, _, _, dn', op', inn', rfl, fun b o e => kx b o (s48 _ _ e) (fun q => by rw [q, nr] at e; cases e) (fun q => by rw [q, npl] at e; cases e) (fun q => by rw [q, nil] at e; cases e), kx _ _ (s8 _ _ hrl7) nrl.1 nrl.2.1 nril, ?_, ?_, st9, ?_⟩
        · rcases hil with e | e
          · rw [e]
            exact nril
          · intro q
            rw [← q, s8 _ _ hrl7] at e
            cases e
        · rcases hil with e | e
          · rw [e]
            exact nil
          · exact Same.back s48 e
        · rw [Nat.min_eq_left hlt]
          exact pos'
      · -- a row to skip
        rw [List.getElem?_append_right (by omega)] at hrow
        have k := hsk _ (List.mem_of_getElem? hrow)
        have post : PosL ps (min (i + 1) (lines ps).length) dn op inn := by
          rw [Nat.min_eq_right (by omega)] at pos ⊢
          exact pos
        rcases k.wk with e | ⟨u, r1, e1, hs, hu⟩
        · rw [decide_eq_true e]
          refine iteI rfl (iteI rfl ?_)
          exact ⟨il, _, _, _, dn, op, inn, rfl, s47, hrl7, nril, nil, st7, post⟩
        · rw [decide_eq_false (by rw [e1]; simp)]
          refine iteN (by decide) ?_
          refine ⟨_, rfl, wa, _, 0, _, rfl, rfl, SqL.of hwa7, at0 e1, ⟨_, rfl⟩, u, _, rfl, rfl, _, rfl, ?_⟩
          rw [hs]
          refine iteI rfl ?_
          exact ⟨il, _, _, _, dn, op, inn, rfl, s47, hrl7, nril, nil, st7, post⟩
    · obtain ⟨il, nv, rv, wv, dn, op, inn, rfl, s4, hrl4, nril, nil, st, pos⟩ := q
      have e : min ((rows ps ++ sk).map V.str).length (lines ps).length = (lines ps).length := by
        rw [List.length_map, List.length_append, rowsl]
        omega
      rw [e] at pos
      obtain ⟨rfl, rfl⟩ := pos.done rfl
      obtain ⟨ne, dx, v, as, ys, h1, h2, h3, h4, h5⟩ := st
      obtain rfl : v = .non := h5
      refine ⟨_, rfl, r, _, dx, _, _, rfl, h1, T.c_Reading, T.n_Reading_opened, fReading_opened .., rfl, _, rfl, iteN is_nonN ?_⟩
      refine ⟨_, rfl, r, _, dx, _, _, rfl, h1, T.c_Reading, T.n_Reading_parts, fReading_parts .., ?_⟩
      exact ⟨_, _, rfl, .inl (SqL.of h2), fun a H5 s5 t ha ht => kk a H5 (s4.trans s5) ⟨t, as, ha, ht, h3.sm T s5.sm⟩⟩
end
end Rod
set_option Elab.async false
set_option linter.all false
set_option maxRecDepth 100000
set_option maxHeartbeats 4000000
namespace Rod
open PySem PySem.Spec PyProof.Rows L2 TL
/-! ### the rules within a comprehension, the written part named -/
section
variable {X : Cx} {K : PySem.W.Frag} {pos : Pos}
theorem ixL_ (h : X.K = K) : IxR X (rIxL K) := h ▸ ix_list
theorem ixT_ (h : X.K = K) : IxR X (rIxT K) := h ▸ ix_tup
theorem catS_ (h : X.K = K) : OpR X (binaryOp .Add) (rCatS K) := h ▸ op_catS
theorem inS_ (h : X.K = K) : OpR X (compareOp .In) (rIn K false) := h ▸ op_in_seq
theorem ninS_ (h : X.K = K) : OpR X (compareOp .NotIn) (rIn K true) := h ▸ op_notIn_seq
theorem slL_ (h : X.K = K) : SlR X (rSlL K) := h ▸ sl_list
theorem slS_ (h : X.K = K) : SlR X (rSlS K) := h ▸ sl_tupS
theorem isi_ (h : X.K = K) : CallR X (.builtin "isinstance") (rIsi K) := h ▸ call_isi
theorem isiT_ (h : X.K = K) : CallR X (.builtin "isinstance") (rIsiT K) := h ▸ call_isiT
def rLenS (K : PySem.W.Frag) : List V → Hp → VK → Prop := fun xs H Q => ∃ p ys, xs = [.ref p] ∧ (SqL K H p ys ∨ SqT K H p ys) ∧ Q (.int ys.length) H
theorem lenS_ (h : X.K = K) : CallR X (.builtin "len") (rLenS K) := h ▸ call_len_seq
theorem neD_ (h : X.K = K) (hu : X.A.units + 64 < cLine) : OpR X (compareOp .NotEq) (rNeD K) := h ▸ op_neD hu
theorem fld_ {e : Expr} {ta : TE} {f : Str} (h : X.K = K) (he : PE X e ta) (hb : attributeBase e f X.env (eval e X.env) = eval e X.env) : PE X (.Attribute e f pos) (tFld K ta f) := h ▸ pe_fld he hb
theorem tup_ {es : List Expr} {k : Nat} {t : TGs} {n : Nat} (hK : X.K = K) (hc : X.calm = true) (h : PGs X es t)
    (hn : (assignEach es X.env).length = n := by rfl) (hst : (assignEach es X.env).findIdx? (·.1) = none := by rfl) : PG X (.Tuple es k pos) (gTup K n t) := hK ▸ pg_tup hc h hn hst
end
end Rod
set_option Elab.async false
set_option linter.all false
set_option maxRecDepth 100000
set_option maxHeartbeats 4000000
namespace Rod
open PySem PySem.Spec PyProof.Rows L2 TL
/-! ## E. What the law draws -/
def mkS (l : List Nat) : Str := ⟨l.toArray⟩
theorem tl_mk (l : List Nat) : tl (mkS l) = l := rfl
theorem cutS_to (z : Str) (k : Nat) : tl (cutS z none (some (k : Int))) = (tl z).take k := by
  unfold cutS
  have e : HT.sIx z.length z.length (some (k : Int)) = min k z.length := HT.sIx_nat z.length z.length k
  rw [e, HT.sIx_none]
  show ((tl z).drop 0).take (min k z.length - 0) = _
  have hx : z.length = (tl z).length := len_tl z
  rw [hx, List.drop_zero, Nat.sub_zero]
  by_cases h : k ≤ (tl z).length
  · rw [Nat.min_eq_left h]
  · rw [Nat.min_eq_right (by omega), List.take_of_length_le (by omega), List.take_of_length_le (by omega)]
theorem cutS_from (z : Str) (k : Nat) : tl (cutS z (some (k : Int)) none) = (tl z).drop k := by
  unfold cutS
  have e : HT.sIx z.length 0 (some (k : Int)) = min k z.length := HT.sIx_nat z.length 0 k
  rw [e, HT.sIx_none]
  show ((tl z).drop (min k z.length)).take (z.length - min k z.length) = _
  have hx : z.length = (tl z).length := len_tl z
  rw [hx]
  by_cases h : k ≤ (tl z).length
  · rw [Nat.min_eq_left h, List.take_of_length_le (by rw [List.length_drop]; omega)]
  · rw [Nat.min_eq_right (by omega), List.drop_of_length_le (Nat.le_refl _), List.drop_of_length_le (by omega), List.take_nil]
def sgnL : List Nat := [98, 99, 106, 107, 113, 119, 120, 121, 122]
theorem sgn_tl : tl ("bcjkqwxyz" : Str) = sgnL := by decide +kernel
theorem sgn_get : ∀ j : Nat, j < 9 → ∃ c, sgnL[j]? = some c ∧ c ∈ sgnL := fun j h => by
  have : j < sgnL.length := h
  exact ⟨sgnL[j], List.getElem?_eq_getElem this, List.getElem_mem this⟩
theorem sgn_low : ∀ c ∈ sgnL, isLow c := by
  unfold isLow
  decide
theorem sgn_nd : sgnL.Nodup := by decide
theorem kept_sgn : ∀ w ∈ kept, ∀ c ∈ sgnL, c ∉ tl w := by decide +kernel
theorem let_get : ∀ j : Nat, j < 26 → ([97, 98, 99, 100, 101, 102, 103, 104, 105, 106, 107, 108, 109, 110, 111, 112, 113, 114, 115, 116, 117, 118, 119, 120, 121, 122] : List Nat)[j]? = some (97 + j) := by decide
def sufL (k : Nat) : List Nat := if k > 8 then [48 + k / 9] else []
def nameL (b : List Nat) (t : Nat) (k : Nat) : List Nat := b.take t ++ ([sgnL.getD (k % 9) 98] ++ (b.drop t ++ sufL k))
theorem nameL_len (b : List Nat) (t k : Nat) : (nameL b t k).length = b.length + 1 + (sufL k).length := by
  unfold nameL
  rw [List.length_append, List.length_append, List.length_append, List.length_take, List.length_drop]
  simp only [List.length_cons, List.length_nil]
  omega
theorem sgn_getD (k : Nat) : sgnL.getD (k % 9) 98 ∈ sgnL := by
  obtain ⟨c, h1, h2⟩ := sgn_get (k % 9) (by omega)
  rw [List.getD_eq_getElem?_getD, h1]
  exact h2
theorem name_pl {b : List Nat} {t k : Nat} (hb : b.length ≤ 3) (hl : ∀ c ∈ b, isLow c) (hk : k < 27) : Pl (mkS (nameL b t k)) := by
  have hs := sgn_getD k
  refine ⟨?_, fun hm => kept_sgn _ hm _ hs (by rw [tl_mk]; unfold nameL; simp), ?_, ?_⟩
  · rw [len_tl, tl_mk, nameL_len]
    have : (sufL k).length ≤ 1 := by unfold sufL; split <;> simp
    omega
  · rw [tl_mk]
    unfold nameL
    cases e : b.take t with
    | nil => exact ⟨_, _, rfl, sgn_low _ hs⟩
    | cons c r => exact ⟨c, _, rfl, hl c (List.mem_of_mem_take (i := t) (by rw [e]; exact List.mem_cons_self))⟩
  · intro c hc
    rw [tl_mk] at hc
    unfold nameL at hc
    rcases List.mem_append.mp hc with hc | hc
    · exact .inl (hl c (List.mem_of_mem_take hc))
    rcases List.mem_append.mp hc with hc | hc
    · rw [List.mem_singleton.mp hc]
      exact .inl (sgn_low _ hs)
    rcases List.mem_append.mp hc with hc | hc
    · exact .inl (hl c (List.mem_of_mem_drop hc))
    · unfold sufL at hc
      split at hc
      · rw [List.mem_singleton.mp hc]
        refine .inr ⟨by omega, ?_⟩
        show 48 + k / 9 ≤ 57
        omega
      · cases hc
theorem nameL_inj {b : List Nat} {t i j : Nat} (hi : i < 27) (hj : j < 27) (e : nameL b t i = nameL b t j) : i = j := by
  have hl := congrArg List.length e
  rw [nameL_len, nameL_len] at hl
  unfold nameL at e
  have e1 := List.append_cancel_left e
  injection e1 with e2 e3
  have e4 := List.append_cancel_left (show b.drop t ++ sufL i = b.drop t ++ sufL j from e3)
  have m1 : i % 9 = j % 9 := by
    have key : ∀ x : Nat, x < 9 → ∀ y : Nat, y < 9 → sgnL.getD x 98 = sgnL.getD y 98 → x = y := by decide
    exact key _ (by omega) _ (by omega) e2
  unfold sufL at e4
  by_cases h1 : i > 8
  · by_cases h2 : j > 8
    · rw [if_pos h1, if_pos h2] at e4
      have e5 := List.head_eq_of_cons_eq e4
      omega
    · rw [if_pos h1, if_neg h2] at e4
      cases e4
  · by_cases h2 : j > 8
    · rw [if_neg h1, if_pos h2] at e4
      cases e4
    · omega
def namesL (b : List Nat) (t : Nat) : List Str := (List.range 27).map fun k => mkS (nameL b t k)
structure Names (ns : List Str) : Prop where
  len : ns.length = 27
  pl : ∀ n ∈ ns, Pl n
  nd : ns.Nodup
theorem names_ok {b : List Nat} {t : Nat} (hb : b.length ≤ 3) (hl : ∀ c ∈ b, isLow c) : Names (namesL b t) := by
  refine ⟨by unfold namesL; rw [List.length_map, List.length_range], fun n hn => ?_, ?_⟩
  · obtain ⟨k, hk, rfl⟩ := List.mem_map.mp hn
    exact name_pl hb hl (List.mem_range.mp hk)
  · unfold namesL
    rw [List.nodup_iff_pairwise_ne, List.pairwise_map]
    refine List.Pairwise.imp_of_mem (fun {i j} hi hj hne e => hne ?_) (List.nodup_iff_pairwise_ne.mp List.nodup_range)
    exact nameL_inj (List.mem_range.mp hi) (List.mem_range.mp hj) (congrArg tl e)
section
variable {P : Program} {w : World} {K : PySem.W.Frag} {mg : Str → Option Value} {base : Heap}
theorem kkz {Q : VK} {H : Hp} (kk : ∀ r : Nat, Q (.int (r : Nat)) H) {z : Int} (h : 0 ≤ z) : Q (.int z) H := by
  have e := kk z.toNat
  rw [Int.toNat_of_nonneg h] at e
  exact e
/-! ### _law_cell_at, _law_mixed -/
def spCell (K : PySem.W.Frag) : S1 := fun vs H Q => ∃ (a : Addr) (ns : List Int) (k : Nat), vs = [.ref a, .int (k : Nat)] ∧ SqL K H a (ns.map V.int) ∧ k < 1000 ∧ ∀ r : Int, Q (.int r) H
abbrev N_L_cell_at : List Str := ["_law_script", "_law_k"]
theorem sc_L_cell_at : FnScope N_L_cell_at ["_law_script", "_law_k"] (defScope s_L_cell_at) := ⟨rfl, rfl, rfl, by decide +kernel, rfl, by decide +kernel, by decide +kernel⟩
theorem ok_L_cell_at (T : Tx K mg) : GC P w K mg base 1 "_law_cell_at" (spCell K) := by
  obtain ⟨fd, F⟩ := T.d_L_cell_at
  have bd : Binds K fd ["_law_script", "_law_k"] [] := F.bindsN fun _ _ _ _ _ _ us hl => match us, hl with | [_, _], _ => rfl
  refine gc_fn (F.ok sc_L_cell_at (fun vs H Q E h => ?_) (fun cdv A outer s H vs Q E hr h => ?_)) T.g_L_cell_at F.kp bd
  · obtain ⟨_, _, _, rfl, _⟩ := h
    rfl
  · obtain ⟨a, ns, k, rfl, hq, hk, kk⟩ := h
    refine ⟨_, PSs.nox (pss_cons (ps_if (pt_cmpR op_lt (pv 1) (pe_callB call_len_seq (by rfl) T.f_len (by decide +kernel) (pa_cons (pv 0) pa_nil)) (nomark _))
      (pss_one (ps_ret (pe_ix ix_list (pv 0) (pv 1) (fun _ _ => rfl))))
      pss_nil)
    (pss_one (ps_ret (pe_op op_mul (pe_op op_mul (pe_op op_add (pv 1) pe_int) (pe_op op_add (pv 1) pe_int)) pe_int)))), ?_⟩
    refine ⟨_, rfl, _, rfl, a, _, rfl, .inl hq, _, _, rfl, rfl, _, rfl, ?_⟩
    refine ite2 (fun e => ?_) (fun e => ?_)
    · have hlt : k < ns.length := by
        have := of_decide_eq_true e
        rw [List.length_map] at this
        omega
      exact ⟨_, rfl, _, rfl, a, _, _, _, rfl, rfl, hq, atI_nat (v := .int ns[k]) (by rw [List.getElem?_map, List.getElem?_eq_getElem hlt]; rfl), kk _⟩
    · refine ⟨_, rfl, _, _, rfl, rfl, _, rfl, _, _, rfl, rfl, _, _, rfl, rfl, .inl ⟨by omega, by omega⟩, _, _, rfl, rfl, .inr ⟨by decide, by decide⟩, kk _⟩
def spMixed : S1 := fun vs H Q => ∃ c k : Int, vs = [.int c, .int k] ∧ ∀ r : Nat, Q (.int (r : Nat)) H
abbrev N_L_mixed : List Str := ["_law_cell", "_law_k", "_law_mix"]
theorem sc_L_mixed : FnScope N_L_mixed ["_law_cell", "_law_k"] (defScope s_L_mixed) := ⟨rfl, rfl, rfl, by decide +kernel, rfl, by decide +kernel, by decide +kernel⟩
theorem ok_L_mixed (T : Tx K mg) : GC P w K mg base 1 "_law_mixed" spMixed := by
  obtain ⟨fd, F⟩ := T.d_L_mixed
  have bd : Binds K fd ["_law_cell", "_law_k"] [] := F.bindsN fun _ _ _ _ _ _ us hl => match us, hl with | [_, _], _ => rfl
  refine gc_fn (F.ok sc_L_mixed (fun vs H Q E h => ?_) (fun cdv A outer s H vs Q E hr h => ?_)) T.g_L_mixed F.kp bd
  · obtain ⟨_, _, rfl, _⟩ := h
    rfl
  · obtain ⟨c, k, rfl, kk⟩ := h
    have nd := sc_L_mixed.nd
    refine ⟨_, PSs.nox (pss_cons (ps_set (i := 2) nd rfl (Or.inl rfl) (pe_op op_mod (pe_op op_mul (pe_op op_add (pe_op op_add (pv 0) (pe_op op_mul pe_int (pv 1))) pe_int) pe_int) pe_int))
    (pss_one (ps_ret (pe_op op_mod (pe_op op_add (pe_op op_mul (pv 2) (pv 2)) (pe_op op_mul pe_int (pv 2))) pe_int)))), ?_⟩
    refine ⟨_, rfl, _, rfl, _, _, rfl, rfl, .inl ⟨by decide, by decide⟩, _, _, rfl, rfl, _, _, rfl, rfl, _, _, rfl, rfl, .inr ⟨by decide, by decide⟩, _, _, rfl, rfl, (by show (0 : Int) < 2147483647; decide), ?_⟩
    have h0 : 0 ≤ (c + 7919 * k + 11) * 48271 % 2147483647 := Int.emod_nonneg _ (by decide)
    have h1 : (c + 7919 * k + 11) * 48271 % 2147483647 < 2147483647 := Int.emod_lt_of_pos _ (by decide)
    refine ⟨_, rfl, _, rfl, _, _, rfl, rfl, .inl ⟨by omega, by omega⟩, _, rfl, _, _, rfl, rfl, .inl ⟨by decide, by decide⟩, _, _, rfl, rfl, _, _, rfl, rfl, (by show (0 : Int) < 2147483399; decide), ?_⟩
    exact kkz kk (Int.emod_nonneg _ (by decide))
/-! ### _law_names -/
def spNamesL (K : PySem.W.Frag) : S1 := fun vs H Q => ∃ c : Int, vs = [.int c, .int 27] ∧ ∀ p H' ns, Same H H' → H p = none → H' p = some (.lst (ns.map V.str)) → Names ns → Q (.ref p) H'
theorem num1 : ∀ k : Nat, k < 27 → tl (Str.ofString (toString (((k / 9 : Nat)) : Int))) = [48 + k / 9] := fun k hk => by
  rw [num_tx, numL_lt (by omega)]
abbrev N_L_names : List Str := ["_law_cell", "_law_many", "_law_letters", "_law_base", "_law_k", "_law_at"]
theorem sc_L_names : FnScope N_L_names ["_law_cell", "_law_many"] (defScope s_L_names) := ⟨rfl, rfl, rfl, by decide +kernel, rfl, by decide +kernel, by decide +kernel⟩
theorem ok_L_names (T : Tx K mg) : GC P w K mg base 2 "_law_names" (spNamesL K) := by
  obtain ⟨fd, F⟩ := T.d_L_names
  have bd : Binds K fd ["_law_cell", "_law_many"] [] := F.bindsN fun _ _ _ _ _ _ us hl => match us, hl with | [_, _], _ => rfl
  have G_L_mixed := ok_L_mixed (P := P) (w := w) (base := base) T
  refine gc_fn (F.ok sc_L_names (fun vs H Q E h => ?_) (fun cdv A outer s H vs Q E hr h => ?_)) T.g_L_names F.kp bd
  · obtain ⟨_, rfl, _⟩ := h
    rfl
  · obtain ⟨c, rfl, kk⟩ := h
    have nd := sc_L_names.nd
    refine ⟨_, PSs.nox (pss_cons (ps_set (i := 2) nd rfl (Or.inl rfl) pe_str)
    (pss_cons (ps_set (i := 3) nd rfl (Or.inr rfl) pe_str)
    (pss_cons (ps_for PassesOwn.never rfl (pi_range1 (by rfl) T.f_range (pa_cons (pe_op op_mod (pe_op op_fdiv (pe_gc G_L_mixed hr (by decide) rfl (pa_cons (pv 0) (pa_cons pe_int pa_nil))) pe_int) pe_int) pa_nil)) (pg_name (i := 4) nd rfl (Or.inl rfl))
      (pss_one (ps_set (i := 3) nd rfl (Or.inr rfl) (pe_op op_add_str (pv 3) (pe_ix ix_str (pv 2) (pe_op op_mod (pe_op op_fdiv (pe_gc G_L_mixed hr (by decide) rfl (pa_cons (pv 0) (pa_cons (pe_op op_add pe_int (pv 4)) pa_nil))) pe_int) pe_int) (fun _ _ => rfl))))))
    (pss_cons (ps_set (i := 5) nd rfl (Or.inr rfl) (pe_op op_mod (pe_op op_fdiv (pe_gc G_L_mixed hr (by decide) rfl (pa_cons (pv 0) (pa_cons pe_int pa_nil))) pe_int) pe_int))
    (pss_one (ps_ret (pe_lc (own := [("_law_k", 4)]) (by rfl) nd (pi_range1 (by rfl) T.f_range (pa_cons (pv 1) pa_nil)) (blkOk_by (N := N_L_names) (sc := defScope s_L_names) (by decide +kernel)) (fun _ _ _ _ _ => (pg_name (i := 4) nd rfl (Or.inl rfl))) (fun _ _ _ _ _ => pts_nil) (fun _ _ _ _ _ => (pe_op op_add_str (pe_op op_add_str (pe_op op_add_str (pe_slice sl_str (pv 3) po_none (po_some (pv 5))) (pe_ix ix_str pe_str (pe_op op_mod (pv 4) pe_int) (fun _ _ => rfl))) (pe_slice sl_str (pv 3) (po_some (pv 5)) po_none)) (pe_ix (ixL_ (K := K) rfl) (pe_lst (pa_cons pe_str (pa_cons (pe_callTy call_str_int (by rfl) T.f_str (by decide +kernel) (pa_cons (pe_op op_fdiv (pv 4) pe_int) pa_nil)) pa_nil))) (pe_callTy call_int1 (by rfl) T.f_int (by decide +kernel) (pa_cons (pe_cmpR op_gt (pv 4) pe_int (nomark _)) pa_nil)) (fun _ _ => rfl))))))))))), ?_⟩
    refine ⟨_, rfl, _, _, rfl, fun r0 => ?_⟩
    refine ⟨_, _, rfl, rfl, ⟨by decide, by decide⟩, _, _, rfl, rfl, (by show (0 : Int) < _; decide), _, rfl, by omega, by omega, ?_⟩
    have hn : (((r0 : Nat) : Int) / 7 % 4).toNat ≤ 3 := by omega
    generalize (((r0 : Nat) : Int) / 7 % 4).toNat = n at hn ⊢
    refine for_it (walk_range (lo := 0) (n := n)) (fun i σ H' => H' = H ∧ ∃ (b : Str) (kv : Option V), σ = [some (.int c), some (.int 27), some (.str "abcdefghijklmnopqrstuvwxyz"), some (.str b), kv, none] ∧ (tl b).length = i ∧ ∀ x ∈ tl b, isLow x) ⟨rfl, "", none, rfl, by rw [empty_tl]; rfl, by rw [empty_tl]; exact fun x hx => (nomatch hx)⟩ (fun _ _ _ _ _ => trivial) (fun i x σ H1 H2 hi q y => ?_) fun σ H1 q => ?_
    · obtain ⟨rfl, b, kv, rfl, hb, hl⟩ := q
      obtain ⟨rfl, rfl⟩ := y
      refine ⟨_, rfl, _, rfl, _, rfl, _, rfl, _, _, rfl, rfl, _, _, rfl, fun r1 => ?_⟩
      refine ⟨_, _, rfl, rfl, ⟨by decide, by decide⟩, _, _, rfl, rfl, (by show (0 : Int) < _; decide), ?_⟩
      have hj : r1 / 31 % 26 < 26 := by omega
      have ej : ((r1 : Nat) : Int) / 31 % 26 = ((r1 / 31 % 26 : Nat) : Int) := by omega
      dsimp only
      rw [ej]
      refine ⟨_, _, 97 + r1 / 31 % 26, rfl, rfl, by decide +kernel, atI_nat (by rw [show ("abcdefghijklmnopqrstuvwxyz" : Str).cps.toList = _ from letters_tl]; exact let_get _ hj), ?_⟩
      refine ⟨_, _, rfl, rfl, ?_, rfl, _, _, rfl, ?_, ?_⟩
      · rw [len_tl, hb]
        show i + 1 ≤ sizeLine
        exact Nat.le_trans (by omega : i + 1 ≤ 4) (by decide)
      · rw [tl_append, List.length_append, hb]
        rfl
      · intro x hx
        rw [tl_append] at hx
        rcases List.mem_append.mp hx with hx | hx
        · exact hl x hx
        · have : x = 97 + r1 / 31 % 26 := List.mem_singleton.mp hx
          rw [this]
          exact ⟨by omega, by omega⟩
    · obtain ⟨rfl, b, kv, rfl, hb, hl⟩ := q
      refine ⟨_, rfl, _, _, rfl, fun r1 => ?_⟩
      refine ⟨_, _, rfl, rfl, ⟨by decide, by decide⟩, _, _, rfl, rfl, (by show (0 : Int) < _; decide), ?_⟩
      have ej : ((r1 : Nat) : Int) / 7 % 4 = ((r1 / 7 % 4 : Nat) : Int) := by omega
      dsimp only
      rw [ej]
      generalize r1 / 7 % 4 = t
      have blen : b.length ≤ 3 := by rw [len_tl]; omega
      refine ⟨_, rfl, _, rfl, by decide, by decide, ?_⟩
      refine lc_fn (K := K) (walk_range (lo := 0) (n := 27)) (List.range 27) (by rw [List.length_range]) (by rw [List.length_range]; decide) (fun k => V.str (mkS (nameL (tl b) t k))) (fun _ _ => trivial) (fun i k x H2 H3 hi s2 y Nx kx => ?_) mono_name fun D H2 hD s2 ha2 => ?_
      · obtain ⟨rfl, rfl⟩ := y
        have hk : i = k ∧ k < 27 := by
          have hlt : i < 27 := by
            have := (List.getElem?_eq_some_iff.mp hi).1
            rwa [List.length_range] at this
          rw [List.getElem?_range hlt] at hi
          have := Option.some.inj hi
          exact ⟨this, by omega⟩
        obtain ⟨rfl, hk⟩ := hk
        refine ⟨rfl, ?_⟩
        refine ⟨_, rfl, _, rfl, _, rfl, b, rfl, Nat.le_trans blen (by decide), ?_⟩
        have e9 : (0 + ((i : Nat) : Int)) % 9 = ((i % 9 : Nat) : Int) := by omega
        refine ⟨_, rfl, _, _, rfl, rfl, (by show (0 : Int) < _; decide), ?_⟩
        dsimp only
        rw [e9]
        obtain ⟨sc, hs1, hs2⟩ := sgn_get (i % 9) (by omega)
        refine ⟨_, _, sc, rfl, rfl, by decide +kernel, atI_nat (by rw [show ("bcjkqwxyz" : Str).cps.toList = _ from sgn_tl]; exact hs1), ?_⟩
        have l1 : (cutS b none (some ((t : Nat) : Int))).length ≤ 3 := by
          rw [len_tl, cutS_to, List.length_take, ← len_tl]
          omega
        have l2 : (cutS b (some ((t : Nat) : Int)) none).length ≤ 3 := by
          rw [len_tl, cutS_from, List.length_drop, ← len_tl]
          omega
        have l3 : (⟨#[sc]⟩ : Str).length = 1 := rfl
        refine ⟨_, _, rfl, rfl, Nat.le_trans (by rw [l3]; exact Nat.add_le_add_right l1 1) (by decide), ?_⟩
        refine ⟨_, rfl, _, rfl, _, rfl, b, rfl, Nat.le_trans blen (by decide), ?_⟩
        refine ⟨_, _, rfl, rfl, Nat.le_trans (by rw [Str.length_append, l3]; exact Nat.add_le_add (Nat.add_le_add_right l1 1) l2) (by decide), ?_⟩
        have e10 : (0 + ((i : Nat) : Int)) / 9 = ((i / 9 : Nat) : Int) := by omega
        refine ⟨_, rfl, _, _, rfl, rfl, ⟨by decide, by decide⟩, ?_⟩
        dsimp only
        rw [e10]
        refine ⟨_, rfl, log_of (by
          rw [Int.natAbs_natCast]
          exact Nat.lt_of_lt_of_le (by omega : i / 9 < 3) (by decide)), ?_⟩
        refine ⟨by show 2 ≤ sizeLine; decide, fun q hq => ?_⟩
        have s3 := Same.new (o := .lst [V.str "", V.str (Str.ofString (toString ((i / 9 : Nat) : Int)))]) hq
        have h3 : SqL K (upd H3 q (.lst [V.str "", V.str (Str.ofString (toString ((i / 9 : Nat) : Int)))])) q [V.str "", V.str (Str.ofString (toString ((i / 9 : Nat) : Int)))] := SqL.of upd_same
        refine ⟨_, rfl, _, _, rfl, rfl, .inr ⟨_, rfl, ?_⟩⟩
        have nt := num1 i hk
        have fin : ∀ suf : Str, tl suf = sufL i → mkS (nameL (tl b) t i) = ((cutS b none (some ((t : Nat) : Int)) ++ (⟨#[sc]⟩ : Str)) ++ cutS b (some ((t : Nat) : Int)) none) ++ suf := fun suf hsuf => ext_tl (by
          rw [tl_mk, tl_append, tl_append, tl_append, cutS_to, cutS_from, hsuf]
          unfold nameL
          rw [List.getD_eq_getElem?_getD, hs1]
          show _ = ((List.take t (tl b) ++ [sc]) ++ List.drop t (tl b)) ++ sufL i
          simp)
        by_cases h8 : i > 8
        · rw [decide_eq_true (show (8 : Int) < 0 + ((i : Nat) : Int) by omega)]
          refine ⟨q, _, _, _, rfl, rfl, h3, atI_nat (j := 1) rfl, ?_⟩
          refine ⟨_, _, rfl, rfl, ?_, ?_⟩
          · rw [Str.length_append, Str.length_append, l3, len_tl (Str.ofString _), nt]
            exact Nat.le_trans (Nat.add_le_add (Nat.add_le_add (Nat.add_le_add_right l1 1) l2) (Nat.le_refl 1)) (by decide)
          · rw [← fin _ (by rw [nt]; unfold sufL; rw [if_pos h8])]
            exact kx _ s3
        · rw [decide_eq_false (show ¬ (8 : Int) < 0 + ((i : Nat) : Int) by omega)]
          refine ⟨q, _, _, _, rfl, rfl, h3, atI_nat (j := 0) rfl, ?_⟩
          refine ⟨_, _, rfl, rfl, ?_, ?_⟩
          · rw [Str.length_append, Str.length_append, l3, len_tl (""), empty_tl]
            exact Nat.le_trans (Nat.add_le_add (Nat.add_le_add (Nat.add_le_add_right l1 1) l2) (Nat.zero_le 1)) (by decide)
          · rw [← fin _ (by rw [empty_tl]; unfold sufL; rw [if_neg h8])]
            exact kx _ s3
      · exact kk D H2 (namesL (tl b) t) s2 hD (by rw [ha2]; unfold namesL; rw [List.map_map]; rfl) (names_ok (by omega) hl)
end
end Rod
set_option Elab.async false
set_option linter.all false
set_option maxRecDepth 100000
set_option maxHeartbeats 4000000
namespace Rod
open PySem PySem.Spec PyProof.Rows L2 TL
theorem vq_if {c : TT} {t u : TS} {tz : TS} {D : Ends} {σ : L2.St} {H : Hp} (Pv : L2.St → Hp → Prop) (h : ∀ D' : Ends, (∀ σ' H', Pv σ' H' → D'.nx σ' H') → tIfS c t u D' σ H) (k : ∀ σ' H', Pv σ' H' → tz D σ' H') : tSeq (tIfS c t u) tz D σ H := h _ k
section
variable {P : Program} {w : World} {K : PySem.W.Frag} {mg : Str → Option Value} {base : Heap}
/-! ### _law_figures -/
def spFigN (K : PySem.W.Frag) : S1 := fun vs H Q => ∃ c : Int, vs = [.int c] ∧ ∀ (n : Nat) H', Same H H' → n < 10 ^ 60 → Q (.int (n : Nat)) H'
abbrev N_L_figures : List Str := ["_law_cell", "_law_bound", "_law_number", "_law_k"]
theorem sc_L_figures : FnScope N_L_figures ["_law_cell"] (defScope s_L_figures) := ⟨rfl, rfl, rfl, by decide +kernel, rfl, by decide +kernel, by decide +kernel⟩
theorem ok_L_figures (T : Tx K mg) : GC P w K mg base 2 "_law_figures" (spFigN K) := by
  obtain ⟨fd, F⟩ := T.d_L_figures
  have bd : Binds K fd ["_law_cell"] [] := F.bindsN fun _ _ _ _ _ _ us hl => match us, hl with | [_], _ => rfl
  have G_L_mixed := ok_L_mixed (P := P) (w := w) (base := base) T
  refine gc_fn (F.ok sc_L_figures (fun vs H Q E h => ?_) (fun cdv A outer s H vs Q E hr h => ?_)) T.g_L_figures F.kp bd
  · obtain ⟨_, rfl, _⟩ := h
    rfl
  · obtain ⟨c, rfl, kk⟩ := h
    have nd := sc_L_figures.nd
    refine ⟨_, PSs.nox (pss_cons (ps_set (i := 1) nd rfl (Or.inl rfl) (pe_ix ix_list (pe_lst (pa_cons pe_int (pa_cons pe_int (pa_cons pe_int (pa_cons pe_int (pa_cons (pe_op op_pow pe_int pe_int) pa_nil)))))) (pe_op op_mod (pe_op op_fdiv (pe_gc G_L_mixed hr (by decide) rfl (pa_cons (pv 0) (pa_cons pe_int pa_nil))) pe_int) pe_int) (fun _ _ => rfl)))
    (pss_cons (ps_set (i := 2) nd rfl (Or.inl rfl) pe_int)
    (pss_cons (ps_for PassesOwn.never rfl (pi_range1 (by rfl) T.f_range (pa_cons pe_int pa_nil)) (pg_name (i := 3) nd rfl (Or.inl rfl))
      (pss_one (ps_set (i := 2) nd rfl (Or.inl rfl) (pe_op op_add (pe_op op_mul (pv 2) pe_int) (pe_gc G_L_mixed hr (by decide) rfl (pa_cons (pv 0) (pa_cons (pe_op op_add pe_int (pv 3)) pa_nil)))))))
    (pss_one (ps_ret (pe_op op_mod (pv 2) (pv 1))))))), ?_⟩
    refine ⟨_, _, rfl, rfl, ⟨by decide, by decide, by decide⟩, by show 5 ≤ sizeLine; decide, fun p hp => ?_⟩
    have s1 := Same.new (o := .lst [V.int 10, V.int 10, V.int 100, V.int 100000, V.int (10 ^ (60 : Int).toNat)]) hp
    have h1 : SqL K (upd H p (.lst [V.int 10, V.int 10, V.int 100, V.int 100000, V.int (10 ^ (60 : Int).toNat)])) p [V.int 10, V.int 10, V.int 100, V.int 100000, V.int (10 ^ (60 : Int).toNat)] := SqL.of upd_same
    refine ⟨_, rfl, _, _, rfl, fun r0 => ?_⟩
    have hb : ∃ bd : Int, atI [V.int 10, V.int 10, V.int 100, V.int 100000, V.int (10 ^ (60 : Int).toNat)] (((r0 : Nat) : Int) / 7 % 5) = some (.int bd) ∧ 0 < bd ∧ bd ≤ 10 ^ 60 := by
      have e : ((r0 : Nat) : Int) / 7 % 5 = ((r0 / 7 % 5 : Nat) : Int) := by omega
      rw [e]
      have h5 : r0 / 7 % 5 < 5 := by omega
      generalize r0 / 7 % 5 = j at h5
      match j, h5 with
      | 0, _ => exact ⟨10, atI_nat (j := 0) rfl, by decide, by decide⟩
      | 1, _ => exact ⟨10, atI_nat (j := 1) rfl, by decide, by decide⟩
      | 2, _ => exact ⟨100, atI_nat (j := 2) rfl, by decide, by decide⟩
      | 3, _ => exact ⟨100000, atI_nat (j := 3) rfl, by decide, by decide⟩
      | 4, _ => exact ⟨10 ^ (60 : Int).toNat, atI_nat (j := 4) rfl, by decide, by decide⟩
    obtain ⟨bd, hat, hb0, hb1⟩ := hb
    refine ⟨_, _, rfl, rfl, ⟨by decide, by decide⟩, _, _, rfl, rfl, (by show (0 : Int) < _; decide), p, _, _, _, rfl, rfl, h1, hat, ?_⟩
    generalize upd H p (.lst [V.int 10, V.int 10, V.int 100, V.int 100000, V.int (10 ^ (60 : Int).toNat)]) = H1 at s1
    refine ⟨_, rfl, by decide, by decide, ?_⟩
    refine for_it (walk_range (lo := 0) (n := 8)) (fun i σ H' => H' = H1 ∧ ∃ (n : Nat) (kv : Option V), σ = [some (.int c), some (.int bd), some (.int (n : Nat)), kv]) ⟨rfl, 0, none, rfl⟩ (fun _ _ _ _ _ => trivial) (fun i x σ H2 H3 hi q y => ?_) fun σ H2 q => ?_
    · obtain ⟨rfl, n, kv, rfl⟩ := q
      obtain ⟨rfl, rfl⟩ := y
      refine ⟨_, rfl, _, _, rfl, rfl, .inr ⟨by decide, by decide⟩, _, rfl, _, rfl, _, _, rfl, rfl, _, _, rfl, fun r1 => ?_⟩
      have e : (((n * 2147483399 + r1 : Nat)) : Int) = (n : Int) * 2147483399 + (r1 : Int) := by omega
      exact ⟨_, _, rfl, rfl, rfl, n * 2147483399 + r1, some (.int (0 + (i : Int))), by rw [e]; rfl⟩
    · obtain ⟨rfl, n, kv, rfl⟩ := q
      refine ⟨_, rfl, _, rfl, _, _, rfl, rfl, hb0, ?_⟩
      have h0 : 0 ≤ ((n : Nat) : Int) % bd := Int.emod_nonneg _ (by omega)
      have h2 : ((n : Nat) : Int) % bd < bd := Int.emod_lt_of_pos _ hb0
      have e := kk (((n : Nat) : Int) % bd).toNat H2 s1 (by
        have : (((n : Nat) : Int) % bd).toNat < (10 ^ 60 : Int).toNat := by omega
        exact this)
      rw [Int.toNat_of_nonneg h0] at e
      exact e
/-! ### _law_fraction -/
def spFracL (K : PySem.W.Frag) : S1 := fun vs H Q => ∃ c : Int, vs = [.int c] ∧ ∀ (f : Fr) v H', Same H H' → f.ok → Dt K H' v (dFt f) → Q v H'
abbrev N_L_fraction : List Str := ["_law_cell", "_law_top", "_law_bottom", "_law_sign", "_law_text", "_law_one", "_law_other"]
theorem sc_L_fraction : FnScope N_L_fraction ["_law_cell"] (defScope s_L_fraction) := ⟨rfl, rfl, rfl, by decide +kernel, rfl, by decide +kernel, by decide +kernel⟩
theorem ok_L_fraction (T : Tx K mg) : GC P w K mg base 3 "_law_fraction" (spFracL K) := by
  obtain ⟨fd, F⟩ := T.d_L_fraction
  have bd : Binds K fd ["_law_cell"] [] := F.bindsN fun _ _ _ _ _ _ us hl => match us, hl with | [_], _ => rfl
  have G_L_mixed := ok_L_mixed (P := P) (w := w) (base := base) T
  have G_L_figures := ok_L_figures (P := P) (w := w) (base := base) T
  refine gc_fn (F.ok sc_L_fraction (fun vs H Q E h => ?_) (fun cdv A outer s H vs Q E hr h => ?_)) T.g_L_fraction F.kp bd
  · obtain ⟨_, rfl, _⟩ := h
    rfl
  · obtain ⟨c, rfl, kk⟩ := h
    have nd := sc_L_fraction.nd
    refine ⟨_, PSs.nox (pss_cons (ps_set (i := 1) nd rfl (Or.inl rfl) (pe_gc G_L_figures hr (by decide) rfl (pa_cons (pe_gc G_L_mixed hr (by decide) rfl (pa_cons (pv 0) (pa_cons pe_int pa_nil))) pa_nil)))
    (pss_cons (ps_set (i := 2) nd rfl (Or.inl rfl) (pe_callB (call_max2 rfl) (by rfl) T.f_max (by decide +kernel) (pa_cons pe_int (pa_cons (pe_gc G_L_figures hr (by decide) rfl (pa_cons (pe_gc G_L_mixed hr (by decide) rfl (pa_cons (pv 0) (pa_cons pe_int pa_nil))) pa_nil)) pa_nil))))
    (pss_cons (ps_if (pt_cmpR op_eq (pe_op op_mod (pe_op op_fdiv (pe_gc G_L_mixed hr (by decide) rfl (pa_cons (pv 0) (pa_cons pe_int pa_nil))) pe_int) pe_int) pe_int (nomark _))
      (pss_one (ps_set (i := 2) nd rfl (Or.inl rfl) pe_int))
      pss_nil)
    (pss_cons (ps_set (i := 3) nd rfl (Or.inl rfl) (pe_ix ix_list (pe_lst (pa_cons pe_str (pa_cons pe_str pa_nil))) (pe_callTy call_int1 (by rfl) T.f_int (by decide +kernel) (pa_cons (pe_and (pe_cmpR op_eq (pe_op op_mod (pe_op op_fdiv (pe_gc G_L_mixed hr (by decide) rfl (pa_cons (pv 0) (pa_cons pe_int pa_nil))) pe_int) pe_int) pe_int (nomark _)) (pe_one (pe_cmpR op_gt (pv 1) pe_int (nomark _)))) pa_nil)) (fun _ _ => rfl)))
    (pss_cons (ps_set (i := 4) nd rfl (Or.inl rfl) (pe_op op_add_str (pv 3) (pe_callTy call_str_int (by rfl) T.f_str (by decide +kernel) (pa_cons (pv 1) pa_nil))))
    (pss_cons (ps_if (PW.pt (pw_or (pt_cmpR op_gt (pv 2) pe_int (nomark _)) (pw_or1 (pt_cmpR op_eq (pe_op op_mod (pe_op op_fdiv (pe_gc G_L_mixed hr (by decide) rfl (pa_cons (pv 0) (pa_cons pe_int pa_nil))) pe_int) pe_int) pe_int (nomark _)))))
      (pss_one (ps_set (i := 4) nd rfl (Or.inl rfl) (pe_op op_add_str (pe_op op_add_str (pv 4) pe_str) (pe_callTy call_str_int (by rfl) T.f_str (by decide +kernel) (pa_cons (pv 2) pa_nil)))))
      pss_nil)
    (pss_cons (ps_par (i := 5) (j := 6) (by rfl) nd rfl rfl (by decide) rfl rfl (pa_cons (pv 1) (pa_cons (pv 2) pa_nil)) (by rfl))
    (pss_cons (ps_while PassesOwn.never (pt_cmpR op_gt (pv 6) pe_int (nomark _))
      (pss_one (ps_par (i := 5) (j := 6) (by rfl) nd rfl rfl (by decide) rfl rfl (pa_cons (pv 6) (pa_cons (pe_op op_mod (pv 5) (pv 6)) pa_nil)) (by rfl))))
    (pss_one (ps_ret (pe_tup (pa_cons (pv 4) (pa_cons (pe_tup (pa_cons (pe_op op_fdivW (pe_ix ix_list (pe_lst (pa_cons (pv 1) (pa_cons (pe_op op_sub pe_int (pv 1)) pa_nil))) (pe_callB call_len_str (by rfl) T.f_len (by decide +kernel) (pa_cons (pv 3) pa_nil)) (fun _ _ => rfl)) (pv 5)) (pa_cons (pe_op op_fdivW (pv 2) (pv 5)) pa_nil))) pa_nil))))))))))))), ?_⟩
    refine ⟨_, rfl, _, _, rfl, fun r0 => ⟨_, rfl, fun n H1 s1 hn => ?_⟩⟩
    refine ⟨_, rfl, _, _, rfl, fun r1 => ⟨_, rfl, fun m H2 s2 hm => ⟨_, _, rfl, ?_⟩⟩⟩
    have hd0 : ∃ d0 : Nat, (if ((m : Nat) : Int) > 1 then ((m : Nat) : Int) else 1) = (d0 : Nat) ∧ 1 ≤ d0 ∧ d0 < 10 ^ 60 := by
      by_cases h : ((m : Nat) : Int) > 1
      · exact ⟨m, by rw [if_pos h], by omega, hm⟩
      · exact ⟨1, by rw [if_neg h]; rfl, by decide, by decide⟩
    obtain ⟨d0, ed, hd1, hd2⟩ := hd0
    rw [ed]
    dsimp only
    refine vq_if (fun σ' H' => H2 = H' ∧ ∃ d : Nat, σ' = [some (.int c), some (.int (n : Nat)), some (.int (d : Nat)), none, none, none, none] ∧ 1 ≤ d ∧ d < 10 ^ 60) (fun D' hD' => ?_) fun σ' H' hσ => ?_
    · refine ⟨_, rfl, _, _, rfl, fun r2 => ⟨_, _, rfl, rfl, ⟨by decide, by decide⟩, _, _, rfl, rfl, (by show (0 : Int) < _; decide), rfl, _, rfl, ?_⟩⟩
      exact ite2 (fun _ => hD' _ _ ⟨rfl, 1, rfl, by decide, by decide⟩) fun _ => hD' _ _ ⟨rfl, d0, rfl, hd1, hd2⟩
    obtain ⟨rfl, d, rfl, hd1, hd2⟩ := hσ
    refine vq_asgP (fun v H' => Same H' H' ∧ Same H2 H' ∧ ∃ neg : Bool, v = .str (if neg = true then "-" else "") ∧ (neg = true → 0 < n)) (fun Q' k' => ?_) fun v H3 hv => ?_
    · refine ⟨by show 2 ≤ sizeLine; decide, fun p hp => ?_⟩
      have s3 := Same.new (o := .lst [V.str "", V.str "-"]) hp
      have h3 : SqL K (upd H2 p (.lst [V.str "", V.str "-"])) p [V.str "", V.str "-"] := SqL.of upd_same
      refine ⟨_, rfl, _, _, rfl, fun r2 => ⟨_, _, rfl, rfl, ⟨by decide, by decide⟩, _, _, rfl, rfl, (by show (0 : Int) < _; decide), rfl, _, rfl, ?_⟩⟩
      refine ite2 (fun _ => ?_) fun _ => ?_
      · refine ⟨_, rfl, _, _, rfl, rfl, .inr ⟨_, rfl, ?_⟩⟩
        by_cases hn0 : (0 : Int) < ((n : Nat) : Int)
        · rw [decide_eq_true hn0]
          exact ⟨p, _, _, _, rfl, rfl, h3, atI_nat (j := 1) rfl, k' _ _ ⟨Same.refl _, s3, true, rfl, fun _ => by omega⟩⟩
        · rw [decide_eq_false hn0]
          exact ⟨p, _, _, _, rfl, rfl, h3, atI_nat (j := 0) rfl, k' _ _ ⟨Same.refl _, s3, false, rfl, fun e => nomatch e⟩⟩
      · exact .inr ⟨false, rfl, p, _, _, _, rfl, rfl, h3, atI_nat (j := 0) rfl, k' _ _ ⟨Same.refl _, s3, false, rfl, fun e => nomatch e⟩⟩
    obtain ⟨_, s3, neg, rfl, hneg⟩ := hv
    have nabs : ((n : Nat) : Int).natAbs < 10 ^ 60 := by rw [Int.natAbs_natCast]; exact hn
    have dabs : ((d : Nat) : Int).natAbs < 10 ^ 60 := by rw [Int.natAbs_natCast]; exact hd2
    have sgl : (if neg = true then ("-" : Str) else "").length ≤ 1 := by cases neg <;> decide +kernel
    have sgt : tl (if neg = true then ("-" : Str) else "") = if neg = true then [45] else [] := by cases neg <;> decide +kernel
    refine ⟨_, rfl, _, rfl, _, rfl, log_of nabs, _, _, rfl, rfl, Nat.le_trans (Nat.add_le_add sgl (str_len60 nabs)) (by decide), ?_⟩
    dsimp only
    refine vq_if (fun σ' H' => H3 = H' ∧ ∃ (sl : Bool) (t : Str), σ' = [some (.int c), some (.int (n : Nat)), some (.int (d : Nat)), some (.str (if neg = true then "-" else "")), some (.str t), none, none] ∧ t = (⟨neg, n, d, sl⟩ : Fr).tx ∧ (sl = false → d = 1)) (fun D' hD' => ?_) fun σ' H' hσ => ?_
    · have t0 : tl ((if neg = true then ("-" : Str) else "") ++ Str.ofString (toString ((n : Nat) : Int))) = (⟨neg, n, d, false⟩ : Fr).txL := by
        rw [tl_append, sgt, num_tx]
        unfold Fr.txL Fr.nmL
        simp
      have yes : ∀ σ' H', σ' = [some (V.int c), some (V.int (n : Nat)), some (V.int (d : Nat)), some (V.str (if neg = true then "-" else "")), some (V.str ((((if neg = true then ("-" : Str) else "") ++ Str.ofString (toString ((n : Nat) : Int))) ++ "/") ++ Str.ofString (toString ((d : Nat) : Int)))), none, none] → H3 = H' → D'.nx σ' H' := fun σ' H' e1 e2 =>
        hD' _ _ ⟨e2, true, _, e1, ext_tl (by
          rw [Fr.tl_tx, tl_append, tl_append, t0, slash_tl, num_tx]
          unfold Fr.txL
          simp [Fr.nmL]), fun e => nomatch e⟩
      have addl : ((if neg = true then ("-" : Str) else "") ++ Str.ofString (toString ((n : Nat) : Int))).length ≤ 62 := by
        rw [Str.length_append]
        exact Nat.le_trans (Nat.add_le_add sgl (str_len60 nabs)) (by decide)
      have l1 : ("/" : Str).length = 1 := by decide +kernel
      have go : ∀ σ', σ' = [some (V.int c), some (V.int (n : Nat)), some (V.int (d : Nat)), some (V.str (if neg = true then "-" else "")), some (V.str ((if neg = true then ("-" : Str) else "") ++ Str.ofString (toString ((n : Nat) : Int)))), none, none] → True := fun _ _ => trivial
      refine ⟨_, rfl, _, _, rfl, rfl, _, rfl, ?_⟩
      refine ite2 (fun _ => ?_) fun hle => ?_
      · refine iteI rfl ?_
        exact ⟨_, rfl, _, _, rfl, rfl, Nat.le_trans (by rw [l1]; exact Nat.add_le_add_right addl 1) (by decide), _, rfl, _, rfl, log_of dabs, _, _, rfl, rfl, Nat.le_trans (by rw [Str.length_append, l1]; exact Nat.add_le_add (Nat.add_le_add_right addl 1) (str_len60 dabs)) (by decide), yes _ _ rfl rfl⟩
      · refine ⟨_, rfl, _, _, rfl, fun r2 => ⟨_, _, rfl, rfl, ⟨by decide, by decide⟩, _, _, rfl, rfl, (by show (0 : Int) < _; decide), rfl, _, rfl, ?_⟩⟩
        refine ite2 (fun _ => ?_) fun _ => ?_
        · exact ⟨_, rfl, _, _, rfl, rfl, Nat.le_trans (by rw [l1]; exact Nat.add_le_add_right addl 1) (by decide), _, rfl, _, rfl, log_of dabs, _, _, rfl, rfl, Nat.le_trans (by rw [Str.length_append, l1]; exact Nat.add_le_add (Nat.add_le_add_right addl 1) (str_len60 dabs)) (by decide), yes _ _ rfl rfl⟩
        · refine hD' _ _ ⟨rfl, false, _, rfl, ext_tl (by rw [Fr.tl_tx, t0]), fun _ => ?_⟩
          have : ¬ (1 : Int) < (d : Nat) := fun z => hle (decide_eq_true z)
          omega
    obtain ⟨rfl, sl, t, rfl, rfl, hsl⟩ := hσ
    let f : Fr := ⟨neg, n, d, sl⟩
    have fok : f.ok := ⟨hn, hd1, hd2, hneg, hsl⟩
    -- the greatest common divisor
    refine ⟨_, rfl, _, rfl, _, _, rfl, ?_⟩
    refine while_by (fun σ H' => H3 = H' ∧ ∃ x y : Nat, σ = [some (.int c), some (.int (n : Nat)), some (.int (d : Nat)), some (.str (if neg = true then "-" else "")), some (.str f.tx), some (.int x), some (.int y)] ∧ Nat.gcd x y = f.g) (fun σ _ => match σ with | [_, _, _, _, _, _, some (.int y)] => y.toNat | _ => 0) ⟨rfl, n, d, rfl, rfl⟩ ?_ ?_
    · rintro σ H' ⟨rfl, x, y, rfl, hg⟩
      refine ⟨_, rfl, _, _, rfl, rfl, _, rfl, ?_⟩
      refine ite2 (fun hy => ?_) (fun hy => ?_)
      · have hy : 0 < (y : Int) := of_decide_eq_true hy
        refine ⟨_, rfl, _, rfl, _, rfl, _, _, rfl, rfl, hy, _, _, rfl, ⟨rfl, y, x % y, rfl, ?_⟩, ?_⟩
        · rw [← hg, Nat.gcd_comm x y, Nat.gcd_rec y x, Nat.gcd_comm]
        · show ((x : Int) % (y : Int)).toNat < (y : Int).toNat
          have e : (x : Int) % (y : Int) = ((x % y : Nat) : Int) := by omega
          rw [e]
          have := Nat.mod_lt x (show 0 < y by omega)
          omega
      · have hy : ¬ 0 < (y : Int) := fun z => hy (decide_eq_true z)
        have e : y = 0 := by omega
        subst e
        rw [Nat.gcd_zero_right] at hg
        subst hg
        have hgp := fok.g1
        have wd : ∀ z : Int, CDivW z ((f.g : Nat) : Int) := fun z => wide_div (b := 200) (by omega) (by
          have h1 : f.g ≤ f.d := Nat.gcd_le_right _ (by have := fok.d1; omega)
          have h2 := fok.d60
          have h3 : (10 : Nat) ^ 60 < 2 ^ 200 := by decide
          omega) (by decide) (by decide)
        refine ⟨_, rfl, ?_⟩
        refine ⟨_, rfl, _, rfl, _, _, rfl, rfl, by show 2 ≤ sizeLine; decide, fun p hp => ?_⟩
        have s4 := Same.new (o := .lst [V.int ((n : Nat) : Int), V.int (0 - ((n : Nat) : Int))]) hp
        have h4 : SqL K (upd H3 p (.lst [V.int ((n : Nat) : Int), V.int (0 - ((n : Nat) : Int))])) p [V.int ((n : Nat) : Int), V.int (0 - ((n : Nat) : Int))] := SqL.of upd_same
        have hat : atI [V.int ((n : Nat) : Int), V.int (0 - ((n : Nat) : Int))] (((if neg = true then ("-" : Str) else "").length : Nat) : Int) = some (.int f.top) := by
          cases hneg2 : neg with
          | true =>
            have e : f.top = 0 - ((n : Nat) : Int) := by
              show (if neg = true then _ else _) = _
              rw [hneg2, if_pos rfl]
              show -((n : Nat) : Int) = 0 - ((n : Nat) : Int)
              omega
            rw [e]
            have l1 : ((if (true : Bool) = true then ("-" : Str) else "").length) = 1 := by decide +kernel
            rw [l1]
            exact atI_nat (j := 1) rfl
          | false =>
            have e : f.top = ((n : Nat) : Int) := by
              show (if neg = true then _ else _) = _
              rw [hneg2, if_neg (by decide)]
            rw [e]
            have l1 : ((if (false : Bool) = true then ("-" : Str) else "").length) = 0 := by decide +kernel
            rw [l1]
            exact atI_nat (j := 0) rfl
        refine ⟨_, rfl, _, rfl, Nat.le_trans sgl (by decide), p, _, _, _, rfl, rfl, h4, hat, _, rfl, _, _, rfl, rfl, wd _, ?_⟩
        refine ⟨_, rfl, _, rfl, _, _, rfl, rfl, wd _, by show 2 ≤ sizeLine; decide, fun q hq => ?_⟩
        have s5 := s4.trans (Same.new (o := .tup [V.int (f.top / ((f.g : Nat) : Int)), V.int (((f.d : Nat) : Int) / ((f.g : Nat) : Int))]) hq)
        refine ⟨by show 2 ≤ sizeLine; decide, fun u hu => ?_⟩
        have s6 := Same.new (o := .tup [V.str f.tx, V.ref q]) hu
        refine kk f _ _ (s1.trans (s2.trans (s3.trans (s5.trans s6)))) fok ?_
        have e1 : f.top / ((f.g : Nat) : Int) = f.vt := fok.top_div
        have e2 : ((f.d : Nat) : Int) / ((f.g : Nat) : Int) = f.vb := rfl
        refine dt_tup (SqT.of upd_same) (dta_cons dt_str (dta_cons ?_ dta_nil))
        refine Dt.sm (Same.sm s6) (dt_tup (SqT.of upd_same) ?_)
        show DtA K _ [V.int (f.top / ((f.g : Nat) : Int)), V.int (((f.d : Nat) : Int) / ((f.g : Nat) : Int))] [PyData.int f.vt, PyData.int f.vb]
        rw [e1, e2]
        exact dta_cons dt_int (dta_cons dt_int dta_nil)
    · intro σ H Q Q' q h
      obtain ⟨v, e, i, j, e1, e2, c, e3, r⟩ := h
      exact ⟨v, e, i, j, e1, e2, c, e3, q _ _ r⟩
end
end Rod
set_option Elab.async false
set_option linter.all false
set_option maxRecDepth 100000
set_option maxHeartbeats 4000000
namespace Rod
open PySem PySem.Spec PyProof.Rows L2 TL
/-! ### data as the law's plans have it -/
def okD : Nat → PyData → Prop
  | n + 1, .tuple ds => ds.length ≤ 1000 ∧ ∀ d ∈ ds, okD n d
  | _ + 1, .none => True
  | _ + 1, .int _ => True
  | _ + 1, .str _ => True
  | _, _ => False
theorem okD.mono : ∀ {n m : Nat} {d : PyData}, n ≤ m → okD n d → okD m d
  | 0, _, _, _, h => by unfold okD at h; exact h.elim
  | n + 1, m, d, hm, h => by
    obtain ⟨k, rfl⟩ : ∃ k, m = k + 1 := ⟨m - 1, by omega⟩
    cases d with
    | none => unfold okD; trivial
    | int => unfold okD; trivial
    | str => unfold okD; trivial
    | tuple ds =>
      unfold okD at h ⊢
      exact ⟨h.1, fun d hd => okD.mono (by omega) (h.2 d hd)⟩
    | bool => unfold okD at h; exact h.elim
    | list => unfold okD at h; exact h.elim
    | dict => unfold okD at h; exact h.elim
theorem okD_strs {ns : List Str} (h : ns.length ≤ 1000) : okD 2 (dNs ns) := by
  unfold dNs okD
  refine ⟨by rw [List.length_map]; exact h, fun d hd => ?_⟩
  obtain ⟨z, _, rfl⟩ := List.mem_map.mp hd
  unfold okD
  trivial
theorem okD_dW (k : Int) : okD 2 (dW [k]) := by
  unfold dW okD
  refine ⟨by show 1 ≤ 1000; decide, fun d hd => ?_⟩
  rw [List.mem_singleton.mp hd]
  unfold okD
  trivial
theorem okD_str {n : Nat} {x : Str} : okD (n + 1) (.str x) := by unfold okD; trivial
theorem okD_int {n : Nat} {x : Int} : okD (n + 1) (.int x) := by unfold okD; trivial
theorem okD_non {n : Nat} : okD (n + 1) .none := by unfold okD; trivial
theorem okD_tup {n : Nat} {ds : List PyData} (hl : ds.length ≤ 1000) (h : ∀ d ∈ ds, okD n d) : okD (n + 1) (.tuple ds) := by unfold okD; exact ⟨hl, h⟩
theorem okD_dF (f : Fr) : okD 2 (dF f) := okD_tup (by show 2 ≤ 1000; decide) fun d hd => by
  rcases List.mem_cons.mp hd with e | hd
  · rw [e]; exact okD_int
  · rw [List.mem_singleton.mp hd]; exact okD_int
theorem okD_dO (o : Option Str) : okD 1 (dO o) := by cases o <;> first | exact okD_non | exact okD_str
theorem okD_dC (o : Option Ch) : okD 2 (dC o) := by
  cases o with
  | none => exact okD_non
  | some c => exact okD_strs (by cases c <;> (simp [Ch.ws]))
theorem allC {α : Type} {p : α → Prop} {x : α} {r : List α} (h : p x) (hr : ∀ y ∈ r, p y) : ∀ y ∈ x :: r, p y := fun y hy => by
  rcases List.mem_cons.mp hy with e | hy
  · rw [e]; exact h
  · exact hr y hy
theorem allN {α : Type} {p : α → Prop} : ∀ y ∈ ([] : List α), p y := fun y hy => nomatch hy
theorem Stp.ok.td_ok {s : Stp} (h : s.ok) (k : Int) : okD 3 (s.td (dW [k])) := by
  have up : ∀ {d : PyData}, okD 1 d → okD 2 d := fun h => h.mono (by decide)
  cases s with
  | give n x y => exact okD_tup (by show 5 ≤ 1000; decide) (allC okD_str (allC (okD_dW k) (allC okD_str (allC (okD_dF x) (allC (okD_dF y) allN)))))
  | line n b c => exact okD_tup (by show 5 ≤ 1000; decide) (allC okD_str (allC (okD_dW k) (allC okD_str (allC okD_str (allC okD_str allN)))))
  | round n b c o => exact okD_tup (by show 6 ≤ 1000; decide) (allC okD_str (allC (okD_dW k) (allC okD_str (allC okD_str (allC okD_str (allC (up (okD_dO o)) allN))))))
  | meet n b c o => exact okD_tup (by show 6 ≤ 1000; decide) (allC okD_str (allC (okD_dW k) (allC okD_str (allC okD_str (allC okD_str (allC (okD_dC o) allN))))))
  | use h0 gs ns =>
    obtain ⟨_, h1, _, h2⟩ := h.us h0 gs ns rfl
    exact okD_tup (by show 5 ≤ 1000; decide) (allC okD_str (allC (okD_dW k) (allC okD_str (allC (okD_strs (by omega)) (allC (okD_strs (by omega)) allN)))))
theorem tds_mem : ∀ {ss : List Stp} {k : Int} {d : PyData}, d ∈ tds k ss → ∃ s j, s ∈ ss ∧ d = s.td (dW [j])
  | [], _, _, h => nomatch h
  | s :: r, k, d, h => by
    rcases List.mem_cons.mp h with e | h
    · exact ⟨s, k, List.mem_cons_self, e⟩
    · obtain ⟨s', j, h1, h2⟩ := tds_mem h
      exact ⟨s', j, List.mem_cons_of_mem _ h1, h2⟩
theorem tds_len : ∀ (ss : List Stp) (k : Int), (tds k ss).length = ss.length
  | [], _ => rfl
  | s :: r, k => congrArg Nat.succ (tds_len r (k + 1))
theorem ptds_mem : ∀ {ss : List Prt} {k : Int} {d : PyData}, d ∈ ptds k ss → ∃ s j, s ∈ ss ∧ d = s.td j
  | [], _, _, h => nomatch h
  | s :: r, k, d, h => by
    rcases List.mem_cons.mp h with e | h
    · exact ⟨s, k, List.mem_cons_self, e⟩
    · obtain ⟨s', j, h1, h2⟩ := ptds_mem h
      exact ⟨s', j, List.mem_cons_of_mem _ h1, h2⟩
theorem ptds_len : ∀ (ss : List Prt) (k : Int), (ptds k ss).length = ss.length
  | [], _ => rfl
  | s :: r, k => congrArg Nat.succ (ptds_len r _)
theorem Prt.ok.td_ok {p : Prt} (h : p.ok) (k : Int) : okD 5 (p.td k) := by
  cases p with
  | stp s => exact (Stp.ok.td_ok h k).mono (by decide)
  | hlp n ps as ss =>
    obtain ⟨h1, h2, h3, h4, h5, h6, h7, h8, h9⟩ := (h : Prt.hok n ps as ss)
    refine okD_tup (by show 6 ≤ 1000; decide) (allC okD_str (allC ((okD_dW k).mono (by decide)) (allC okD_str (allC ((okD_strs (by omega)).mono (by decide)) (allC ((okD_strs (by omega)).mono (by decide)) (allC ?_ allN))))))
    refine okD_tup (by rw [tds_len]; omega) fun d hd => ?_
    obtain ⟨s, j, hs, rfl⟩ := tds_mem hd
    exact (h9 s hs).1.td_ok j
theorem plan_ok {ps : List Prt} (h : ∀ p ∈ ps, p.ok) (hl : ps.length ≤ 1000) (k : Int) : okD 6 (.tuple (ptds k ps)) := okD_tup (by rw [ptds_len]; exact hl) fun d hd => by
  obtain ⟨s, j, hs, rfl⟩ := ptds_mem hd
  exact (h s hs).td_ok j
section
variable {P : Program} {w : World} {K : PySem.W.Frag} {mg : Str → Option Value} {base : Heap} {H : Hp}
/-! ### _law_same -/
theorem kA_t (K : PySem.W.Frag) : PySem.W.kitAny K (.type "tuple") [.type "tuple", .type "list"] = some true := by rfl
theorem kA_s (K : PySem.W.Frag) : PySem.W.kitAny K (.type "str") [.type "tuple", .type "list"] = some false := by kernel_rfl
theorem kA_i (K : PySem.W.Frag) : PySem.W.kitAny K (.type "int") [.type "tuple", .type "list"] = some false := by kernel_rfl
theorem kA_n (K : PySem.W.Frag) : PySem.W.kitAny K (.type "NoneType") [.type "tuple", .type "list"] = some false := by kernel_rfl
theorem kO_tt (K : PySem.W.Frag) : PySem.W.kitOne K (.type "tuple") (.type "tuple") = some true := by rfl
theorem kO_tl (K : PySem.W.Frag) : PySem.W.kitOne K (.type "tuple") (.type "list") = some false := by kernel_rfl
theorem kO_sb (K : PySem.W.Frag) : PySem.W.kitOne K (.type "str") (.type "bool") = some false := by kernel_rfl
theorem kO_ib (K : PySem.W.Frag) : PySem.W.kitOne K (.type "int") (.type "bool") = some false := by kernel_rfl
theorem kO_nb (K : PySem.W.Frag) : PySem.W.kitOne K (.type "NoneType") (.type "bool") = some false := by kernel_rfl
theorem ty_tup {a : Addr} {xs : List V} (h : SqT K H a xs) : TyX K H (.ref a) (.type "tuple") := by
  rcases h with h | ⟨o, its, n, e, c, _⟩
  · rcases h with h | ⟨o, h⟩
    · exact .base (.tup h)
    · exact .fTuple h
  · exact .kTuple e c
theorem walk_zipT {a b : Addr} {xs ys : List V} (hn : xs.length = ys.length) : Walk (RZ.ItzT K a b) xs.length (fun H => SqT K H a xs ∧ SqT K H b ys) (YPair (fun i => xs[i]?) (fun i => ys[i]?)) := by
  refine ⟨fun i _ hi q => ?_, fun _ q => ⟨xs, ys, q.1, q.2, by omega⟩, fun i H v H' _ q y => ?_⟩
  · have h2 : i < ys.length := by omega
    exact ⟨xs, ys, xs[i], ys[i], q.1, q.2, by simp [hi], by simp [h2]⟩
  · obtain ⟨T, x, z, h1, h2, h3, h4, h5⟩ := y
    exact ⟨T, x, z, h1, h2, h3, h4 xs q.1, h5 ys q.2⟩
def spSame (K : PySem.W.Frag) (n : Nat) : S1 := fun vs H Q => ∃ x y d, vs = [x, y] ∧ Dt K H x d ∧ Dt K H y d ∧ okD n d ∧ ∀ H', Same H H' → Q (.bl true) H'
abbrev N_L_same : List Str := ["_law_found", "_law_due", "_law_one", "_law_other"]
theorem sc_L_same : FnScope N_L_same ["_law_found", "_law_due"] (defScope s_L_same) := ⟨rfl, rfl, rfl, by decide +kernel, rfl, by decide +kernel, by decide +kernel⟩
theorem mono_pair {i j : Nat} {K : PySem.W.Frag} : ∀ x σ H (Q Q' : L2.St → Hp → Prop), (∀ σ H, Q σ H → Q' σ H) → gTup K 2 (gCons (gName i) (gCons (gName j) gNil)) x σ H Q → gTup K 2 (gCons (gName i) (gCons (gName j) gNil)) x σ H Q' := by
  intro x σ H Q Q' h q
  obtain ⟨a, xs, e1, e2, e3, v, r, e4, v2, r2, e5, e6, q⟩ := q
  exact ⟨a, xs, e1, e2, e3, v, r, e4, v2, r2, e5, e6, h _ _ q⟩
theorem ok_L_same (T : Tx K mg) : ∀ n : Nat, GC P w K mg base n "_law_same" (spSame K n)
  | 0 => by
    obtain ⟨fd, F⟩ := T.d_L_same
    refine ⟨_, T.g_L_same, F.kp, ?_⟩
    intro X _ _ _ _ _ _ pins σ H s Q us vs I r q
    obtain ⟨x, y, d, _, _, _, hd, _⟩ := q
    unfold okD at hd
    exact hd.elim
  | n + 1 => by
    have G_L_same := ok_L_same T n
    obtain ⟨fd, F⟩ := T.d_L_same
    have bd : Binds K fd ["_law_found", "_law_due"] [] := F.bindsN fun _ _ _ _ _ _ us hl => match us, hl with | [_, _], _ => rfl
    refine gc_fn (F.ok sc_L_same (fun vs H Q E h => ?_) (fun cdv A outer s H vs Q E hr h => ?_)) T.g_L_same F.kp bd
    · obtain ⟨_, _, _, rfl, _⟩ := h
      rfl
    · obtain ⟨x, y, d, rfl, hx, hy, hd, kk⟩ := h
      have nd := sc_L_same.nd
      refine ⟨_, PSs.nox (pss_cons (ps_if (pt_val (pe_callB call_isiT (by rfl) T.f_isinstance (by decide +kernel) (pa_cons (pv 1) (pa_cons (pe_tup (pa_cons (pe_bltn (v := .ty "tuple") rfl T.f_tuple (by decide +kernel) rfl) (pa_cons (pe_bltn (v := .ty "list") rfl T.f_list (by decide +kernel) rfl) pa_nil))) pa_nil))))
      (pss_cons (ps_if (PW.pt (pw_or (pt_cmpR op_ne (pe_callB call_isi (by rfl) T.f_isinstance (by decide +kernel) (pa_cons (pv 1) (pa_cons (pe_bltn (v := .ty "tuple") rfl T.f_tuple (by decide +kernel) rfl) pa_nil))) (pe_callB call_isi (by rfl) T.f_isinstance (by decide +kernel) (pa_cons (pv 0) (pa_cons (pe_bltn (v := .ty "tuple") rfl T.f_tuple (by decide +kernel) rfl) pa_nil))) (nomark _)) (pw_or1 (pt_cmpR op_ne (pe_callB call_isi (by rfl) T.f_isinstance (by decide +kernel) (pa_cons (pv 1) (pa_cons (pe_bltn (v := .ty "list") rfl T.f_list (by decide +kernel) rfl) pa_nil))) (pe_callB call_isi (by rfl) T.f_isinstance (by decide +kernel) (pa_cons (pv 0) (pa_cons (pe_bltn (v := .ty "list") rfl T.f_list (by decide +kernel) rfl) pa_nil))) (nomark _)))))
        (pss_one (ps_ret pe_bl))
        pss_nil)
      (pss_one (ps_ret (pe_and (pe_cmpR op_eq (pe_callB call_len_seq (by rfl) T.f_len (by decide +kernel) (pa_cons (pv 0) pa_nil)) (pe_callB call_len_seq (by rfl) T.f_len (by decide +kernel) (pa_cons (pv 1) pa_nil)) (nomark _)) (pe_one (pe_callB (cr_all rfl) (by rfl) T.f_all (by decide +kernel) (pa_cons (pe_lc (own := [("_law_one", 2), ("_law_other", 3)]) (by rfl) nd (RZ.pi_zipA (by rfl) T.f_zip (pa_cons (pv 0) (pa_cons (pv 1) pa_nil))) (blkOk_by (N := N_L_same) (sc := defScope s_L_same) (by decide +kernel)) (fun _ _ _ _ _ => (tup_ (K := K) (n := 2) rfl rfl (pgs_cons (pg_name (i := 2) nd rfl (Or.inl rfl)) (pgs_cons (pg_name (i := 3) nd rfl (Or.inl rfl)) pgs_nil)))) (fun _ _ _ _ _ => pts_nil) (fun _ _ _ _ _ => (pe_gc G_L_same hr (Nat.le_refl _) rfl (pa_cons (pv 2) (pa_cons (pv 3) pa_nil))))) pa_nil)))))))
      pss_nil)
    (pss_one (ps_ret (pe_and (pe_cmpR op_eq (pe_callB call_isi (by rfl) T.f_isinstance (by decide +kernel) (pa_cons (pv 0) (pa_cons (pe_bltn (v := .ty "bool") rfl T.f_bool (by decide +kernel) rfl) pa_nil))) (pe_callB call_isi (by rfl) T.f_isinstance (by decide +kernel) (pa_cons (pv 1) (pa_cons (pe_bltn (v := .ty "bool") rfl T.f_bool (by decide +kernel) rfl) pa_nil))) (nomark _)) (pe_one (pe_cmpR op_eq (pv 0) (pv 1) (nomark _))))))), ?_⟩
      have hcase : (∃ (t : String) (v : V), x = v ∧ y = v ∧ scal v v = true ∧ (∀ H, TyX K H v (.type t)) ∧ PySem.W.kitAny K (.type t) [.type "tuple", .type "list"] = some false ∧ PySem.W.kitOne K (.type t) (.type "bool") = some false) ∨ ∃ ds, d = .tuple ds := by
        cases d with
        | none => exact .inl ⟨"NoneType", .non, hx.non_inv, hy.non_inv, rfl, fun _ => .base .non, kA_n K, kO_nb K⟩
        | int i => exact .inl ⟨"int", .int i, hx.int_inv, hy.int_inv, rfl, fun _ => .base (.int i), kA_i K, kO_ib K⟩
        | str z => exact .inl ⟨"str", .str z, hx.str_inv, hy.str_inv, rfl, fun _ => .base (.str z), kA_s K, kO_sb K⟩
        | bool b => unfold okD at hd; exact hd.elim
        | list b => unfold okD at hd; exact hd.elim
        | dict b => unfold okD at hd; exact hd.elim
        | tuple ds => exact .inr ⟨ds, rfl⟩
      rcases hcase with ⟨t, v, rfl, rfl, hs, ht, k1, k2⟩ | ⟨ds, rfl⟩
      · refine ⟨_, rfl, by show 2 ≤ sizeLine; decide, fun tp htp => ?_⟩
        refine ⟨_, tp, _, _, _, false, rfl, upd_same, .cons (.ty _) (.cons (.ty _) .nil), ht _, k1, false, rfl, iteN (by decide) ?_⟩
        refine ⟨_, rfl, _, _, _, _, false, rfl, .ty _, ht _, k2, _, rfl, _, _, _, _, false, rfl, .ty _, ht _, k2, rfl, _, rfl, iteI (decide_eq_true rfl) ?_⟩
        refine ⟨_, rfl, _, rfl, hs, ?_⟩
        rw [decide_eq_true rfl]
        exact kk _ (Same.new htp)
      · unfold okD at hd
        obtain ⟨hz, hd⟩ := hd
        obtain ⟨a, xs, rfl, ha, hxs⟩ := hx.tup_inv
        obtain ⟨b, ys, rfl, hb, hys⟩ := hy.tup_inv
        have l1 := hxs.length
        have l2 := hys.length
        refine ⟨_, rfl, by show 2 ≤ sizeLine; decide, fun tp htp => ?_⟩
        refine ⟨_, tp, _, _, _, true, rfl, upd_same, .cons (.ty _) (.cons (.ty _) .nil), ty_tup (Same.t (Same.new htp) hb), kA_t K, true, rfl, iteI rfl ?_⟩
        have s1 := Same.new (o := .tup [V.ty "tuple", V.ty "list"]) htp
        generalize upd H tp (.tup [V.ty "tuple", V.ty "list"]) = H1 at s1 ⊢
        have ha1 := Same.t s1 ha
        have hb1 := Same.t s1 hb
        have hx1 := hxs.sm s1.sm
        have hy1 := hys.sm s1.sm
        refine ⟨_, rfl, _, _, _, _, true, rfl, .ty _, ty_tup hb1, kO_tt K, _, rfl, _, _, _, _, true, rfl, .ty _, ty_tup ha1, kO_tt K, rfl, _, rfl, iteN (by simp) ?_⟩
        refine ⟨_, rfl, _, _, _, _, false, rfl, .ty _, ty_tup hb1, kO_tl K, _, rfl, _, _, _, _, false, rfl, .ty _, ty_tup ha1, kO_tl K, rfl, _, rfl, iteN (by simp) ?_⟩
        refine ⟨_, rfl, a, _, rfl, .inr ha1, _, rfl, b, _, rfl, .inr hb1, rfl, _, rfl, iteI (eqIt (by rw [l1, l2])) ?_⟩
        refine ⟨_, rfl, _, rfl, a, b, xs, ys, rfl, .inr ⟨ha1, hb1, ?_⟩⟩
        refine lc_true (K := K) (walk_zipT (K := K) (a := a) (b := b) (xs := xs) (ys := ys) (by omega)) ds (by omega) (by omega) (fun _ s => ⟨Same.t s ha1, Same.t s hb1⟩) (fun i d x H2 H3 hi s2 yy Nx kx => ?_) mono_pair fun D H2 s2 hD ha2 => ?_
        · obtain ⟨t, x1, x2, rfl, ht, rfl, e1, e2⟩ := yy
          obtain ⟨d1, h1, h2⟩ := hx1.get e1
          obtain ⟨d2, h3, h4⟩ := hy1.get e2
          rw [hi] at h1 h3
          obtain rfl := Option.some.inj h1
          obtain rfl := Option.some.inj h3
          have s3 := Same.new (o := .tup [x1, x2]) ht
          refine ⟨t, _, rfl, SqT.of upd_same, rfl, _, _, rfl, _, _, rfl, rfl, rfl, ?_⟩
          exact ⟨_, rfl, _, rfl, x1, x2, d, rfl, (h2.sm s2.sm).sm s3.sm, (h4.sm s2.sm).sm s3.sm, hd d (List.mem_of_getElem? hi), fun H4 s4 => kx _ (s3.trans s4)⟩
        · exact ⟨D, _, rfl, hD, by rw [ha2]; exact kk _ (s1.trans s2)⟩
end
end Rod
set_option Elab.async false
set_option linter.all false
set_option maxRecDepth 100000
set_option maxHeartbeats 4000000
namespace Rod
open PySem PySem.Spec PyProof.Rows L2 TL
section
variable {P : Program} {w : World} {K : PySem.W.Frag} {mg : Str → Option Value} {base : Heap} {H : Hp}
/-! ### data of a step, taken apart -/
theorem DtA.one {v : V} {d : PyData} {xs : List V} (h : DtA K H xs [d]) : ∃ v, xs = [v] ∧ Dt K H v d := by
  obtain ⟨v, vs, rfl, q, r⟩ := h.cons_inv
  rw [r.nil_inv]
  exact ⟨v, rfl, q⟩
theorem Dt.o_inv {v : V} {o : Option Str} (h : Dt K H v (dO o)) : v = oV o := by
  cases o with
  | none => exact h.non_inv
  | some p => exact h.str_inv
theorem dF_inv {v : V} {f : Fr} (h : Dt K H v (dFt f)) : ∃ p v2, v = .ref p ∧ SqT K H p [.str f.tx, v2] ∧ Dt K H v2 (dF f) := by
  obtain ⟨p, xs, rfl, hp, r⟩ := h.tup_inv
  obtain ⟨v1, vs, rfl, q1, r⟩ := r.cons_inv
  obtain ⟨v2, vs, rfl, q2, r⟩ := r.cons_inv
  obtain rfl := r.nil_inv
  rw [q1.str_inv] at hp
  exact ⟨p, v2, rfl, hp, q2⟩
theorem dr_give {v : V} {n : Str} {x y : Fr} (h : Dt K H v (Stp.give n x y).dr) : ∃ a v1 v2, v = .ref a ∧ SqT K H a [.str "give", .str n, v1, v2] ∧ Dt K H v1 (dFt x) ∧ Dt K H v2 (dFt y) := by
  obtain ⟨a, xs, rfl, ha, r⟩ := h.tup_inv
  obtain ⟨w1, vs, rfl, q1, r⟩ := r.cons_inv
  obtain ⟨w2, vs, rfl, q2, r⟩ := DtA.cons_inv (ds := [dFt x, dFt y]) r
  obtain ⟨w3, vs, rfl, q3, r⟩ := r.cons_inv
  obtain ⟨w4, vs, rfl, q4, r⟩ := r.cons_inv
  obtain rfl := r.nil_inv
  rw [q1.str_inv, q2.str_inv] at ha
  exact ⟨a, w3, w4, rfl, ha, q3, q4⟩
theorem dr_line {v : V} {n b c : Str} (h : Dt K H v (Stp.line n b c).dr) : ∃ a, v = .ref a ∧ SqT K H a [.str "line", .str n, .str b, .str c] := by
  obtain ⟨a, xs, rfl, ha, r⟩ := h.tup_inv
  obtain ⟨w1, vs, rfl, q1, r⟩ := r.cons_inv
  obtain ⟨w2, vs, rfl, q2, r⟩ := DtA.cons_inv (ds := [.str b, .str c]) r
  obtain ⟨w3, vs, rfl, q3, r⟩ := r.cons_inv
  obtain ⟨w4, vs, rfl, q4, r⟩ := r.cons_inv
  obtain rfl := r.nil_inv
  rw [q1.str_inv, q2.str_inv, q3.str_inv, q4.str_inv] at ha
  exact ⟨a, rfl, ha⟩
theorem dr_round {v : V} {n b c : Str} {o : Option Str} (h : Dt K H v (Stp.round n b c o).dr) : ∃ a, v = .ref a ∧ SqT K H a [.str "round", .str n, .str b, .str c, oV o] := by
  obtain ⟨a, xs, rfl, ha, r⟩ := h.tup_inv
  obtain ⟨w1, vs, rfl, q1, r⟩ := r.cons_inv
  obtain ⟨w2, vs, rfl, q2, r⟩ := DtA.cons_inv (ds := [.str b, .str c, dO o]) r
  obtain ⟨w3, vs, rfl, q3, r⟩ := r.cons_inv
  obtain ⟨w4, vs, rfl, q4, r⟩ := r.cons_inv
  obtain ⟨w5, vs, rfl, q5, r⟩ := r.cons_inv
  obtain rfl := r.nil_inv
  rw [q1.str_inv, q2.str_inv, q3.str_inv, q4.str_inv, q5.o_inv] at ha
  exact ⟨a, rfl, ha⟩
theorem dr_meet {v : V} {n b c : Str} {o : Option Ch} (h : Dt K H v (Stp.meet n b c o).dr) : ∃ a v1, v = .ref a ∧ SqT K H a [.str "meet", .str n, .str b, .str c, v1] ∧ Dt K H v1 (dC o) := by
  obtain ⟨a, xs, rfl, ha, r⟩ := h.tup_inv
  obtain ⟨w1, vs, rfl, q1, r⟩ := r.cons_inv
  obtain ⟨w2, vs, rfl, q2, r⟩ := DtA.cons_inv (ds := [.str b, .str c, dC o]) r
  obtain ⟨w3, vs, rfl, q3, r⟩ := r.cons_inv
  obtain ⟨w4, vs, rfl, q4, r⟩ := r.cons_inv
  obtain ⟨w5, vs, rfl, q5, r⟩ := r.cons_inv
  obtain rfl := r.nil_inv
  rw [q1.str_inv, q2.str_inv, q3.str_inv, q4.str_inv] at ha
  exact ⟨a, w5, rfl, ha, q5⟩
theorem dr_use {v : V} {h0 : Str} {gs ns : List Str} (h : Dt K H v (Stp.use h0 gs ns).dr) : ∃ a g m, v = .ref a ∧ SqT K H a [.str "use", .str h0, .ref g, .ref m] ∧ NsT K H g gs ∧ NsT K H m ns := by
  obtain ⟨a, xs, rfl, ha, r⟩ := h.tup_inv
  obtain ⟨w1, vs, rfl, q1, r⟩ := r.cons_inv
  obtain ⟨w2, vs, rfl, q2, r⟩ := DtA.cons_inv (ds := [dNs gs, dNs ns]) r
  obtain ⟨w3, vs, rfl, q3, r⟩ := r.cons_inv
  obtain ⟨w4, vs, rfl, q4, r⟩ := r.cons_inv
  obtain rfl := r.nil_inv
  obtain ⟨g, rfl, hg⟩ := q3.ns_inv
  obtain ⟨m, rfl, hm⟩ := q4.ns_inv
  rw [q1.str_inv, q2.str_inv] at ha
  exact ⟨a, g, m, rfl, ha, hg, hm⟩
theorem dr_hlp {v : V} {n : Str} {ps as : List Str} {ss : List Stp} (h : Dt K H v (Prt.hlp n ps as ss).dr) : ∃ a p q r ys, v = .ref a ∧ SqT K H a [.str "helper", .str n, .ref p, .ref q, .ref r] ∧ NsT K H p ps ∧ NsT K H q as ∧ SqT K H r ys ∧ DtA K H ys (ss.map Stp.dr) := by
  obtain ⟨a, xs, rfl, ha, r⟩ := h.tup_inv
  obtain ⟨w1, vs, rfl, q1, r⟩ := r.cons_inv
  obtain ⟨w2, vs, rfl, q2, r⟩ := r.cons_inv
  obtain ⟨w3, vs, rfl, q3, r⟩ := r.cons_inv
  obtain ⟨w4, vs, rfl, q4, r⟩ := r.cons_inv
  obtain ⟨w5, vs, rfl, q5, r⟩ := r.cons_inv
  obtain rfl := r.nil_inv
  obtain ⟨p, rfl, hp⟩ := q3.ns_inv
  obtain ⟨q, rfl, hq⟩ := q4.ns_inv
  obtain ⟨r0, ys, rfl, hr, hys⟩ := q5.tup_inv
  rw [q1.str_inv, q2.str_inv] at ha
  exact ⟨a, p, q, r0, ys, rfl, ha, hp, hq, hr, hys⟩
/-- the step's tuple: its tag and its rest -/
theorem dr_any {v : V} {s : Stp} (h : Dt K H v s.dr) : ∃ a xs, v = .ref a ∧ SqT K H a (.str s.tag :: xs) ∧ DtA K H xs s.drest := by
  obtain ⟨a, xs, rfl, ha, r⟩ := h.tup_inv
  obtain ⟨w1, vs, rfl, q1, r⟩ := r.cons_inv
  rw [q1.str_inv] at ha
  exact ⟨a, vs, rfl, ha, r⟩
theorem atV (z : V) (r : List V) : atI (z :: r) 0 = some z := atI_nat (j := 0) rfl
/-! ### _law_row -/
def spLRow (K : PySem.W.Frag) : S1 := fun vs H Q => ∃ (v : V) (s : Stp), vs = [v] ∧ Dt K H v s.dr ∧ s.ok ∧ ∀ H', Same H H' → Q (.str s.row) H'
abbrev N_L_row : List Str := ["_law_step_here", "_law_word"]
theorem sc_L_row : FnScope N_L_row ["_law_step_here"] (defScope s_L_row) := ⟨rfl, rfl, rfl, by decide +kernel, rfl, by decide +kernel, by decide +kernel⟩
theorem ok_L_row (T : Tx K mg) : GC P w K mg base 1 "_law_row" (spLRow K) := by
  obtain ⟨fd, F⟩ := T.d_L_row
  have bd : Binds K fd ["_law_step_here"] [] := F.bindsN fun _ _ _ _ _ _ us hl => match us, hl with | [_], _ => rfl
  refine gc_fn (F.ok sc_L_row (fun vs H Q E h => ?_) (fun cdv A outer s H vs Q E hr h => ?_)) T.g_L_row F.kp bd
  · obtain ⟨_, _, rfl, _⟩ := h
    rfl
  · obtain ⟨v, s0, rfl, hv, ok, kk⟩ := h
    have nd := sc_L_row.nd
    have wl := Stp.ok.ws_len ok
    have js := join_small wl.1 (Nat.le_trans wl.2 (by decide))
    refine ⟨_, PSs.nox (pss_cons (ps_if (pt_cmpR op_eq (pe_ix ix_tup (pv 0) pe_int (fun _ _ => rfl)) pe_str (nomark _))
      (pss_one (ps_ret (pe_join pe_str (pe_lst (pa_cons pe_str (pa_cons (pe_ix ix_tup (pv 0) pe_int (fun _ _ => rfl)) (pa_cons (pe_ix ix_tup (pe_ix ix_tup (pv 0) pe_int (fun _ _ => rfl)) pe_int (fun _ _ => rfl)) (pa_cons (pe_ix ix_tup (pe_ix ix_tup (pv 0) pe_int (fun _ _ => rfl)) pe_int (fun _ _ => rfl)) pa_nil))))))))
      pss_nil)
    (pss_cons (ps_if (pt_cmpR op_eq (pe_ix ix_tup (pv 0) pe_int (fun _ _ => rfl)) pe_str (nomark _))
      (pss_one (ps_ret (pe_join pe_str (pe_op op_catS (pe_op op_catS (pe_op op_catS (pe_tup (pa_cons pe_str (pa_cons (pe_ix ix_tup (pv 0) pe_int (fun _ _ => rfl)) pa_nil))) (pe_ix ix_tup (pv 0) pe_int (fun _ _ => rfl))) (pe_tup (pa_cons pe_str pa_nil))) (pe_ix ix_tup (pv 0) pe_int (fun _ _ => rfl))))))
      pss_nil)
    (pss_cons (ps_if (pt_cmpR op_eq (pe_ix ix_tup (pv 0) pe_int (fun _ _ => rfl)) pe_str (nomark _))
      (pss_one (ps_ret (pe_join pe_str (pe_op op_catS (pe_slice sl_tupS (pv 0) po_none (po_some pe_int)) (pe_ifExp (pt_cmpR op_isN (pe_ix ix_tup (pv 0) pe_int (fun _ _ => rfl)) pe_non (nomark _)) (pe_tup pa_nil) (pe_ix ix_tup (pv 0) pe_int (fun _ _ => rfl)))))))
      pss_nil)
    (pss_one (ps_ret (pe_join pe_str (pe_lc (own := [("_law_word", 1)]) (by rfl) nd (pi_tup (pv 0)) (blkOk_by (N := N_L_row) (sc := defScope s_L_row) (by decide +kernel)) (fun _ _ _ _ _ => (pg_name (i := 1) nd rfl (Or.inl rfl))) (fun _ _ _ _ _ => (pts_one (pt_cmpR op_notN (pv 1) pe_non (nomark _)))) (fun _ _ _ _ _ => (pv 1))))))))), ?_⟩
    cases s0 with
    | give n x y =>
      obtain ⟨a, v1, v2, rfl, ha, h1, h2⟩ := dr_give hv
      obtain ⟨p, w1, rfl, hp, _⟩ := dF_inv h1
      obtain ⟨q, w2, rfl, hq, _⟩ := dF_inv h2
      refine ⟨_, rfl, a, _, 0, _, rfl, rfl, ha, atV _ _, rfl, _, rfl, iteI (eqS rfl) ?_⟩
      refine ⟨⟨_, rfl⟩, _, rfl, a, _, 1, _, rfl, rfl, ha, atI_nat (j := 1) rfl, _, rfl, a, _, 2, _, rfl, rfl, ha, atI_nat (j := 2) rfl, p, _, 0, _, rfl, rfl, hp, atV _ _, _, rfl, a, _, 3, _, rfl, rfl, ha, atI_nat (j := 3) rfl, q, _, 0, _, rfl, rfl, hq, atV _ _, ?_⟩
      exact ⟨by show 4 ≤ sizeLine; decide, fun r hr => ⟨" ", r, (Stp.give n x y).ws, rfl, rfl, .inl (SqL.of upd_same), js, kk _ (Same.new hr)⟩⟩
    | use h0 gs ns =>
      obtain ⟨a, g, m, rfl, ha, hg, hm⟩ := dr_use hv
      obtain ⟨_, hl1, _, hl2⟩ := ok.us h0 gs ns rfl
      refine ⟨_, rfl, a, _, 0, _, rfl, rfl, ha, atV _ _, rfl, _, rfl, iteN (neqS (by decide +kernel)) ?_⟩
      refine ⟨_, rfl, a, _, 0, _, rfl, rfl, ha, atV _ _, rfl, _, rfl, iteI (eqS rfl) ?_⟩
      refine ⟨⟨_, rfl⟩, _, rfl, a, _, 1, _, rfl, rfl, ha, atI_nat (j := 1) rfl, by show 2 ≤ sizeLine; decide, fun r hr => ?_⟩
      have s1 : Same H (upd H r (.tup [V.str "use", V.str h0])) := Same.new hr
      have h1 : SqT K (upd H r (.tup [V.str "use", V.str h0])) r [V.str "use", V.str h0] := SqT.of upd_same
      generalize upd H r (.tup [V.str "use", V.str h0]) = H1 at s1 h1 ⊢
      refine ⟨_, rfl, a, _, 2, _, rfl, rfl, Same.t s1 ha, atI_nat (j := 2) rfl, ?_⟩
      refine ⟨r, g, _, _, rfl, rfl, h1, Same.t s1 hg, by rw [List.length_map]; show 2 + _ ≤ _; omega, fun t H2 s2 ht => ?_⟩
      refine ⟨by show 1 ≤ sizeLine; decide, fun r2 hr2 => ?_⟩
      have s3 : Same H2 (upd H2 r2 (.tup [V.str "as"])) := Same.new hr2
      have h3 : SqT K (upd H2 r2 (.tup [V.str "as"])) r2 [V.str "as"] := SqT.of upd_same
      generalize upd H2 r2 (.tup [V.str "as"]) = H3 at s3 h3 ⊢
      refine ⟨t, r2, _, _, rfl, rfl, Same.t s3 ht, h3, by rw [List.length_append, List.length_map]; show 2 + _ + 1 ≤ _; omega, fun t4 H4 s4 ht4 => ?_⟩
      have sx := s1.trans (s2.trans (s3.trans s4))
      refine ⟨_, rfl, a, _, 3, _, rfl, rfl, Same.t sx ha, atI_nat (j := 3) rfl, ?_⟩
      refine ⟨t4, m, _, _, rfl, rfl, ht4, Same.t sx hm, by rw [List.length_append, List.length_append, List.length_map, List.length_map]; show 2 + _ + 1 + _ ≤ _; omega, fun u H5 s5 hu => ?_⟩
      refine ⟨" ", u, (Stp.use h0 gs ns).ws, rfl, rfl, .inr (SqT.cast hu ?_), js, kk _ (sx.trans s5)⟩
      show ([V.str "use", V.str h0] ++ gs.map V.str ++ [V.str "as"]) ++ ns.map V.str = (("use" : Str) :: h0 :: (gs ++ ("as" : Str) :: ns)).map V.str
      simp
    | meet n b c o =>
      obtain ⟨a, v1, rfl, ha, h1⟩ := dr_meet hv
      refine ⟨_, rfl, a, _, 0, _, rfl, rfl, ha, atV _ _, rfl, _, rfl, iteN (neqS (by decide +kernel)) ?_⟩
      refine ⟨_, rfl, a, _, 0, _, rfl, rfl, ha, atV _ _, rfl, _, rfl, iteN (neqS (by decide +kernel)) ?_⟩
      refine ⟨_, rfl, a, _, 0, _, rfl, rfl, ha, atV _ _, rfl, _, rfl, iteI (eqS rfl) ?_⟩
      refine ⟨⟨_, rfl⟩, _, rfl, 4, rfl, a, _, rfl, ha, fun t H1 s1 ht => ?_⟩
      have hc : cutV [V.str "meet", V.str n, V.str b, V.str c, v1] none (some 4) = [V.str "meet", V.str n, V.str b, V.str c] := cutV_to _ 4
      rw [hc] at ht
      refine ⟨_, rfl, a, _, 4, _, rfl, rfl, Same.t s1 ha, atI_nat (j := 4) rfl, rfl, _, rfl, ?_⟩
      cases o with
      | none =>
        obtain rfl := h1.non_inv
        refine iteI is_non ?_
        refine ⟨by decide, fun e he => ?_⟩
        have s2 := Same.new (o := .tup []) he
        exact ⟨t, e, _, _, rfl, rfl, Same.t s2 ht, SqT.of upd_same, by show 4 + 0 ≤ 100000; decide, fun u H3 s3 hu => ⟨" ", u, (Stp.meet n b c none).ws, rfl, rfl, .inr hu, js, kk _ (s1.trans (s2.trans s3))⟩⟩
      | some c1 =>
        obtain ⟨q, rfl, hq⟩ := Dt.ns_inv h1
        refine iteN ne_non ?_
        refine ⟨_, rfl, a, _, 4, _, rfl, rfl, Same.t s1 ha, atI_nat (j := 4) rfl, ?_⟩
        exact ⟨t, q, _, _, rfl, rfl, ht, Same.t s1 hq, by cases c1 <;> (show _ ≤ 100000; simp [Ch.ws]), fun u H3 s3 hu => ⟨" ", u, (Stp.meet n b c (some c1)).ws, rfl, rfl, .inr hu, js, kk _ (s1.trans s3)⟩⟩
    | line n b c =>
      obtain ⟨a, rfl, ha⟩ := dr_line hv
      refine ⟨_, rfl, a, _, 0, _, rfl, rfl, ha, atV _ _, rfl, _, rfl, iteN (neqS (by decide +kernel)) ?_⟩
      refine ⟨_, rfl, a, _, 0, _, rfl, rfl, ha, atV _ _, rfl, _, rfl, iteN (neqS (by decide +kernel)) ?_⟩
      refine ⟨_, rfl, a, _, 0, _, rfl, rfl, ha, atV _ _, rfl, _, rfl, iteN (neqS (by decide +kernel)) ?_⟩
      refine ⟨⟨_, rfl⟩, _, rfl, a, rfl, ⟨_, ha⟩, ?_⟩
      refine lc_filter (walk_tup (K := K) (a := a) (xs := [V.str "line", V.str n, V.str b, V.str c])) ([some "line", some n, some b, some c] : List (Option Str)) rfl (by show 4 ≤ 100000; decide) Option.isSome oV (fun _ s => Same.t s ha) (fun i d x H2 H3 hi s2 y Nx Nf kx kn => ?_) fun D H2 hD s2 ha2 => ?_
      · obtain ⟨rfl, hx⟩ := y
        have hx : (([some "line", some n, some b, some c] : List (Option Str)).map oV)[i]? = some x := hx
        rw [List.getElem?_map, hi] at hx
        obtain rfl := Option.some.inj hx
        refine ⟨rfl, _, rfl, rfl, _, rfl, ?_⟩
        cases d with
        | none => exact iteN (by simp [oV]) (kn _ (Same.refl _) rfl)
        | some z => exact iteI (by simp [oV]) ⟨_, rfl, kx _ (Same.refl _) rfl⟩
      · exact ⟨" ", D, (Stp.line n b c).ws, rfl, rfl, .inl (SqL.of ha2), js, kk _ s2⟩
    | round n b c o =>
      obtain ⟨a, rfl, ha⟩ := dr_round hv
      refine ⟨_, rfl, a, _, 0, _, rfl, rfl, ha, atV _ _, rfl, _, rfl, iteN (neqS (by decide +kernel)) ?_⟩
      refine ⟨_, rfl, a, _, 0, _, rfl, rfl, ha, atV _ _, rfl, _, rfl, iteN (neqS (by decide +kernel)) ?_⟩
      refine ⟨_, rfl, a, _, 0, _, rfl, rfl, ha, atV _ _, rfl, _, rfl, iteN (neqS (by decide +kernel)) ?_⟩
      refine ⟨⟨_, rfl⟩, _, rfl, a, rfl, ⟨_, ha⟩, ?_⟩
      refine lc_filter (walk_tup (K := K) (a := a) (xs := [V.str "round", V.str n, V.str b, V.str c, oV o])) ([some "round", some n, some b, some c, o] : List (Option Str)) rfl (by show 5 ≤ 100000; decide) Option.isSome oV (fun _ s => Same.t s ha) (fun i d x H2 H3 hi s2 y Nx Nf kx kn => ?_) fun D H2 hD s2 ha2 => ?_
      · obtain ⟨rfl, hx⟩ := y
        have hx : (([some "round", some n, some b, some c, o] : List (Option Str)).map oV)[i]? = some x := hx
        rw [List.getElem?_map, hi] at hx
        obtain rfl := Option.some.inj hx
        refine ⟨rfl, _, rfl, rfl, _, rfl, ?_⟩
        cases d with
        | none => exact iteN (by simp [oV]) (kn _ (Same.refl _) rfl)
        | some z => exact iteI (by simp [oV]) ⟨_, rfl, kx _ (Same.refl _) rfl⟩
      · exact ⟨" ", D, (Stp.round n b c o).ws, rfl, rfl, .inl (SqL.of (by rw [ha2]; cases o <;> rfl)), js, kk _ s2⟩
/-! ### _law_step_told -/
def spLStTold (K : PySem.W.Frag) : S1 := fun vs H Q => ∃ (v vw : V) (s : Stp) (k : Int), vs = [v, vw] ∧ Dt K H v s.dr ∧ Dt K H vw (dW [k]) ∧ ∀ v' H', Same H H' → Dt K H' v' (s.td (dW [k])) → Q v' H'
abbrev N_L_step_told : List Str := ["_law_step_here", "_law_way"]
theorem sc_L_step_told : FnScope N_L_step_told ["_law_step_here", "_law_way"] (defScope s_L_step_told) := ⟨rfl, rfl, rfl, by decide +kernel, rfl, by decide +kernel, by decide +kernel⟩
theorem ok_L_step_told (T : Tx K mg) : GC P w K mg base 1 "_law_step_told" (spLStTold K) := by
  obtain ⟨fd, F⟩ := T.d_L_step_told
  have bd : Binds K fd ["_law_step_here", "_law_way"] [] := F.bindsN fun _ _ _ _ _ _ us hl => match us, hl with | [_, _], _ => rfl
  refine gc_fn (F.ok sc_L_step_told (fun vs H Q E h => ?_) (fun cdv A outer s H vs Q E hr h => ?_)) T.g_L_step_told F.kp bd
  · obtain ⟨_, _, _, _, rfl, _⟩ := h
    rfl
  · obtain ⟨v, vw, s0, k, rfl, hv, hw, kk⟩ := h
    have nd := sc_L_step_told.nd
    refine ⟨_, PSs.nox (pss_cons (ps_if (pt_cmpR op_eq (pe_ix ix_tup (pv 0) pe_int (fun _ _ => rfl)) pe_str (nomark _))
      (pss_one (ps_ret (pe_tup (pa_cons pe_str (pa_cons (pv 1) (pa_cons (pe_ix ix_tup (pv 0) pe_int (fun _ _ => rfl)) (pa_cons (pe_ix ix_tup (pe_ix ix_tup (pv 0) pe_int (fun _ _ => rfl)) pe_int (fun _ _ => rfl)) (pa_cons (pe_ix ix_tup (pe_ix ix_tup (pv 0) pe_int (fun _ _ => rfl)) pe_int (fun _ _ => rfl)) pa_nil))))))))
      pss_nil)
    (pss_one (ps_ret (pe_op op_catS (pe_tup (pa_cons (pe_ix ix_tup (pv 0) pe_int (fun _ _ => rfl)) (pa_cons (pv 1) pa_nil))) (pe_slice sl_tupS (pv 0) (po_some pe_int) po_none))))), ?_⟩
    by_cases hg : s0.isGive = true
    · obtain ⟨n, x, y, rfl⟩ : ∃ n x y, s0 = .give n x y := by
        cases s0 <;> first | exact ⟨_, _, _, rfl⟩ | exact nomatch hg
      obtain ⟨a, v1, v2, rfl, ha, h1, h2⟩ := dr_give hv
      obtain ⟨p, w1, rfl, hp, g1⟩ := dF_inv h1
      obtain ⟨q, w2, rfl, hq, g2⟩ := dF_inv h2
      refine ⟨_, rfl, a, _, 0, _, rfl, rfl, ha, atV _ _, rfl, _, rfl, iteI (eqS rfl) ?_⟩
      refine ⟨_, rfl, _, rfl, a, _, 1, _, rfl, rfl, ha, atI_nat (j := 1) rfl, _, rfl, a, _, 2, _, rfl, rfl, ha, atI_nat (j := 2) rfl, p, _, 1, _, rfl, rfl, hp, atI_nat (j := 1) rfl, _, rfl, a, _, 3, _, rfl, rfl, ha, atI_nat (j := 3) rfl, q, _, 1, _, rfl, rfl, hq, atI_nat (j := 1) rfl, ?_⟩
      refine ⟨by show 5 ≤ sizeLine; decide, fun r hr => kk _ _ (Same.new hr) ?_⟩
      have sr : Sm K H (upd H r (.tup [V.str "give", vw, V.str n, w1, w2])) := Same.sm (Same.new hr)
      exact dt_tup (SqT.of upd_same) (dta_cons dt_str (dta_cons (hw.sm sr) (dta_cons dt_str (dta_cons (g1.sm sr) (dta_cons (g2.sm sr) dta_nil)))))
    · obtain ⟨a, xs, rfl, ha, hxs⟩ := dr_any hv
      have ht : s0.tag ≠ ("give" : Str) := by
        cases s0
        case give => exact absurd rfl hg
        case line => show ("line" : Str) ≠ "give"; decide +kernel
        case round => show ("round" : Str) ≠ "give"; decide +kernel
        case meet => show ("meet" : Str) ≠ "give"; decide +kernel
        case use => show ("use" : Str) ≠ "give"; decide +kernel
      have hrest : s0.drest = s0.rest := by
        cases s0 <;> first | exact absurd rfl hg | rfl
      rw [hrest] at hxs
      have hl : s0.rest.length ≤ 5 := by cases s0 <;> simp [Stp.rest]
      refine ⟨_, rfl, a, _, 0, _, rfl, rfl, ha, atV _ _, rfl, _, rfl, iteN (neqS ht) ?_⟩
      refine ⟨_, rfl, a, _, 0, _, rfl, rfl, ha, atV _ _, _, rfl, by show 2 ≤ sizeLine; decide, fun r hr => ?_⟩
      have s1 : Same H (upd H r (.tup [V.str s0.tag, vw])) := Same.new hr
      have h1 : SqT K (upd H r (.tup [V.str s0.tag, vw])) r [V.str s0.tag, vw] := SqT.of upd_same
      generalize upd H r (.tup [V.str s0.tag, vw]) = H1 at s1 h1 ⊢
      refine ⟨_, rfl, 1, rfl, a, _, rfl, Same.t s1 ha, fun t H2 s2 ht2 => ?_⟩
      have hc : cutV (V.str s0.tag :: xs) (some 1) none = xs := cutV_from _ 1
      rw [hc] at ht2
      refine ⟨r, t, _, _, rfl, rfl, Same.t s2 h1, ht2, ?_, fun u H3 s3 hu => kk _ _ (s1.trans (s2.trans s3)) ?_⟩
      · have := hxs.length
        show 2 + _ ≤ _
        omega
      · have sx := s1.trans (s2.trans s3)
        exact dt_tup hu (dta_cons dt_str (dta_cons (hw.sm sx.sm) (hxs.sm sx.sm)))
end
end Rod
set_option Elab.async false
set_option linter.all false
set_option maxRecDepth 100000
set_option maxHeartbeats 4000000
namespace Rod
open PySem PySem.Spec PyProof.Rows L2 TL
theorem ptds_snoc (p : Prt) : ∀ (a : List Prt) (k : Int), ptds k (a ++ [p]) = ptds k a ++ [p.td (k + (nls a : Nat))]
  | [], k => by
    show [p.td k] = [p.td (k + ((0 : Nat) : Int))]
    rw [Int.natCast_zero, Int.add_zero]
  | q :: r, k => by
    show q.td k :: ptds (k + q.nl) (r ++ [p]) = q.td k :: (ptds (k + q.nl) r ++ [p.td (k + (nls (q :: r) : Nat))])
    rw [ptds_snoc p r]
    have e : nls (q :: r) = q.nl + nls r := rfl
    rw [e, show k + ((q.nl + nls r : Nat) : Int) = k + (q.nl : Int) + (nls r : Nat) by omega]
theorem wst_get : ∀ {ss : List Stp} {k : Int} {i : Nat} {d : StI}, (wst k ss)[i]? = some d → d.1 = [k + (i : Int)] ∧ ss[i]? = some d.2
  | [], _, i, d, h => by simp [wst] at h
  | s :: r, k, 0, d, h => by
    simp [wst] at h
    subst h
    exact ⟨by simp, rfl⟩
  | s :: r, k, i + 1, d, h => by
    simp [wst] at h
    obtain ⟨h1, h2⟩ := wst_get h
    refine ⟨?_, by simpa using h2⟩
    rw [h1]
    congr 1
    omega
def wysD (m : Nat) : List PyData := (List.range m).map fun j => dW [((j : Nat) : Int) + 1]
section
variable {P : Program} {w : World} {K : PySem.W.Frag} {mg : Str → Option Value} {base : Heap} {H : Hp}
theorem DtA.at_ : ∀ {ds : List PyData} {xs : List V} {i : Nat} {d : PyData}, DtA K H xs ds → ds[i]? = some d → ∃ v, xs[i]? = some v ∧ Dt K H v d
  | [], _, _, _, h, e => by simp at e
  | d0 :: ds, _, 0, _, h, e => by
    obtain ⟨w, vs, rfl, q, r⟩ := h.cons_inv
    simp at e
    subst e
    exact ⟨w, rfl, q⟩
  | d0 :: ds, _, i + 1, _, h, e => by
    obtain ⟨w, vs, rfl, q, r⟩ := h.cons_inv
    obtain ⟨v, h1, h2⟩ := DtA.at_ (i := i) r (by simpa using e)
    exact ⟨v, by simpa using h1, h2⟩
theorem wys_at {xs : List V} {m j : Nat} (h : DtA K H xs (wysD m)) (hj : j < m) : ∃ v, atI xs ((j : Nat) : Int) = some v ∧ Dt K H v (dW [1 + (j : Int)]) := by
  obtain ⟨v, h1, h2⟩ := h.at_ (i := j) (d := dW [((j : Nat) : Int) + 1]) (by
    unfold wysD
    rw [List.getElem?_map, List.getElem?_range hj]
    rfl)
  rw [Int.add_comm] at h2
  exact ⟨v, atI_nat h1, h2⟩
/-! ### _law_rows -/
def spLRows (K : PySem.W.Frag) : S1 := fun vs H Q => ∃ (a : Addr) (xs : List V) (ps : List Prt), vs = [.ref a] ∧ SqL K H a xs ∧ DtA K H xs (ps.map Prt.dr) ∧ (∀ p ∈ ps, p.ok) ∧ ps.length ≤ 100 ∧ ∀ q H', Same H H' → H q = none → H' q = some (.lst ((rows ps).map V.str)) → Q (.ref q) H'
theorem rows_snoc (a : List Prt) (p : Prt) : rows (a ++ [p]) = rows a ++ p.lns.map Ln.row := by
  rw [rows_append]
  congr 1
  unfold rows lines
  simp
abbrev N_L_rows : List Str := ["_law_parts_here", "_law_found", "_law_part", "_law_step_here"]
theorem sc_L_rows : FnScope N_L_rows ["_law_parts_here"] (defScope s_L_rows) := ⟨rfl, rfl, rfl, by decide +kernel, rfl, by decide +kernel, by decide +kernel⟩
theorem ok_L_rows (T : Tx K mg) : GC P w K mg base 2 "_law_rows" (spLRows K) := by
  obtain ⟨fd, F⟩ := T.d_L_rows
  have bd : Binds K fd ["_law_parts_here"] [] := F.bindsN fun _ _ _ _ _ _ us hl => match us, hl with | [_], _ => rfl
  have G_L_row := ok_L_row (P := P) (w := w) (base := base) T
  refine gc_fn (F.ok sc_L_rows (fun vs H Q E h => ?_) (fun cdv A outer s H vs Q E hr h => ?_)) T.g_L_rows F.kp bd
  · obtain ⟨_, _, _, rfl, _⟩ := h
    rfl
  · obtain ⟨a, xs, ps, rfl, ha, hxs, ok, hz, kk⟩ := h
    have nd := sc_L_rows.nd
    have lx := hxs.length
    rw [List.length_map] at lx
    have rl : ∀ i, (rows (ps.take i)).length ≤ 700 := fun i => by
      unfold rows
      have := lines_len (ps := ps.take i) fun p hp => ok p (List.mem_of_mem_take hp)
      rw [List.length_take] at this
      rw [List.length_map]
      omega
    refine ⟨_, PSs.nox (pss_cons (ps_set (i := 1) nd rfl (Or.inl rfl) (pe_lst pa_nil))
    (pss_cons (ps_for PassesOwn.never rfl (pi_list (pv 0)) (pg_name (i := 2) nd rfl (Or.inl rfl))
      (pss_one (ps_if (pt_cmpR op_eq (pe_ix ix_tup (pv 2) pe_int (fun _ _ => rfl)) pe_str (nomark _))
        (pss_cons (ps_expr (pe_bm PySem.F.plainAttrs_list PySem.F.slot_list_append PySem.F.type_list_append mt_append (pv 1) (pa_cons (pe_join pe_str (pe_op op_catS (pe_op op_catS (pe_op op_catS (pe_tup (pa_cons pe_str (pa_cons (pe_ix ix_tup (pv 2) pe_int (fun _ _ => rfl)) pa_nil))) (pe_ix ix_tup (pv 2) pe_int (fun _ _ => rfl))) (pe_tup (pa_cons pe_str pa_nil))) (pe_ix ix_tup (pv 2) pe_int (fun _ _ => rfl)))) pa_nil)))
        (pss_one (ps_set (i := 1) nd rfl (Or.inl rfl) (pe_op op_cat (pe_op op_cat (pv 1) (pe_lc (own := [("_law_step_here", 3)]) (by rfl) nd (pi_tup (pe_ix ix_tup (pv 2) pe_int (fun _ _ => rfl))) (blkOk_by (N := N_L_rows) (sc := defScope s_L_rows) (by decide +kernel)) (fun _ _ _ _ _ => (pg_name (i := 3) nd rfl (Or.inl rfl))) (fun _ _ _ _ _ => pts_nil) (fun _ _ _ _ _ => (pe_gc G_L_row hr (by decide) rfl (pa_cons (pv 3) pa_nil))))) (pe_lst (pa_cons pe_str pa_nil))))))
        (pss_one (ps_expr (pe_bm PySem.F.plainAttrs_list PySem.F.slot_list_append PySem.F.type_list_append mt_append (pv 1) (pa_cons (pe_gc G_L_row hr (by decide) rfl (pa_cons (pv 2) pa_nil)) pa_nil)))))))
    (pss_one (ps_ret (pv 1))))), ?_⟩
    refine ⟨by decide, fun f hf => ?_⟩
    have s1 : Same H (upd H f (.lst [])) := Same.new hf
    refine ⟨_, rfl, a, rfl, ⟨_, Same.ls s1 ha⟩, ?_⟩
    refine for_it (walk_list (K := K) (a := a) (xs := xs)) (fun i σ H' => Same H H' ∧ ∃ (f : Addr) (pt : Option V), σ = [some (.ref a), some (.ref f), pt, none] ∧ H f = none ∧ H' f = some (.lst ((rows (ps.take i)).map V.str))) ⟨s1, f, none, rfl, hf, upd_same⟩ (fun i σ H' _ q => Same.ls q.1 ha) (fun i x σ H4 H5 hi q y => ?_) fun σ H4 q => ?_
    · obtain ⟨s4, f, pt, rfl, hf, hf4⟩ := q
      obtain ⟨rfl, hx⟩ := y
      have hi' : i < ps.length := by omega
      have hp : ps[i]? = some ps[i] := List.getElem?_eq_getElem hi'
      have pok := ok ps[i] (List.getElem_mem hi')
      have hdt : Dt K H5 x ps[i].dr := by
        obtain ⟨v, h1, h2⟩ := hxs.at_ (i := i) (d := ps[i].dr) (by rw [List.getElem?_map, hp]; rfl)
        rw [hx] at h1
        obtain rfl := Option.some.inj h1
        exact h2.sm s4.sm
      have lenok : ((rows (ps.take i)).map V.str).length + 20 ≤ sizeLine := by
        rw [List.length_map]
        have := rl i
        exact Nat.le_trans (by omega : _ ≤ 720) (by decide)
      have fin : rows (ps.take (i + 1)) = rows (ps.take i) ++ ps[i].lns.map Ln.row := by rw [take_snoc hp, rows_snoc]
      rw [fin]
      generalize ps[i] = p at pok hdt ⊢
      cases p with
      | stp s0 =>
        have hdt : Dt K H5 x s0.dr := hdt
        obtain ⟨b, ys, rfl, hb, _⟩ := dr_any hdt
        have ht : s0.tag ≠ ("helper" : Str) := by
          cases s0
          case give => show ("give" : Str) ≠ "helper"; decide +kernel
          case line => show ("line" : Str) ≠ "helper"; decide +kernel
          case round => show ("round" : Str) ≠ "helper"; decide +kernel
          case meet => show ("meet" : Str) ≠ "helper"; decide +kernel
          case use => show ("use" : Str) ≠ "helper"; decide +kernel
        refine ⟨_, rfl, b, _, 0, _, rfl, rfl, hb, atV _ _, rfl, _, rfl, iteN (neqS ht) ?_⟩
        refine ⟨_, rfl, .inl ⟨rfl, _, SqL.of hf4⟩, _, rfl, _, s0, rfl, hdt, pok, fun H6 s6 => ?_⟩
        refine ⟨f, _, _, rfl, rfl, s6 _ _ hf4, by omega, Same.mut (s4.trans s6) hf, f, _, rfl, hf, ?_⟩
        rw [upd_same, List.map_append]
        rfl
      | hlp n qs as ss =>
        obtain ⟨b, p1, q1, r1, ys, rfl, hb, hp1, hq1, hr1, hys⟩ := dr_hlp hdt
        obtain ⟨h1, h2, h3, h4, h5, h6, h7, h8, h9⟩ := (pok : Prt.hok n qs as ss)
        have lok : (Ln.head n qs as).ok := ⟨h1, h2, h3, h4, h5, h6, h7⟩
        refine ⟨_, rfl, b, _, 0, _, rfl, rfl, hb, atV _ _, rfl, _, rfl, iteI (eqS rfl) ?_⟩
        refine ⟨_, rfl, .inl ⟨rfl, _, SqL.of hf4⟩, ⟨_, rfl⟩, _, rfl, b, _, 1, _, rfl, rfl, hb, atI_nat (j := 1) rfl, by show 2 ≤ sizeLine; decide, fun u hu => ?_⟩
        have t1 : Same H5 (upd H5 u (.tup [V.str "helper", V.str n])) := Same.new hu
        have g1 : SqT K (upd H5 u (.tup [V.str "helper", V.str n])) u [V.str "helper", V.str n] := SqT.of upd_same
        generalize upd H5 u (.tup [V.str "helper", V.str n]) = G1 at t1 g1 ⊢
        refine ⟨_, rfl, b, _, 2, _, rfl, rfl, Same.t t1 hb, atI_nat (j := 2) rfl, ?_⟩
        refine ⟨u, p1, _, _, rfl, rfl, g1, Same.t t1 hp1, by rw [List.length_map]; show 2 + _ ≤ _; omega, fun v2 G2 t2 hv2 => ?_⟩
        refine ⟨by show 1 ≤ sizeLine; decide, fun u3 hu3 => ?_⟩
        have t3 : Same G2 (upd G2 u3 (.tup [V.str "gives"])) := Same.new hu3
        have g3 : SqT K (upd G2 u3 (.tup [V.str "gives"])) u3 [V.str "gives"] := SqT.of upd_same
        generalize upd G2 u3 (.tup [V.str "gives"]) = G3 at t3 g3 ⊢
        refine ⟨v2, u3, _, _, rfl, rfl, Same.t t3 hv2, g3, by rw [List.length_append, List.length_map]; show 2 + _ + 1 ≤ _; omega, fun v4 G4 t4 hv4 => ?_⟩
        have tx := t1.trans (t2.trans (t3.trans t4))
        refine ⟨_, rfl, b, _, 3, _, rfl, rfl, Same.t tx hb, atI_nat (j := 3) rfl, ?_⟩
        refine ⟨v4, q1, _, _, rfl, rfl, hv4, Same.t tx hq1, by rw [List.length_append, List.length_append, List.length_map, List.length_map]; show 2 + _ + 1 + _ ≤ _; omega, fun v5 G5 t5 hv5 => ?_⟩
        refine ⟨" ", v5, (Ln.head n qs as).ws, rfl, rfl, .inr (SqT.cast hv5 ?_), join_small lok.ws_len.1 (Nat.le_trans lok.ws_len.2 (by decide)), ?_⟩
        · show ([V.str "helper", V.str n] ++ qs.map V.str ++ [V.str "gives"]) ++ as.map V.str = (("helper" : Str) :: n :: (qs ++ ("gives" : Str) :: as)).map V.str
          simp
        have ty := tx.trans t5
        have s5 := s4.trans ty
        refine ⟨f, _, _, rfl, rfl, ty _ _ hf4, by omega, ?_⟩
        -- found + [..] + ["end"]
        have s6 : Same H (upd G5 f (.lst ((rows (ps.take i)).map V.str ++ [V.str (Txt.join " " (Ln.head n qs as).ws)]))) := Same.mut s5 hf
        have m6 : Sm K G5 (upd G5 f (.lst ((rows (ps.take i)).map V.str ++ [V.str (Txt.join " " (Ln.head n qs as).ws)]))) := Sm.lst (ty _ _ hf4)
        have hf6 : (upd G5 f (.lst ((rows (ps.take i)).map V.str ++ [V.str (Txt.join " " (Ln.head n qs as).ws)]))) f = some (.lst ((rows (ps.take i)).map V.str ++ [V.str (Txt.join " " (Ln.head n qs as).ws)])) := upd_same
        generalize upd G5 f (.lst ((rows (ps.take i)).map V.str ++ [V.str (Txt.join " " (Ln.head n qs as).ws)])) = H6 at s6 m6 hf6 ⊢
        have hb6 := m6.t (Same.t ty hb)
        have hr6 := m6.t (Same.t ty hr1)
        have hy6 := (hys.sm ty.sm).sm m6
        refine ⟨_, rfl, _, rfl, b, _, 4, _, rfl, rfl, hb6, atI_nat (j := 4) rfl, r1, rfl, ⟨_, hr6⟩, ?_⟩
        have ly := hys.length
        rw [List.length_map] at ly
        refine lc_fn (K := K) (walk_tup (K := K) (a := r1) (xs := ys)) ss ly (by omega) (fun z => V.str z.row) (fun _ s => Same.t s hr6) (fun j z x H7 H8 hj s7 y Nx kx => ?_) mono_name fun D H7 hD s7 ha7 => ?_
        · obtain ⟨rfl, hx⟩ := y
          obtain ⟨v, e1, e2⟩ := (hy6.sm s7.sm).at_ (i := j) (d := z.dr) (by rw [List.getElem?_map, hj]; rfl)
          rw [hx] at e1
          obtain rfl := Option.some.inj e1
          exact ⟨rfl, _, rfl, _, z, rfl, e2, (h9 _ (List.mem_of_getElem? hj)).1, fun H' s' => kx H' s'⟩
        · refine ⟨f, D, _, _, rfl, rfl, s7 _ _ hf6, ha7, ?_, fun l2 hl2 => ?_⟩
          · rw [List.length_append, List.length_map, List.length_map]
            have := rl i
            show _ + 1 + _ ≤ _
            exact Nat.le_trans (by omega : _ ≤ 720) (by decide)
          have s8 : Same H7 (upd H7 l2 (.lst (((rows (ps.take i)).map V.str ++ [V.str (Txt.join " " (Ln.head n qs as).ws)]) ++ ss.map fun z => V.str z.row))) := Same.new hl2
          have g8 : (upd H7 l2 (.lst (((rows (ps.take i)).map V.str ++ [V.str (Txt.join " " (Ln.head n qs as).ws)]) ++ ss.map fun z => V.str z.row))) l2 = some (.lst (((rows (ps.take i)).map V.str ++ [V.str (Txt.join " " (Ln.head n qs as).ws)]) ++ ss.map fun z => V.str z.row)) := upd_same
          generalize upd H7 l2 (.lst (((rows (ps.take i)).map V.str ++ [V.str (Txt.join " " (Ln.head n qs as).ws)]) ++ ss.map fun z => V.str z.row)) = H8 at s8 g8 ⊢
          refine ⟨by show 1 ≤ sizeLine; decide, fun l3 hl3 => ?_⟩
          have s9 : Same H8 (upd H8 l3 (.lst [V.str "end"])) := Same.new hl3
          have g9 : (upd H8 l3 (.lst [V.str "end"])) l3 = some (.lst [V.str "end"]) := upd_same
          generalize upd H8 l3 (.lst [V.str "end"]) = H9 at s9 g9 ⊢
          refine ⟨l2, l3, _, _, rfl, rfl, s9 _ _ g8, g9, ?_, fun l4 hl4 => ?_⟩
          · rw [List.length_append, List.length_append, List.length_map, List.length_map]
            have := rl i
            show _ + 1 + _ + 1 ≤ _
            exact Nat.le_trans (by omega : _ ≤ 730) (by decide)
          have st := s6.trans (s7.trans (s8.trans s9))
          refine ⟨st.trans (Same.new hl4), l4, _, rfl, Same.back st hl4, ?_⟩
          rw [upd_same]
          show some (HO.lst ((((rows (ps.take i)).map V.str ++ [V.str (Ln.head n qs as).row]) ++ ss.map fun z => V.str z.row) ++ [V.str "end"])) = some (HO.lst ((rows (ps.take i) ++ (Ln.head n qs as :: (ss.map Ln.stp ++ [Ln.fin])).map Ln.row).map V.str))
          have ee : ("end" : Str) = Ln.fin.row := by
            show _ = Txt.join " " [("end" : Str)]
            rw [join_eq]
            rfl
          rw [ee]
          simp only [List.map_cons, List.map_append, List.map_map, List.map_nil, List.cons_append, List.nil_append, List.append_assoc]
          rfl
    · obtain ⟨s4, f, pt, rfl, hf, hf4⟩ := q
      rw [lx, List.take_length] at hf4
      exact ⟨_, rfl, kk f _ s4 hf hf4⟩
end
end Rod
set_option Elab.async false
set_option linter.all false
set_option maxRecDepth 100000
set_option maxHeartbeats 4000000
namespace Rod
open PySem PySem.Spec PyProof.Rows L2 TL
theorem tag_ne (s0 : Stp) : s0.tag ≠ ("helper" : Str) := by
  cases s0
  case give => show ("give" : Str) ≠ "helper"; decide +kernel
  case line => show ("line" : Str) ≠ "helper"; decide +kernel
  case round => show ("round" : Str) ≠ "helper"; decide +kernel
  case meet => show ("meet" : Str) ≠ "helper"; decide +kernel
  case use => show ("use" : Str) ≠ "helper"; decide +kernel
section
variable {P : Program} {w : World} {K : PySem.W.Frag} {mg : Str → Option Value} {base : Heap} {H : Hp}
/-! ### _law_plan_told -/
def spLPTold (K : PySem.W.Frag) : S1 := fun vs H Q => ∃ (a b : Addr) (xs ys : List V) (ps : List Prt) (m : Nat), vs = [.ref a, .ref b] ∧ SqL K H a xs ∧ DtA K H xs (ps.map Prt.dr) ∧ SqL K H b ys ∧ DtA K H ys (wysD m) ∧ (lines ps).length ≤ m ∧ (∀ p ∈ ps, p.ok) ∧ ps.length ≤ 100 ∧
  ∀ v H', Same H H' → Dt K H' v (.tuple (ptds 1 ps)) → Q v H'
abbrev N_L_plan_told : List Str := ["_law_parts_here", "_law_ways", "_law_found", "_law_at", "_law_part", "_law_steps_here", "_law_k", "_law_step_here"]
theorem sc_L_plan_told : FnScope N_L_plan_told ["_law_parts_here", "_law_ways"] (defScope s_L_plan_told) := ⟨rfl, rfl, rfl, by decide +kernel, rfl, by decide +kernel, by decide +kernel⟩
theorem ok_L_plan_told (T : Tx K mg) : GC P w K mg base 2 "_law_plan_told" (spLPTold K) := by
  obtain ⟨fd, F⟩ := T.d_L_plan_told
  have bd : Binds K fd ["_law_parts_here", "_law_ways"] [] := F.bindsN fun _ _ _ _ _ _ us hl => match us, hl with | [_, _], _ => rfl
  have G_L_step_told := ok_L_step_told (P := P) (w := w) (base := base) T
  refine gc_fn (F.ok sc_L_plan_told (fun vs H Q E h => ?_) (fun cdv A outer s H vs Q E hr h => ?_)) T.g_L_plan_told F.kp bd
  · obtain ⟨_, _, _, _, _, _, rfl, _⟩ := h
    rfl
  · obtain ⟨a, b, xs, ys, ps, m, rfl, ha, hxs, hb, hys, hm, ok, hz, kk⟩ := h
    have nd := sc_L_plan_told.nd
    have lx := hxs.length
    rw [List.length_map] at lx
    rw [lines_nls] at hm
    refine ⟨_, PSs.nox (pss_cons (ps_set (i := 2) nd rfl (Or.inl rfl) (pe_lst pa_nil))
    (pss_cons (ps_set (i := 3) nd rfl (Or.inr rfl) pe_int)
    (pss_cons (ps_for PassesOwn.never rfl (pi_list (pv 0)) (pg_name (i := 4) nd rfl (Or.inl rfl))
      (pss_one (ps_if (pt_cmpR op_eq (pe_ix ix_tup (pv 4) pe_int (fun _ _ => rfl)) pe_str (nomark _))
        (pss_cons (ps_set (i := 5) nd rfl (Or.inl rfl) (pe_callTy call_tupS (by rfl) T.f_tuple (by decide +kernel) (pa_cons (pe_lc (own := [("_law_k", 6), ("_law_step_here", 7)]) (by rfl) nd (pi_enumT (by rfl) T.f_enumerate (pa_cons (pe_ix ix_tup (pv 4) pe_int (fun _ _ => rfl)) pa_nil)) (blkOk_by (N := N_L_plan_told) (sc := defScope s_L_plan_told) (by decide +kernel)) (fun _ _ _ _ _ => (tup_ (K := K) (n := 2) rfl rfl (pgs_cons (pg_name (i := 6) nd rfl (Or.inl rfl)) (pgs_cons (pg_name (i := 7) nd rfl (Or.inl rfl)) pgs_nil)))) (fun _ _ _ _ _ => pts_nil) (fun _ _ _ _ _ => (pe_gc G_L_step_told hr (by decide) rfl (pa_cons (pv 7) (pa_cons (pe_ix (ixL_ (K := K) rfl) (pv 1) (pe_op op_add (pe_op op_add (pv 3) pe_int) (pv 6)) (fun _ _ => rfl)) pa_nil))))) pa_nil)))
        (pss_cons (ps_expr (pe_bm PySem.F.plainAttrs_list PySem.F.slot_list_append PySem.F.type_list_append mt_append (pv 2) (pa_cons (pe_op op_catS (pe_op op_catS (pe_tup (pa_cons pe_str (pa_cons (pe_ix ix_list (pv 1) (pv 3) (fun _ _ => rfl)) pa_nil))) (pe_slice sl_tupS (pv 4) (po_some pe_int) (po_some pe_int))) (pe_tup (pa_cons (pv 5) pa_nil))) pa_nil)))
        (pss_one (ps_set (i := 3) nd rfl (Or.inr rfl) (pe_op op_add (pe_op op_add (pv 3) (pe_callB call_len_seq (by rfl) T.f_len (by decide +kernel) (pa_cons (pv 5) pa_nil))) pe_int)))))
        (pss_cons (ps_expr (pe_bm PySem.F.plainAttrs_list PySem.F.slot_list_append PySem.F.type_list_append mt_append (pv 2) (pa_cons (pe_gc G_L_step_told hr (by decide) rfl (pa_cons (pv 4) (pa_cons (pe_ix ix_list (pv 1) (pv 3) (fun _ _ => rfl)) pa_nil))) pa_nil)))
        (pss_one (ps_set (i := 3) nd rfl (Or.inr rfl) (pe_op op_add (pv 3) pe_int)))))))
    (pss_one (ps_ret (pe_callTy call_tupS (by rfl) T.f_tuple (by decide +kernel) (pa_cons (pv 2) pa_nil))))))), ?_⟩
    refine ⟨by decide, fun f hf => ?_⟩
    have s1 : Same H (upd H f (.lst [])) := Same.new hf
    refine ⟨_, rfl, a, rfl, ⟨_, Same.ls s1 ha⟩, ?_⟩
    refine for_it (walk_list (K := K) (a := a) (xs := xs)) (fun i σ H' => Same H H' ∧ ∃ (pt st : Option V) (acc : List V), σ = [some (.ref a), some (.ref b), some (.ref f), some (.int (nls (ps.take i) : Nat)), pt, st, none, none] ∧ H' f = some (.lst acc) ∧ DtA K H' acc (ptds 1 (ps.take i))) ⟨s1, none, none, [], rfl, upd_same, dta_nil⟩ (fun i σ H' _ q => Same.ls q.1 ha) (fun i x σ H4 H5 hi q y => ?_) fun σ H4 q => ?_
    · obtain ⟨s4, pt, st, acc, rfl, hf4, hacc⟩ := q
      obtain ⟨rfl, hx⟩ := y
      have hi' : i < ps.length := by omega
      have hp : ps[i]? = some ps[i] := List.getElem?_eq_getElem hi'
      have pok := ok ps[i] (List.getElem_mem hi')
      have hdt : Dt K H5 x ps[i].dr := by
        obtain ⟨v, h1, h2⟩ := hxs.at_ (i := i) (d := ps[i].dr) (by rw [List.getElem?_map, hp]; rfl)
        rw [hx] at h1
        obtain rfl := Option.some.inj h1
        exact h2.sm s4.sm
      have hnl : nls (ps.take i) + ps[i].nl ≤ m := by
        have e1 : ps = ps.take (i + 1) ++ ps.drop (i + 1) := (List.take_append_drop _ _).symm
        have e2 := congrArg nls e1
        rw [take_snoc hp, nls_app, nls_app, nls_one] at e2
        omega
      have hal : acc.length = (ps.take i).length := by rw [hacc.length, ptds_len]
      have lenok : acc.length < sizeLine := by
        rw [hal, List.length_take]
        exact Nat.lt_of_le_of_lt (by omega : _ ≤ 100) (by decide)
      have fin1 : ptds 1 (ps.take (i + 1)) = ptds 1 (ps.take i) ++ [ps[i].td (1 + (nls (ps.take i) : Nat))] := by rw [take_snoc hp, ptds_snoc]
      have fin2 : nls (ps.take (i + 1)) = nls (ps.take i) + ps[i].nl := by rw [take_snoc hp, nls_app, nls_one]
      rw [fin1, fin2]
      generalize ps[i] = p at pok hdt hnl ⊢
      generalize nls (ps.take i) = j at hnl ⊢
      have hys5 := hys.sm s4.sm
      have hb5 := Same.ls s4 hb
      cases p with
      | stp s0 =>
        have hdt : Dt K H5 x s0.dr := hdt
        obtain ⟨c, zs, rfl, hc, _⟩ := dr_any hdt
        obtain ⟨vw, ew, hvw⟩ := wys_at (j := j) hys5 (by
          have : (Prt.stp s0).nl = 1 := rfl
          omega)
        refine ⟨_, rfl, c, _, 0, _, rfl, rfl, hc, atV _ _, rfl, _, rfl, iteN (neqS (tag_ne s0)) ?_⟩
        refine ⟨_, rfl, .inl ⟨rfl, _, SqL.of hf4⟩, _, rfl, _, rfl, _, rfl, b, _, _, _, rfl, rfl, hb5, ew, _, _, s0, _, rfl, hdt, hvw, fun v H6 s6 hv => ?_⟩
        refine ⟨f, _, _, rfl, rfl, s6 _ _ hf4, lenok, ?_⟩
        have m6 : Sm K H6 (upd H6 f (.lst (acc ++ [v]))) := Sm.lst (s6 _ _ hf4)
        refine ⟨_, rfl, _, _, rfl, rfl, Same.mut (s4.trans s6) hf, some (.ref c), st, acc ++ [v], ?_, upd_same, ((hacc.sm s6.sm).snoc hv).sm m6⟩
        rfl
      | hlp n qs as ss =>
        obtain ⟨c, p1, q1, r1, zs, rfl, hc, hp1, hq1, hr1, hzs⟩ := dr_hlp hdt
        obtain ⟨h1, h2, h3, h4, h5, h6, h7, h8, h9⟩ := (pok : Prt.hok n qs as ss)
        have hnl : j + (ss.length + 2) ≤ m := hnl
        have lz := hzs.length
        rw [List.length_map] at lz
        refine ⟨_, rfl, c, _, 0, _, rfl, rfl, hc, atV _ _, rfl, _, rfl, iteI (eqS rfl) ?_⟩
        refine ⟨_, rfl, c, _, 4, _, rfl, rfl, hc, atI_nat (j := 4) rfl, r1, _, rfl, hr1, ?_⟩
        refine lc_mk (K := K) (walk_enumA (K := K) (q := .t) (k0 := 0) (a := r1) (xs := zs)) (wst (1 + (j : Int) + 1) ss) (by rw [wst_len, lz]) (by rw [wst_len]; omega) (fun d v H => Dt K H v (d.2.td (dW d.1))) (fun _ _ _ _ sm h => h.sm sm) (fun _ s => Same.t s hr1) (fun e d x H6 H7 he s6 y Nx kx => ?_) mono_pair fun D H6 ac2 hD s6 ha6 hp6 => ?_
        · obtain ⟨t, x1, x2, rfl, ht, rfl, ex1, ex2⟩ := y
          obtain rfl := Option.some.inj ex1
          have ex2 : zs[e]? = some x2 := ex2
          obtain ⟨ed1, ed2⟩ := wst_get he
          obtain ⟨v2, e1, e2⟩ := (hzs.sm s6.sm).at_ (i := e) (d := d.2.dr) (by rw [List.getElem?_map, ed2]; rfl)
          rw [ex2] at e1
          obtain rfl := Option.some.inj e1
          have hel : e < ss.length := (List.getElem?_eq_some_iff.mp ed2).1
          have s7 := Same.new (o := .tup [V.int (0 + (e : Int)), x2]) ht
          obtain ⟨vw, ew, hvw⟩ := wys_at (j := j + 1 + e) hys5 (by omega)
          have ej : ((j + 1 + e : Nat) : Int) = (j : Int) + 1 + (0 + (e : Int)) := by omega
          rw [ej] at ew
          refine ⟨t, _, rfl, SqT.of upd_same, rfl, _, _, rfl, _, _, rfl, rfl, rfl, ?_⟩
          refine ⟨_, rfl, _, rfl, _, rfl, _, _, rfl, rfl, _, rfl, _, _, rfl, rfl, b, _, _, _, rfl, rfl, Same.ls (s6.trans s7) hb5, ew, _, _, d.2, _, rfl, (e2.sm s7.sm), hvw.sm (s6.trans s7).sm, fun v' H' s' hv' => ?_⟩
          refine kx _ _ (s7.trans s') ?_
          have ek : d.1 = [1 + ((j + 1 + e : Nat) : Int)] := by
            rw [ed1]
            congr 1
            omega
          rw [ek]
          exact hv'
        · have htd : DtA K H6 ac2 (tds (1 + (j : Int) + 1) ss) := by
            rw [← wst_tds]
            exact paired_dta hp6
          refine ⟨D, ac2, rfl, .inl (SqL.of ha6), fun u H7 s7 hu => ?_⟩
          have sx := s6.trans s7
          have hb7 := Same.ls sx hb5
          obtain ⟨vw, ew, hvw⟩ := wys_at (j := j) hys5 (by omega)
          refine ⟨_, rfl, .inl ⟨rfl, _, SqL.of (sx _ _ hf4)⟩, _, rfl, _, rfl, b, _, _, _, rfl, rfl, hb7, ew, by show 2 ≤ sizeLine; decide, fun g hg => ?_⟩
          have s8 : Same H7 (upd H7 g (.tup [V.str "helper", vw])) := Same.new hg
          have g8 : SqT K (upd H7 g (.tup [V.str "helper", vw])) g [V.str "helper", vw] := SqT.of upd_same
          generalize upd H7 g (.tup [V.str "helper", vw]) = H8 at s8 g8 ⊢
          refine ⟨_, rfl, 1, rfl, 4, rfl, c, _, rfl, Same.t (sx.trans s8) hc, fun g2 H9 s9 hg2 => ?_⟩
          have hcut : cutV [V.str "helper", V.str n, V.ref p1, V.ref q1, V.ref r1] (some 1) (some 4) = [V.str n, V.ref p1, V.ref q1] := cutV_mid _ 1 4
          rw [hcut] at hg2
          refine ⟨g, g2, _, _, rfl, rfl, Same.t s9 g8, hg2, by show 2 + 3 ≤ 100000; decide, fun g3 H10 s10 hg3 => ?_⟩
          refine ⟨_, rfl, by show 1 ≤ sizeLine; decide, fun g4 hg4 => ?_⟩
          have s11 := Same.new (o := .tup [V.ref u]) hg4
          refine ⟨g3, g4, _, _, rfl, rfl, Same.t s11 hg3, SqT.of upd_same, by show 5 + 1 ≤ 100000; decide, fun g5 H12 s12 hg5 => ?_⟩
          have sy := s8.trans (s9.trans (s10.trans (s11.trans s12)))
          have sz := sx.trans sy
          have hv : Dt K H12 (.ref g5) ((Prt.hlp n qs as ss).td (1 + (j : Nat))) :=
            dt_tup hg5 (dta_cons dt_str (dta_cons (hvw.sm sz.sm) (dta_cons dt_str (dta_cons (dt_ns (Same.t sz hp1)) (dta_cons (dt_ns (Same.t sz hq1)) (dta_cons (dt_tup (Same.t sy hu) (htd.sm (s7.trans sy).sm)) dta_nil))))))
          refine ⟨f, _, _, rfl, rfl, sz _ _ hf4, lenok, ?_⟩
          have m6 : Sm K H12 (upd H12 f (.lst (acc ++ [.ref g5]))) := Sm.lst (sz _ _ hf4)
          have hut : SqT K (upd H12 f (.lst (acc ++ [.ref g5]))) u ac2 := m6.t (Same.t sy hu)
          refine ⟨_, rfl, _, rfl, u, _, rfl, .inr hut, _, _, rfl, rfl, _, _, rfl, rfl, Same.mut (s4.trans sz) hf, some (.ref c), some (.ref u), acc ++ [.ref g5], ?_, upd_same, ((hacc.sm sz.sm).snoc hv).sm m6⟩
          have e1 : ac2.length = ss.length := by rw [htd.length, tds_len]
          have e2 : ((j + (Prt.hlp n qs as ss).nl : Nat) : Int) = (j : Int) + (ac2.length : Int) + 2 := by
            rw [e1]
            show ((j + (ss.length + 2) : Nat) : Int) = _
            omega
          rw [e2]
          rfl
    · obtain ⟨s4, pt, st, acc, rfl, hf4, hacc⟩ := q
      rw [lx, List.take_length] at hacc
      exact ⟨_, rfl, f, _, rfl, .inl (SqL.of hf4), fun u H5 s5 hu => kk _ _ (s4.trans s5) (dt_tup hu (hacc.sm s5.sm))⟩
/-! ### _law_bare -/
def spBare0 (K : PySem.W.Frag) : Nat → S1
  | 0 => fun _ _ _ => False
  | 1 => fun vs H Q => ∃ (v : V) (ss : List Stp) (j : Int), vs = [v] ∧ Dt K H v (.tuple (tds j ss)) ∧ ss.length ≤ 1000 ∧ ∀ v' H', Same H H' → Dt K H' v' (.tuple (ss.map Stp.bd)) → Q v' H'
  | _ => fun vs H Q => ∃ (v : V) (ps : List Prt) (j : Int), vs = [v] ∧ Dt K H v (.tuple (ptds j ps)) ∧ ps.length ≤ 1000 ∧ (∀ p ∈ ps, p.ok) ∧ ∀ v' H', Same H H' → Dt K H' v' (.tuple (ps.map Prt.bd)) → Q v' H'
theorem td_any {v : V} {s : Stp} {wy : PyData} (h : Dt K H v (s.td wy)) : ∃ a vw xs, v = .ref a ∧ SqT K H a (.str s.tag :: vw :: xs) ∧ DtA K H xs s.rest := by
  obtain ⟨a, xs, rfl, ha, r⟩ := h.tup_inv
  obtain ⟨w1, vs, rfl, q1, r⟩ := r.cons_inv
  obtain ⟨w2, vs, rfl, q2, r⟩ := r.cons_inv
  rw [q1.str_inv] at ha
  exact ⟨a, w2, vs, rfl, ha, r⟩
theorem td_hlp {v : V} {n : Str} {ps as : List Str} {ss : List Stp} {k : Int} (h : Dt K H v ((Prt.hlp n ps as ss).td k)) : ∃ a vw p q r, v = .ref a ∧ SqT K H a [.str "helper", vw, .str n, p, q, r] ∧ Dt K H p (dNs ps) ∧ Dt K H q (dNs as) ∧ Dt K H r (.tuple (tds (k + 1) ss)) := by
  obtain ⟨a, xs, rfl, ha, r⟩ := h.tup_inv
  obtain ⟨w1, vs, rfl, q1, r⟩ := r.cons_inv
  obtain ⟨w2, vs, rfl, q2, r⟩ := r.cons_inv
  obtain ⟨w3, vs, rfl, q3, r⟩ := r.cons_inv
  obtain ⟨w4, vs, rfl, q4, r⟩ := r.cons_inv
  obtain ⟨w5, vs, rfl, q5, r⟩ := r.cons_inv
  obtain ⟨w6, vs, rfl, q6, r⟩ := r.cons_inv
  obtain rfl := r.nil_inv
  rw [q1.str_inv, q3.str_inv] at ha
  exact ⟨a, w2, w4, w5, w6, rfl, ha, q4, q5, q6⟩
theorem tds_at : ∀ {ss : List Stp} {k : Int} {i : Nat} {d : PyData}, (tds k ss)[i]? = some d → ∃ s j, ss[i]? = some s ∧ d = s.td (dW [j])
  | [], _, _, _, h => by simp [tds] at h
  | s :: r, k, 0, d, h => by
    simp [tds] at h
    exact ⟨s, k, rfl, h.symm⟩
  | s :: r, k, i + 1, d, h => by
    simp [tds] at h
    obtain ⟨s', j, h1, h2⟩ := tds_at h
    exact ⟨s', j, by simpa using h1, h2⟩
theorem ptds_at : ∀ {ss : List Prt} {k : Int} {i : Nat} {d : PyData}, (ptds k ss)[i]? = some d → ∃ s j, ss[i]? = some s ∧ d = s.td j
  | [], _, _, _, h => by simp [ptds] at h
  | s :: r, k, 0, d, h => by
    simp [ptds] at h
    exact ⟨s, k, rfl, h.symm⟩
  | s :: r, k, i + 1, d, h => by
    simp [ptds] at h
    obtain ⟨s', j, h1, h2⟩ := ptds_at h
    exact ⟨s', j, by simpa using h1, h2⟩
abbrev N_L_bare : List Str := ["_law_told", "_law_found", "_law_part"]
theorem sc_L_bare : FnScope N_L_bare ["_law_told"] (defScope s_L_bare) := ⟨rfl, rfl, rfl, by decide +kernel, rfl, by decide +kernel, by decide +kernel⟩
theorem ok_L_bare0 (T : Tx K mg) : GC P w K mg base 0 "_law_bare" (spBare0 K 0) := by
  obtain ⟨fd, F⟩ := T.d_L_bare
  exact ⟨_, T.g_L_bare, F.kp, fun X _ _ _ _ _ _ pins σ H s Q us vs I r q => q.elim⟩
theorem ok_L_bare1 (T : Tx K mg) : GC P w K mg base 1 "_law_bare" (spBare0 K 1) := by
  have G_L_bare := ok_L_bare0 (P := P) (w := w) (base := base) T
  obtain ⟨fd, F⟩ := T.d_L_bare
  have bd : Binds K fd ["_law_told"] [] := F.bindsN fun _ _ _ _ _ _ us hl => match us, hl with | [_], _ => rfl
  refine gc_fn (F.ok sc_L_bare (fun vs H Q E h => ?_) (fun cdv A outer s H vs Q E hr h => ?_)) T.g_L_bare F.kp bd
  · obtain ⟨_, _, _, rfl, _⟩ := h
    rfl
  · obtain ⟨v, ss, j, rfl, hv, hz, kk⟩ := h
    have nd := sc_L_bare.nd
    obtain ⟨a, xs, rfl, ha, hxs⟩ := hv.tup_inv
    have lx := hxs.length
    rw [tds_len] at lx
    refine ⟨_, PSs.nox (pss_cons (ps_set (i := 1) nd rfl (Or.inl rfl) (pe_lst pa_nil))
    (pss_cons (ps_for PassesOwn.never rfl (pi_tup (pv 0)) (pg_name (i := 2) nd rfl (Or.inl rfl))
      (pss_cons (ps_if (pt_cmpR op_eq (pe_ix ix_tup (pv 2) pe_int (fun _ _ => rfl)) pe_str (nomark _))
        (pss_one (ps_set (i := 2) nd rfl (Or.inl rfl) (pe_op op_catS (pe_slice sl_tupS (pv 2) po_none (po_some pe_int)) (pe_tup (pa_cons (pe_gc G_L_bare hr (Nat.le_refl _) rfl (pa_cons (pe_ix ix_tup (pv 2) pe_int (fun _ _ => rfl)) pa_nil)) pa_nil)))))
        pss_nil)
      (pss_one (ps_expr (pe_bm PySem.F.plainAttrs_list PySem.F.slot_list_append PySem.F.type_list_append mt_append (pv 1) (pa_cons (pe_op op_catS (pe_slice sl_tupS (pv 2) po_none (po_some pe_int)) (pe_slice sl_tupS (pv 2) (po_some pe_int) po_none)) pa_nil))))))
    (pss_one (ps_ret (pe_callTy call_tupS (by rfl) T.f_tuple (by decide +kernel) (pa_cons (pv 1) pa_nil)))))), ?_⟩
    refine ⟨by decide, fun f hf => ?_⟩
    have s1 : Same H (upd H f (.lst [])) := Same.new hf
    refine ⟨_, rfl, a, rfl, ⟨_, Same.t s1 ha⟩, ?_⟩
    refine for_it (walk_tup (K := K) (a := a) (xs := xs)) (fun i σ H' => Same H H' ∧ ∃ (pt : Option V) (acc : List V), σ = [some (.ref a), some (.ref f), pt] ∧ H' f = some (.lst acc) ∧ DtA K H' acc ((ss.take i).map Stp.bd)) ⟨s1, none, [], rfl, upd_same, dta_nil⟩ (fun i σ H' _ q => Same.t q.1 ha) (fun i x σ H4 H5 hi q y => ?_) fun σ H4 q => ?_
    · obtain ⟨s4, pt, acc, rfl, hf4, hacc⟩ := q
      obtain ⟨rfl, hx⟩ := y
      obtain ⟨d, hd1, hd2⟩ := hxs.get hx
      obtain ⟨s0, k0, hs0, rfl⟩ := tds_at hd1
      obtain ⟨b, vw, ys, rfl, hb, hys⟩ := td_any (hd2.sm s4.sm)
      refine ⟨_, rfl, b, _, 0, _, rfl, rfl, hb, atV _ _, rfl, _, rfl, iteN (neqS (tag_ne s0)) ?_⟩
      refine ⟨_, rfl, .inl ⟨rfl, _, SqL.of hf4⟩, _, rfl, 1, rfl, b, _, rfl, hb, fun g1 H6 s6 hg1 => ?_⟩
      have c1 : cutV (V.str s0.tag :: vw :: ys) none (some 1) = [V.str s0.tag] := cutV_to _ 1
      rw [c1] at hg1
      refine ⟨_, rfl, 2, rfl, b, _, rfl, Same.t s6 hb, fun g2 H7 s7 hg2 => ?_⟩
      have c2 : cutV (V.str s0.tag :: vw :: ys) (some 2) none = ys := cutV_from _ 2
      rw [c2] at hg2
      have ly : ys.length ≤ 5 := by
        rw [hys.length]
        cases s0 <;> simp [Stp.rest]
      refine ⟨g1, g2, _, _, rfl, rfl, Same.t s7 hg1, hg2, by show 1 + _ ≤ _; omega, fun g3 H8 s8 hg3 => ?_⟩
      have sx := s6.trans (s7.trans s8)
      have hv : Dt K H8 (.ref g3) s0.bd := dt_tup hg3 (dta_cons dt_str (hys.sm sx.sm))
      have m8 : Sm K H8 (upd H8 f (.lst (acc ++ [.ref g3]))) := Sm.lst (sx _ _ hf4)
      refine ⟨f, _, _, rfl, rfl, sx _ _ hf4, ?_, Same.mut (s4.trans sx) hf, _, acc ++ [.ref g3], rfl, upd_same, ?_⟩
      · rw [hacc.length, List.length_map, List.length_take]
        exact Nat.lt_of_le_of_lt (by omega : _ ≤ 1000) (by decide)
      · rw [take_snoc hs0, List.map_append]
        exact ((hacc.sm sx.sm).snoc hv).sm m8
    · obtain ⟨s4, pt, acc, rfl, hf4, hacc⟩ := q
      rw [lx, List.take_length] at hacc
      exact ⟨_, rfl, f, _, rfl, .inl (SqL.of hf4), fun u H5 s5 hu => kk _ _ (s4.trans s5) (dt_tup hu (hacc.sm s5.sm))⟩
theorem ok_L_bare (T : Tx K mg) : GC P w K mg base 2 "_law_bare" (spBare0 K 2) := by
  have G_L_bare := ok_L_bare1 (P := P) (w := w) (base := base) T
  obtain ⟨fd, F⟩ := T.d_L_bare
  have bd : Binds K fd ["_law_told"] [] := F.bindsN fun _ _ _ _ _ _ us hl => match us, hl with | [_], _ => rfl
  refine gc_fn (F.ok sc_L_bare (fun vs H Q E h => ?_) (fun cdv A outer s H vs Q E hr h => ?_)) T.g_L_bare F.kp bd
  · obtain ⟨_, _, _, rfl, _⟩ := h
    rfl
  · obtain ⟨v, ss, j, rfl, hv, hz, ok, kk⟩ := h
    have nd := sc_L_bare.nd
    obtain ⟨a, xs, rfl, ha, hxs⟩ := hv.tup_inv
    have lx := hxs.length
    rw [ptds_len] at lx
    refine ⟨_, PSs.nox (pss_cons (ps_set (i := 1) nd rfl (Or.inl rfl) (pe_lst pa_nil))
    (pss_cons (ps_for PassesOwn.never rfl (pi_tup (pv 0)) (pg_name (i := 2) nd rfl (Or.inl rfl))
      (pss_cons (ps_if (pt_cmpR op_eq (pe_ix ix_tup (pv 2) pe_int (fun _ _ => rfl)) pe_str (nomark _))
        (pss_one (ps_set (i := 2) nd rfl (Or.inl rfl) (pe_op op_catS (pe_slice sl_tupS (pv 2) po_none (po_some pe_int)) (pe_tup (pa_cons (pe_gc G_L_bare hr (Nat.le_refl _) rfl (pa_cons (pe_ix ix_tup (pv 2) pe_int (fun _ _ => rfl)) pa_nil)) pa_nil)))))
        pss_nil)
      (pss_one (ps_expr (pe_bm PySem.F.plainAttrs_list PySem.F.slot_list_append PySem.F.type_list_append mt_append (pv 1) (pa_cons (pe_op op_catS (pe_slice sl_tupS (pv 2) po_none (po_some pe_int)) (pe_slice sl_tupS (pv 2) (po_some pe_int) po_none)) pa_nil))))))
    (pss_one (ps_ret (pe_callTy call_tupS (by rfl) T.f_tuple (by decide +kernel) (pa_cons (pv 1) pa_nil)))))), ?_⟩
    refine ⟨by decide, fun f hf => ?_⟩
    have s1 : Same H (upd H f (.lst [])) := Same.new hf
    refine ⟨_, rfl, a, rfl, ⟨_, Same.t s1 ha⟩, ?_⟩
    refine for_it (walk_tup (K := K) (a := a) (xs := xs)) (fun i σ H' => Same H H' ∧ ∃ (pt : Option V) (acc : List V), σ = [some (.ref a), some (.ref f), pt] ∧ H' f = some (.lst acc) ∧ DtA K H' acc ((ss.take i).map Prt.bd)) ⟨s1, none, [], rfl, upd_same, dta_nil⟩ (fun i σ H' _ q => Same.t q.1 ha) (fun i x σ H4 H5 hi q y => ?_) fun σ H4 q => ?_
    · obtain ⟨s4, pt, acc, rfl, hf4, hacc⟩ := q
      obtain ⟨rfl, hx⟩ := y
      obtain ⟨d, hd1, hd2⟩ := hxs.get hx
      obtain ⟨p0, k0, hs0, rfl⟩ := ptds_at hd1
      have pok := ok p0 (List.mem_of_getElem? hs0)
      have hlen : acc.length < sizeLine := by
        rw [hacc.length, List.length_map, List.length_take]
        exact Nat.lt_of_le_of_lt (by omega : _ ≤ 1000) (by decide)
      rw [take_snoc hs0, List.map_append]
      cases p0 with
      | stp s0 =>
        obtain ⟨b, vw, ys, rfl, hb, hys⟩ := td_any (s := s0) (hd2.sm s4.sm)
        refine ⟨_, rfl, b, _, 0, _, rfl, rfl, hb, atV _ _, rfl, _, rfl, iteN (neqS (tag_ne s0)) ?_⟩
        refine ⟨_, rfl, .inl ⟨rfl, _, SqL.of hf4⟩, _, rfl, 1, rfl, b, _, rfl, hb, fun g1 H6 s6 hg1 => ?_⟩
        have c1 : cutV (V.str s0.tag :: vw :: ys) none (some 1) = [V.str s0.tag] := cutV_to _ 1
        rw [c1] at hg1
        refine ⟨_, rfl, 2, rfl, b, _, rfl, Same.t s6 hb, fun g2 H7 s7 hg2 => ?_⟩
        have c2 : cutV (V.str s0.tag :: vw :: ys) (some 2) none = ys := cutV_from _ 2
        rw [c2] at hg2
        have ly : ys.length ≤ 5 := by
          rw [hys.length]
          cases s0 <;> simp [Stp.rest]
        refine ⟨g1, g2, _, _, rfl, rfl, Same.t s7 hg1, hg2, by show 1 + _ ≤ _; omega, fun g3 H8 s8 hg3 => ?_⟩
        have sx := s6.trans (s7.trans s8)
        have hv : Dt K H8 (.ref g3) s0.bd := dt_tup hg3 (dta_cons dt_str (hys.sm sx.sm))
        have m8 : Sm K H8 (upd H8 f (.lst (acc ++ [.ref g3]))) := Sm.lst (sx _ _ hf4)
        exact ⟨f, _, _, rfl, rfl, sx _ _ hf4, hlen, Same.mut (s4.trans sx) hf, _, acc ++ [.ref g3], rfl, upd_same, ((hacc.sm sx.sm).snoc hv).sm m8⟩
      | hlp n qs as st =>
        obtain ⟨b, vw, p1, q1, r1, rfl, hb, hp1, hq1, hr1⟩ := td_hlp (hd2.sm s4.sm)
        have hsl := (pok : Prt.hok n qs as st).sl
        refine ⟨_, rfl, b, _, 0, _, rfl, rfl, hb, atV _ _, rfl, _, rfl, iteI (eqS rfl) ?_⟩
        refine ⟨_, rfl, 5, rfl, b, _, rfl, hb, fun g1 H6 s6 hg1 => ?_⟩
        have c1 : cutV [V.str "helper", vw, V.str n, p1, q1, r1] none (some 5) = [V.str "helper", vw, V.str n, p1, q1] := cutV_to _ 5
        rw [c1] at hg1
        refine ⟨_, rfl, b, _, 5, _, rfl, rfl, Same.t s6 hb, atI_nat (j := 5) rfl, r1, st, _, rfl, hr1.sm s6.sm, by omega, fun vb H7 s7 hvb => ?_⟩
        refine ⟨by show 1 ≤ sizeLine; decide, fun g2 hg2 => ?_⟩
        have s8 : Same H7 (upd H7 g2 (.tup [vb])) := Same.new hg2
        have e8 : SqT K (upd H7 g2 (.tup [vb])) g2 [vb] := SqT.of upd_same
        have hvb8 := hvb.sm s8.sm
        generalize upd H7 g2 (.tup [vb]) = H8 at s8 e8 hvb8 ⊢
        refine ⟨g1, g2, _, _, rfl, rfl, Same.t (s7.trans s8) hg1, e8, by show 5 + 1 ≤ 100000; decide, fun g3 H9 s9 hg3 => ?_⟩
        have sx := s6.trans (s7.trans (s8.trans s9))
        have hg3 : SqT K H9 g3 [V.str "helper", vw, V.str n, p1, q1, vb] := hg3
        refine ⟨_, rfl, .inl ⟨rfl, _, SqL.of (sx _ _ hf4)⟩, _, rfl, 1, rfl, g3, _, rfl, hg3, fun g4 H10 s10 hg4 => ?_⟩
        have c4 : cutV [V.str "helper", vw, V.str n, p1, q1, vb] none (some 1) = [V.str "helper"] := cutV_to _ 1
        rw [c4] at hg4
        refine ⟨_, rfl, 2, rfl, g3, _, rfl, Same.t s10 hg3, fun g5 H11 s11 hg5 => ?_⟩
        have c5 : cutV [V.str "helper", vw, V.str n, p1, q1, vb] (some 2) none = [V.str n, p1, q1, vb] := cutV_from _ 2
        rw [c5] at hg5
        refine ⟨g4, g5, _, _, rfl, rfl, Same.t s11 hg4, hg5, by show 1 + 4 ≤ 100000; decide, fun g6 H12 s12 hg6 => ?_⟩
        have sy := s10.trans (s11.trans s12)
        have sz := sx.trans sy
        have hv : Dt K H12 (.ref g6) (Prt.hlp n qs as st).bd :=
          dt_tup hg6 (dta_cons dt_str (dta_cons dt_str (dta_cons (hp1.sm sz.sm) (dta_cons (hq1.sm sz.sm) (dta_cons (hvb8.sm (s9.trans sy).sm) dta_nil)))))
        have m8 : Sm K H12 (upd H12 f (.lst (acc ++ [.ref g6]))) := Sm.lst (sz _ _ hf4)
        exact ⟨f, _, _, rfl, rfl, sz _ _ hf4, hlen, Same.mut (s4.trans sz) hf, _, acc ++ [.ref g6], rfl, upd_same, ((hacc.sm sz.sm).snoc hv).sm m8⟩
    · obtain ⟨s4, pt, acc, rfl, hf4, hacc⟩ := q
      rw [lx, List.take_length] at hacc
      exact ⟨_, rfl, f, _, rfl, .inl (SqL.of hf4), fun u H5 s5 hu => kk _ _ (s4.trans s5) (dt_tup hu (hacc.sm s5.sm))⟩
/-! ### _law_steps -/
structure SE where
  a : Addr
  k : List Int
  s : Stp
def SEAt (K : PySem.W.Frag) (H : Hp) (e : SE) : Prop := StepAt K H e.a e.k e.s ∧ e.s.ok ∧ ∃ j, e.k = [j]
def spLSteps (K : PySem.W.Frag) : S1 := fun vs H Q => ∃ (a : Addr) (ps : List Prt), vs = [.ref a] ∧ PlanAt K H a ps ∧ (∀ p ∈ ps, p.ok) ∧ ps.length ≤ 100 ∧ ∀ q H' (es : List SE), Same H H' → H q = none → H' q = some (.lst (es.map fun e => V.ref e.a)) → (∀ e ∈ es, SEAt K H' e) → Q (.ref q) H'
theorem StepsAt.es : ∀ {ss : List Stp} {as : List Addr} {k : Int}, StepsAt K H as k ss → (∀ s ∈ ss, s.ok) → ∃ es : List SE, as = es.map SE.a ∧ ∀ e ∈ es, SEAt K H e
  | [], _, _, h, _ => ⟨[], by rw [show _ = _ from h]; rfl, fun e he => nomatch he⟩
  | s :: r, _, k, h, ok => by
    obtain ⟨a, bs, rfl, q, r⟩ := h
    obtain ⟨es, h1, h2⟩ := StepsAt.es r fun s hs => ok s (List.mem_cons_of_mem _ hs)
    refine ⟨⟨a, [k], s⟩ :: es, by rw [h1]; rfl, fun e he => ?_⟩
    rcases List.mem_cons.mp he with e1 | he
    · rw [e1]
      exact ⟨q, ok s List.mem_cons_self, k, rfl⟩
    · exact h2 e he
abbrev N_L_steps : List Str := ["_law_plan", "_law_found", "_law_part"]
theorem sc_L_steps : FnScope N_L_steps ["_law_plan"] (defScope s_L_steps) := ⟨rfl, rfl, rfl, by decide +kernel, rfl, by decide +kernel, by decide +kernel⟩
theorem ok_L_steps (T : Tx K mg) : GC P w K mg base 1 "_law_steps" (spLSteps K) := by
  obtain ⟨fd, F⟩ := T.d_L_steps
  have bd : Binds K fd ["_law_plan"] [] := F.bindsN fun _ _ _ _ _ _ us hl => match us, hl with | [_], _ => rfl
  refine gc_fn (F.ok sc_L_steps (fun vs H Q E h => ?_) (fun cdv A outer s H vs Q E hr h => ?_)) T.g_L_steps F.kp bd
  · obtain ⟨_, _, rfl, _⟩ := h
    rfl
  · obtain ⟨a, ps, rfl, ⟨t, bs, ⟨dx, ha⟩, ht, hs⟩, ok, hz, kk⟩ := h
    have nd := sc_L_steps.nd
    refine ⟨_, PSs.nox (pss_cons (ps_set (i := 1) nd rfl (Or.inl rfl) (pe_lst pa_nil))
    (pss_cons (ps_for PassesOwn.never rfl (pi_tup (pe_fld (pv 0) rfl)) (pg_name (i := 2) nd rfl (Or.inl rfl))
      (pss_one (ps_set (i := 1) nd rfl (Or.inl rfl) (pe_op op_cat (pv 1) (pe_ifExp (pt_val (pe_callB call_isi (by rfl) T.f_isinstance (by decide +kernel) (pa_cons (pv 2) (pa_cons (pe_glob (v := .ref (He.ga K "Helper")) rfl T.g_Helper rfl) pa_nil)))) (pe_callTy call_listS (by rfl) T.f_list (by decide +kernel) (pa_cons (pe_fld (pv 2) rfl) pa_nil)) (pe_lst (pa_cons (pv 2) pa_nil)))))))
    (pss_one (ps_ret (pv 1))))), ?_⟩
    refine ⟨by decide, fun f hf => ?_⟩
    have s1 : Same H (upd H f (.lst [])) := Same.new hf
    refine ⟨_, rfl, a, _, dx, _, _, rfl, s1 _ _ ha, T.c_Plan, T.n_Plan_parts, fPlan_parts .., t, rfl, ⟨_, Same.t s1 ht⟩, ?_⟩
    refine for_it (walk_tup (K := K) (a := t) (xs := bs.map V.ref)) (fun i σ H' => Same H H' ∧ ∃ (f : Addr) (pt : Option V) (es : List SE), σ = [some (.ref a), some (.ref f), pt] ∧ H f = none ∧ H' f = some (.lst (es.map fun e => V.ref e.a)) ∧ (∀ e ∈ es, SEAt K H' e) ∧ es.length ≤ 5 * i) ⟨s1, f, none, [], rfl, hf, upd_same, fun e he => (nomatch he), Nat.zero_le _⟩ (fun i σ H' _ q => Same.t q.1 ht) (fun i x σ H4 H5 hi q y => ?_) fun σ H4 q => ?_
    · obtain ⟨s4, f, pt, es, rfl, hf, hf4, hes, hel⟩ := q
      obtain ⟨rfl, hx⟩ := y
      have hi' : i < ps.length := by rw [List.length_map, hs.len] at hi; exact hi
      obtain ⟨dd, hd⟩ : ∃ dd, (wpt 1 ps)[i]? = some dd := ⟨_, List.getElem?_eq_getElem (by rw [wpt_len]; exact hi')⟩
      obtain ⟨b, hb, hsb⟩ := (hs.sm T s4.sm).ww i _ hd
      rw [List.getElem?_map, hb] at hx
      obtain rfl := Option.some.inj hx
      have hm : dd.2 ∈ ps := by
        rw [← wpt_snd ps 1]
        exact List.mem_map_of_mem (List.mem_of_getElem? hd)
      have pok := ok _ hm
      obtain ⟨k0, p0⟩ := dd
      have hes' : ∀ {H6 : Hp}, Same H5 H6 → ∀ e ∈ es, SEAt K H6 e := fun s6 e he => ⟨(hes e he).1.sm T s6.sm, (hes e he).2⟩
      cases p0 with
      | stp s0 =>
        have hsb : StepAt K H5 b [k0] s0 := hsb
        obtain ⟨ty, hty, k1, k2, k3⟩ := isi_step T hsb
        refine ⟨_, rfl, _, rfl, _, _, ty, _, false, rfl, .own _, hty, k2, false, rfl, iteN (by decide) ?_⟩
        refine ⟨_, rfl, by show 1 ≤ sizeLine; decide, fun l hl => ?_⟩
        have s6 := Same.new (o := .lst [V.ref b]) hl
        refine ⟨f, l, _, _, rfl, rfl, s6 _ _ hf4, upd_same, ?_, fun l2 hl2 => ?_⟩
        · rw [List.length_map]
          show _ + 1 ≤ _
          exact Nat.le_trans (by omega : _ ≤ 1000) (by decide)
        have s7 := s6.trans (Same.new (o := .lst (es.map (fun e => V.ref e.a) ++ [V.ref b])) hl2)
        refine ⟨s4.trans s7, l2, _, es ++ [⟨b, [k0], s0⟩], rfl, Same.back (s4.trans s6) hl2, by rw [upd_same, List.map_append]; rfl, fun e he => ?_, by rw [List.length_append]; show _ + 1 ≤ _; omega⟩
        rcases List.mem_append.mp he with he | he
        · exact hes' s7 e he
        · rw [List.mem_singleton.mp he]
          exact ⟨hsb.sm T s7.sm, pok, k0, rfl⟩
      | hlp n qs as st =>
        obtain ⟨w0, p1, q1, r1, bs1, ⟨dy, hb1⟩, hw1, hp1, hq1, hr1, hs1⟩ := hsb
        obtain ⟨ty, hty, k1, k2⟩ := isi_help T hb1
        have hok : Prt.hok n qs as st := pok
        obtain ⟨es1, e1, e2⟩ := hs1.es fun s hs => (hok.sm s hs).1
        have hl1 : es1.length ≤ 5 := by
          have := congrArg List.length e1
          rw [List.length_map, hs1.length] at this
          have := hok.sl
          omega
        refine ⟨_, rfl, _, rfl, _, _, ty, _, true, rfl, .own _, hty, k2, true, rfl, iteI rfl ?_⟩
        refine ⟨_, rfl, b, _, dy, _, _, rfl, hb1, T.c_Helper, T.n_Helper_steps, fHelper_steps .., r1, _, rfl, .inr hr1, fun l H6 s6 hl hl6 => ?_⟩
        refine ⟨f, l, _, _, rfl, rfl, s6 _ _ hf4, hl6, ?_, fun l2 hl2 => ?_⟩
        · rw [List.length_map, List.length_map, hs1.length]
          have := hok.sl
          exact Nat.le_trans (by omega : _ ≤ 1000) (by decide)
        have s7 := s6.trans (Same.new (o := .lst (es.map (fun e => V.ref e.a) ++ bs1.map V.ref)) hl2)
        refine ⟨s4.trans s7, l2, _, es ++ es1, rfl, Same.back (s4.trans s6) hl2, by rw [upd_same, List.map_append, e1, List.map_map]; rfl, fun e he => ?_, by rw [List.length_append]; omega⟩
        rcases List.mem_append.mp he with he | he
        · exact hes' s7 e he
        · exact ⟨(e2 e he).1.sm T s7.sm, (e2 e he).2⟩
    · obtain ⟨s4, f, pt, es, rfl, hf, hf4, hes, hel⟩ := q
      exact ⟨_, rfl, kk f _ es s4 hf hf4 hes⟩
end
end Rod
set_option Elab.async false
set_option linter.all false
set_option maxRecDepth 100000
set_option maxHeartbeats 4000000
namespace Rod
open PySem PySem.Spec PyProof.Rows L2 TL
/-! ### what is there: names with their kinds -/
abbrev Th : Type := List (Str × Str)
def dTh (th : Th) : List PyData := th.map fun t => .tuple [.str t.1, .str t.2]
def ptsN (th : Th) : List Str := (th.filter fun t => decide (V.str t.2 = V.str "point")).map (·.1)
def frmN (th : Th) : List Str := (th.filter fun t => !decide (V.str t.2 = V.str "point")).map (·.1)
def wayC (c : Option Ch) : List Str := chP c
section
variable {P : Program} {w : World} {K : PySem.W.Frag} {mg : Str → Option Value} {base : Heap} {H : Hp}
theorem th_at {xs : List V} {th : Th} (h : DtA K H xs (dTh th)) {i : Nat} {t : Str × Str} {x : V} (hi : th[i]? = some t) (hx : xs[i]? = some x) : ∃ p, x = .ref p ∧ SqT K H p [.str t.1, .str t.2] := by
  obtain ⟨v, h1, h2⟩ := h.at_ (i := i) (d := .tuple [.str t.1, .str t.2]) (by unfold dTh; rw [List.getElem?_map, hi]; rfl)
  rw [hx] at h1
  obtain rfl := Option.some.inj h1
  obtain ⟨p, ys, rfl, hp, r⟩ := h2.tup_inv
  obtain ⟨w1, vs, rfl, q1, r⟩ := r.cons_inv
  obtain ⟨w2, vs, rfl, q2, r⟩ := r.cons_inv
  obtain rfl := r.nil_inv
  rw [q1.str_inv, q2.str_inv] at hp
  exact ⟨p, rfl, hp⟩
theorem th_pairs : ∀ {th : Th} {xs : List V}, DtA K H xs (dTh th) → ∃ ps : List Addr, xs = ps.map V.ref ∧ Paired (fun p (kv : Key × V) => SqT K H p [kV kv.1, kv.2]) ps (th.map fun t => ((Sum.inr t.1 : Key), V.str t.2))
  | [], _, h => ⟨[], by rw [h.nil_inv]; rfl, .nil⟩
  | t :: r, _, h => by
    obtain ⟨v, vs, rfl, q, r⟩ := DtA.cons_inv (ds := dTh r) h
    obtain ⟨ps, e, pr⟩ := th_pairs r
    obtain ⟨p, ys, rfl, hp, r2⟩ := q.tup_inv
    obtain ⟨w1, vs, rfl, q1, r2⟩ := r2.cons_inv
    obtain ⟨w2, vs, rfl, q2, r2⟩ := r2.cons_inv
    obtain rfl := r2.nil_inv
    rw [q1.str_inv, q2.str_inv] at hp
    exact ⟨p :: ps, by rw [e]; rfl, .cons hp pr⟩
theorem merge_at {k : Str} : ∀ {more : Th} {acc : List (Key × V)}, (∀ j v, valV acc j = some v → ∃ z, v = V.str z) → (∀ j v, valV (mergeK acc (more.map fun t => ((Sum.inr t.1 : Key), V.str t.2))) j = some v → ∃ z, v = V.str z) ∧
    ((valV acc (Sum.inr k)).isSome = true ∨ k ∈ more.map (·.1) → ∃ v, valV (mergeK acc (more.map fun t => ((Sum.inr t.1 : Key), V.str t.2))) (Sum.inr k) = some v)
  | [], acc, h => ⟨h, fun q => by
      rcases q with q | q
      · exact Option.isSome_iff_exists.mp q
      · exact nomatch q⟩
  | t :: r, acc, h => by
    have h2 : ∀ j v, valV (putK acc (Sum.inr t.1) (V.str t.2)) j = some v → ∃ z, v = V.str z := fun j v e => by
      rw [valV_put] at e
      split at e
      · exact ⟨t.2, (Option.some.inj e).symm⟩
      · exact h j v e
    obtain ⟨h3, h4⟩ := merge_at (k := k) (more := r) h2
    refine ⟨h3, fun q => h4 ?_⟩
    rw [valV_put]
    by_cases e : (Sum.inr k : Key) = Sum.inr t.1
    · rw [if_pos e]
      exact .inl rfl
    · rw [if_neg e]
      rcases q with q | q
      · exact .inl q
      · rcases List.mem_cons.mp q with q | q
        · exact absurd (congrArg Sum.inr q) e
        · exact .inr q
theorem merge_get {k : Str} {th : Th} (h : k ∈ th.map (·.1)) : ∃ z, valV (mergeK [] (th.map fun t => ((Sum.inr t.1 : Key), V.str t.2))) (Sum.inr k) = some (V.str z) := by
  obtain ⟨h1, h2⟩ := merge_at (k := k) (more := th) (acc := []) fun j v e => nomatch e
  obtain ⟨v, e⟩ := h2 (.inr h)
  obtain ⟨z, rfl⟩ := h1 _ _ e
  exact ⟨z, e⟩
/-! ### _law_choice -/
def spLCh (K : PySem.W.Frag) : S1 := fun vs H Q => ∃ (m : Nat) (p : Addr) (one other : Str) (xs : List V) (th : Th), vs = [.int (m : Nat), .ref p, .str one, .str other] ∧ SqL K H p xs ∧ DtA K H xs (dTh th) ∧ one ∈ th.map (·.1) ∧ other ∈ th.map (·.1) ∧
  ptsN th ≠ [] ∧ th.length ≤ 1000 ∧ (∀ z ∈ ptsN th, PyData.strOk z = true) ∧ ∀ v H' c, Same H H' → Dt K H' v (dC c) → (∀ q ∈ chP c, q ∈ ptsN th) → Q v H'
theorem modN {m n : Nat} (hn : 0 < n) : ((m : Nat) : Int) / 7 % ((n : Nat) : Int) = ((m / 7 % n : Nat) : Int) := by
  rw [Int.natCast_emod, Int.natCast_ediv]
  rfl
theorem modN3 {m n : Nat} (hn : 0 < n) : ((m : Nat) : Int) / 3 % ((n : Nat) : Int) = ((m / 3 % n : Nat) : Int) := by
  rw [Int.natCast_emod, Int.natCast_ediv]
  rfl
theorem modN1 {m n : Nat} : ((m : Nat) : Int) % ((n : Nat) : Int) = ((m % n : Nat) : Int) := by
  rw [Int.natCast_emod]
theorem strs_at {ns : List Str} {j : Nat} (h : j < ns.length) : atI (ns.map V.str) ((j : Nat) : Int) = some (.str ns[j]) := atI_nat (by rw [List.getElem?_map, List.getElem?_eq_getElem h]; rfl)
abbrev N_L_choice : List Str := ["_law_mix", "_law_there", "_law_one", "_law_other", "_law_by_name", "_law_lines", "_law_points", "_law_words", "_law_name", "_law_kind", "_law_word"]
theorem sc_L_choice : FnScope N_L_choice ["_law_mix", "_law_there", "_law_one", "_law_other"] (defScope s_L_choice) := ⟨rfl, rfl, rfl, by decide +kernel, rfl, by decide +kernel, by decide +kernel⟩
theorem ok_L_choice (T : Tx K mg) : GC P w K mg base 1 "_law_choice" (spLCh K) := by
  obtain ⟨fd, F⟩ := T.d_L_choice
  have bd : Binds K fd ["_law_mix", "_law_there", "_law_one", "_law_other"] [] := F.bindsN fun _ _ _ _ _ _ us hl => match us, hl with | [_, _, _, _], _ => rfl
  refine gc_fn (F.ok sc_L_choice (fun vs H Q E h => ?_) (fun cdv A outer s H vs Q E hr h => ?_)) T.g_L_choice F.kp bd
  · obtain ⟨_, _, _, _, _, _, rfl, _⟩ := h
    rfl
  · obtain ⟨m, p, one, other, xs, th, rfl, hp, hxs, h1, h2, hpt, hz, hso, kk⟩ := h
    have nd := sc_L_choice.nd
    have hu := hu_of hr
    have lx := hxs.length
    have lth : (dTh th).length = th.length := by unfold dTh; rw [List.length_map]
    rw [lth] at lx
    refine ⟨_, PSs.nox (pss_cons (ps_set (i := 4) nd rfl (Or.inl rfl) (pe_callTy (call_dictP rfl) (by rfl) T.f_dict (by decide +kernel) (pa_cons (pv 1) pa_nil)))
    (pss_cons (ps_set (i := 5) nd rfl (Or.inl rfl) (pe_bm PySem.F.plainAttrs_list PySem.F.slot_list_count PySem.F.type_list_count mt_countS (pe_lst (pa_cons (pe_dget hu (pv 4) (pv 2) (fun _ _ => rfl)) (pa_cons (pe_dget hu (pv 4) (pv 3) (fun _ _ => rfl)) pa_nil))) (pa_cons pe_str pa_nil)))
    (pss_cons (ps_set (i := 6) nd rfl (Or.inr rfl) (pe_lc (own := [("_law_name", 8), ("_law_kind", 9)]) (by rfl) nd (pi_list (pv 1)) (blkOk_by (N := N_L_choice) (sc := defScope s_L_choice) (by decide +kernel)) (fun _ _ _ _ _ => (tup_ (K := K) (n := 2) rfl rfl (pgs_cons (pg_name (i := 8) nd rfl (Or.inl rfl)) (pgs_cons (pg_name (i := 9) nd rfl (Or.inl rfl)) pgs_nil)))) (fun _ _ _ _ _ => (pts_one (pt_cmpR op_eq (pv 9) pe_str (nomark _)))) (fun _ _ _ _ _ => (pv 8))))
    (pss_cons (ps_set (i := 7) nd rfl (Or.inl rfl) (pe_ifExp (pt_cmpR op_eq (pv 5) pe_int (nomark _)) (pe_lst (pa_cons (pe_tup (pa_cons pe_str pa_nil)) (pa_cons (pe_tup (pa_cons pe_str pa_nil)) pa_nil))) (pe_lst (pa_cons (pe_tup (pa_cons pe_str pa_nil)) (pa_cons (pe_tup (pa_cons pe_str pa_nil)) pa_nil)))))
    (pss_cons (ps_set (i := 7) nd rfl (Or.inl rfl) (pe_op op_cat (pv 7) (pe_lc (own := [("_law_word", 10)]) (by rfl) nd (pi_list (pe_lst (pa_cons pe_str (pa_cons pe_str (pa_cons pe_str pa_nil))))) (blkOk_by (N := N_L_choice) (sc := defScope s_L_choice) (by decide +kernel)) (fun _ _ _ _ _ => (pg_name (i := 10) nd rfl (Or.inl rfl))) (fun _ _ _ _ _ => (pts_one (pt_cmpR (neD_ (K := K) rfl hr.units) (pv 6) (pe_lst pa_nil) (nomark _)))) (fun _ _ _ _ _ => (pe_tup (pa_cons (pv 10) (pa_cons (pe_ix (ixL_ (K := K) rfl) (pv 6) (pe_op op_mod (pe_op op_fdiv (pv 0) pe_int) (pe_callB (lenS_ (K := K) rfl) (by rfl) T.f_len (by decide +kernel) (pa_cons (pv 6) pa_nil))) (fun _ _ => rfl)) pa_nil)))))))
    (pss_cons (ps_if (PW.pt (pw_or (pt_cmpR op_eq (pv 5) pe_int (nomark _)) (pw_or1 (pt_cmpR op_eq (pe_op op_mod (pv 0) pe_int) pe_int (nomark _)))))
      (pss_one (ps_ret pe_non))
      pss_nil)
    (pss_one (ps_ret (pe_ix ix_list (pv 7) (pe_op op_mod (pe_op op_fdiv (pv 0) pe_int) (pe_callB call_len_seq (by rfl) T.f_len (by decide +kernel) (pa_cons (pv 7) pa_nil))) (fun _ _ => rfl)))))))))), ?_⟩
    -- dict(there)
    obtain ⟨qs, eqs, prs⟩ := th_pairs hxs
    obtain ⟨z1, e1⟩ := merge_get h1
    obtain ⟨z2, e2⟩ := merge_get h2
    refine ⟨_, rfl, p, qs, _, rfl, eqs ▸ hp, prs, fun d hd => ?_⟩
    have s1 := Same.new (o := .dK (mergeK [] (th.map fun t => ((Sum.inr t.1 : Key), V.str t.2)))) hd
    have g1 : (upd H d (.dK (mergeK [] (th.map fun t => ((Sum.inr t.1 : Key), V.str t.2))))) d = some (.dK (mergeK [] (th.map fun t => ((Sum.inr t.1 : Key), V.str t.2)))) := upd_same
    generalize upd H d (.dK (mergeK [] (th.map fun t => ((Sum.inr t.1 : Key), V.str t.2)))) = H1 at s1 g1 ⊢
    -- the count
    refine ⟨_, rfl, _, rfl, d, _, rfl, .inl ⟨_, .inr one, .inl g1, rfl, e1.symm⟩, _, rfl, _, rfl, d, _, rfl, .inl ⟨_, .inr other, .inl g1, rfl, e2.symm⟩, by show 2 ≤ sizeLine; decide, fun l hl => ?_⟩
    have s2 := s1.trans (Same.new (o := .lst [V.str z1, V.str z2]) hl)
    have h3 : SqL K (upd H1 l (.lst [V.str z1, V.str z2])) l ([z1, z2].map V.str) := SqL.of upd_same
    generalize upd H1 l (.lst [V.str z1, V.str z2]) = H2 at s2 h3 ⊢
    refine ⟨.inl ⟨rfl, _, h3⟩, l, [z1, z2], "line", rfl, rfl, h3, ?_⟩
    generalize ([z1, z2].countP fun y => y == ("line" : Str)) = cnt
    -- the points
    refine ⟨_, rfl, p, rfl, ⟨_, Same.ls s2 hp⟩, ?_⟩
    refine lc_filter (walk_list (K := K) (a := p) (xs := xs)) th lx (by omega) (fun t => decide (V.str t.2 = V.str "point")) (fun t => V.str t.1) (fun _ s => Same.ls (s2.trans s) hp) (fun i t x H3 H4 hi s3 y Nx Nf kx kn => ?_) fun D H3 hD s3 ha3 => ?_
    · obtain ⟨rfl, hx⟩ := y
      obtain ⟨q, rfl, hq⟩ := th_at (hxs.sm (s2.trans s3).sm) hi hx
      refine ⟨q, _, rfl, hq, rfl, _, _, rfl, _, _, rfl, rfl, rfl, ?_⟩
      refine ⟨_, rfl, rfl, _, rfl, ?_⟩
      refine ite2 (fun e => ⟨_, rfl, kx _ (Same.refl _) e⟩) fun e => kn _ (Same.refl _) (by simpa using e)
    have hpts : H3 D = some (.lst ((ptsN th).map V.str)) := by
      rw [ha3]
      unfold ptsN
      rw [List.map_map]
      rfl
    have s23 := s2.trans s3
    clear ha3
    -- the words without a point
    dsimp only
    refine vq_asgP (fun v H' => Same H3 H' ∧ ∃ (l : Addr) (ys : List V) (cs : List Ch), v = .ref l ∧ H' l = some (.lst ys) ∧ DtA K H' ys (cs.map fun c => dC (some c)) ∧ (∀ c ∈ cs, c.pts = []) ∧ cs.length = 2) (fun Q' k' => ?_) fun v H4 hv => ?_
    · have mk : ∀ (c1 c2 : Ch) (u1 u2 : Str), c1.ws = [u1] → c2.ws = [u2] → c1.pts = [] → c2.pts = [] → tLst (tCons (tTup (tCons (tC (V.str u1)) tNil)) (tCons (tTup (tCons (tC (V.str u2)) tNil)) tNil)) [] H3 Q' := fun c1 c2 u1 u2 w1 w2 n1 n2 => by
        refine ⟨by show 1 ≤ sizeLine; decide, fun a ha => ⟨by show 1 ≤ sizeLine; decide, fun b hb => ⟨by show 2 ≤ sizeLine; decide, fun l hl => ?_⟩⟩⟩
        have t1 := Same.new (o := .tup [V.str u1]) ha
        have t2 := Same.new (o := .tup [V.str u2]) hb
        have t3 := Same.new (o := .lst [V.ref a, V.ref b]) hl
        refine k' _ _ ⟨t1.trans (t2.trans t3), l, _, [c1, c2], rfl, upd_same, dta_cons ?_ (dta_cons ?_ dta_nil), ?_, rfl⟩
        · exact dt_ns (Same.t (t2.trans t3) (by rw [w1]; exact SqT.of upd_same))
        · exact dt_ns (Same.t t3 (by rw [w2]; exact SqT.of upd_same))
        · exact allC n1 (allC n2 allN)
      refine ⟨_, rfl, rfl, _, rfl, ?_⟩
      exact ite2 (fun _ => mk .first .last _ _ rfl rfl rfl rfl) fun _ => mk .left .right _ _ rfl rfl rfl rfl
    obtain ⟨s4, l4, ys, cs, rfl, hl4, hys, hcs, hcl⟩ := hv
    have hpts4 := s4 _ _ hpts
    have hpl : 0 < (ptsN th).length := List.length_pos_iff.mpr hpt
    -- words + [..]
    refine ⟨_, rfl, ?_⟩
    refine ⟨by show 3 ≤ sizeLine; decide, fun l5 hl5 => ⟨l5, rfl, ⟨_, SqL.of upd_same⟩, ?_⟩⟩
    have s5 := Same.new (o := .lst [V.str "near", V.str "far", V.str "other"]) hl5
    have h5 : SqL K (upd H4 l5 (.lst [V.str "near", V.str "far", V.str "other"])) l5 (([("near" : Str), "far", "other"]).map V.str) := SqL.of upd_same
    generalize upd H4 l5 (.lst [V.str "near", V.str "far", V.str "other"]) = H5 at s5 h5 ⊢
    have hj : m / 7 % (ptsN th).length < (ptsN th).length := Nat.mod_lt _ hpl
    have hat : atI ((ptsN th).map V.str) (((m : Nat) : Int) / 7 % ((((ptsN th).map V.str).length : Nat) : Int)) = some (.str (ptsN th)[m / 7 % (ptsN th).length]) := by
      rw [List.length_map, modN hpl]
      exact strs_at hj
    have hqm : (ptsN th)[m / 7 % (ptsN th).length] ∈ ptsN th := List.getElem_mem hj
    generalize (ptsN th)[m / 7 % (ptsN th).length] = q at hat hqm
    have hlen0 : (0 : Int) < ((((ptsN th).map V.str).length : Nat) : Int) := by rw [List.length_map]; omega
    refine lc_map (K := K) (walk_list (K := K) (a := l5) (xs := ([("near" : Str), "far", "other"]).map V.str)) [Ch.near q, Ch.far q, Ch.other q] rfl (by show 3 ≤ 100000; decide) (fun c v H => Dt K H v (dC (some c))) (fun _ _ _ _ sm h => h.sm sm) (fun _ s => Same.ls s h5) (fun i c x H6 H7 hi s6 y Nx Nf kx => ?_) fun D2 H6 acc hD2 s6 ha6 hp6 => ?_
    · obtain ⟨rfl, hx⟩ := y
      have hd7 := s6 _ _ (s5 _ _ hpts4)
      have hcx : ∃ u, x = .str u ∧ c.ws = [u, q] := by
        match i, hi, hx with
        | 0, hi, hx => exact ⟨_, (Option.some.inj hx).symm, by rw [← Option.some.inj hi]; rfl⟩
        | 1, hi, hx => exact ⟨_, (Option.some.inj hx).symm, by rw [← Option.some.inj hi]; rfl⟩
        | 2, hi, hx => exact ⟨_, (Option.some.inj hx).symm, by rw [← Option.some.inj hi]; rfl⟩
        | n + 3, hi, hx => exact absurd hi (by simp)
      obtain ⟨u, rfl, hws⟩ := hcx
      refine ⟨rfl, _, rfl, by decide, fun em hem => ?_⟩
      have s7 := Same.new (o := .lst []) hem
      refine ⟨_, _, dp_strs (SqL.of (s7 _ _ hd7)), .lst (SqL.of upd_same) .nil, shaped_strs hso, rfl, _, rfl, ?_⟩
      rw [eqv_nil, decide_eq_false hpt]
      refine iteI rfl ?_
      refine ⟨_, rfl, _, rfl, _, rfl, _, _, rfl, rfl, ⟨by decide, by decide⟩, _, rfl, D, _, rfl, .inl (SqL.of (s7 _ _ hd7)), _, _, rfl, rfl, hlen0, D, _, _, _, rfl, rfl, SqL.of (s7 _ _ hd7), hat, ?_⟩
      refine ⟨by show 2 ≤ sizeLine; decide, fun t ht => kx _ _ (s7.trans (Same.new ht)) ?_⟩
      exact dt_ns (by rw [hws]; exact SqT.of upd_same)
    have hacc := paired_dta (f := fun c => dC (some c)) hp6
    refine ⟨l4, D2, _, _, rfl, rfl, s6 _ _ (s5 _ _ hl4), ha6, ?_, fun l7 hl7 => ?_⟩
    · have a1 := hys.length
      have a2 := hacc.length
      rw [List.length_map] at a1 a2
      rw [a1, a2, hcl]
      show 2 + 3 ≤ sizeLine
      decide
    have s7 := Same.new (o := .lst (ys ++ acc)) hl7
    have hw7 : DtA K (upd H6 l7 (.lst (ys ++ acc))) (ys ++ acc) ((cs ++ [Ch.near q, Ch.far q, Ch.other q]).map fun c => dC (some c)) := by
      rw [List.map_append]
      exact ((hys.sm (s5.trans s6).sm).append hacc).sm s7.sm
    have g7 : SqL K (upd H6 l7 (.lst (ys ++ acc))) l7 (ys ++ acc) := SqL.of upd_same
    have sx : Same H (upd H6 l7 (.lst (ys ++ acc))) := s23.trans (s4.trans (s5.trans (s6.trans s7)))
    generalize upd H6 l7 (.lst (ys ++ acc)) = H7 at s7 hw7 g7 sx ⊢
    have hall : ∀ c ∈ cs ++ [Ch.near q, Ch.far q, Ch.other q], ∀ z ∈ c.pts, z ∈ ptsN th := fun c hc z hz' => by
      rcases List.mem_append.mp hc with hc | hc
      · rw [hcs c hc] at hz'
        exact nomatch hz'
      · have : c.pts = [q] := by
          rcases List.mem_cons.mp hc with e | hc
          · rw [e]; rfl
          rcases List.mem_cons.mp hc with e | hc
          · rw [e]; rfl
          · rw [List.mem_singleton.mp hc]; rfl
        rw [this] at hz'
        rw [List.mem_singleton.mp hz']
        exact hqm
    have hlast : 0 < (ys ++ acc).length ∧ (ys ++ acc).length = (cs ++ [Ch.near q, Ch.far q, Ch.other q]).length := by
      have := hw7.length
      rw [List.length_map] at this
      refine ⟨?_, this⟩
      rw [this, List.length_append]
      show 0 < _ + 3
      omega
    have go : ∀ Q' : VK, (∀ v c, Dt K H7 v (dC c) → (∀ q ∈ chP c, q ∈ ptsN th) → Q' v H7) → Q' .non H7 ∧ ∀ v, (ys ++ acc)[m / 3 % (ys ++ acc).length]? = some v → Q' v H7 := fun Q' k' => ⟨k' .non none dt_non fun q hq => (nomatch hq), fun v hv => by
      obtain ⟨d, hd1, hd2⟩ := hw7.get hv
      rw [List.getElem?_map] at hd1
      obtain ⟨c, hc, rfl⟩ := Option.map_eq_some_iff.mp hd1
      exact k' v (some c) hd2 (hall c (List.mem_of_getElem? hc))⟩
    obtain ⟨ret0, ret1⟩ := go Q fun v c a b => kk v H7 c sx a b
    have hjj : m / 3 % (ys ++ acc).length < (ys ++ acc).length := Nat.mod_lt _ hlast.1
    refine ⟨_, rfl, rfl, _, rfl, ?_⟩
    refine ite2 (fun _ => iteI rfl ret0) fun _ => ?_
    refine ⟨_, rfl, _, _, rfl, rfl, (by show (0 : Int) < _; decide), rfl, _, rfl, ?_⟩
    refine ite2 (fun _ => ret0) fun _ => ?_
    refine ⟨_, rfl, _, rfl, _, _, rfl, rfl, ⟨by decide, by decide⟩, _, rfl, l7, _, rfl, .inl g7, _, _, rfl, rfl, (by show (0 : Int) < _; omega), l7, _, _, (ys ++ acc)[m / 3 % (ys ++ acc).length], rfl, rfl, g7, ?_, ret1 _ (List.getElem?_eq_getElem hjj)⟩
    show atI _ (((m : Nat) : Int) / 3 % (((ys ++ acc).length : Nat) : Int)) = _
    rw [modN3 hlast.1]
    exact atI_nat (List.getElem?_eq_getElem hjj)
end
end Rod
set_option Elab.async false
set_option linter.all false
set_option maxRecDepth 100000
set_option maxHeartbeats 4000000
namespace Rod
open PySem PySem.Spec PyProof.Rows L2 TL
/-! ### the helpers' rows -/
structure HR where
  a : Addr
  n : Str
  np : Nat
  l : Addr
  ks : List Str
structure HrOk (h : HR) : Prop where
  pl : Pl h.n
  n1 : 1 ≤ h.np
  n4 : h.np ≤ 4
  k1 : 1 ≤ h.ks.length
  k3 : h.ks.length ≤ 3
  so : ∀ k ∈ h.ks, PyData.strOk k = true
def HR.d (h : HR) : PyData := .tuple [.str h.n, .int h.np, .list (h.ks.map PyData.str)]
/-- what a step makes of the names ahead of it -/
def Made (hs : List HR) (ns : List Str) (s : Stp) : Prop := (∃ h gs, h ∈ hs ∧ s = .use h.n gs (ns.take h.ks.length)) ∨ (s.makes = ns.take 1 ∧ ∀ h gs ms, s ≠ .use h gs ms)
theorem hr_canLay {hs : List HR} (h : ∀ x ∈ hs, HrOk x) : PyData.canLayAll0 (hs.map HR.d) = true ∧ PyData.depthAll (hs.map HR.d) ≤ 2 := by
  induction hs with
  | nil => exact ⟨rfl, Nat.zero_le _⟩
  | cons x r ih =>
    obtain ⟨h1, h2⟩ := ih fun y hy => h y (List.mem_cons_of_mem _ hy)
    have hx := h x List.mem_cons_self
    refine ⟨?_, ?_⟩
    · show ((PyData.strOk x.n && (true && (PyData.canLayAll0 (x.ks.map PyData.str) && true))) && PyData.canLayAll0 (r.map HR.d)) = true
      rw [hx.pl.nm.sok, canLay_strs hx.so, h1]
      rfl
    · show max (max 0 (max 0 (max (PyData.depthAll (x.ks.map PyData.str) + 1) 0)) + 1) (PyData.depthAll (r.map HR.d)) ≤ 2
      rw [depth_strs]
      omega
theorem hr_shaped {hs : List HR} (h : ∀ x ∈ hs, HrOk x) : SeqAt.shaped (.list (hs.map HR.d)) = true := by
  obtain ⟨h1, h2⟩ := hr_canLay h
  unfold SeqAt.shaped
  rw [Bool.and_eq_true]
  refine ⟨h1, decide_eq_true ?_⟩
  show PyData.depthAll (hs.map HR.d) + 1 ≤ 64
  omega
theorem eqv_nilD (ds : List PyData) : PyData.eqv (.list ds) (.list []) = decide (ds = []) := by
  cases ds with
  | nil => rfl
  | cons a b => rw [decide_eq_false (by simp)]; rfl
theorem filter_ne_len {x : Str} : ∀ {l : List Str}, l.Nodup → x ∈ l → (l.filter fun y => !decide (V.str y = V.str x)).length = l.length - 1
  | [], _, h => nomatch h
  | y :: r, hn, h => by
    obtain ⟨h1, h2⟩ := List.nodup_cons.mp hn
    by_cases e : y = x
    · subst e
      rw [List.filter_cons, if_neg (by simp), List.filter_eq_self.mpr fun z hz => by
        rw [decide_eq_false fun q => h1 (by rw [← V.str.inj q]; exact hz)]
        rfl]
      rfl
    · have hx : x ∈ r := (List.mem_cons.mp h).elim (fun q => absurd q.symm e) id
      rw [List.filter_cons, if_pos (by rw [decide_eq_false fun q => e (V.str.inj q)]; rfl), List.length_cons, filter_ne_len h2 hx, List.length_cons]
      have := List.length_pos_iff_exists_mem.mpr ⟨x, hx⟩
      omega
theorem frm_nd {th : Th} (h : (th.map (·.1)).Nodup) : (frmN th).Nodup := List.Nodup.sublist (List.Sublist.map _ List.filter_sublist) h
theorem frm_mem {th : Th} {x : Str} (h : x ∈ frmN th) : x ∈ th.map (·.1) := by
  unfold frmN at h
  obtain ⟨t, ht, rfl⟩ := List.mem_map.mp h
  exact List.mem_map_of_mem (List.mem_filter.mp ht).1
theorem pts_mem {th : Th} {x : Str} (h : x ∈ ptsN th) : x ∈ th.map (·.1) := by
  unfold ptsN at h
  obtain ⟨t, ht, rfl⟩ := List.mem_map.mp h
  exact List.mem_map_of_mem (List.mem_filter.mp ht).1
theorem paired_nats {α : Type} : ∀ {ds : List α} {acc : List V}, Paired (fun _ v => ∃ r : Nat, v = V.int (r : Nat)) ds acc → ∃ ms : List Nat, acc = ms.map (fun r => V.int ((r : Nat) : Int)) ∧ ms.length = ds.length
  | _, _, .nil => ⟨[], rfl, rfl⟩
  | _, _, .cons h r => by
    obtain ⟨m, rfl⟩ := h
    obtain ⟨ms, e1, e2⟩ := paired_nats r
    exact ⟨m :: ms, by rw [e1]; rfl, by rw [List.length_cons, List.length_cons, e2]⟩
theorem paired_strs {α : Type} {ns : List Str} : ∀ {ds : List α} {acc : List V}, Paired (fun _ v => ∃ z, v = V.str z ∧ z ∈ ns) ds acc → ∃ gs : List Str, acc = gs.map V.str ∧ gs.length = ds.length ∧ ∀ g ∈ gs, g ∈ ns
  | _, _, .nil => ⟨[], rfl, rfl, fun g hg => nomatch hg⟩
  | _, _, .cons h r => by
    obtain ⟨m, rfl, hm⟩ := h
    obtain ⟨ms, e1, e2, e3⟩ := paired_strs r
    refine ⟨m :: ms, by rw [e1]; rfl, by rw [List.length_cons, List.length_cons, e2], allC hm e3⟩
theorem vq_ifR {c : TT} {t u : TS} {tz : TS} {D : Ends} {σ : L2.St} {H : Hp} (Pv : L2.St → Hp → Prop) (h : ∀ D' : Ends, D'.rt = D.rt → (∀ σ' H', Pv σ' H' → D'.nx σ' H') → tIfS c t u D' σ H) (k : ∀ σ' H', Pv σ' H' → tz D σ' H') : tSeq (tIfS c t u) tz D σ H := h _ rfl k
section
variable {P : Program} {w : World} {K : PySem.W.Frag} {mg : Str → Option Value} {base : Heap} {H H' : Hp}
def HrAt (K : PySem.W.Frag) (H : Hp) (h : HR) : Prop := SqT K H h.a [.str h.n, .int h.np, .ref h.l] ∧ SqL K H h.l (h.ks.map V.str)
theorem HrAt.same {h : HR} (x : HrAt K H h) (s : Same H H') : HrAt K H' h := ⟨Same.t s x.1, Same.ls s x.2⟩
structure HpL (K : PySem.W.Frag) (H : Hp) (p : Addr) (hs : List HR) : Prop where
  l : SqL K H p (hs.map fun h => .ref h.a)
  r : ∀ h ∈ hs, HrAt K H h
theorem HpL.same {p : Addr} {hs : List HR} (x : HpL K H p hs) (s : Same H H') : HpL K H' p hs := ⟨Same.ls s x.l, fun h hh => (x.r h hh).same s⟩
theorem hr_dps : ∀ {hs : List HR}, (∀ h ∈ hs, HrAt K H h) → DpAll K H (hs.map fun h => .ref h.a) (hs.map HR.d)
  | [], _ => .nil
  | h :: r, x => .cons (.tup (x h List.mem_cons_self).1 (.cons (.str _) (.cons (.int _) (.cons (.lst (x h List.mem_cons_self).2 (dta_strs _).dp) .nil)))) (hr_dps fun y hy => x y (List.mem_cons_of_mem _ hy))
theorem HpL.dp {p : Addr} {hs : List HR} (x : HpL K H p hs) : Dp K H (.ref p) (.list (hs.map HR.d)) := .lst x.l (hr_dps x.r)
/-! ### _law_step -/
def spLStep (K : PySem.W.Frag) : S1 := fun vs H Q => ∃ (c : Int) (p hp np : Addr) (xs : List V) (th : Th) (hs : List HR) (ns : List Str), vs = [.int c, .ref p, .ref hp, .ref np] ∧ SqL K H p xs ∧ DtA K H xs (dTh th) ∧ HpL K H hp hs ∧ (∀ h ∈ hs, HrOk h) ∧ NsL K H np ns ∧
  (th.map (·.1)).Nodup ∧ (∀ z ∈ th.map (·.1), Nm z) ∧ ptsN th ≠ [] ∧ th.length ≤ 1000 ∧ (∀ z ∈ ns, Nm z) ∧ 3 ≤ ns.length ∧ ∀ v H' s, Same H H' → Dt K H' v s.dr → s.ok → s.isGive = false → Made hs ns s → Q v H'
theorem idx_pos {xs : List Str} (h : xs ≠ []) : (0 : Int) < (((xs.map V.str).length : Nat) : Int) := by
  rw [List.length_map]
  have := List.length_pos_iff.mpr h
  omega
theorem idx_at {xs : List Str} (h : xs ≠ []) (m : Nat) : ∃ z, z ∈ xs ∧ atI (xs.map V.str) (((m : Nat) : Int) % (((xs.map V.str).length : Nat) : Int)) = some (.str z) := by
  have hp := List.length_pos_iff.mpr h
  have hj : m % xs.length < xs.length := Nat.mod_lt _ hp
  refine ⟨xs[m % xs.length], List.getElem_mem hj, ?_⟩
  rw [List.length_map, modN1]
  exact strs_at hj
theorem mix_at {ms : List Nat} {j : Nat} (h : j < ms.length) : ∃ m : Nat, atI (ms.map fun r => V.int ((r : Nat) : Int)) ((j : Nat) : Int) = some (.int (m : Nat)) := ⟨ms[j], atI_nat (by rw [List.getElem?_map, List.getElem?_eq_getElem h]; rfl)⟩
abbrev N_L_step : List Str := ["_law_cell", "_law_there", "_law_helpers", "_law_names_here", "_law_points", "_law_forms", "_law_mixes", "_law_way", "_law_helper_here", "_law_params", "_law_told_names", "_law_given", "_law_one", "_law_other", "_law_name", "_law_kind", "_law_k"]
theorem sc_L_step : FnScope N_L_step ["_law_cell", "_law_there", "_law_helpers", "_law_names_here"] (defScope s_L_step) := ⟨rfl, rfl, rfl, by decide +kernel, rfl, by decide +kernel, by decide +kernel⟩
theorem ok_L_step (T : Tx K mg) : GC P w K mg base 2 "_law_step" (spLStep K) := by
  obtain ⟨fd, F⟩ := T.d_L_step
  have bd : Binds K fd ["_law_cell", "_law_there", "_law_helpers", "_law_names_here"] [] := F.bindsN fun _ _ _ _ _ _ us hl => match us, hl with | [_, _, _, _], _ => rfl
  have G_L_mixed := ok_L_mixed (P := P) (w := w) (base := base) T
  have G_L_choice := ok_L_choice (P := P) (w := w) (base := base) T
  refine gc_fn (F.ok sc_L_step (fun vs H Q E h => ?_) (fun cdv A outer s H vs Q E hr h => ?_)) T.g_L_step F.kp bd
  · obtain ⟨_, _, _, _, _, _, _, _, rfl, _⟩ := h
    rfl
  · obtain ⟨c, p, hp, np, xs, th, hs, ns, rfl, hp0, hxs, hhp, hhs, hns, hnd, hnm, hpt, hz, hnn, hn3, kk⟩ := h
    have nd := sc_L_step.nd
    have lx := hxs.length
    have lth : (dTh th).length = th.length := by unfold dTh; rw [List.length_map]
    rw [lth] at lx
    obtain ⟨n0, nr, rfl⟩ : ∃ n0 nr, ns = n0 :: nr := by
      cases ns with
      | nil => simp at hn3
      | cons a b => exact ⟨a, b, rfl⟩
    have nm0 : Nm n0 := hnn n0 List.mem_cons_self
    have ptNm : ∀ z ∈ ptsN th, Nm z := fun z hz => hnm z (pts_mem hz)
    refine ⟨_, PSs.nox (pss_cons (ps_set (i := 4) nd rfl (Or.inr rfl) (pe_lc (own := [("_law_name", 14), ("_law_kind", 15)]) (by rfl) nd (pi_list (pv 1)) (blkOk_by (N := N_L_step) (sc := defScope s_L_step) (by decide +kernel)) (fun _ _ _ _ _ => (tup_ (K := K) (n := 2) rfl rfl (pgs_cons (pg_name (i := 14) nd rfl (Or.inl rfl)) (pgs_cons (pg_name (i := 15) nd rfl (Or.inl rfl)) pgs_nil)))) (fun _ _ _ _ _ => (pts_one (pt_cmpR op_eq (pv 15) pe_str (nomark _)))) (fun _ _ _ _ _ => (pv 14))))
    (pss_cons (ps_setLc (i := 5) (own := [("_law_name", 14), ("_law_kind", 15)]) (by rfl) nd rfl rfl (sw_true rfl rfl rfl (by decide +kernel)) (pi_list (pv 1)) (blkOk_by (N := N_L_step) (sc := defScope s_L_step) (by decide +kernel)) (fun _ _ _ _ _ => (tup_ (K := K) (n := 2) rfl rfl (pgs_cons (pg_name (i := 14) nd rfl (Or.inl rfl)) (pgs_cons (pg_name (i := 15) nd rfl (Or.inl rfl)) pgs_nil)))) (fun _ _ _ _ _ => (pts_one (pt_cmpR op_ne (pv 15) pe_str (nomark _)))) (fun _ _ _ _ _ => (pv 14)))
    (pss_cons (ps_setLc (i := 6) (own := [("_law_k", 16)]) (by rfl) nd rfl rfl (sw_true rfl rfl rfl (by decide +kernel)) (pi_range2 (by rfl) T.f_range (pa_cons pe_int (pa_cons pe_int pa_nil))) (blkOk_by (N := N_L_step) (sc := defScope s_L_step) (by decide +kernel)) (fun _ _ _ _ _ => (pg_name (i := 16) nd rfl (Or.inl rfl))) (fun _ _ _ _ _ => pts_nil) (fun _ _ _ _ _ => (pe_op op_fdiv (pe_gc G_L_mixed hr (by decide) rfl (pa_cons (pv 0) (pa_cons (pv 16) pa_nil))) pe_int)))
    (pss_cons (ps_set (i := 7) nd rfl (Or.inl rfl) (pe_op op_mod (pe_ix ix_list (pv 6) pe_int (fun _ _ => rfl)) pe_int))
    (pss_cons (ps_if (PW.pt (pw_and (pt_cmpR op_eq (pv 7) pe_int (nomark _)) (pw_and1 (pt_cmpR (op_neD hr.units) (pv 2) (pe_lst pa_nil) (nomark _)))))
      (pss_cons (ps_asg (pe_ix ix_list (pv 2) (pe_op op_mod (pe_ix ix_list (pv 6) pe_int (fun _ _ => rfl)) (pe_callB call_len_seq (by rfl) T.f_len (by decide +kernel) (pa_cons (pv 2) pa_nil))) (fun _ _ => rfl)) (pg_tup rfl (pgs_cons (pg_name (i := 8) nd rfl (Or.inl rfl)) (pgs_cons (pg_name (i := 9) nd rfl (Or.inl rfl)) (pgs_cons (pg_name (i := 10) nd rfl (Or.inl rfl)) pgs_nil)))))
      (pss_cons (ps_set (i := 11) nd rfl (Or.inl rfl) (pe_callTy call_tupS (by rfl) T.f_tuple (by decide +kernel) (pa_cons (pe_lc (own := [("_law_k", 16)]) (by rfl) nd (pi_range1 (by rfl) T.f_range (pa_cons (pv 9) pa_nil)) (blkOk_by (N := N_L_step) (sc := defScope s_L_step) (by decide +kernel)) (fun _ _ _ _ _ => (pg_name (i := 16) nd rfl (Or.inl rfl))) (fun _ _ _ _ _ => pts_nil) (fun _ _ _ _ _ => (pe_ix (ixL_ (K := K) rfl) (pv 4) (pe_op op_mod (pe_op op_fdiv (pe_gc G_L_mixed hr (by decide) rfl (pa_cons (pv 0) (pa_cons (pe_op op_add pe_int (pv 16)) pa_nil))) pe_int) (pe_callB (lenS_ (K := K) rfl) (by rfl) T.f_len (by decide +kernel) (pa_cons (pv 4) pa_nil))) (fun _ _ => rfl)))) pa_nil)))
      (pss_one (ps_ret (pe_tup (pa_cons pe_str (pa_cons (pv 8) (pa_cons (pv 11) (pa_cons (pe_callTy call_tupS (by rfl) T.f_tuple (by decide +kernel) (pa_cons (pe_slice sl_list (pv 3) po_none (po_some (pe_callB call_len_seq (by rfl) T.f_len (by decide +kernel) (pa_cons (pv 10) pa_nil)))) pa_nil)) pa_nil)))))))))
      pss_nil)
    (pss_cons (ps_if (PW.pt (pw_and (pt_cmpR op_lt (pv 7) pe_int (nomark _)) (pw_and1 (pt_cmpR op_gt (pe_callB call_len_seq (by rfl) T.f_len (by decide +kernel) (pa_cons (pv 5) pa_nil)) pe_int (nomark _)))))
      (pss_cons (ps_set (i := 12) nd rfl (Or.inr rfl) (pe_ix ix_list (pv 5) (pe_op op_mod (pe_ix ix_list (pv 6) pe_int (fun _ _ => rfl)) (pe_callB call_len_seq (by rfl) T.f_len (by decide +kernel) (pa_cons (pv 5) pa_nil))) (fun _ _ => rfl)))
      (pss_cons (ps_set (i := 13) nd rfl (Or.inl rfl) (pe_ix ix_list (pe_lc (own := [("_law_name", 14)]) (by rfl) nd (pi_list (pv 5)) (blkOk_by (N := N_L_step) (sc := defScope s_L_step) (by decide +kernel)) (fun _ _ _ _ _ => (pg_name (i := 14) nd rfl (Or.inl rfl))) (fun _ _ _ _ _ => (pts_one (pt_cmpR op_ne (pv 14) (pv 12) (nomark _)))) (fun _ _ _ _ _ => (pv 14))) (pe_op op_mod (pe_ix ix_list (pv 6) pe_int (fun _ _ => rfl)) (pe_op op_sub (pe_callB call_len_seq (by rfl) T.f_len (by decide +kernel) (pa_cons (pv 5) pa_nil)) pe_int)) (fun _ _ => rfl)))
      (pss_one (ps_ret (pe_tup (pa_cons pe_str (pa_cons (pe_ix ix_list (pv 3) pe_int (fun _ _ => rfl)) (pa_cons (pv 12) (pa_cons (pv 13) (pa_cons (pe_gc G_L_choice hr (by decide) rfl (pa_cons (pe_ix ix_list (pv 6) pe_int (fun _ _ => rfl)) (pa_cons (pv 1) (pa_cons (pv 12) (pa_cons (pv 13) pa_nil))))) pa_nil))))))))))
      pss_nil)
    (pss_cons (ps_set (i := 12) nd rfl (Or.inr rfl) (pe_ix ix_list (pv 4) (pe_op op_mod (pe_ix ix_list (pv 6) pe_int (fun _ _ => rfl)) (pe_callB call_len_seq (by rfl) T.f_len (by decide +kernel) (pa_cons (pv 4) pa_nil))) (fun _ _ => rfl)))
    (pss_cons (ps_set (i := 13) nd rfl (Or.inl rfl) (pe_ix ix_list (pv 4) (pe_op op_mod (pe_ix ix_list (pv 6) pe_int (fun _ _ => rfl)) (pe_callB call_len_seq (by rfl) T.f_len (by decide +kernel) (pa_cons (pv 4) pa_nil))) (fun _ _ => rfl)))
    (pss_cons (ps_if (pt_cmpR op_eq (pe_op op_mod (pv 7) pe_int) pe_int (nomark _))
      (pss_one (ps_ret (pe_tup (pa_cons pe_str (pa_cons (pe_ix ix_list (pv 3) pe_int (fun _ _ => rfl)) (pa_cons (pv 12) (pa_cons (pv 13) pa_nil)))))))
      pss_nil)
    (pss_one (ps_ret (pe_tup (pa_cons pe_str (pa_cons (pe_ix ix_list (pv 3) pe_int (fun _ _ => rfl)) (pa_cons (pv 12) (pa_cons (pv 13) (pa_cons (pe_ix ix_list (pe_lst (pa_cons pe_non (pa_cons (pe_ix ix_list (pv 4) (pe_op op_mod (pe_ix ix_list (pv 6) pe_int (fun _ _ => rfl)) (pe_callB call_len_seq (by rfl) T.f_len (by decide +kernel) (pa_cons (pv 4) pa_nil))) (fun _ _ => rfl)) pa_nil))) (pe_op op_mod (pe_ix ix_list (pv 6) pe_int (fun _ _ => rfl)) pe_int) (fun _ _ => rfl)) pa_nil))))))))))))))))), ?_⟩
    -- points
    refine ⟨_, rfl, p, rfl, ⟨_, hp0⟩, ?_⟩
    refine lc_filter (walk_list (K := K) (a := p) (xs := xs)) th lx (by omega) (fun t => decide (V.str t.2 = V.str "point")) (fun t => V.str t.1) (fun _ s => Same.ls s hp0) (fun i t x H3 H4 hi s3 y Nx Nf kx kn => ?_) fun D1 H1 hD1 s1 ha1 => ?_
    · obtain ⟨rfl, hx⟩ := y
      obtain ⟨q, rfl, hq⟩ := th_at (hxs.sm s3.sm) hi hx
      refine ⟨q, _, rfl, hq, rfl, _, _, rfl, _, _, rfl, rfl, rfl, ?_⟩
      refine ⟨_, rfl, rfl, _, rfl, ?_⟩
      refine ite2 (fun e => ⟨_, rfl, kx _ (Same.refl _) e⟩) fun e => kn _ (Same.refl _) (by simpa using e)
    have hpts : NsL K H1 D1 (ptsN th) := SqL.of (by
      rw [ha1]
      unfold ptsN
      rw [List.map_map]
      rfl)
    clear ha1
    -- forms
    refine ⟨_, rfl, p, rfl, ⟨_, Same.ls s1 hp0⟩, ?_⟩
    refine lc_filter (walk_list (K := K) (a := p) (xs := xs)) th lx (by omega) (fun t => !decide (V.str t.2 = V.str "point")) (fun t => V.str t.1) (fun _ s => Same.ls (s1.trans s) hp0) (fun i t x H3 H4 hi s3 y Nx Nf kx kn => ?_) fun D2 H2 hD2 s2 ha2 => ?_
    · obtain ⟨rfl, hx⟩ := y
      obtain ⟨q, rfl, hq⟩ := th_at (hxs.sm (s1.trans s3).sm) hi hx
      refine ⟨q, _, rfl, hq, rfl, _, _, rfl, _, _, rfl, rfl, rfl, ?_⟩
      refine ⟨_, rfl, rfl, _, rfl, ?_⟩
      refine ite2 (fun e => ⟨_, rfl, kx _ (Same.refl _) e⟩) fun e => kn _ (Same.refl _) (by simpa using e)
    have hfrm : NsL K H2 D2 (frmN th) := SqL.of (by
      rw [ha2]
      unfold frmN
      rw [List.map_map]
      rfl)
    clear ha2
    -- mixes
    refine ⟨_, _, rfl, ⟨by decide, by decide, by decide, by decide⟩, ?_⟩
    refine lc_mk (K := K) (walk_range (lo := 1) (n := ((8 : Int) - 1).toNat)) (List.range 7) (by rw [List.length_range]; rfl) (by rw [List.length_range]; decide) (fun _ v _ => ∃ r : Nat, v = V.int (r : Nat)) (fun _ _ _ _ _ h => h) (fun _ _ => trivial) (fun i d x H3 H4 hi s3 y Nx kx => ?_) mono_name fun D3 H3 acc hD3 s3 ha3 hp3 => ?_
    · obtain ⟨rfl, rfl⟩ := y
      refine ⟨rfl, _, rfl, _, rfl, _, _, rfl, fun r0 => ⟨_, _, rfl, rfl, ⟨by decide, by decide⟩, kx _ _ (Same.refl _) ⟨r0 / 7, by rw [Int.natCast_ediv]; rfl⟩⟩⟩
    obtain ⟨ms, rfl, hml⟩ := paired_nats hp3
    rw [List.length_range] at hml
    have hmx : SqL K H3 D3 (ms.map fun r => V.int ((r : Nat) : Int)) := SqL.of ha3
    clear ha3 hp3
    have sx := s1.trans (s2.trans s3)
    have hpts3 := Same.ls (s2.trans s3) hpts
    have hfrm3 := Same.ls s3 hfrm
    obtain ⟨m0, em0⟩ := mix_at (ms := ms) (j := 0) (by omega)
    obtain ⟨m1, em1⟩ := mix_at (ms := ms) (j := 1) (by omega)
    obtain ⟨m2, em2⟩ := mix_at (ms := ms) (j := 2) (by omega)
    obtain ⟨m3, em3⟩ := mix_at (ms := ms) (j := 3) (by omega)
    obtain ⟨m4, em4⟩ := mix_at (ms := ms) (j := 4) (by omega)
    refine ⟨_, rfl, D3, _, _, _, rfl, rfl, hmx, em0, _, _, rfl, rfl, (by show (0 : Int) < _; decide), ?_⟩
    have hns3 := Same.ls sx hns
    have hhp3 := hhp.same sx
    -- a use
    have mk1 : ∀ (s0 : Stp), s0.makes = [n0] → (∀ h gs ms, s0 ≠ .use h gs ms) → Made hs (n0 :: nr) s0 := fun s0 e1 e2 => .inr ⟨e1, e2⟩
    dsimp only
    -- a use
    refine vq_ifR (fun σ' H' => σ' = [some (.int c), some (.ref p), some (.ref hp), some (.ref np), some (.ref D1), some (.ref D2), some (.ref D3), some (.int (((m0 : Nat) : Int) % 7)), none, none, none, none, none, none, none, none, none] ∧ Same H3 H') (fun D' hrt hD' => ?_) fun σ' H4 hσ => ?_
    · refine ⟨_, rfl, rfl, _, rfl, ?_⟩
      refine ite2 (fun _ => ?_) fun _ => iteN (by decide) (hD' _ _ ⟨rfl, Same.refl _⟩)
      refine ⟨_, rfl, by decide, fun em hem => ?_⟩
      have s4 := Same.new (o := .lst []) hem
      refine ⟨_, _, (hhp3.same s4).dp, .lst (SqL.of upd_same) .nil, hr_shaped hhs, rfl, _, rfl, ?_⟩
      rw [eqv_nilD]
      by_cases hne : hs = []
      · rw [decide_eq_true (by rw [hne]; rfl)]
        exact iteN (by decide) (hD' _ _ ⟨rfl, s4⟩)
      rw [decide_eq_false (by simpa using hne)]
      refine iteI rfl ?_
      generalize upd H3 em (.lst []) = H4 at s4 ⊢
      have hhp4 := hhp3.same s4
      have hmx4 := Same.ls s4 hmx
      have hlp : 0 < hs.length := List.length_pos_iff.mpr hne
      have hj : m1 % hs.length < hs.length := Nat.mod_lt _ hlp
      obtain ⟨h, hh, hat⟩ : ∃ h, h ∈ hs ∧ atI (hs.map fun h => V.ref h.a) (((m1 : Nat) : Int) % (((hs.map fun h => V.ref h.a).length : Nat) : Int)) = some (.ref h.a) := by
        refine ⟨hs[m1 % hs.length], List.getElem_mem hj, ?_⟩
        rw [List.length_map, modN1]
        exact atI_nat (by rw [List.getElem?_map, List.getElem?_eq_getElem hj]; rfl)
      have hok := hhs h hh
      obtain ⟨hr1, hr2⟩ := hhp4.r h hh
      refine ⟨_, rfl, _, rfl, D3, _, _, _, rfl, rfl, hmx4, em1, _, rfl, hp, _, rfl, .inl hhp4.l, _, _, rfl, rfl, (by show (0 : Int) < _; rw [List.length_map]; omega), hp, _, _, _, rfl, rfl, hhp4.l, hat, ?_⟩
      refine ⟨h.a, _, rfl, hr1, rfl, _, _, rfl, _, _, rfl, _, _, rfl, rfl, ?_⟩
      refine ⟨_, rfl, _, rfl, by have := hok.n4; omega, by have := hok.n4; omega, ?_⟩
      have hpts4 := Same.ls s4 hpts3
      refine lc_mk (K := K) (walk_range (lo := 0) (n := ((h.np : Nat) : Int).toNat)) (List.range h.np) (by rw [List.length_range]; rfl) (by rw [List.length_range]; have := hok.n4; omega) (fun _ v _ => ∃ z, v = V.str z ∧ z ∈ ptsN th) (fun _ _ _ _ _ h => h) (fun _ _ => trivial) (fun i d x H5 H6 hi s5 y Nx kx => ?_) mono_name fun D5 H5 acc hD5 s5 ha5 hp5 => ?_
      · obtain ⟨rfl, rfl⟩ := y
        refine ⟨rfl, _, rfl, _, rfl, _, rfl, _, _, rfl, rfl, _, _, rfl, fun r0 => ?_⟩
        obtain ⟨z, hz1, hz2⟩ := idx_at hpt (r0 / 7)
        refine ⟨_, _, rfl, rfl, ⟨by decide, by decide⟩, _, rfl, D1, _, rfl, .inl (Same.ls s5 hpts4), _, _, rfl, rfl, idx_pos hpt, D1, _, _, _, rfl, rfl, Same.ls s5 hpts4, ?_, kx _ _ (Same.refl _) ⟨z, rfl, hz1⟩⟩
        rw [← hz2, Int.natCast_ediv]
        rfl
      obtain ⟨gs, rfl, hgl, hgm⟩ := paired_strs hp5
      rw [List.length_range] at hgl
      refine ⟨D5, _, rfl, .inl (SqL.of ha5), fun gt H6 s6 hgt => ?_⟩
      have s56 := s5.trans s6
      refine ⟨_, rfl, _, rfl, _, rfl, _, rfl, h.l, _, rfl, .inl (Same.ls s56 hr2), _, rfl, np, _, rfl, Same.ls (s4.trans s56) hns3, fun q7 hq7 => ?_⟩
      have hcut : cutV ((n0 :: nr).map V.str) none (some ((((h.ks.map V.str).length : Nat)) : Int)) = ((n0 :: nr).take h.ks.length).map V.str := by
        rw [List.length_map]
        exact cut_to _ _
      rw [hcut]
      have s7 := Same.new (o := .lst (((n0 :: nr).take h.ks.length).map V.str)) hq7
      refine ⟨q7, _, rfl, .inl (SqL.of upd_same), fun mt H8 s8 hmt => ?_⟩
      refine ⟨by show 4 ≤ sizeLine; decide, fun r hr => ?_⟩
      have s9 := Same.new (o := .tup [V.str "use", V.str h.n, V.ref gt, V.ref mt]) hr
      rw [hrt]
      have hkl : ((n0 :: nr).take h.ks.length).length = h.ks.length := by
        rw [List.length_take]
        have := hok.k3
        omega
      refine kk _ _ (.use h.n gs ((n0 :: nr).take h.ks.length)) (sx.trans (s4.trans (s56.trans (s7.trans (s8.trans s9))))) ?_ ⟨fun z hz => ?_, fun _ _ _ e => (nomatch e), fun h0 g0 m0 e => ?_⟩ rfl (.inl ⟨h, gs, hh, rfl⟩)
      · exact dt_tup (SqT.of upd_same) (dta_cons dt_str (dta_cons dt_str (dta_cons (dt_ns (Same.t (s7.trans (s8.trans s9)) hgt)) (dta_cons (dt_ns (Same.t s9 hmt)) dta_nil))))
      · rcases List.mem_cons.mp hz with e | hz
        · rw [e]; exact hok.pl.nm
        rcases List.mem_append.mp hz with hz | hz
        · exact ptNm z (hgm z hz)
        · exact hnn z (List.mem_of_mem_take hz)
      · injection e with e1 e2 e3
        subst e2 e3
        have g1 := hok.n1
        have g4 := hok.n4
        have k1 := hok.k1
        have k3 := hok.k3
        refine ⟨fun e => ?_, by omega, fun e => ?_, by rw [hkl]; exact k3⟩
        · rw [e] at hgl
          have : (0 : Nat) = h.np := hgl
          omega
        · rw [e] at hkl
          have : (0 : Nat) = h.ks.length := hkl
          omega
    obtain ⟨rfl, s4⟩ := hσ
    have hpts4 := Same.ls s4 hpts3
    have hfrm4 := Same.ls s4 hfrm3
    have hmx4 := Same.ls s4 hmx
    have hns4 := Same.ls s4 hns3
    have sx4 := sx.trans s4
    -- a meet
    refine vq_ifR (fun σ' H' => σ' = [some (.int c), some (.ref p), some (.ref hp), some (.ref np), some (.ref D1), some (.ref D2), some (.ref D3), some (.int (((m0 : Nat) : Int) % 7)), none, none, none, none, none, none, none, none, none] ∧ H4 = H') (fun D' hrt hD' => ?_) fun σ' H5 hσ => ?_
    · refine ⟨_, rfl, _, _, rfl, rfl, _, rfl, ?_⟩
      refine ite2 (fun _ => ?_) fun _ => iteN (by decide) (hD' _ _ ⟨rfl, rfl⟩)
      refine ⟨_, rfl, D2, _, rfl, .inl hfrm4, _, _, rfl, rfl, _, rfl, ?_⟩
      refine ite2 (fun hl => ?_) fun _ => hD' _ _ ⟨rfl, rfl⟩
      have hl1 : 1 < (frmN th).length := by
        have := of_decide_eq_true hl
        rw [List.length_map] at this
        omega
      have hfne : frmN th ≠ [] := fun e => by rw [e] at hl1; simp at hl1
      obtain ⟨one, ho1, ho2⟩ := idx_at hfne m1
      refine ⟨_, rfl, _, rfl, D3, _, _, _, rfl, rfl, hmx4, em1, _, rfl, D2, _, rfl, .inl hfrm4, _, _, rfl, rfl, idx_pos hfne, D2, _, _, _, rfl, rfl, hfrm4, ho2, ?_⟩
      refine ⟨_, rfl, D2, rfl, ⟨_, hfrm4⟩, ?_⟩
      refine lc_filter (walk_list (K := K) (a := D2) (xs := (frmN th).map V.str)) (frmN th) (by rw [List.length_map]) (by unfold frmN; rw [List.length_map]; exact Nat.le_trans (List.length_filter_le _ _) (by omega)) (fun y => !decide (V.str y = V.str one)) V.str (fun _ s => Same.ls s hfrm4) (fun i t x H6 H7 hi s6 y Nx Nf kx kn => ?_) fun D6 H6 hD6 s6 ha6 => ?_
      · obtain ⟨rfl, hx⟩ := y
        rw [List.getElem?_map, hi] at hx
        obtain rfl := Option.some.inj hx
        refine ⟨rfl, _, rfl, _, rfl, rfl, _, rfl, ?_⟩
        exact ite2 (fun e => ⟨_, rfl, kx _ (Same.refl _) e⟩) fun e => kn _ (Same.refl _) (by simpa using e)
      have hfl := filter_ne_len (frm_nd hnd) ho1
      have hfl2 : ((frmN th).filter fun y => !decide (V.str y = V.str one)) ≠ [] := fun e => by
        rw [e] at hfl
        have : 0 = (frmN th).length - 1 := hfl
        omega
      obtain ⟨other, ht1, ht2⟩ := idx_at hfl2 m2
      have hot := (List.mem_filter.mp ht1).1
      have elen : ((((frmN th).map V.str).length : Nat) : Int) - 1 = ((((((frmN th).filter fun y => !decide (V.str y = V.str one)).map V.str)).length : Nat) : Int) := by
        rw [List.length_map, List.length_map, hfl]
        omega
      refine ⟨_, rfl, D3, _, _, _, rfl, rfl, Same.ls s6 hmx4, em2, _, rfl, D2, _, rfl, .inl (Same.ls s6 hfrm4), _, _, rfl, rfl, _, _, rfl, rfl, (by show (0 : Int) < _; rw [List.length_map]; omega), D6, _, _, _, rfl, rfl, SqL.of ha6, (by
        show atI _ (((m2 : Nat) : Int) % (((((frmN th).map V.str).length : Nat) : Int) - 1)) = _
        rw [elen]
        exact ht2), ?_⟩
      have sx6 := sx4.trans s6
      refine ⟨_, rfl, np, _, 0, _, rfl, rfl, Same.ls s6 hns4, atV _ _, _, rfl, _, rfl, _, rfl, D3, _, _, _, rfl, rfl, Same.ls s6 hmx4, em3, _, rfl, _, rfl, _, rfl, ?_⟩
      refine ⟨m3, p, one, other, xs, th, rfl, Same.ls sx6 hp0, hxs.sm sx6.sm, frm_mem ho1, frm_mem hot, hpt, hz, fun z hz => (ptNm z hz).sok, fun vc H7 cc s7 hvc hcm => ?_⟩
      refine ⟨by show 5 ≤ sizeLine; decide, fun r hr => ?_⟩
      have s8 := Same.new (o := .tup [V.str "meet", V.str n0, V.str one, V.str other, vc]) hr
      rw [hrt]
      refine kk _ _ (.meet n0 one other cc) (sx6.trans (s7.trans s8)) ?_ ⟨fun z hz => ?_, fun _ _ _ e => (nomatch e), fun _ _ _ e => (nomatch e)⟩ rfl (mk1 _ rfl fun _ _ _ e => nomatch e)
      · exact dt_tup (SqT.of upd_same) (dta_cons dt_str (dta_cons dt_str (dta_cons dt_str (dta_cons dt_str (dta_cons (hvc.sm s8.sm) dta_nil)))))
      · rcases List.mem_cons.mp hz with e | hz
        · rw [e]; exact nm0
        rcases List.mem_cons.mp hz with e | hz
        · rw [e]; exact hnm _ (frm_mem ho1)
        rcases List.mem_cons.mp hz with e | hz
        · rw [e]; exact hnm _ (frm_mem hot)
        · exact ptNm z (hcm z hz)
    obtain ⟨rfl, rfl⟩ := hσ
    -- a line or a round
    obtain ⟨one, ho1, ho2⟩ := idx_at hpt m1
    obtain ⟨other, ht1, ht2⟩ := idx_at hpt m2
    refine ⟨_, rfl, _, rfl, D3, _, _, _, rfl, rfl, hmx4, em1, _, rfl, D1, _, rfl, .inl hpts4, _, _, rfl, rfl, idx_pos hpt, D1, _, _, _, rfl, rfl, hpts4, ho2, ?_⟩
    refine ⟨_, rfl, _, rfl, D3, _, _, _, rfl, rfl, hmx4, em2, _, rfl, D1, _, rfl, .inl hpts4, _, _, rfl, rfl, idx_pos hpt, D1, _, _, _, rfl, rfl, hpts4, ht2, ?_⟩
    refine ⟨_, rfl, _, _, rfl, rfl, (by show (0 : Int) < _; decide), rfl, _, rfl, ?_⟩
    refine ite2 (fun _ => ?_) fun _ => ?_
    · refine ⟨_, rfl, np, _, 0, _, rfl, rfl, hns4, atV _ _, _, rfl, _, rfl, by show 4 ≤ sizeLine; decide, fun r hr => ?_⟩
      refine kk _ _ (.line n0 one other) (sx4.trans (Same.new hr)) ?_ ⟨fun z hz => ?_, fun _ _ _ e => (nomatch e), fun _ _ _ e => (nomatch e)⟩ rfl (mk1 _ rfl fun _ _ _ e => nomatch e)
      · exact dt_tup (SqT.of upd_same) (dta_cons dt_str (dta_cons dt_str (dta_cons dt_str (dta_cons dt_str dta_nil))))
      · rcases List.mem_cons.mp hz with e | hz
        · rw [e]; exact nm0
        rcases List.mem_cons.mp hz with e | hz
        · rw [e]; exact ptNm _ ho1
        · rw [List.mem_singleton.mp hz]; exact ptNm _ ht1
    · obtain ⟨thr, hh1, hh2⟩ := idx_at hpt m3
      refine ⟨_, rfl, np, _, 0, _, rfl, rfl, hns4, atV _ _, _, rfl, _, rfl, ?_⟩
      refine ⟨_, rfl, _, rfl, D3, _, _, _, rfl, rfl, hmx4, em3, _, rfl, D1, _, rfl, .inl hpts4, _, _, rfl, rfl, idx_pos hpt, D1, _, _, _, rfl, rfl, hpts4, hh2, ?_⟩
      refine ⟨by show 2 ≤ sizeLine; decide, fun l hl => ?_⟩
      have s5 := Same.new (o := .lst [V.non, V.str thr]) hl
      have g5 : SqL K (upd H4 l (.lst [V.non, V.str thr])) l [V.non, V.str thr] := SqL.of upd_same
      have hro : ∃ o : Option Str, atI [V.non, V.str thr] (((m4 : Nat) : Int) % 2) = some (oV o) ∧ ∀ z ∈ o.toList, z ∈ ptsN th := by
        have e : ((m4 : Nat) : Int) % 2 = ((m4 % 2 : Nat) : Int) := by omega
        rw [e]
        have h2 : m4 % 2 < 2 := by omega
        generalize m4 % 2 = j at h2
        match j, h2 with
        | 0, _ => exact ⟨none, atI_nat (j := 0) rfl, fun z hz => nomatch hz⟩
        | 1, _ => exact ⟨some thr, atI_nat (j := 1) rfl, fun z hz => by rw [List.mem_singleton.mp hz]; exact hh1⟩
      obtain ⟨o, ho3, hom⟩ := hro
      refine ⟨_, rfl, D3, _, _, _, rfl, rfl, Same.ls s5 hmx4, em4, _, _, rfl, rfl, (by show (0 : Int) < _; decide), l, _, _, _, rfl, rfl, g5, ho3, by show 5 ≤ sizeLine; decide, fun r hr => ?_⟩
      refine kk _ _ (.round n0 one other o) (sx4.trans (s5.trans (Same.new hr))) ?_ ⟨fun z hz => ?_, fun _ _ _ e => (nomatch e), fun _ _ _ e => (nomatch e)⟩ rfl (mk1 _ rfl fun _ _ _ e => nomatch e)
      · exact dt_tup (SqT.of upd_same) (dta_cons dt_str (dta_cons dt_str (dta_cons dt_str (dta_cons dt_str (dta_cons dt_o dta_nil)))))
      · rcases List.mem_cons.mp hz with e | hz
        · rw [e]; exact nm0
        rcases List.mem_cons.mp hz with e | hz
        · rw [e]; exact ptNm _ ho1
        rcases List.mem_cons.mp hz with e | hz
        · rw [e]; exact ptNm _ ht1
        · exact ptNm z (hom z hz)
end
end Rod
set_option Elab.async false
set_option linter.all false
set_option maxRecDepth 100000
set_option maxHeartbeats 4000000
namespace Rod
open PySem PySem.Spec PyProof.Rows L2 TL
/-! ### a zip whose tuple is still out, over any two iterators -/
section
variable {prog : Program} {w : World} {A : Around} {E : Value → Shared → Prop} {s : Shared} {z TI TO i1 i2 T : Addr} {f : Bool} {oT : Obj} {fp1 fp2 : List Addr} {n1 n2 i : Nat} {P1 P2 : Nat → Value → Prop} {St1 St2 : Nat → Heap → Prop}
theorem zipH_item {Q : Value → Shared → Prop} (S : ZipSep2 z TI TO i1 i2 fp1 fp2) (D1 : Draws prog w A i1 fp1 n1 P1 St1) (D2 : Draws prog w A i2 fp2 n2 P2 St2)
    (hz : IsZipHeld s.heap z TI TO T f) (hT : s.heap.get? T = some oT) (hTI : IsTupOf2 s.heap TI (.ref i1) (.ref i2)) (st1 : St1 i s.heap) (st2 : St2 i s.heap) (hlt1 : i < n1) (hlt2 : i < n2)
    (hQ : ∀ x1 x2 h' tk, P1 i x1 → P2 i x2 → IsZipHeld h' z TI TO T true → St1 (i + 1) h' → St2 (i + 1) h' → IsTupOf2 h' s.heap.objs.size x1 x2 → h'.objs.size = s.heap.objs.size + 1 →
      (∀ c o, c ≠ z → c ≠ i1 → c ≠ i2 → s.heap.get? c = some o → h'.get? c = some o) → Q (.ref s.heap.objs.size) { s with heap := h', toks := tk }) :
    wpAny (model prog w) A (Builtin.«zip.__next__» ⟨[.ref z], []⟩) (fun fin s' => ∃ v, fin = .done (.ret v) ∧ Q v s') E s := by
  obtain ⟨hp, g, d, tk0, os⟩ := s
  show wpAny _ _ (field (.ref z) 2 >>= _) _ _ _
  refine wpAny_bind (wpAny_field hz rfl (x := .bool false) rfl ?_)
  show wpAny _ _ (field (.ref z) 3 >>= _) _ _ _
  refine wpAny_bind (wpAny_field hz rfl (x := .ref TI) rfl ?_)
  refine wpAny_bind (wpAny_seqItems hTI rfl ?_)
  show wpAny _ _ (Builtin.SmallTypes.ownedTupleIsFree (.ref z) >>= _) _ _ _
  refine wpAny_bind (wpAny_tupleHeld_zip hz hT fun g0 hz0 hs0 => ?_)
  replace hs0 : Heap.SameBut z hp g0 := hs0
  simp only [Bool.false_eq_true, if_false]
  refine wpAny_bind ?_
  rw [← Array.forIn_toList]
  simp only [List.forIn_cons, List.forIn_nil]
  refine wpAny_bind (wpAny_bind (wpAny_holding ?_))
  show wpAny _ _ (Builtin.SmallTypes.nextOf (.ref i1) >>= _) _ _ ⟨g0, g, d, tk0, os⟩
  refine wpAny_bind (D1.item i _ _ _ hlt1 (D1.over st1 hs0 S.zf1) fun x1 p1 tk1 hx1 sn1 hp1 => wpAny_pure ?_)
  replace hp1 : Heap.SameBut i1 g0 p1 := hp1
  refine wpAny_pure ?_
  refine wpAny_bind (wpAny_bind (wpAny_holding ?_))
  show wpAny _ _ (Builtin.SmallTypes.nextOf (.ref i2) >>= _) _ _ ⟨p1, g, d, tk1, os⟩
  refine wpAny_bind (D2.item i _ _ _ hlt2 (D2.over (D2.over st2 hs0 S.zf2) hp1 S.sep1_2) fun x2 p2 tk2 hx2 sn2 hp2 => wpAny_pure ?_)
  replace hp2 : Heap.SameBut i2 p1 p2 := hp2
  refine wpAny_pure (wpAny_pure ?_)
  show wpAny _ _ (newTuple [x1, x2] >>= _) _ _ _
  refine wpAny_bind (wpAny_newTuple ?_)
  have hsz : p2.objs.size = hp.objs.size := by rw [hp2.1, hp1.1, hs0.1]
  have hzz : IsZipHeld p2 z TI TO T true := hp2.extBut _ _ S.zi2 (hp1.extBut _ _ S.zi1 hz0)
  have hk : ∀ c o, c ≠ z → c ≠ i1 → c ≠ i2 → hp.get? c = some o → p2.get? c = some o := fun c o c1 c2 c3 e => hp2.extBut _ _ c3 (hp1.extBut _ _ c2 (hs0.extBut _ _ c1 e))
  have hj1 : St1 (i + 1) p2 := D1.over sn1 hp2 S.sep2_1
  refine wpAny_pure ⟨_, rfl, ?_⟩
  show Q (.ref p2.objs.size) _
  have hpr : IsTupOf2 (p2.push { cls := .type "tuple", data := .seq #[x1, x2] }) p2.objs.size x1 x2 := Heap.get?_push_size _ rfl
  have hz4 : (p2.push { cls := .type "tuple", data := .seq #[x1, x2] }).objs.size = p2.objs.size + 1 := Heap.size_push ..
  have up : ∀ c o, p2.get? c = some o → (p2.push { cls := .type "tuple", data := .seq #[x1, x2] }).get? c = some o := fun c o e => Heap.get?_push_of_some _ e
  have k1 := D1.frame _ _ _ hj1 fun b _ o e => up b o e
  have k2 := D2.frame _ _ _ sn2 fun b _ o e => up b o e
  rw [hsz] at hpr hz4 ⊢
  exact hQ x1 x2 _ tk2 hx1 hx2 (up _ _ hzz) k1 k2 hpr hz4 fun c o c1 c2 c3 e => up c o (hk c o c1 c2 c3 e)
theorem zipH_end {Q : Fin → Shared → Prop} (S : ZipSep2 z TI TO i1 i2 fp1 fp2) (D1 : Draws prog w A i1 fp1 n1 P1 St1) (D2 : Draws prog w A i2 fp2 n2 P2 St2)
    (hz : IsZipHeld s.heap z TI TO T f) (hT : s.heap.get? T = some oT) (hTI : IsTupOf2 s.heap TI (.ref i1) (.ref i2)) (st1 : St1 i s.heap) (st2 : St2 i s.heap) (hle1 : i ≤ n1) (hle2 : i ≤ n2) (hend : i = n1 ∨ i = n2)
    (hE : ∀ h' tk e, (∀ c o, c ≠ z → c ≠ i1 → c ≠ i2 → s.heap.get? c = some o → h'.get? c = some o) → (∃ o, h'.get? e = some o ∧ o.cls = .type "StopIteration") → E (.ref e) { s with heap := h', toks := tk }) :
    wpAny (model prog w) A (Builtin.«zip.__next__» ⟨[.ref z], []⟩) Q E s := by
  obtain ⟨hp, g, d, tk0, os⟩ := s
  show wpAny _ _ (field (.ref z) 2 >>= _) _ _ _
  refine wpAny_bind (wpAny_field hz rfl (x := .bool false) rfl ?_)
  show wpAny _ _ (field (.ref z) 3 >>= _) _ _ _
  refine wpAny_bind (wpAny_field hz rfl (x := .ref TI) rfl ?_)
  refine wpAny_bind (wpAny_seqItems hTI rfl ?_)
  show wpAny _ _ (Builtin.SmallTypes.ownedTupleIsFree (.ref z) >>= _) _ _ _
  refine wpAny_bind (wpAny_tupleHeld_zip hz hT fun g0 hz0 hs0 => ?_)
  replace hs0 : Heap.SameBut z hp g0 := hs0
  simp only [Bool.false_eq_true, if_false]
  refine wpAny_bind ?_
  rw [← Array.forIn_toList]
  simp only [List.forIn_cons, List.forIn_nil]
  refine wpAny_bind (wpAny_bind (wpAny_holding ?_))
  show wpAny _ _ (Builtin.SmallTypes.nextOf (.ref i1) >>= _) _ _ ⟨g0, g, d, tk0, os⟩
  by_cases h1 : i = n1
  · subst h1
    refine wpAny_bind (D1.done _ _ _ (D1.over st1 hs0 S.zf1) fun h' e he ho => ?_)
    replace he : Heap.ExtBut i1 g0 h' := he
    exact hE h' tk0 e (fun c o c1 c2 _ x => he _ _ c2 (hs0.extBut _ _ c1 x)) ho
  · have h2 : i = n2 := hend.resolve_left h1
    refine wpAny_bind (D1.item i _ _ _ (by omega) (D1.over st1 hs0 S.zf1) fun x1 p1 tk1 hx1 sn1 hp1 => wpAny_pure ?_)
    replace hp1 : Heap.SameBut i1 g0 p1 := hp1
    refine wpAny_pure ?_
    refine wpAny_bind (wpAny_bind (wpAny_holding ?_))
    show wpAny _ _ (Builtin.SmallTypes.nextOf (.ref i2) >>= _) _ _ ⟨p1, g, d, tk1, os⟩
    subst h2
    refine wpAny_bind (D2.done _ _ _ (D2.over (D2.over st2 hs0 S.zf2) hp1 S.sep1_2) fun h' e he ho => ?_)
    replace he : Heap.ExtBut i2 p1 h' := he
    exact hE h' tk1 e (fun c o c1 c2 c3 x => he _ _ c3 (hp1.extBut _ _ c2 (hs0.extBut _ _ c1 x))) ho
theorem zipH_next_item {Q : Option Value → Shared → Prop} (S : ZipSep2 z TI TO i1 i2 fp1 fp2) (D1 : Draws prog w A.in1 i1 fp1 n1 P1 St1) (D2 : Draws prog w A.in1 i2 fp2 n2 P2 St2)
    (hz : IsZipHeld s.heap z TI TO T f) (hT : s.heap.get? T = some oT) (hTI : IsTupOf2 s.heap TI (.ref i1) (.ref i2)) (st1 : St1 i s.heap) (st2 : St2 i s.heap) (hlt1 : i < n1) (hlt2 : i < n2)
    (hQ : ∀ x1 x2 h' tk, P1 i x1 → P2 i x2 → IsZipHeld h' z TI TO T true → St1 (i + 1) h' → St2 (i + 1) h' → IsTupOf2 h' s.heap.objs.size x1 x2 → h'.objs.size = s.heap.objs.size + 1 →
      (∀ c o, c ≠ z → c ≠ i1 → c ≠ i2 → s.heap.get? c = some o → h'.get? c = some o) → Q (some (.ref s.heap.objs.size)) { s with heap := h', toks := tk }) :
    wpAny (model prog w) A (pyNext (.ref z)) Q E s := by
  have hTy : s.TypeIs (.ref z) "zip" := ⟨_, hz, rfl⟩
  unfold pyNext
  exact wpAny_bind (wpAny_attempt (wpAny_callSpecial?_slot (name := Str.ofString "__next__") hTy F.slot_zip_next
    (wpAny_call_entry F.slot_zip_next hTy F.entry_zip_next
      (zipH_item S D1 D2 hz hT hTI st1 st2 hlt1 hlt2 fun x1 x2 h' tk y1 y2 b1 d1 d2 b5 b6 b7 => wpAny_pure (hQ x1 x2 h' tk y1 y2 b1 d1 d2 b5 b6 b7)) (F.args_zip_next_1 _))))
theorem zipH_next_end {Q : Option Value → Shared → Prop} (S : ZipSep2 z TI TO i1 i2 fp1 fp2) (D1 : Draws prog w A.in1 i1 fp1 n1 P1 St1) (D2 : Draws prog w A.in1 i2 fp2 n2 P2 St2)
    (hz : IsZipHeld s.heap z TI TO T f) (hT : s.heap.get? T = some oT) (hTI : IsTupOf2 s.heap TI (.ref i1) (.ref i2)) (st1 : St1 i s.heap) (st2 : St2 i s.heap) (hle1 : i ≤ n1) (hle2 : i ≤ n2) (hend : i = n1 ∨ i = n2)
    (hQ : ∀ h' tk, (∀ c o, c ≠ z → c ≠ i1 → c ≠ i2 → s.heap.get? c = some o → h'.get? c = some o) → Q none { s with heap := h', toks := tk }) : wpAny (model prog w) A (pyNext (.ref z)) Q E s := by
  have hTy : s.TypeIs (.ref z) "zip" := ⟨_, hz, rfl⟩
  unfold pyNext
  refine wpAny_bind (wpAny_attempt (wpAny_callSpecial?_slot (name := Str.ofString "__next__") hTy F.slot_zip_next
    (wpAny_call_entry F.slot_zip_next hTy F.entry_zip_next (zipH_end S D1 D2 hz hT hTI st1 st2 hle1 hle2 hend fun h' tk e hk he => ?_) (F.args_zip_next_1 _))))
  obtain ⟨o, ho, hc⟩ := he
  refine wpAny_bind (wpAny_isInstance (T := "StopIteration") (b := true) ⟨o, ho, hc⟩ isSubtype_stop ?_)
  exact wpAny_pure (hQ _ _ hk)
theorem zip_no_len : typeLookup (.type "zip") "__len__" = pure none := am_miss_of_fast (by decide +kernel)
theorem zip_no_hint : typeLookup (.type "zip") "__length_hint__" = pure none := am_miss_of_fast (by decide +kernel)
theorem zip_hint (hT : s.TypeIs (.ref z) "zip") {Q : Bool → Shared → Prop} (h : Q true s) : wpAny (model prog w) A (Builtin.List.listLengthHint (.ref z)) Q E s := by
  unfold Builtin.List.listLengthHint
  refine wpAny_bind (wpAny_specialOf hT zip_no_len ?_)
  refine PySem.W.KFB.if_not rfl ?_
  refine PySem.W.KFB.if_not rfl ?_
  refine wpAny_bind (wpAny_specialOf hT zip_no_hint ?_)
  exact wpAny_pure h
end
end Rod
set_option Elab.async false
set_option linter.all false
set_option maxRecDepth 100000
set_option maxHeartbeats 4000000
namespace Rod
open PySem PySem.Spec PyProof.Rows L2 TL
/-! ### list(zip(t, l)), a tuple and a list -/
def PairsAt (K : PySem.W.Frag) (H : Hp) (zs xs ys : List V) : Prop := zs.length = min xs.length ys.length ∧ ∀ (i : Nat) (z : V), zs[i]? = some z → ∃ q x y, z = .ref q ∧ SqT K H q [x, y] ∧ xs[i]? = some x ∧ ys[i]? = some y
def tListZip (K : PySem.W.Frag) (t : TA) : TE := fun σ H Q => t σ H fun vs H1 => ∃ a b xs ys, vs = [.ref a, .ref b] ∧ SqT K H1 a xs ∧ SqL K H1 b ys ∧ xs.length ≤ 1000 ∧ ∀ p H' zs, Same H1 H' → H1 p = none → H' p = some (.lst zs) → PairsAt K H' zs xs ys → Q (.ref p) H'
section
variable {X : Cx} {pins : List (Addr × Obj)} {σ : L2.St} {A : Around}
/-- how the zip stands ahead of its i-th turn -/
def ZSt (q i1 a i2 b z TI TO : Nat) (i : Nat) (h : Heap) : Prop := IsTupOf2 h TI (.ref i1) (.ref i2) ∧ h.IsTupleIter i1 a i ∧ h.IsListIter i2 b i ∧
  ((IsZip h z TI TO .none ∧ ∃ p q, IsTupOf2 h TO p q) ∨ ∃ T f oT, IsZipHeld h z TI TO T f ∧ h.get? T = some oT ∧ T ≠ z ∧ T ≠ i1 ∧ T ≠ i2 ∧ T ≠ q)
theorem zl_loop {N a b q : Nat} {xs ys : List V} {Rs : Result → Shared → Prop} {H1 : Hp} (hP : A.in1.handled = none) (ha : SqT X.K H1 a xs) (hb : SqL X.K H1 b ys) (haN : a < N) (hbN : b < N) (hqN : N + 4 < q) (hq1 : H1 q = none)
    (hxl : xs.length ≤ 1000)
    (hdone : ∀ zs H s, Inv X pins σ H s → Same H1 H → H q = some (.lst zs) → PairsAt X.K H zs xs ys → Rs (.ok (.ret .none)) s) :
    ∀ (m i : Nat) (zs : List V) (H : Hp) (s : Shared), min xs.length ys.length - i = m → i ≤ min xs.length ys.length → Inv X pins σ H s → Same H1 H → H q = some (.lst zs) → zs.length = i →
      (∀ (j : Nat) (v : V), zs[j]? = some v → ∃ t x y, v = .ref t ∧ SqT X.K H t [x, y] ∧ xs[j]? = some x ∧ ys[j]? = some y) →
      ZSt q N a (N + 1) b (N + 4) (N + 2) (N + 3) i s.heap → (∀ c ∈ [N + 4, N + 2, N + 3, N, N + 1], FpOk X pins H c) →
      codeAny (model X.prog X.w) A (.builtin "list.extend.loop" ⟨[.ref q, .ref (N + 4), .none], []⟩) Rs s := by
  intro m
  induction m with
  | zero =>
    intro i zs H s hm hi I sm hq hzl hz st hf
    have hie : i = xs.length ∨ i = ys.length := by omega
    obtain ⟨its, rv, pa, _⟩ := I.tuple (Same.t sm ha)
    obtain ⟨its2, rv2, pb, _⟩ := I.list (Same.ls sm hb)
    have l1 := rv.length
    have l2 := rv2.length
    have S := zip_sep2 (N := N) (fp1 := [a]) (fp2 := [b]) (fun c hc => by rw [List.mem_singleton.mp hc]; exact haN) (fun c hc => by rw [List.mem_singleton.mp hc]; exact hbN)
    have D1 := Draws.tuple (prog := X.prog) (w := X.w) (A := A.in1.in1) (by exact hP) N a (Nat.ne_of_lt haN) its.toArray
    have D2 := Draws.list (prog := X.prog) (w := X.w) (A := A.in1.in1) (by exact hP) (N + 1) b (Nat.ne_of_lt (Nat.lt_succ_of_lt hbN)) its2.toArray
    refine codeAny_builtin PySem.F.entry_extend_loop ?_
    rw [Around.under_plainId PySem.F.plain_extend_loop _]
    show wpAny _ A.in1 (pyNext (.ref (N + 4)) >>= _) _ _ s
    obtain ⟨hTI, h1, h2, h4⟩ := st
    have fin : ∀ h' tk, (∀ c o, c ≠ N + 4 → c ≠ N + 3 → c ≠ N → c ≠ N + 1 → s.heap.get? c = some o → h'.get? c = some o) → Rs (.ok (.ret .none)) { s with heap := h', toks := tk } := fun h' tk k =>
      hdone zs H _ (I.turnedL (ch := [N + 4, N + 2, N + 3, N, N + 1]) (fun c o hc e => k c o (fun z => hc (by simp [z])) (fun z => hc (by simp [z])) (fun z => hc (by simp [z])) (fun z => hc (by simp [z])) e) hf) sm hq ⟨by omega, hz⟩
    have st1 : s.heap.IsTupleIter N a i ∧ s.heap.IsTuple a its.toArray := ⟨h1, pa⟩
    have st2 : s.heap.IsListIter (N + 1) b i ∧ s.heap.IsList b its2.toArray := ⟨h2, pb.isList⟩
    rcases h4 with ⟨hz4, p, r, ho⟩ | ⟨T, f, oT, hz4, hT, n1, n2, n3, n4⟩
    · refine wpAny_bind (wpAny_pyNext_zipD2_end S D1 D2 hz4 hTI ho st1 st2 (by rw [List.size_toArray]; omega) (by rw [List.size_toArray]; omega) (by rw [List.size_toArray, List.size_toArray]; omega) fun h' tk k => ?_)
      exact wpAny_pure (fin h' tk k)
    · refine wpAny_bind (zipH_next_end S D1 D2 hz4 hT hTI st1 st2 (by rw [List.size_toArray]; omega) (by rw [List.size_toArray]; omega) (by rw [List.size_toArray, List.size_toArray]; omega) fun h' tk k => ?_)
      exact wpAny_pure (fin h' tk fun c o c1 _ c3 c4 e => k c o c1 c3 c4 e)
  | succ m ih =>
    intro i zs H s hm hi I sm hq hzl hz st hf
    obtain ⟨its, rv, pa, _⟩ := I.tuple (Same.t sm ha)
    obtain ⟨its2, rv2, pb, _⟩ := I.list (Same.ls sm hb)
    have l1 := rv.length
    have l2 := rv2.length
    have S := zip_sep2 (N := N) (fp1 := [a]) (fp2 := [b]) (fun c hc => by rw [List.mem_singleton.mp hc]; exact haN) (fun c hc => by rw [List.mem_singleton.mp hc]; exact hbN)
    have D1 := Draws.tuple (prog := X.prog) (w := X.w) (A := A.in1.in1) (by exact hP) N a (Nat.ne_of_lt haN) its.toArray
    have D2 := Draws.list (prog := X.prog) (w := X.w) (A := A.in1.in1) (by exact hP) (N + 1) b (Nat.ne_of_lt (Nat.lt_succ_of_lt hbN)) its2.toArray
    refine codeAny_builtin PySem.F.entry_extend_loop ?_
    rw [Around.under_plainId PySem.F.plain_extend_loop _]
    show wpAny _ A.in1 (pyNext (.ref (N + 4)) >>= _) _ _ s
    obtain ⟨hTI, h1, h2, h4⟩ := st
    have st1 : s.heap.IsTupleIter N a i ∧ s.heap.IsTuple a its.toArray := ⟨h1, pa⟩
    have st2 : s.heap.IsListIter (N + 1) b i ∧ s.heap.IsList b its2.toArray := ⟨h2, pb.isList⟩
    obtain ⟨zq, itq, kq, rq, hlq, eq⟩ := I.lstM hq
    have hqlt : q < s.heap.objs.size := Heap.lt_size eq
    have lt1 : N < s.heap.objs.size := by obtain ⟨_, e, _⟩ := h1; exact Heap.lt_size e
    have lt2 : N + 1 < s.heap.objs.size := by obtain ⟨_, e, _⟩ := h2; exact Heap.lt_size e
    have hix : i < xs.length := by omega
    have hiy : i < ys.length := by omega
    have go : ∀ x1 x2 h' tk, its.toArray[i]? = some x1 → its2.toArray[i]? = some x2 → IsTupOf2 h' s.heap.objs.size x1 x2 → h'.objs.size = s.heap.objs.size + 1 →
        (∀ c o, c ≠ N + 4 → c ≠ N + 3 → c ≠ N → c ≠ N + 1 → s.heap.get? c = some o → h'.get? c = some o) → h'.IsTupleIter N a (i + 1) → h'.IsListIter (N + 1) b (i + 1) →
        (∃ T f oT, IsZipHeld h' (N + 4) (N + 2) (N + 3) T f ∧ h'.get? T = some oT ∧ T ≠ N + 4 ∧ T ≠ N ∧ T ≠ N + 1 ∧ T ≠ q) →
        wpAny (model X.prog X.w) A.in1 (updateSeq q (·.push (.ref s.heap.objs.size)) >>= fun _ => again (.builtin "list.extend.loop" ⟨[.ref q, .ref (N + 4), .none], []⟩))
          (fun fin s' => match fin with | .done f => Rs (.ok f) s' | .again c' => c'.quiet = true ∧ codeAny (model X.prog X.w) A c' Rs s') (fun e s' => Rs (.error e) s') { s with heap := h', toks := tk } := by
      intro x1 x2 h' tk hx1 hx2 hT hsz k h1' h2' hz'
      have ex : xs[i]? = some xs[i] := List.getElem?_eq_getElem hix
      have ey : ys[i]? = some ys[i] := List.getElem?_eq_getElem hiy
      obtain ⟨u1, hu1, ru1⟩ := rv.get ex
      obtain ⟨u2, hu2, ru2⟩ := rv2.get ey
      have eu1 : u1 = x1 := by
        have : its.toArray[i]? = some u1 := by simpa using hu1
        rw [this] at hx1
        exact Option.some.inj hx1
      have eu2 : u2 = x2 := by
        have : its2.toArray[i]? = some u2 := by simpa using hu2
        rw [this] at hx2
        exact Option.some.inj hx2
      subst eu1 eu2
      have new : ObjOk X.prog X.w (upd H s.heap.objs.size (.tup [xs[i], ys[i]])) h' s.heap.objs.size (.tup [xs[i], ys[i]]) :=
        ⟨by show 2 ≤ sizeLine; decide, [u1, u2], .cons ru1 (.cons ru2 .nil), ⟨_, hT, rfl, _, rfl⟩⟩
      have I1 : Inv X pins σ (upd H s.heap.objs.size (.tup [xs[i], ys[i]])) { s with heap := h', toks := tk } :=
        I.turnedNew (ch := [N + 4, N + 2, N + 3, N, N + 1]) (fun c o hc e => k c o (fun z => hc (by simp [z])) (fun z => hc (by simp [z])) (fun z => hc (by simp [z])) (fun z => hc (by simp [z])) e) hf (Nat.le_refl _) new
      have hn : H s.heap.objs.size = none := I.hok.fresh (Nat.le_refl _)
      have nq : q ≠ s.heap.objs.size := Nat.ne_of_lt hqlt
      have hq1' : (upd H s.heap.objs.size (.tup [xs[i], ys[i]])) q = some (.lst zs) := by rw [upd_ne nq]; exact hq
      obtain ⟨z2, it2, k2, r2, hl2, e2⟩ := I1.lstM hq1'
      have hzsl : zs.length ≤ 1000 := by omega
      have hsl := sizeLine_eq
      refine wpAny_bind (wpAny_updateSeq e2 rfl (wpAny_pure ⟨plainId_quiet PySem.F.plain_extend_loop _, ?_⟩) (by rw [List.size_toArray]; omega) (by show (it2.toArray.push _).size ≤ sizeLine + 1; rw [Array.size_push, List.size_toArray]; omega))
      have I2 := I1.lset (f := (·.push (.ref s.heap.objs.size))) (its' := it2 ++ [.ref s.heap.objs.size]) (ys := zs ++ [.ref s.heap.objs.size]) (t' := tk) hq1' e2 (by simp) (r2.append (.cons (show RelV (V.ref s.heap.objs.size) (Value.ref s.heap.objs.size) from rfl) .nil)) (by rw [List.length_append]; show _ + 1 ≤ _; omega)
      have sT : Same H (upd H s.heap.objs.size (.tup [xs[i], ys[i]])) := Same.new hn
      have sm2 : Same H1 (upd (upd H s.heap.objs.size (.tup [xs[i], ys[i]])) q (.lst (zs ++ [.ref s.heap.objs.size]))) := Same.mut (sm.trans sT) hq1
      have mq : Sm X.K (upd H s.heap.objs.size (.tup [xs[i], ys[i]])) (upd (upd H s.heap.objs.size (.tup [xs[i], ys[i]])) q (.lst (zs ++ [.ref s.heap.objs.size]))) := Sm.lst hq1'
      have upq : ∀ c o, c ≠ q → h'.get? c = some o → (h'.update q (Obj.mapSeq (·.push (.ref s.heap.objs.size)))).get? c = some o := fun c o hc e => (Heap.get?_update_other _ _ (Ne.symm hc)).trans e
      refine ih (i + 1) (zs ++ [.ref s.heap.objs.size]) _ _ (by omega) (by omega) I2 sm2 upd_same (by rw [List.length_append, hzl]; rfl) (fun j v hv => ?_) ?_ (fun c hc => ?_)
      · by_cases hj : j < zs.length
        · rw [List.getElem?_append_left hj] at hv
          obtain ⟨t, x, y, e1, e3, e4, e5⟩ := hz j v hv
          exact ⟨t, x, y, e1, mq.t (Same.t sT e3), e4, e5⟩
        · rw [List.getElem?_append_right (by omega)] at hv
          have hj0 : j = zs.length := by
            have := (List.getElem?_eq_some_iff.mp hv).1
            simp at this
            omega
          subst hj0
          rw [Nat.sub_self] at hv
          obtain rfl := Option.some.inj hv
          rw [hzl]
          exact ⟨_, _, _, rfl, mq.t (SqT.of upd_same), ex, ey⟩
      · obtain ⟨T, f, oT, z1, z2', z3, z4, z5, z6⟩ := hz'
        have nN : ∀ k : Nat, k ≤ 4 → N + k ≠ q := fun k hk e => by omega
        refine ⟨upq _ _ (by omega) (k _ _ (by omega) (by omega) (by omega) (by omega) hTI), h1'.at fun o e => upq _ o (by omega) e, h2'.at fun o e => upq _ o (by omega) e, .inr ⟨T, f, oT, upq _ _ (by omega) z1, upq _ _ z6 z2', z3, z4, z5, z6⟩⟩
      · have hlt : c < s.heap.objs.size := by
          have : c = N + 4 ∨ c = N + 2 ∨ c = N + 3 ∨ c = N ∨ c = N + 1 := by simpa using hc
          omega
        have hcq : c ≠ q := by
          have : c = N + 4 ∨ c = N + 2 ∨ c = N + 3 ∨ c = N ∨ c = N + 1 := by simpa using hc
          omega
        refine ⟨?_, (hf c hc).2⟩
        rw [upd_ne hcq, upd_ne (Nat.ne_of_lt hlt)]
        exact (hf c hc).1
    rcases h4 with ⟨hz4, p, r, ho⟩ | ⟨T, f, oT, hz4, hT, n1, n2, n3, n4⟩
    · refine wpAny_bind (wpAny_pyNext_zipD2_item S D1 D2 hz4 hTI ho st1 st2 (by rw [List.size_toArray]; omega) (by rw [List.size_toArray]; omega) fun x1 x2 h' tk hx1 hx2 hz' hTO' d1 d2 hT hsz k => ?_)
      exact go x1 x2 h' tk hx1 hx2 hT hsz k d1.1 d2.1 ⟨s.heap.objs.size, false, _, hz', hT, (Nat.ne_of_lt (Heap.lt_size hz4)).symm, (Nat.ne_of_lt lt1).symm, (Nat.ne_of_lt lt2).symm, (Nat.ne_of_lt hqlt).symm⟩
    · refine wpAny_bind (zipH_next_item S D1 D2 hz4 hT hTI st1 st2 (by rw [List.size_toArray]; omega) (by rw [List.size_toArray]; omega) fun x1 x2 h' tk hx1 hx2 hz' d1 d2 hTn hsz k => ?_)
      exact go x1 x2 h' tk hx1 hx2 hTn hsz (fun c o c1 _ c3 c4 e => k c o c1 c3 c4 e) d1.1 d2.1 ⟨T, true, oT, hz', k _ _ n1 n2 n3 hT, n1, n2, n3, n4⟩
end
theorem pe_listZip {X : Cx} {e e2 : Expr} {ta : TA} {p p2 pos pos2 : Pos} (hg : Gl X "list") (hm : X.mg "list" = none) (hg2 : Gl X "zip") (hm2 : X.mg "zip" = none) (ha : PA X [e, e2] ta)
    (hs : starEach [e, e2] X.env = (false, eval e X.env) :: starEach [e2] X.env := by rfl) (hpl : (backTo pos2 (starEach [e2] X.env)).any (·.1) = false := by rfl) (hc : X.calm = true := by rfl) :
    PE X (.Call (.Name "list" p) [.Call (.Name "zip" p2) [e, e2] [] pos2] [] pos) (tListZip X.K ta) := by
  refine ⟨fun pins s σ H Q I h => ?_⟩
  refine Call_ (ld_blt I hg hm boot_list (PyProof.Rows.callWith_type1 ?_))
  refine Calls.spliced_cons ?_
  refine Call_ (ld_blt I hg2 hm2 PyProof.Rows.boot_zip (PyProof.Rows.callWith_type1 (thn (ha.run pos2 pins s σ H _ I h) fun us s1 ⟨vs, H1, I1, r1, q1⟩ => ?_) hs hpl))
  obtain ⟨a, b, xs, ys, ex, hqx, hqy, hxl, q1⟩ := q1
  subst ex
  cases r1 with
  | cons r rr =>
    cases rr with
    | cons r' rr =>
      cases rr
      cases r
      cases r'
      have fresh5 : ∀ c, c ∈ [s1.heap.objs.size + 4, s1.heap.objs.size + 2, s1.heap.objs.size + 3, s1.heap.objs.size, s1.heap.objs.size + 1] → s1.heap.objs.size ≤ c := fun c hcm => by
        have e' : c = s1.heap.objs.size + 4 ∨ c = s1.heap.objs.size + 2 ∨ c = s1.heap.objs.size + 3 ∨ c = s1.heap.objs.size ∨ c = s1.heap.objs.size + 1 := by simpa using hcm
        rcases e' with z | z | z | z | z
        · rw [z]; exact Nat.le_add_right _ _
        · rw [z]; exact Nat.le_add_right _ _
        · rw [z]; exact Nat.le_add_right _ _
        · rw [z]; exact Nat.le_refl _
        · rw [z]; exact Nat.le_add_right _ _
      obtain ⟨its, rv, p1, _⟩ := I1.tuple hqx
      obtain ⟨its2, rv2, p2, _⟩ := I1.list hqy
      obtain ⟨oa, hoa, _⟩ := id p1
      have haN : a < s1.heap.objs.size := Heap.lt_size hoa
      have hbN : b < s1.heap.objs.size := p2.lt
      refine zip_begins2 (begins_tuple a its.toArray) (begins_list b its2.toArray) (show s1.heap.IsTuple a its.toArray from p1) p2.isList fun h' hz hTI hTO h1 h2 hsz hk => ?_
      refine Calls.spliced_nil ?_
      have I2 : Inv X pins σ H1 { s1 with heap := h' } := I1.kept (t' := s1.toks) hk
      generalize hN : s1.heap.objs.size = N at *
      have hS : (h'.push { cls := .type "list", data := .seq #[] }).get? h'.objs.size = some { cls := .type "list", data := .seq #[] } := Heap.get?_push_size _ rfl
      refine callType_codes (Q₁ := fun obj s₁ => obj = .ref h'.objs.size ∧ s₁ = { s1 with heap := h'.push { cls := .type "list", data := .seq #[] } }) PySem.F.called_list (PySem.F.typeCall_list_1 _) PySem.F.entry_list_init
        (code_list_new _ ⟨rfl, rfl⟩) fun obj s₁ h₁ => ?_
      obtain ⟨rfl, rfl⟩ := h₁
      refine ⟨⟨_, hS, rfl⟩, PySem.F.args_list_init_2 _ _, ?_⟩
      have fr : H1 h'.objs.size = none := I2.hok.fresh (Nat.le_refl _)
      have I3 : Inv X pins σ (upd H1 h'.objs.size (.lst [])) { s1 with heap := h'.push { cls := .type "list", data := .seq #[] } } := I2.lnew (its := []) (t' := s1.toks) .nil (Nat.zero_le _)
      show wpAny _ _ (do let old ← Builtin.List.listItems (.ref h'.objs.size); Builtin.List.listUpdate (.ref h'.objs.size) (fun _ => #[]); letGo old.toList.reverse; Builtin.List.listExtendWith (.ref h'.objs.size) (.ref (N + 4)) .none) _ _ _
      refine wpAny_bind ?_
      unfold Builtin.List.listItems
      refine wpAny_bind (wpAny_seqItems hS rfl (wpAny_pure ?_))
      show wpAny _ _ (updateSeq h'.objs.size (fun _ => #[]) >>= fun _ => letGo (#[] : Array Value).toList.reverse >>= fun _ => Builtin.List.listExtendWith (.ref h'.objs.size) (.ref (N + 4)) .none) _ _ _
      refine wpAny_bind (wpAny_updateSeq hS rfl ?_)
      have I4 := I3.lset (f := fun _ => #[]) (its := []) (its' := []) (ys := []) (t' := s1.toks) upd_same hS rfl .nil (Nat.zero_le _)
      rw [upd_upd] at I4
      refine wpAny_bind (wpAny_letGo ?_)
      have hS4 := Heap.get?_update_self (Obj.mapSeq (fun _ => #[])) hS rfl
      have k4 : ∀ c o, c ≠ h'.objs.size → h'.get? c = some o → ((h'.push { cls := .type "list", data := .seq #[] }).update h'.objs.size (Obj.mapSeq fun _ => #[])).get? c = some o := fun c o hc e => (Heap.get?_update_other _ _ (Ne.symm hc)).trans (Heap.get?_push_of_some _ e)
      generalize hg4 : (h'.push { cls := .type "list", data := .seq #[] }).update h'.objs.size (Obj.mapSeq fun _ => #[]) = h4 at *
      generalize hq : h'.objs.size = q at *
      have hqe : q = N + 5 := by omega
      have go : ∀ h6 tk6, Inv X pins σ (upd H1 q (.lst [])) { s1 with heap := h6, toks := tk6 } → (∀ c o, c ≠ q → h'.get? c = some o → h6.get? c = some o) →
          codeAny (model X.prog X.w) X.A.in1 (.builtin "list.extend.loop" ⟨[.ref q, .ref (N + 4), .none], []⟩) (wants (fun r s₂ => r = .none ∧ EP X pins σ Q (.ref q) s₂) X.xe) { s1 with heap := h6, toks := tk6 } := by
        intro h6 tk6 I6 k6
        have ne : ∀ c, c < q → c ≠ q := fun c hc => Nat.ne_of_lt hc
        refine zl_loop (H1 := H1) (a := a) (b := b) (xs := xs) (ys := ys) ?hP hqx hqy haN hbN (by omega) fr hxl ?hdone _ 0 [] _ _ rfl (Nat.zero_le _) I6 (Same.new fr) upd_same rfl (fun j v hv => by simp at hv) ?hst ?hf
        case hP => exact I.ok.hd hc
        case hdone =>
          intro zs H' s' I' sm' hq' hp'
          exact ⟨rfl, .ref q, H', I', rfl, q1 _ _ _ sm' fr hq' hp'⟩
        case hst =>
          refine ⟨k6 _ _ (ne _ (by omega)) hTI, ⟨_, k6 _ _ (ne _ (by omega)) h1, rfl, rfl⟩, ⟨_, k6 _ _ (ne _ (by omega)) h2, rfl, rfl⟩, .inl ⟨k6 _ _ (ne _ (by omega)) hz, _, _, k6 _ _ (ne _ (by omega)) hTO⟩⟩
        case hf =>
          intro c hc
          have hle := fresh5 c hc
          have hcq : c ≠ q := by
            have : c = N + 4 ∨ c = N + 2 ∨ c = N + 3 ∨ c = N ∨ c = N + 1 := by simpa using hc
            refine ne c ?_
            omega
          refine I1.fpOk (hN ▸ hle) ?_
          rw [upd_ne hcq]
          exact I1.hok.fresh (hN ▸ hle)
      unfold Builtin.List.listExtendWith
      have hz4 : IsZip h4 (N + 4) (N + 2) (N + 3) .none := k4 _ _ (Nat.ne_of_lt (by omega)) hz
      refine wpAny_bind (wpAny_typeOf (T := "zip") ⟨_, hz4, rfl⟩ ?_)
      have e1 : Builtin.List.listSameRef (.ref q) (.ref (N + 4)) = false := by simp [Builtin.List.listSameRef, hqe]
      have e2' : (Value.type "zip" == Value.type "list") = false := by decide
      have e3 : (Value.type "zip" == Value.type "tuple") = false := by decide
      simp only [e1, e2', e3, Bool.or_false, Bool.false_eq_true, if_false]
      refine wpAny_bind (wpAny_pyIter_zip hz4 ?_)
      refine wpAny_bind (wpAny_holding (zip_hint ⟨_, hz4, rfl⟩ ?_))
      refine wpAny_ite_split (fun _ => ?_) (fun _ => wpAny_pure ⟨plainId_quiet PySem.F.plain_extend_loop _, go h4 s1.toks I4 k4⟩)
      refine wpAny_bind (wpAny_rule ?_)
      refine wpAny_bind ?_
      show wpAny _ _ (updateSeq q (·.push .none) >>= fun _ => updateSeq q (·.pop)) _ _ _
      refine wpAny_bind (wpAny_updateSeq hS4 rfl ?_)
      have I5 := I4.lset (f := (·.push Value.none)) (its' := [Value.none]) (ys := [.non]) (t' := s1.toks) upd_same hS4 (by simp) (.cons rfl .nil) (by rw [List.length_singleton, sizeLine_eq]; decide)
      obtain ⟨z5, its5, kq5, r5, hl5, e5⟩ := I5.lstM upd_same
      obtain ⟨u5, rfl, ru5⟩ := r5.one
      refine wpAny_updateSeq e5 rfl ?_ (by show 1 ≤ sizeLine; rw [sizeLine_eq]; decide) (by show 0 ≤ sizeLine + 1; exact Nat.zero_le _)
      have I6 := I5.lset (f := (·.pop)) (its := [u5]) (its' := []) (ys := []) (t' := s1.toks) upd_same e5 (by rfl) .nil (Nat.zero_le _)
      rw [upd_upd, upd_upd] at I6
      exact wpAny_pure ⟨plainId_quiet PySem.F.plain_extend_loop _, go _ _ I6 fun c o hc e => (Heap.get?_update_other _ _ (Ne.symm hc)).trans ((Heap.get?_update_other _ _ (Ne.symm hc)).trans (k4 c o hc e))⟩
end Rod
set_option Elab.async false
set_option linter.all false
set_option maxRecDepth 100000
set_option maxHeartbeats 4000000
namespace Rod
open PySem PySem.Spec PyProof.Rows L2 TL
theorem take_len_of {α : Type} {l : List α} {a b : Nat} (h : a ≤ b) : (l.take b).take a = l.take a := by rw [List.take_take, Nat.min_eq_left h]
theorem zip_fst {α β : Type} : ∀ (a : List α) (b : List β), (a.zip b).map (·.1) = a.take (a.zip b).length
  | [], _ => rfl
  | _ :: _, [] => rfl
  | x :: r, y :: q => congrArg (List.cons x) (zip_fst r q)
theorem zip_at {α β : Type} : ∀ {a : List α} {b : List β} {i : Nat} {x : α} {y : β}, a[i]? = some x → b[i]? = some y → (a.zip b)[i]? = some (x, y)
  | [], _, _, _, _, h, _ => by simp at h
  | _ :: _, [], _, _, _, _, h => by simp at h
  | x :: r, y :: q, 0, _, _, h1, h2 => by
    simp at h1 h2
    subst h1 h2
    rfl
  | x :: r, y :: q, i + 1, _, _, h1, h2 => zip_at (i := i) (by simpa using h1) (by simpa using h2)
section
variable {P : Program} {w : World} {K : PySem.W.Frag} {mg : Str → Option Value} {base : Heap} {H H' : Hp}
theorem dta_of : ∀ {ds : List PyData} {xs : List V}, xs.length = ds.length → (∀ (i : Nat) (x : V) (d : PyData), xs[i]? = some x → ds[i]? = some d → Dt K H x d) → DtA K H xs ds
  | [], [], _, _ => dta_nil
  | [], _ :: _, h, _ => by simp at h
  | _ :: _, [], h, _ => by simp at h
  | d :: ds, x :: xs, h, k => dta_cons (k 0 x d rfl rfl) (dta_of (by simpa using h) fun i y e h1 h2 => k (i + 1) y e (by simpa using h1) (by simpa using h2))
/-! ### _law_kinds_made -/
def kindOf : Stp → Str
  | .line .. => "line"
  | .round .. => "round"
  | _ => "point"
def spKinds (K : PySem.W.Frag) : S1 := fun vs H Q => ∃ (v : V) (hp : Addr) (s : Stp) (hs : List HR) (ns : List Str), vs = [v, .ref hp] ∧ Dt K H v s.dr ∧ HpL K H hp hs ∧ (∀ h ∈ hs, HrOk h) ∧ hs.length ≤ 1000 ∧ s.isGive = false ∧ Made hs ns s ∧ 3 ≤ ns.length ∧
  ∀ p H' xs (th : Th), Same H H' → H p = none → H' p = some (.lst xs) → DtA K H' xs (dTh th) → 1 ≤ th.length → th.length ≤ 3 → th.map (·.1) = ns.take th.length → (∀ t ∈ th, PyData.strOk t.2 = true) → Q (.ref p) H'
abbrev N_L_kinds_made : List Str := ["_law_step_here", "_law_helpers", "_law_told_names", "_law_row_here"]
theorem sc_L_kinds_made : FnScope N_L_kinds_made ["_law_step_here", "_law_helpers"] (defScope s_L_kinds_made) := ⟨rfl, rfl, rfl, by decide +kernel, rfl, by decide +kernel, by decide +kernel⟩
theorem ok_L_kinds_made (T : Tx K mg) : GC P w K mg base 1 "_law_kinds_made" (spKinds K) := by
  obtain ⟨fd, F⟩ := T.d_L_kinds_made
  have bd : Binds K fd ["_law_step_here", "_law_helpers"] [] := F.bindsN fun _ _ _ _ _ _ us hl => match us, hl with | [_, _], _ => rfl
  refine gc_fn (F.ok sc_L_kinds_made (fun vs H Q E h => ?_) (fun cdv A outer s H vs Q E hr h => ?_)) T.g_L_kinds_made F.kp bd
  · obtain ⟨_, _, _, _, _, rfl, _⟩ := h
    rfl
  · obtain ⟨v, hp, s0, hs, ns, rfl, hv, hhp, hhs, hhl, hg, made, hn3, kk⟩ := h
    have nd := sc_L_kinds_made.nd
    have hu := hu_of hr
    refine ⟨_, PSs.nox (pss_cons (ps_if (pt_cmpR op_eq (pe_ix ix_tup (pv 0) pe_int (fun _ _ => rfl)) pe_str (nomark _))
      (pss_cons (ps_set (i := 2) nd rfl (Or.inl rfl) (pe_ix ix_list (pe_lc (own := [("_law_row_here", 3)]) (by rfl) nd (pi_list (pv 1)) (blkOk_by (N := N_L_kinds_made) (sc := defScope s_L_kinds_made) (by decide +kernel)) (fun _ _ _ _ _ => (pg_name (i := 3) nd rfl (Or.inl rfl))) (fun _ _ _ _ _ => (pts_one (pt_cmpR op_eq (pe_ix (ixT_ (K := K) rfl) (pv 3) pe_int (fun _ _ => rfl)) (pe_ix (ixT_ (K := K) rfl) (pv 0) pe_int (fun _ _ => rfl)) (nomark _)))) (fun _ _ _ _ _ => (pe_ix (ixT_ (K := K) rfl) (pv 3) pe_int (fun _ _ => rfl)))) pe_int (fun _ _ => rfl)))
      (pss_one (ps_ret (pe_listZip (by rfl) T.f_list (by rfl) T.f_zip (pa_cons (pe_ix ix_tup (pv 0) pe_int (fun _ _ => rfl)) (pa_cons (pv 2) pa_nil))))))
      pss_nil)
    (pss_one (ps_ret (pe_lst (pa_cons (pe_tup (pa_cons (pe_ix ix_tup (pv 0) pe_int (fun _ _ => rfl)) (pa_cons (pe_dget2 hu (pe_disp (pps_cons pe_str pe_str (pps_cons pe_str pe_str pps_nil)) (by rfl) (by rfl) (fun z => by cases z) (by decide)) (pe_ix ix_tup (pv 0) pe_int (fun _ _ => rfl)) pe_str ⟨by rfl, by rfl, by rfl, by rfl⟩) pa_nil))) pa_nil))))), ?_⟩
    rcases made with ⟨h, gs, hh, rfl⟩ | ⟨hmk, hnu⟩
    · obtain ⟨a, g, m, rfl, ha, hgs, hms⟩ := dr_use hv
      have hok := hhs h hh
      refine ⟨_, rfl, a, _, 0, _, rfl, rfl, ha, atV _ _, rfl, _, rfl, iteI (eqS rfl) ?_⟩
      refine ⟨_, rfl, hp, rfl, ⟨_, hhp.l⟩, ?_⟩
      refine lc_filter (walk_list (K := K) (a := hp) (xs := hs.map fun h => V.ref h.a)) hs (by rw [List.length_map]) (by omega) (fun x => decide (V.str x.n = V.str h.n)) (fun x => V.ref x.l) (fun _ s => Same.ls s hhp.l) (fun i t x H3 H4 hi s3 y Nx Nf kx kn => ?_) fun D1 H1 hD1 s1 ha1 => ?_
      · obtain ⟨rfl, hx⟩ := y
        rw [List.getElem?_map, hi] at hx
        obtain rfl := Option.some.inj hx
        have ht := ((hhp.r t (List.mem_of_getElem? hi)).same s3).1
        refine ⟨rfl, _, rfl, _, _, 0, _, rfl, rfl, ht, atV _ _, _, rfl, a, _, 1, _, rfl, rfl, Same.t s3 ha, atI_nat (j := 1) rfl, rfl, _, rfl, ?_⟩
        exact ite2 (fun e => ⟨_, rfl, _, _, 2, _, rfl, rfl, ht, atI_nat (j := 2) rfl, kx _ (Same.refl _) e⟩) fun e => kn _ (Same.refl _) (by simpa using e)
      have hmem : h ∈ hs.filter fun x => decide (V.str x.n = V.str h.n) := List.mem_filter.mpr ⟨hh, decide_eq_true rfl⟩
      obtain ⟨h1, hr1, ef⟩ : ∃ h1 r1, (hs.filter fun x => decide (V.str x.n = V.str h.n)) = h1 :: r1 := by
        cases e : hs.filter fun x => decide (V.str x.n = V.str h.n) with
        | nil => rw [e] at hmem; exact nomatch hmem
        | cons a b => exact ⟨a, b, rfl⟩
      have hh1 : h1 ∈ hs := (List.mem_filter.mp (by rw [ef]; exact List.mem_cons_self)).1
      rw [ef] at ha1
      have hok1 := hhs h1 hh1
      have hk1 := ((hhp.r h1 hh1).same s1).2
      refine ⟨D1, _, 0, _, rfl, rfl, SqL.of ha1, atV _ _, ?_⟩
      have tl : (ns.take h.ks.length).length = h.ks.length := by
        rw [List.length_take]
        have := hok.k3
        omega
      refine ⟨_, rfl, a, _, 3, _, rfl, rfl, Same.t s1 ha, atI_nat (j := 3) rfl, _, rfl, m, h1.l, _, _, rfl, Same.t s1 hms, hk1, ?_, fun p H2 zs s2 hpn hp2 hpz => ?_⟩
      · rw [List.length_map, tl]
        have := hok.k3
        omega
      obtain ⟨hzl, hza⟩ := hpz
      rw [List.length_map, List.length_map, tl] at hzl
      have zl : ((ns.take h.ks.length).zip h1.ks).length = min h.ks.length h1.ks.length := by rw [List.length_zip, tl]
      have a1 := hok.k1
      have a3 := hok.k3
      have b1 := hok1.k1
      refine kk p H2 zs ((ns.take h.ks.length).zip h1.ks) (s1.trans s2) (Same.back s1 hpn) hp2 ?_ (by omega) (by omega) ?_ fun t ht => hok1.so _ (List.of_mem_zip ht).2
      · refine dta_of (by rw [hzl]; unfold dTh; rw [List.length_map, zl]) fun i x d e1 e2 => ?_
        obtain ⟨q, x1, x2, rfl, hq, ex1, ex2⟩ := hza i x e1
        rw [List.getElem?_map] at ex1 ex2
        obtain ⟨z1, hz1, rfl⟩ := Option.map_eq_some_iff.mp ex1
        obtain ⟨z2, hz2, rfl⟩ := Option.map_eq_some_iff.mp ex2
        unfold dTh at e2
        rw [List.getElem?_map, zip_at hz1 hz2] at e2
        obtain rfl := Option.some.inj e2
        exact dt_tup hq (dta_cons dt_str (dta_cons dt_str dta_nil))
      · rw [zip_fst, take_len_of (by rw [zl]; omega)]
    · have fin : ∀ (a : Addr) (n : Str) (rest : List V) (tg : Str), v = .ref a → SqT K H a (.str tg :: .str n :: rest) → tg ≠ "use" → s0.makes = [n] → (∃ kd : Str, PyData.strOk kd = true ∧ ∃ o, valV (mergeK [] [((Sum.inr ("line" : Str) : Key), V.str "line"), (Sum.inr ("round" : Str), V.str "round")]) (Sum.inr tg) = o ∧ o.getD (V.str "point") = V.str kd) → ∃ z, v = .ref z ∧ True := fun a _ _ _ e _ _ _ _ => ⟨a, e, trivial⟩
      obtain ⟨a, n, rest, tg, rfl, ha, htu, hmk1, kd, hso, o, ho, hod⟩ : ∃ (a : Addr) (n : Str) (rest : List V) (tg : Str), v = .ref a ∧ SqT K H a (.str tg :: .str n :: rest) ∧ tg ≠ ("use" : Str) ∧ s0.makes = [n] ∧
          ∃ kd : Str, PyData.strOk kd = true ∧ ∃ o, valV (mergeK [] [((Sum.inr ("line" : Str) : Key), V.str "line"), (Sum.inr ("round" : Str), V.str "round")]) (Sum.inr tg) = o ∧ o.getD (V.str "point") = V.str kd := by
        cases s0 with
        | give n x y => exact nomatch hg
        | use h0 gs ms => exact absurd rfl (hnu h0 gs ms)
        | line n b c =>
          obtain ⟨a, rfl, ha⟩ := dr_line hv
          exact ⟨a, n, _, _, rfl, ha, by decide +kernel, rfl, "line", by decide +kernel, some (V.str "line"), by decide +kernel, rfl⟩
        | round n b c o =>
          obtain ⟨a, rfl, ha⟩ := dr_round hv
          exact ⟨a, n, _, _, rfl, ha, by decide +kernel, rfl, "round", by decide +kernel, some (V.str "round"), by decide +kernel, rfl⟩
        | meet n b c o =>
          obtain ⟨a, v1, rfl, ha, _⟩ := dr_meet hv
          exact ⟨a, n, _, _, rfl, ha, by decide +kernel, rfl, "point", by decide +kernel, none, by decide +kernel, rfl⟩
      clear fin
      refine ⟨_, rfl, a, _, 0, _, rfl, rfl, ha, atV _ _, rfl, _, rfl, iteN (neqS htu) ?_⟩
      refine ⟨_, rfl, a, _, 1, _, rfl, rfl, ha, atI_nat (j := 1) rfl, fun d hd => ?_⟩
      refine ⟨upd_same, [((Sum.inr ("line" : Str) : Key), V.str "line"), (Sum.inr ("round" : Str), V.str "round")], rfl, by decide, ?_⟩
      rw [upd_upd]
      have s1 := Same.new (o := .dK (mergeK [] [((Sum.inr ("line" : Str) : Key), V.str "line"), (Sum.inr ("round" : Str), V.str "round")])) hd
      have g1 : (upd H d (.dK (mergeK [] [((Sum.inr ("line" : Str) : Key), V.str "line"), (Sum.inr ("round" : Str), V.str "round")]))) d = some (.dK (mergeK [] [((Sum.inr ("line" : Str) : Key), V.str "line"), (Sum.inr ("round" : Str), V.str "round")])) := upd_same
      generalize upd H d (.dK (mergeK [] [((Sum.inr ("line" : Str) : Key), V.str "line"), (Sum.inr ("round" : Str), V.str "round")])) = H1 at s1 g1 ⊢
      refine ⟨d, rfl, .inl ⟨_, .inl g1⟩, _, rfl, a, _, 0, _, rfl, rfl, Same.t s1 ha, atV _ _, o, .inl ⟨_, Sum.inr tg, .inl g1, rfl, ho.symm⟩, ?_⟩
      rw [hod]
      refine ⟨by show 2 ≤ sizeLine; decide, fun t ht => ⟨by show 1 ≤ sizeLine; decide, fun l hl => ?_⟩⟩
      have s2 := Same.new (o := .tup [V.str n, V.str kd]) ht
      have s3 := Same.new (o := .lst [V.ref t]) hl
      refine kk l _ [V.ref t] [(n, kd)] (s1.trans (s2.trans s3)) (Same.back (s1.trans s2) hl) upd_same (dta_cons (dt_tup (Same.t s3 (SqT.of upd_same)) (dta_cons dt_str (dta_cons dt_str dta_nil))) dta_nil) (Nat.le_refl 1) (by show 1 ≤ 3; decide) (by
        rw [hmk1] at hmk
        exact hmk) fun t ht => by rw [List.mem_singleton.mp ht]; exact hso
end
end Rod
set_option Elab.async false
set_option linter.all false
set_option maxRecDepth 100000
set_option maxHeartbeats 4000000
namespace Rod
open PySem PySem.Spec PyProof.Rows L2 TL
/-! ### names with points ahead -/
theorem pl_m : Pl ("m" : Str) := ⟨by decide +kernel, by decide +kernel, ⟨109, [], by decide +kernel, ⟨by decide, by decide⟩⟩, fun c hc => by
  have e : tl ("m" : Str) = [109] := by decide +kernel
  rw [e] at hc
  rw [List.mem_singleton.mp hc]
  exact .inl ⟨by decide, by decide⟩⟩
theorem mdot_tl : tl ("m." : Str) = [109, 46] := by decide +kernel
theorem nm_mdot {n : Str} (h : Pl n) : Nm ("m." ++ n) := by
  refine ⟨?_, ["m", n], by simp, fun p hp => ?_, ext_tl ?_⟩
  · rw [Str.length_append]
    have := h.le
    have e : ("m." : Str).length = 2 := by decide +kernel
    omega
  · rcases List.mem_cons.mp hp with e | hp
    · rw [e]; exact pl_m
    · rw [List.mem_singleton.mp hp]; exact h
  · rw [tl_append, join_eq, tl_join, dot_tl, mdot_tl]
    have e : tl ("m" : Str) = [109] := by decide +kernel
    show _ = joinL [46] [tl ("m" : Str), tl n]
    rw [e]
    rfl
theorem dot_mdot (n : Str) : 46 ∈ tl ("m." ++ n) := by
  rw [tl_append, mdot_tl]
  simp
theorem mdot_inj {a b : Str} (h : ("m." : Str) ++ a = "m." ++ b) : a = b := by
  have e := congrArg tl h
  rw [tl_append, tl_append] at e
  exact ext_tl (List.append_cancel_left e)
def AtN (ns : List Str) (th : Th) : Prop := ∀ (j : Nat) (t : Str × Str), th[j]? = some t → ∃ n, ns[j]? = some n ∧ (t.1 = n ∨ t.1 = "m." ++ n)
theorem AtN.nodup {ns : List Str} {th : Th} (h : AtN ns th) (N : Names ns) : (th.map (·.1)).Nodup := by
  rw [List.nodup_iff_pairwise_ne, List.pairwise_iff_getElem]
  intro i j hi hj hij e
  rw [List.length_map] at hi hj
  obtain ⟨a, ha1, ha2⟩ := h i th[i] (List.getElem?_eq_getElem hi)
  obtain ⟨b, hb1, hb2⟩ := h j th[j] (List.getElem?_eq_getElem hj)
  rw [List.getElem_map, List.getElem_map] at e
  obtain ⟨hi2, ha1⟩ := List.getElem?_eq_some_iff.mp ha1
  obtain ⟨hj2, hb1⟩ := List.getElem?_eq_some_iff.mp hb1
  have hab : a ≠ b := fun q => by
    have := List.pairwise_iff_getElem.mp (List.nodup_iff_pairwise_ne.mp N.nd) i j hi2 hj2 hij
    rw [ha1, hb1] at this
    exact this q
  have pa := (N.pl a (ha1 ▸ List.getElem_mem hi2)).ndot
  have pb := (N.pl b (hb1 ▸ List.getElem_mem hj2)).ndot
  rw [e] at ha2
  rcases ha2 with ha2 | ha2 <;> rcases hb2 with hb2 | hb2
  · exact hab (ha2.symm.trans hb2)
  · rw [← ha2, hb2] at pa
    exact pa (dot_mdot b)
  · rw [← hb2, ha2] at pb
    exact pb (dot_mdot a)
  · exact hab (mdot_inj (ha2.symm.trans hb2))
theorem AtN.nm {ns : List Str} {th : Th} (h : AtN ns th) (N : Names ns) : ∀ z ∈ th.map (·.1), Nm z := fun z hz => by
  obtain ⟨t, ht, rfl⟩ := List.mem_map.mp hz
  obtain ⟨j, hj⟩ := List.mem_iff_getElem?.mp ht
  obtain ⟨n, hn, e⟩ := h j t hj
  have pn := N.pl n (List.mem_of_getElem? hn)
  rcases e with e | e
  · rw [e]; exact pn.nm
  · rw [e]; exact nm_mdot pn
/-- what is left of the names, with or without a point ahead -/
def Left (ns : List Str) (k : Nat) (first : Bool) (ls : List Str) : Prop := ls = ns.drop k ∨ (first = false ∧ ls = (ns.drop k).map fun n => ("m." : Str) ++ n)
theorem Left.at_ {ns ls : List Str} {k : Nat} {b : Bool} (h : Left ns k b ls) {j : Nat} {z : Str} (e : ls[j]? = some z) : ∃ n, ns[k + j]? = some n ∧ (z = n ∨ (b = false ∧ z = "m." ++ n)) := by
  rcases h with rfl | ⟨hb, rfl⟩
  · rw [List.getElem?_drop] at e
    exact ⟨z, e, .inl rfl⟩
  · rw [List.getElem?_map, List.getElem?_drop] at e
    obtain ⟨n, hn, rfl⟩ := Option.map_eq_some_iff.mp e
    exact ⟨n, hn, .inr ⟨hb, rfl⟩⟩
theorem Left.len {ns ls : List Str} {k : Nat} {b : Bool} (h : Left ns k b ls) : ls.length = ns.length - k := by
  rcases h with rfl | ⟨hb, rfl⟩
  · rw [List.length_drop]
  · rw [List.length_map, List.length_drop]
theorem Left.nm {ns ls : List Str} {k : Nat} {b : Bool} (h : Left ns k b ls) (N : Names ns) : ∀ z ∈ ls, Nm z ∧ (46 ∉ tl z → Pl z) ∧ (b = true → Pl z) := fun z hz => by
  obtain ⟨j, hj⟩ := List.mem_iff_getElem?.mp hz
  obtain ⟨n, hn, e⟩ := h.at_ hj
  have pn := N.pl n (List.mem_of_getElem? hn)
  rcases e with rfl | ⟨hb, rfl⟩
  · exact ⟨pn.nm, fun _ => pn, fun _ => pn⟩
  · exact ⟨nm_mdot pn, fun q => absurd (dot_mdot n) q, fun q => by rw [hb] at q; exact nomatch q⟩
structure HSt (ns : List Str) (i : Nat) (th mk : Th) (sts : List Stp) : Prop where
  at_ : AtN ns th
  pt : ptsN th ≠ []
  t4 : th.length ≤ 4 + 3 * i
  sl : sts.length ≤ i
  so : ∀ s ∈ sts, s.ok ∧ s.isGive = false
  mo : ∀ t ∈ mk, Nm t.1 ∧ (46 ∉ tl t.1 → Pl t.1) ∧ PyData.strOk t.2 = true
  m1 : 1 ≤ i → ∃ t r, mk = t :: r ∧ Pl t.1
  m0 : i = 0 → mk = []
  ml : mk.length ≤ 3 * i
theorem ptsN_app (a b : Th) : ptsN (a ++ b) = ptsN a ++ ptsN b := by
  unfold ptsN
  rw [List.filter_append, List.map_append]
theorem HSt.step {ns ls : List Str} {i : Nat} {th mk fo : Th} {sts : List Stp} {s : Stp} (h : HSt ns i th mk sts) (N : Names ns) (L : Left ns th.length (decide (i = 0)) ls) (hs : s.ok) (hg : s.isGive = false) (f1 : 1 ≤ fo.length) (f3 : fo.length ≤ 3) (ff : fo.map (·.1) = ls.take fo.length)
    (fs : ∀ t ∈ fo, PyData.strOk t.2 = true) : HSt ns (i + 1) (th ++ fo) (mk ++ fo) (sts ++ [s]) := by
  have fat : ∀ (j : Nat) (t : Str × Str), fo[j]? = some t → ls[j]? = some t.1 := fun j t e => by
    have hj := (List.getElem?_eq_some_iff.mp e).1
    have e2 : (fo.map (·.1))[j]? = some t.1 := by rw [List.getElem?_map, e]; rfl
    rw [ff, List.getElem?_take, if_pos hj] at e2
    exact e2
  have fm : ∀ t ∈ fo, t.1 ∈ ls := fun t ht => by
    obtain ⟨j, hj⟩ := List.mem_iff_getElem?.mp ht
    exact List.mem_of_getElem? (fat j t hj)
  refine ⟨fun j t e => ?_, fun e => ?_, ?_, ?_, fun z hz => ?_, fun t ht => ?_, fun _ => ?_, fun e => (nomatch e), ?_⟩
  · by_cases hj : j < th.length
    · rw [List.getElem?_append_left hj] at e
      exact h.at_ j t e
    · rw [List.getElem?_append_right (by omega)] at e
      obtain ⟨n, hn, q⟩ := L.at_ (fat _ t e)
      rw [show th.length + (j - th.length) = j by omega] at hn
      exact ⟨n, hn, q.imp id fun z => z.2⟩
  · rw [ptsN_app] at e
    exact h.pt (List.append_eq_nil_iff.mp e).1
  · rw [List.length_append]
    have := h.t4
    omega
  · rw [List.length_append]
    have := h.sl
    show _ + 1 ≤ _
    omega
  · rcases List.mem_append.mp hz with hz | hz
    · exact h.so z hz
    · rw [List.mem_singleton.mp hz]; exact ⟨hs, hg⟩
  · rcases List.mem_append.mp ht with ht | ht
    · exact h.mo t ht
    · have q := L.nm N _ (fm t ht)
      exact ⟨q.1, q.2.1, fs t ht⟩
  · by_cases hi : i = 0
    · rw [h.m0 hi]
      cases fo with
      | nil => simp at f1
      | cons t r => exact ⟨t, r, rfl, (L.nm N _ (fm t List.mem_cons_self)).2.2 (decide_eq_true hi)⟩
    · obtain ⟨t, r, e, pt⟩ := h.m1 (by omega)
      exact ⟨t, r ++ fo, by rw [e]; rfl, pt⟩
  · rw [List.length_append]
    have := h.ml
    omega
section
variable {P : Program} {w : World} {K : PySem.W.Frag} {mg : Str → Option Value} {base : Heap} {H H' : Hp}
theorem dth_canLay {th : Th} (h1 : ∀ t ∈ th, PyData.strOk t.1 = true) (h2 : ∀ t ∈ th, PyData.strOk t.2 = true) : PyData.canLayAll0 (dTh th) = true ∧ PyData.depthAll (dTh th) ≤ 1 := by
  induction th with
  | nil => exact ⟨rfl, Nat.zero_le _⟩
  | cons t r ih =>
    obtain ⟨a, b⟩ := ih (fun x hx => h1 x (List.mem_cons_of_mem _ hx)) fun x hx => h2 x (List.mem_cons_of_mem _ hx)
    refine ⟨?_, ?_⟩
    · show ((PyData.strOk t.1 && (PyData.strOk t.2 && true)) && PyData.canLayAll0 (dTh r)) = true
      rw [h1 t List.mem_cons_self, h2 t List.mem_cons_self, a]
      rfl
    · show max (max 0 (max 0 0) + 1) (PyData.depthAll (dTh r)) ≤ 1
      omega
theorem dth_shaped {th : Th} (h1 : ∀ t ∈ th, PyData.strOk t.1 = true) (h2 : ∀ t ∈ th, PyData.strOk t.2 = true) : SeqAt.shaped (.list (dTh th)) = true := by
  obtain ⟨a, b⟩ := dth_canLay h1 h2
  unfold SeqAt.shaped
  rw [Bool.and_eq_true]
  refine ⟨a, decide_eq_true ?_⟩
  show PyData.depthAll (dTh th) + 1 ≤ 64
  omega
theorem dth1_shaped {t : Str × Str} (h1 : PyData.strOk t.1 = true) (h2 : PyData.strOk t.2 = true) : SeqAt.shaped (.tuple [.str t.1, .str t.2]) = true := by
  unfold SeqAt.shaped
  rw [Bool.and_eq_true]
  refine ⟨?_, by rfl⟩
  show (PyData.strOk t.1 && (PyData.strOk t.2 && true)) = true
  rw [h1, h2]
  rfl
theorem hu65_of {A : Around} {k : Nat} (hr : Room k A) : A.units + 65 < cLine := by
  have := hr.un
  omega
/-! ### _law_helper -/
def spLHelper (K : PySem.W.Frag) : S1 := fun vs H Q => ∃ (c : Int) (nm : Str) (np hp : Addr) (ns : List Str) (hs : List HR), vs = [.int c, .str nm, .ref np, .ref hp] ∧ Pl nm ∧ NsL K H np ns ∧ Names ns ∧ HpL K H hp hs ∧ (∀ h ∈ hs, HrOk h) ∧ hs.length ≤ 3 ∧
  ∀ q H' v1 (h : HR) (ps as : List Str) (ss : List Stp), Same H H' → SqT K H' q [v1, .ref h.a] → Dt K H' v1 (Prt.hlp nm ps as ss).dr → Prt.hok nm ps as ss → HrAt K H' h → HrOk h → H h.l = none → H' h.l = some (.lst (h.ks.map V.str)) → Q (.ref q) H'
abbrev N_L_helper : List Str := ["_law_cell", "_law_name", "_law_names_here", "_law_helpers", "_law_params", "_law_one", "_law_there", "_law_steps_here", "_law_made", "_law_k", "_law_left", "_law_found", "_law_told_names", "_law_kind"]
theorem sc_L_helper : FnScope N_L_helper ["_law_cell", "_law_name", "_law_names_here", "_law_helpers"] (defScope s_L_helper) := ⟨rfl, rfl, rfl, by decide +kernel, rfl, by decide +kernel, by decide +kernel⟩
theorem ok_L_helper (T : Tx K mg) : GC P w K mg base 3 "_law_helper" (spLHelper K) := by
  obtain ⟨fd, F⟩ := T.d_L_helper
  have bd : Binds K fd ["_law_cell", "_law_name", "_law_names_here", "_law_helpers"] [] := F.bindsN fun _ _ _ _ _ _ us hl => match us, hl with | [_, _, _, _], _ => rfl
  have G_L_mixed := ok_L_mixed (P := P) (w := w) (base := base) T
  have G_L_step := ok_L_step (P := P) (w := w) (base := base) T
  have G_L_kinds_made := ok_L_kinds_made (P := P) (w := w) (base := base) T
  refine gc_fn (F.ok sc_L_helper (fun vs H Q E h => ?_) (fun cdv A outer s H vs Q E hr h => ?_)) T.g_L_helper F.kp bd
  · obtain ⟨_, _, _, _, _, _, rfl, _⟩ := h
    rfl
  · obtain ⟨c, nm, np, hp, ns, hs, rfl, hnm, hns, N, hhp, hhs, hhl, kk⟩ := h
    have nd := sc_L_helper.nd
    have hu65 := hu65_of hr
    have hlen := N.len
    refine ⟨_, PSs.nox (pss_cons (ps_set (i := 4) nd rfl (Or.inl rfl) (pe_slice sl_list (pv 2) po_none (po_some (pe_op op_add pe_int (pe_op op_mod (pe_op op_fdiv (pe_gc G_L_mixed hr (by decide) rfl (pa_cons (pv 0) (pa_cons pe_int pa_nil))) pe_int) pe_int)))))
    (pss_cons (ps_setLc (i := 6) (own := [("_law_one", 5)]) (by rfl) nd rfl rfl (sw_true rfl rfl rfl (by decide +kernel)) (pi_list (pv 4)) (blkOk_by (N := N_L_helper) (sc := defScope s_L_helper) (by decide +kernel)) (fun _ _ _ _ _ => (pg_name (i := 5) nd rfl (Or.inl rfl))) (fun _ _ _ _ _ => pts_nil) (fun _ _ _ _ _ => (pe_tup (pa_cons (pv 5) (pa_cons pe_str pa_nil)))))
    (pss_cons (ps_set (i := 7) nd rfl (Or.inl rfl) (pe_lst pa_nil))
    (pss_cons (ps_set (i := 8) nd rfl (Or.inl rfl) (pe_lst pa_nil))
    (pss_cons (ps_for PassesOwn.never rfl (pi_range1 (by rfl) T.f_range (pa_cons (pe_op op_add pe_int (pe_op op_mod (pe_op op_fdiv (pe_gc G_L_mixed hr (by decide) rfl (pa_cons (pv 0) (pa_cons pe_int pa_nil))) pe_int) pe_int)) pa_nil)) (pg_name (i := 9) nd rfl (Or.inl rfl))
      (pss_cons (ps_set (i := 10) nd rfl (Or.inl rfl) (pe_slice sl_list (pv 2) (po_some (pe_callB call_len_seq (by rfl) T.f_len (by decide +kernel) (pa_cons (pv 6) pa_nil))) po_none))
      (pss_cons (ps_if (PW.pt (pw_and (pt_cmpR op_gt (pv 9) pe_int (nomark _)) (pw_and1 (pt_cmpR op_eq (pe_op op_mod (pe_op op_fdiv (pe_gc G_L_mixed hr (by decide) rfl (pa_cons (pv 0) (pa_cons (pe_op op_add pe_int (pv 9)) pa_nil))) pe_int) pe_int) pe_int (nomark _)))))
        (pss_one (ps_setLc (i := 10) (own := [("_law_one", 5)]) (by rfl) nd rfl rfl (sw_true rfl rfl rfl (by decide +kernel)) (pi_list (pv 10)) (blkOk_by (N := N_L_helper) (sc := defScope s_L_helper) (by decide +kernel)) (fun _ _ _ _ _ => (pg_name (i := 5) nd rfl (Or.inl rfl))) (fun _ _ _ _ _ => pts_nil) (fun _ _ _ _ _ => (pe_op op_add_str pe_str (pv 5)))))
        pss_nil)
      (pss_one (ps_if (pt_cmpR op_gt (pe_callB call_len_seq (by rfl) T.f_len (by decide +kernel) (pa_cons (pv 10) pa_nil)) pe_int (nomark _))
        (pss_cons (ps_expr (pe_bm PySem.F.plainAttrs_list PySem.F.slot_list_append PySem.F.type_list_append mt_append (pv 7) (pa_cons (pe_gc G_L_step hr (by decide) rfl (pa_cons (pe_gc G_L_mixed hr (by decide) rfl (pa_cons (pv 0) (pa_cons (pe_op op_add pe_int (pv 9)) pa_nil))) (pa_cons (pv 6) (pa_cons (pv 3) (pa_cons (pv 10) pa_nil))))) pa_nil)))
        (pss_cons (ps_set (i := 11) nd rfl (Or.inl rfl) (pe_gc G_L_kinds_made hr (by decide) rfl (pa_cons (pe_ix ix_list (pv 7) (pe_un un_neg pe_int) (fun _ _ => rfl)) (pa_cons (pv 3) pa_nil))))
        (pss_cons (ps_set (i := 6) nd rfl (Or.inl rfl) (pe_op op_cat (pv 6) (pv 11)))
        (pss_one (ps_set (i := 8) nd rfl (Or.inl rfl) (pe_op op_cat (pv 8) (pv 11)))))))
        pss_nil)))))
    (pss_cons (ps_set (i := 12) nd rfl (Or.inl rfl) (pe_slice sl_list (pv 8) po_none (po_some pe_int)))
    (pss_cons (ps_for PassesOwn.never rfl (pi_range1 (by rfl) T.f_range (pa_cons (pe_op op_mod (pe_op op_fdiv (pe_gc G_L_mixed hr (by decide) rfl (pa_cons (pv 0) (pa_cons pe_int pa_nil))) pe_int) pe_int) pa_nil)) (pg_name (i := 9) nd rfl (Or.inl rfl))
      (pss_cons (ps_set (i := 5) nd rfl (Or.inl rfl) (pe_ix ix_list (pv 8) (pe_op op_mod (pe_op op_fdiv (pe_gc G_L_mixed hr (by decide) rfl (pa_cons (pv 0) (pa_cons (pe_op op_add pe_int (pv 9)) pa_nil))) pe_int) (pe_callB call_len_seq (by rfl) T.f_len (by decide +kernel) (pa_cons (pv 8) pa_nil))) (fun _ _ => rfl)))
      (pss_one (ps_if (PW.pt (pw_and (pt_cmpR (op_notInD hu65) (pv 5) (pv 12) (by rfl)) (pw_and1 (pt_cmpR op_notIn_sign pe_str (pe_ix ix_tup (pv 5) pe_int (fun _ _ => rfl)) (by rfl)))))
        (pss_one (ps_expr (pe_bm PySem.F.plainAttrs_list PySem.F.slot_list_append PySem.F.type_list_append mt_append (pv 12) (pa_cons (pv 5) pa_nil))))
        pss_nil))))
    (pss_one (ps_ret (pe_tup (pa_cons (pe_tup (pa_cons pe_str (pa_cons (pv 1) (pa_cons (pe_callTy call_tupS (by rfl) T.f_tuple (by decide +kernel) (pa_cons (pv 4) pa_nil)) (pa_cons (pe_callTy call_tupS (by rfl) T.f_tuple (by decide +kernel) (pa_cons (pe_lc (own := [("_law_one", 5), ("_law_kind", 13)]) (by rfl) nd (pi_list (pv 12)) (blkOk_by (N := N_L_helper) (sc := defScope s_L_helper) (by decide +kernel)) (fun _ _ _ _ _ => (tup_ (K := K) (n := 2) rfl rfl (pgs_cons (pg_name (i := 5) nd rfl (Or.inl rfl)) (pgs_cons (pg_name (i := 13) nd rfl (Or.inl rfl)) pgs_nil)))) (fun _ _ _ _ _ => pts_nil) (fun _ _ _ _ _ => (pv 5))) pa_nil)) (pa_cons (pe_callTy call_tupS (by rfl) T.f_tuple (by decide +kernel) (pa_cons (pv 7) pa_nil)) pa_nil)))))) (pa_cons (pe_tup (pa_cons (pv 1) (pa_cons (pe_callB call_len_seq (by rfl) T.f_len (by decide +kernel) (pa_cons (pv 4) pa_nil)) (pa_cons (pe_lc (own := [("_law_one", 5), ("_law_kind", 13)]) (by rfl) nd (pi_list (pv 12)) (blkOk_by (N := N_L_helper) (sc := defScope s_L_helper) (by decide +kernel)) (fun _ _ _ _ _ => (tup_ (K := K) (n := 2) rfl rfl (pgs_cons (pg_name (i := 5) nd rfl (Or.inl rfl)) (pgs_cons (pg_name (i := 13) nd rfl (Or.inl rfl)) pgs_nil)))) (fun _ _ _ _ _ => pts_nil) (fun _ _ _ _ _ => (pv 13))) pa_nil)))) pa_nil)))))))))))), ?_⟩
    -- params
    refine ⟨_, rfl, _, rfl, _, _, rfl, fun r0 => ⟨_, _, rfl, rfl, ⟨by decide, by decide⟩, _, _, rfl, rfl, (by show (0 : Int) < _; decide), _, _, rfl, rfl, _, rfl, np, _, rfl, hns, fun pl hpl => ?_⟩⟩
    have hk1 : 1 + r0 / 7 % 4 ≤ 4 := by omega
    have hcut : cutV (ns.map V.str) none (some (1 + ((r0 : Nat) : Int) / 7 % 4)) = (ns.take (1 + r0 / 7 % 4)).map V.str := by
      rw [show 1 + ((r0 : Nat) : Int) / 7 % 4 = ((1 + r0 / 7 % 4 : Nat) : Int) by omega]
      exact cut_to _ _
    have hk0 : 1 ≤ 1 + r0 / 7 % 4 := by omega
    dsimp only
    rw [hcut]
    generalize 1 + r0 / 7 % 4 = kp at hk1 hk0
    clear hcut
    have s1 := Same.new (o := .lst ((ns.take kp).map V.str)) hpl
    have e1 : (upd H pl (.lst ((ns.take kp).map V.str))) pl = some (.lst ((ns.take kp).map V.str)) := upd_same
    generalize upd H pl (.lst ((ns.take kp).map V.str)) = H1 at s1 e1 ⊢
    have pll : (ns.take kp).length = kp := by rw [List.length_take]; omega
    have ppl : ∀ z ∈ ns.take kp, Pl z := fun z hz => N.pl z (List.mem_of_mem_take hz)
    -- there
    refine ⟨_, rfl, pl, rfl, ⟨_, SqL.of e1⟩, ?_⟩
    refine lc_mk (K := K) (walk_list (K := K) (a := pl) (xs := (ns.take kp).map V.str)) (ns.take kp) (by rw [List.length_map]) (by omega) (fun n v H => Dt K H v (.tuple [.str n, .str "point"])) (fun _ _ _ _ sm h => h.sm sm) (fun _ s => Same.ls s (SqL.of e1)) (fun i d x H3 H4 hi s3 y Nx kx => ?_) mono_name fun tl0 H2 acc htl0 s2 ha2 hp2 => ?_
    · obtain ⟨rfl, hx⟩ := y
      rw [List.getElem?_map, hi] at hx
      obtain rfl := Option.some.inj hx
      exact ⟨rfl, _, rfl, by show 2 ≤ sizeLine; decide, fun t ht => kx _ _ (Same.new ht) (dt_tup (SqT.of upd_same) (dta_cons dt_str (dta_cons dt_str dta_nil)))⟩
    have hth0 : DtA K H2 acc (dTh ((ns.take kp).map fun n => (n, ("point" : Str)))) := by
      have q := paired_dta hp2
      unfold dTh
      rw [List.map_map]
      exact q
    clear hp2
    have s12 := s1.trans s2
    -- steps_here, made
    refine ⟨by decide, fun sl hsl => ?_⟩
    have s3 := Same.new (o := .lst []) hsl
    have e3 : (upd H2 sl (.lst [])) sl = some (.lst []) := upd_same
    have hslH : H sl = none := Same.back s12 hsl
    have npl : pl ≠ sl := fun e => by rw [← e, s2 _ _ e1] at hsl; cases hsl
    have ntl0 : tl0 ≠ sl := fun e => by rw [← e, ha2] at hsl; cases hsl
    have e3t := s3 _ _ ha2
    have e3p := s3 _ _ (s2 _ _ e1)
    have hth3 := hth0.sm s3.sm
    generalize upd H2 sl (.lst []) = H3 at s3 e3 e3t e3p hth3 ⊢
    refine ⟨by decide, fun ml0 hml0 => ?_⟩
    have s4 := Same.new (o := .lst []) hml0
    have e4 : (upd H3 ml0 (.lst [])) ml0 = some (.lst []) := upd_same
    have nml0 : ml0 ≠ sl := fun e => by rw [e, e3] at hml0; cases hml0
    have e4t := s4 _ _ e3t
    have e4p := s4 _ _ e3p
    have e4s := s4 _ _ e3
    have hth4 := hth3.sm s4.sm
    have s14 := s12.trans (s3.trans s4)
    generalize upd H3 ml0 (.lst []) = H4 at s4 e4 e4t e4p e4s hth4 s14 ⊢
    have st0 : HSt ns 0 ((ns.take kp).map fun n => (n, ("point" : Str))) [] [] := by
      refine ⟨fun j t e => ?_, ?_, by rw [List.length_map]; omega, Nat.le_refl _, fun s hs => (nomatch hs), fun t ht => (nomatch ht), fun e => absurd e (by decide), fun _ => rfl, Nat.le_refl _⟩
      · rw [List.getElem?_map] at e
        obtain ⟨n, hn, rfl⟩ := Option.map_eq_some_iff.mp e
        have hj := (List.getElem?_eq_some_iff.mp hn).1
        rw [List.getElem?_take, if_pos (by omega)] at hn
        exact ⟨n, hn, .inl rfl⟩
      · cases e : ns.take kp with
        | nil => rw [e] at pll; exact absurd pll (by show ¬ (0 = kp); omega)
        | cons a b =>
          unfold ptsN
          rw [List.map_cons, List.filter_cons, if_pos (decide_eq_true rfl)]
          simp
    -- the steps
    refine ⟨_, rfl, _, _, rfl, fun r1 => ⟨_, _, rfl, rfl, ⟨by decide, by decide⟩, _, _, rfl, rfl, (by show (0 : Int) < _; decide), _, _, rfl, rfl, 1 + ((r1 : Nat) : Int) / 7 % 5, rfl, ?_, ?_, ?_⟩⟩
    · show -(2 ^ 62) ≤ 1 + ((r1 : Nat) : Int) / 7 % 5
      omega
    · show 1 + ((r1 : Nat) : Int) / 7 % 5 < 2 ^ 62
      omega
    have hn5 : (1 + ((r1 : Nat) : Int) / 7 % 5).toNat ≤ 5 ∧ 1 ≤ (1 + ((r1 : Nat) : Int) / 7 % 5).toNat := by omega
    generalize (1 + ((r1 : Nat) : Int) / 7 % 5).toNat = n5 at hn5
    refine for_it (walk_range (lo := 0) (n := n5)) (fun i σ H' => ∃ (tl ml : Addr) (kv lf fd : Option V) (xs zs ys : List V) (th mk : Th) (sts : List Stp),
      σ = [some (.int c), some (.str nm), some (.ref np), some (.ref hp), some (.ref pl), none, some (.ref tl), some (.ref sl), some (.ref ml), kv, lf, fd, none, none] ∧ Same H H' ∧ H' sl = some (.lst ys) ∧ DtA K H' ys (sts.map Stp.dr) ∧
      H' tl = some (.lst xs) ∧ DtA K H' xs (dTh th) ∧ H' ml = some (.lst zs) ∧ DtA K H' zs (dTh mk) ∧ tl ≠ sl ∧ ml ≠ sl ∧ H' pl = some (.lst ((ns.take kp).map V.str)) ∧ HSt ns i th mk sts)
      ⟨tl0, ml0, none, none, none, _, [], [], _, [], [], rfl, s14, e4s, dta_nil, e4t, hth4, e4, dta_nil, ntl0, nml0, e4p, st0⟩ (fun _ _ _ _ _ => trivial) (fun i x σ H5 H6 hi q y => ?_) fun σ H5 q => ?_
    · obtain ⟨tl, ml, kv, lf, fd, xs, zs, ys, th, mk, sts, rfl, s5, e5s, hys, e5t, hxs, e5m, hzs, ntl, nml, e5p, S⟩ := q
      obtain ⟨rfl, rfl⟩ := y
      have lx := hxs.length
      have lth : (dTh th).length = th.length := by unfold dTh; rw [List.length_map]
      rw [lth] at lx
      have t4 := S.t4
      have hns5 := Same.ls s5 hns
      -- left
      refine ⟨_, rfl, _, rfl, tl, _, rfl, .inl (SqL.of e5t), _, rfl, np, _, rfl, hns5, fun l0 hl0 => ?_⟩
      have hcut : cutV (ns.map V.str) (some ((xs.length : Nat) : Int)) none = (ns.drop th.length).map V.str := by
        rw [lx]
        exact cut_from _ _
      rw [hcut]
      have s6 := Same.new (o := .lst ((ns.drop th.length).map V.str)) hl0
      have e6 : (upd H6 l0 (.lst ((ns.drop th.length).map V.str))) l0 = some (.lst ((ns.drop th.length).map V.str)) := upd_same
      generalize upd H6 l0 (.lst ((ns.drop th.length).map V.str)) = H7 at s6 e6 ⊢
      dsimp only
      refine vq_ifR (fun σ' H' => Same H7 H' ∧ ∃ (lf : Addr) (ls : List Str), σ' = [some (.int c), some (.str nm), some (.ref np), some (.ref hp), some (.ref pl), none, some (.ref tl), some (.ref sl), some (.ref ml), some (.int (0 + (i : Int))), some (.ref lf), fd, none, none] ∧ NsL K H' lf ls ∧ Left ns th.length (decide (i = 0)) ls) (fun D' hrt hD' => ?_) fun σ' H8 hσ => ?_
      · have no := hD' _ _ ⟨Same.refl H7, l0, _, rfl, SqL.of e6, .inl rfl⟩
        refine ⟨_, rfl, _, _, rfl, rfl, _, rfl, ?_⟩
        refine ite2 (fun hi0 => ?_) fun _ => iteN (by decide) no
        have hi0 : i ≠ 0 := fun e => by
          have := of_decide_eq_true hi0
          omega
        refine ⟨_, rfl, _, rfl, _, _, rfl, rfl, ?_⟩
        refine ⟨_, _, rfl, fun r2 => ⟨_, _, rfl, rfl, ⟨by decide, by decide⟩, _, _, rfl, rfl, (by show (0 : Int) < _; decide), rfl, _, rfl, ?_⟩⟩
        refine ite2 (fun _ => ?_) fun _ => no
        refine ⟨_, rfl, l0, rfl, ⟨_, SqL.of e6⟩, ?_⟩
        refine lc_fn (K := K) (walk_list (K := K) (a := l0) (xs := (ns.drop th.length).map V.str)) (ns.drop th.length) (by rw [List.length_map]) (by rw [List.length_drop]; omega) (fun n => V.str (("m." : Str) ++ n)) (fun _ s => Same.ls s (SqL.of e6)) (fun j n x H8 H9 hj s8 y Nx kx => ?_) mono_name fun D H8 hD s8 ha8 => ?_
        · obtain ⟨rfl, hx⟩ := y
          rw [List.getElem?_map, hj] at hx
          obtain rfl := Option.some.inj hx
          have hn := (N.pl n (List.mem_of_mem_drop (List.mem_of_getElem? hj))).le
          have e2 : ("m." : Str).length = 2 := by decide +kernel
          exact ⟨rfl, _, rfl, _, _, rfl, rfl, Nat.le_trans (by rw [e2]; omega : _ ≤ 10) (by decide), kx _ (Same.refl _)⟩
        · exact hD' _ _ ⟨s8, D, (ns.drop th.length).map fun n => ("m." : Str) ++ n, rfl, SqL.of (by rw [ha8, List.map_map]; rfl), .inr ⟨decide_eq_false hi0, rfl⟩⟩
      obtain ⟨s8, lf2, ls, rfl, hls, L⟩ := hσ
      have s58 := s6.trans s8
      have lsl : 3 ≤ ls.length := by
        rw [L.len]
        omega
      refine ⟨_, rfl, lf2, _, rfl, .inl hls, _, _, rfl, rfl, _, rfl, iteI (decide_eq_true (by rw [List.length_map]; omega)) ?_⟩
      -- the step
      have hLn := L.nm N
      have hys8 := hys.sm s58.sm
      refine ⟨_, rfl, .inl ⟨rfl, _, SqL.of (s58 _ _ e5s)⟩, _, rfl, _, rfl, _, _, rfl, rfl, _, _, rfl, fun r3 => ⟨_, rfl, _, rfl, _, rfl, ?_⟩⟩
      refine ⟨_, tl, hp, lf2, xs, th, hs, ls, rfl, SqL.of (s58 _ _ e5t), hxs.sm s58.sm, hhp.same (s5.trans s58), hhs, hls, S.at_.nodup N, S.at_.nm N, S.pt, by omega, fun z hz => (hLn z hz).1, lsl, fun v H9 s0 s9 hv sok sg made => ?_⟩
      have s59 := s58.trans s9
      have lys := hys.length
      rw [List.length_map] at lys
      have ssl := S.sl
      refine ⟨sl, _, _, rfl, rfl, s59 _ _ e5s, Nat.lt_of_le_of_lt (by omega : _ ≤ 10) (by decide), ?_⟩
      have m10 : Sm K H9 (upd H9 sl (.lst (ys ++ [v]))) := Sm.lst (s59 _ _ e5s)
      have s10 : Same H (upd H9 sl (.lst (ys ++ [v]))) := Same.mut (s5.trans s59) hslH
      have e10s : (upd H9 sl (.lst (ys ++ [v]))) sl = some (.lst (ys ++ [v])) := upd_same
      have e10t : (upd H9 sl (.lst (ys ++ [v]))) tl = some (.lst xs) := by rw [upd_ne ntl]; exact s59 _ _ e5t
      have e10m : (upd H9 sl (.lst (ys ++ [v]))) ml = some (.lst zs) := by rw [upd_ne nml]; exact s59 _ _ e5m
      have e10p : (upd H9 sl (.lst (ys ++ [v]))) pl = some (.lst ((ns.take kp).map V.str)) := by rw [upd_ne npl]; exact s59 _ _ e5p
      have hys10 : DtA K (upd H9 sl (.lst (ys ++ [v]))) (ys ++ [v]) ((sts ++ [s0]).map Stp.dr) := by
        rw [List.map_append]
        exact ((hys.sm s59.sm).snoc hv).sm m10
      have hv10 := hv.sm m10
      have hxs10 := (hxs.sm s59.sm).sm m10
      have hzs10 := (hzs.sm s59.sm).sm m10
      generalize upd H9 sl (.lst (ys ++ [v])) = H10 at m10 s10 e10s e10t e10m e10p hys10 hv10 hxs10 hzs10 ⊢
      -- what it makes
      refine ⟨_, rfl, _, rfl, sl, _, _, _, rfl, rfl, SqL.of e10s, atI_last _ _, _, rfl, v, hp, s0, hs, ls, rfl, hv10, hhp.same s10, hhs, by omega, sg, made, lsl, fun fl H11 fs fo s11 hfl e11f hfo f1 f3 ff fso => ?_⟩
      have lfs := hfo.length
      have lfo : (dTh fo).length = fo.length := by unfold dTh; rw [List.length_map]
      rw [lfo] at lfs
      have lzs := hzs.length
      have lmk : (dTh mk).length = mk.length := by unfold dTh; rw [List.length_map]
      rw [lmk] at lzs
      have mll := S.ml
      refine ⟨_, rfl, _, rfl, tl, fl, _, _, rfl, rfl, s11 _ _ e10t, e11f, Nat.le_trans (by omega : _ ≤ 100) (by decide), fun tl2 htl2 => ?_⟩
      have s12 := Same.new (o := .lst (xs ++ fs)) htl2
      have e12t : (upd H11 tl2 (.lst (xs ++ fs))) tl2 = some (.lst (xs ++ fs)) := upd_same
      have ntl2 : tl2 ≠ sl := fun e => by rw [e, s11 _ _ e10s] at htl2; cases htl2
      generalize upd H11 tl2 (.lst (xs ++ fs)) = H12 at s12 e12t ⊢
      refine ⟨_, rfl, _, rfl, ml, fl, _, _, rfl, rfl, s12 _ _ (s11 _ _ e10m), s12 _ _ e11f, Nat.le_trans (by omega : _ ≤ 100) (by decide), fun ml2 hml2 => ?_⟩
      have s13 := Same.new (o := .lst (zs ++ fs)) hml2
      have e13m : (upd H12 ml2 (.lst (zs ++ fs))) ml2 = some (.lst (zs ++ fs)) := upd_same
      have nml2 : ml2 ≠ sl := fun e => by rw [e, s12 _ _ (s11 _ _ e10s)] at hml2; cases hml2
      have s1113 := s11.trans (s12.trans s13)
      have dth_app : ∀ a b : Th, dTh (a ++ b) = dTh a ++ dTh b := fun a b => by unfold dTh; rw [List.map_append]
      refine ⟨tl2, ml2, some (.int (0 + (i : Int))), some (.ref lf2), some (.ref fl), xs ++ fs, zs ++ fs, ys ++ [v], th ++ fo, mk ++ fo, sts ++ [s0], rfl, s10.trans s1113, s1113 _ _ e10s, hys10.sm s1113.sm, s13 _ _ e12t, ?_, e13m, ?_, ntl2, nml2, s1113 _ _ e10p, S.step N L sok sg f1 f3 ff fso⟩
      · rw [dth_app]
        exact (hxs10.sm s1113.sm).append (hfo.sm (s12.trans s13).sm)
      · rw [dth_app]
        exact (hzs10.sm s1113.sm).append (hfo.sm (s12.trans s13).sm)
    obtain ⟨tl, ml, kv, lf, fd, xs, zs, ys, th, mk, sts, rfl, s5, e5s, hys, e5t, hxs, e5m, hzs, ntl, nml, e5p, S⟩ := q
    obtain ⟨t0, mr, emk, hpt0⟩ := S.m1 hn5.2
    have lzs := hzs.length
    have lmk : (dTh mk).length = mk.length := by unfold dTh; rw [List.length_map]
    rw [lmk] at lzs
    have mll := S.ml
    have mkp : 0 < mk.length := by rw [emk]; exact Nat.succ_pos _
    -- told_names
    refine ⟨_, rfl, 1, rfl, ml, _, rfl, SqL.of e5m, fun ol hol => ?_⟩
    have hcut : cutV zs none (some 1) = zs.take 1 := cutV_to zs 1
    rw [hcut]
    have s6 := Same.new (o := .lst (zs.take 1)) hol
    have e6 : (upd H5 ol (.lst (zs.take 1))) ol = some (.lst (zs.take 1)) := upd_same
    have holH : H ol = none := Same.back s5 hol
    have nol : sl ≠ ol ∧ ml ≠ ol ∧ pl ≠ ol := ⟨fun e => (by rw [← e, e5s] at hol; cases hol), fun e => (by rw [← e, e5m] at hol; cases hol), fun e => (by rw [← e, e5p] at hol; cases hol)⟩
    have hto : DtA K (upd H5 ol (.lst (zs.take 1))) (zs.take 1) (dTh (mk.take 1)) := by
      refine (DtA.sm (Same.sm s6) (?_ : DtA K H5 (zs.take 1) (dTh (mk.take 1))))
      unfold dTh
      rw [List.map_take]
      refine dta_of (by rw [List.length_take, List.length_take, lzs, List.length_map]) fun j x d a b => ?_
      rw [List.getElem?_take] at a b
      split at a
      · rename_i hj
        rw [if_pos hj] at b
        obtain ⟨d2, h1, h2⟩ := hzs.get a
        unfold dTh at h1
        rw [b] at h1
        obtain rfl := Option.some.inj h1
        exact h2
      · cases a
    have f6s := s6 _ _ e5s
    have f6m := s6 _ _ e5m
    have f6p := s6 _ _ e5p
    have hzs6 := hzs.sm s6.sm
    have hys6 := hys.sm s6.sm
    have s56 := s5.trans s6
    generalize upd H5 ol (.lst (zs.take 1)) = H6 at s6 e6 hto f6s f6m f6p hzs6 hys6 s56 ⊢
    refine ⟨_, rfl, _, _, rfl, fun r4 => ⟨_, _, rfl, rfl, ⟨by decide, by decide⟩, _, _, rfl, rfl, (by show (0 : Int) < _; decide), ((r4 : Nat) : Int) / 7 % 3, rfl, ?_, ?_, ?_⟩⟩
    · show -(2 ^ 62) ≤ ((r4 : Nat) : Int) / 7 % 3
      omega
    · show ((r4 : Nat) : Int) / 7 % 3 < 2 ^ 62
      omega
    have hn2 : (((r4 : Nat) : Int) / 7 % 3).toNat ≤ 2 := by omega
    generalize (((r4 : Nat) : Int) / 7 % 3).toNat = n2 at hn2
    refine for_it (walk_range (lo := 0) (n := n2)) (fun i σ H' => ∃ (kv ov : Option V) (os : List V) (to : Th),
      σ = [some (.int c), some (.str nm), some (.ref np), some (.ref hp), some (.ref pl), ov, some (.ref tl), some (.ref sl), some (.ref ml), kv, lf, fd, some (.ref ol), none] ∧ Same H H' ∧ H' sl = some (.lst ys) ∧ DtA K H' ys (sts.map Stp.dr) ∧
      H' ml = some (.lst zs) ∧ DtA K H' zs (dTh mk) ∧ H' pl = some (.lst ((ns.take kp).map V.str)) ∧ H' ol = some (.lst os) ∧ DtA K H' os (dTh to) ∧ 1 ≤ to.length ∧ to.length ≤ 1 + i ∧ ∀ t ∈ to, Pl t.1 ∧ PyData.strOk t.2 = true)
      ⟨kv, none, _, mk.take 1, rfl, s56, f6s, hys6, f6m, hzs6, f6p, e6, hto, by rw [List.length_take]; omega, by rw [List.length_take]; omega, fun t ht => ?_⟩ (fun _ _ _ _ _ => trivial) (fun i x σ H7 H8 hi q y => ?_) fun σ H7 q => ?_
    · rw [emk] at ht
      have : t = t0 := List.mem_singleton.mp ht
      rw [this]
      exact ⟨hpt0, (S.mo t0 (by rw [emk]; exact List.mem_cons_self)).2.2⟩
    · obtain ⟨kv, ov, os, to, rfl, s7, g7s, hys7, g7m, hzs7, g7p, g7o, hto7, t1, t2, tpl⟩ := q
      obtain ⟨rfl, rfl⟩ := y
      have hj : ∀ r : Nat, r / 7 % mk.length < mk.length := fun r => Nat.mod_lt _ mkp
      refine ⟨_, rfl, _, rfl, _, rfl, _, _, rfl, rfl, _, _, rfl, fun r5 => ?_⟩
      have hjj := hj r5
      generalize hje : r5 / 7 % mk.length = j at hjj
      obtain ⟨x1, hx1⟩ : ∃ x1, zs[j]? = some x1 := ⟨_, List.getElem?_eq_getElem (by omega)⟩
      obtain ⟨q1, rfl, hq1⟩ := th_at hzs7 (List.getElem?_eq_getElem hjj) hx1
      have hmo := S.mo mk[j] (List.getElem_mem hjj)
      generalize mk[j] = tt at hq1 hmo
      refine ⟨_, _, rfl, rfl, ⟨by decide, by decide⟩, _, rfl, ml, _, rfl, .inl (SqL.of g7m), _, _, rfl, rfl, (by show (0 : Int) < _; omega), ml, _, _, V.ref q1, rfl, rfl, SqL.of g7m, ?_, ?_⟩
      · show atI zs (((r5 : Nat) : Int) / 7 % ((zs.length : Nat) : Int)) = some (V.ref q1)
        rw [lzs, modN mkp, hje]
        exact atI_nat hx1
      have no : ∀ σ', σ' = [some (V.int c), some (V.str nm), some (V.ref np), some (V.ref hp), some (V.ref pl), some (V.ref q1), some (V.ref tl), some (V.ref sl), some (V.ref ml), some (V.int (0 + (i : Int))), lf, fd, some (V.ref ol), none] → ∃ (kv ov : Option V) (os : List V) (to : Th),
          σ' = [some (.int c), some (.str nm), some (.ref np), some (.ref hp), some (.ref pl), ov, some (.ref tl), some (.ref sl), some (.ref ml), kv, lf, fd, some (.ref ol), none] ∧ Same H H8 ∧ H8 sl = some (.lst ys) ∧ DtA K H8 ys (sts.map Stp.dr) ∧
          H8 ml = some (.lst zs) ∧ DtA K H8 zs (dTh mk) ∧ H8 pl = some (.lst ((ns.take kp).map V.str)) ∧ H8 ol = some (.lst os) ∧ DtA K H8 os (dTh to) ∧ 1 ≤ to.length ∧ to.length ≤ 1 + (i + 1) ∧ ∀ t ∈ to, Pl t.1 ∧ PyData.strOk t.2 = true := fun σ' e =>
        ⟨some (.int (0 + (i : Int))), some (.ref q1), os, to, e, s7, g7s, hys7, g7m, hzs7, g7p, g7o, hto7, t1, by omega, tpl⟩
      have h1sok : PyData.strOk tt.1 = true := hmo.1.sok
      have tso : ∀ t ∈ to, PyData.strOk t.1 = true := fun t ht => (tpl t ht).1.nm.sok
      refine ⟨_, rfl, _, rfl, .tuple [.str tt.1, .str tt.2], dTh to, .tup hq1 (.cons (.str _) (.cons (.str _) .nil)), .lst (SqL.of g7o) hto7.dp, dth1_shaped h1sok hmo.2.2, dth_shaped tso fun t ht => (tpl t ht).2, _, rfl, ?_⟩
      refine ite2 (fun _ => ?_) fun _ => iteN (by decide) (no _ rfl)
      refine ⟨_, rfl, q1, _, 0, _, rfl, rfl, hq1, atV _ _, 46, _, ?_, rfl, _, rfl, ?_⟩
      · show V.str ("." : Str) = V.str ⟨#[46]⟩
        rfl
      refine ite2 (fun hd => ?_) fun _ => no _ rfl
      have hnd : 46 ∉ TL.tl tt.1 := fun z => by
        rw [decide_eq_true (show 46 ∈ tt.1.cps.toList from z)] at hd
        exact nomatch hd
      have hpt := hmo.2.1 hnd
      refine ⟨_, rfl, .inl ⟨rfl, _, SqL.of g7o⟩, _, rfl, ol, _, _, rfl, rfl, g7o, ?_, ?_⟩
      · have := hto7.length
        unfold dTh at this
        rw [List.length_map] at this
        rw [this]
        exact Nat.lt_of_le_of_lt (by omega : _ ≤ 10) (by decide)
      have m9 : Sm K H8 (upd H8 ol (.lst (os ++ [V.ref q1]))) := Sm.lst g7o
      refine ⟨some (.int (0 + (i : Int))), some (.ref q1), os ++ [V.ref q1], to ++ [tt], rfl, Same.mut s7 holH, by rw [upd_ne nol.1]; exact g7s, hys7.sm m9, by rw [upd_ne nol.2.1]; exact g7m, hzs7.sm m9, by rw [upd_ne nol.2.2]; exact g7p, upd_same, ?_, by rw [List.length_append]; omega, by rw [List.length_append]; show _ + 1 ≤ _; omega, fun t ht => ?_⟩
      · have e : dTh (to ++ [tt]) = dTh to ++ [.tuple [.str tt.1, .str tt.2]] := by unfold dTh; rw [List.map_append]; rfl
        rw [e]
        exact (hto7.snoc (dt_tup hq1 (dta_cons dt_str (dta_cons dt_str dta_nil)))).sm m9
      · rcases List.mem_append.mp ht with ht | ht
        · exact tpl t ht
        · rw [List.mem_singleton.mp ht]
          exact ⟨hpt, hmo.2.2⟩
    obtain ⟨kv, ov, os, to, rfl, s7, g7s, hys7, g7m, hzs7, g7p, g7o, hto7, t1, t2, tpl⟩ := q
    have los := hto7.length
    have lto : (dTh to).length = to.length := by unfold dTh; rw [List.length_map]
    rw [lto] at los
    -- the part and the row
    refine ⟨_, rfl, _, rfl, pl, _, rfl, .inl (SqL.of g7p), fun pt H8 s8 hpt8 => ?_⟩
    have g8o := s8 _ _ g7o
    have hto8 := hto7.sm s8.sm
    refine ⟨_, rfl, ol, rfl, ⟨_, SqL.of g8o⟩, ?_⟩
    refine lc_fn (K := K) (walk_list (K := K) (a := ol) (xs := os)) to los (by omega) (fun t => V.str t.1) (fun _ s => Same.ls s (SqL.of g8o)) (fun j t x H9 H10 hj s9 y Nx kx => ?_) mono_pair fun D9 H9 hD9 s9 ha9 => ?_
    · obtain ⟨rfl, hx⟩ := y
      obtain ⟨q, rfl, hq⟩ := th_at (hto8.sm s9.sm) hj hx
      exact ⟨q, _, rfl, hq, rfl, _, _, rfl, _, _, rfl, rfl, rfl, _, rfl, kx _ (Same.refl _)⟩
    refine ⟨D9, _, rfl, .inl (SqL.of ha9), fun at_ H10 s10 hat => ?_⟩
    have s810 := s8.trans (s9.trans s10)
    refine ⟨_, rfl, sl, _, rfl, .inl (SqL.of (s810 _ _ g7s)), fun st H11 s11 hst => ?_⟩
    refine ⟨by show 5 ≤ sizeLine; decide, fun v1 hv1 => ?_⟩
    have s12 := Same.new (o := .tup [V.str "helper", V.str nm, V.ref pt, V.ref at_, V.ref st]) hv1
    have hdr : Dt K (upd H11 v1 (.tup [V.str "helper", V.str nm, V.ref pt, V.ref at_, V.ref st])) (.ref v1) (Prt.hlp nm (ns.take kp) (to.map (·.1)) sts).dr := by
      refine dt_tup (SqT.of upd_same) (dta_cons dt_str (dta_cons dt_str (dta_cons (dt_ns (Same.t (s9.trans (s10.trans (s11.trans s12))) hpt8)) (dta_cons (dt_ns (Same.t (s11.trans s12) (SqT.cast hat ?_))) (dta_cons (dt_tup (Same.t s12 hst) (hys7.sm (s810.trans (s11.trans s12)).sm)) dta_nil)))))
      rw [List.map_map]
      rfl
    generalize upd H11 v1 (.tup [V.str "helper", V.str nm, V.ref pt, V.ref at_, V.ref st]) = H12 at s12 hdr ⊢
    have s712 := s810.trans (s11.trans s12)
    have g12o := s712 _ _ g7o
    have hto12 := hto7.sm s712.sm
    refine ⟨_, rfl, _, rfl, pl, _, rfl, .inl (SqL.of (s712 _ _ g7p)), _, rfl, ol, rfl, ⟨_, SqL.of g12o⟩, ?_⟩
    refine lc_fn (K := K) (walk_list (K := K) (a := ol) (xs := os)) to los (by omega) (fun t => V.str t.2) (fun _ s => Same.ls s (SqL.of g12o)) (fun j t x H9 H10 hj s9 y Nx kx => ?_) mono_pair fun kl H13 hkl s13 ha13 => ?_
    · obtain ⟨rfl, hx⟩ := y
      obtain ⟨q, rfl, hq⟩ := th_at (hto12.sm s9.sm) hj hx
      exact ⟨q, _, rfl, hq, rfl, _, _, rfl, _, _, rfl, rfl, rfl, _, rfl, kx _ (Same.refl _)⟩
    refine ⟨by show 3 ≤ sizeLine; decide, fun ra hra => ?_⟩
    have s14 := Same.new (o := .tup [V.str nm, V.int ((((ns.take kp).map V.str).length : Nat) : Int), V.ref kl]) hra
    have g14 : SqT K (upd H13 ra (.tup [V.str nm, V.int ((((ns.take kp).map V.str).length : Nat) : Int), V.ref kl])) ra [V.str nm, V.int ((((ns.take kp).map V.str).length : Nat) : Int), V.ref kl] := SqT.of upd_same
    have k14 := s14 _ _ ha13
    generalize upd H13 ra (.tup [V.str nm, V.int ((((ns.take kp).map V.str).length : Nat) : Int), V.ref kl]) = H14 at s14 g14 k14 ⊢
    refine ⟨by show 2 ≤ sizeLine; decide, fun rq hrq => ?_⟩
    have s15 := Same.new (o := .tup [V.ref v1, V.ref ra]) hrq
    have sall := s7.trans (s712.trans (s13.trans (s14.trans s15)))
    have pne : ns.take kp ≠ [] := fun e => by rw [e] at pll; exact absurd pll (by show ¬ (0 = kp); omega)
    have tne : to.map (·.1) ≠ [] := fun e => by
      have := congrArg List.length e
      rw [List.length_map] at this
      have : to.length = 0 := this
      omega
    have tl3 : to.length ≤ 3 := by omega
    refine kk rq _ (.ref v1) ⟨ra, nm, kp, kl, to.map (·.2)⟩ (ns.take kp) (to.map (·.1)) sts sall (SqT.of upd_same) (hdr.sm (s13.trans (s14.trans s15)).sm) ⟨hnm, ppl, fun z hz => ?_, pne, by omega, tne, by rw [List.length_map]; exact tl3, Nat.le_trans S.sl hn5.1, S.so⟩ ⟨Same.t s15 ?_, SqL.of ?_⟩ ⟨hnm, hk0, hk1, by rw [List.length_map]; exact t1, by rw [List.length_map]; exact tl3, fun k hk => ?_⟩ (Same.back (s7.trans s712) hkl) (by
      rw [s15 _ _ k14, List.map_map]
      rfl)
    · obtain ⟨t, ht, rfl⟩ := List.mem_map.mp hz
      exact (tpl t ht).1
    · rw [List.length_map, pll] at g14
      exact g14
    · rw [s15 _ _ k14, List.map_map]
      rfl
    · obtain ⟨t, ht, rfl⟩ := List.mem_map.mp hk
      exact (tpl t ht).2
end
end Rod
set_option Elab.async false
set_option linter.all false
set_option maxRecDepth 100000
set_option maxHeartbeats 4000000
namespace Rod
open PySem PySem.Spec PyProof.Rows L2 TL
theorem ifS_no {c : TT} {t u : TS} {D : Ends} {σ : L2.St} {H : Hp} (h : ∀ Q : Bool → Hp → Prop, (∀ H', Same H H' → Q false H') → c σ H Q) (k : ∀ H', Same H H' → u D σ H') : tIfS c t u D σ H := h _ fun H' s => iteN (by decide) (k H' s)
/-! ### the names ahead of which points may stand -/
theorem ab_tl : tl ("a.b." : Str) = [97, 46, 98, 46] := by decide +kernel
theorem pl_one {z : Str} {c : Nat} (h : tl z = [c]) (hc : isLow c) (nk : z ∉ kept) : Pl z := ⟨by rw [len_tl, h]; show 1 ≤ 8; decide, nk, ⟨c, [], h, hc⟩, fun d hd => by rw [h] at hd; rw [List.mem_singleton.mp hd]; exact .inl hc⟩
theorem pl_a : Pl ("a" : Str) := pl_one (c := 97) (by decide +kernel) ⟨by decide, by decide⟩ (by decide +kernel)
theorem pl_b : Pl ("b" : Str) := pl_one (c := 98) (by decide +kernel) ⟨by decide, by decide⟩ (by decide +kernel)
def Ahead (a : Str) : Prop := a = "" ∨ a = "m." ∨ a = "a.b."
theorem Ahead.nm {a n : Str} (h : Ahead a) (hn : Pl n) : Nm (a ++ n) ∧ (a ++ n).length ≤ 12 := by
  have hl := hn.le
  rcases h with rfl | rfl | rfl
  · have e : ("" : Str) ++ n = n := ext_tl (by rw [tl_append, empty_tl]; rfl)
    rw [e]
    exact ⟨hn.nm, by omega⟩
  · refine ⟨nm_mdot hn, ?_⟩
    rw [Str.length_append]
    have e : ("m." : Str).length = 2 := by decide +kernel
    omega
  · have e : ("a.b." : Str).length = 4 := by decide +kernel
    refine ⟨⟨by rw [Str.length_append]; omega, ["a", "b", n], by simp, allC pl_a (allC pl_b (allC hn allN)), ext_tl ?_⟩, by rw [Str.length_append]; omega⟩
    rw [tl_append, join_eq, tl_join, dot_tl, ab_tl]
    have e1 : tl ("a" : Str) = [97] := by decide +kernel
    have e2 : tl ("b" : Str) = [98] := by decide +kernel
    show _ = joinL [46] [tl ("a" : Str), tl ("b" : Str), tl n]
    rw [e1, e2]
    rfl
structure Outer (os : List Str) : Prop where
  len : os.length = 27
  nm : ∀ z ∈ os, Nm z ∧ z.length ≤ 12
  nd : os.Nodup
theorem outer_ok {a : Str} {ns : List Str} (h : Ahead a) (N : Names ns) : Outer (ns.map fun n => a ++ n) := by
  refine ⟨by rw [List.length_map]; exact N.len, fun z hz => ?_, ?_⟩
  · obtain ⟨n, hn, rfl⟩ := List.mem_map.mp hz
    exact h.nm (N.pl n hn)
  · rw [List.nodup_iff_pairwise_ne, List.pairwise_map]
    refine List.Pairwise.imp (fun {x y} hne e => hne ?_) (List.nodup_iff_pairwise_ne.mp N.nd)
    have q := congrArg tl e
    rw [tl_append, tl_append] at q
    exact ext_tl (List.append_cancel_left q)
theorem Names.rev {ns : List Str} (N : Names ns) : Names ns.reverse := ⟨by rw [List.length_reverse]; exact N.len, fun n hn => N.pl n (List.mem_reverse.mp hn), by
  rw [List.nodup_iff_pairwise_ne, List.pairwise_reverse]
  exact List.Pairwise.imp (fun h => Ne.symm h) (List.nodup_iff_pairwise_ne.mp N.nd)⟩
structure PSt (os : List Str) (th : Th) (ps : List Prt) : Prop where
  at_ : th.map (·.1) = os.take th.length
  le : th.length ≤ 27
  ok : ∀ p ∈ ps, p.ok
theorem PSt.nd {os : List Str} {th : Th} {ps : List Prt} (h : PSt os th ps) (O : Outer os) : (th.map (·.1)).Nodup := by
  rw [h.at_]
  exact List.Nodup.sublist (List.take_sublist _ _) O.nd
theorem PSt.nm {os : List Str} {th : Th} {ps : List Prt} (h : PSt os th ps) (O : Outer os) : ∀ z ∈ th.map (·.1), Nm z := fun z hz => by
  rw [h.at_] at hz
  exact (O.nm z (List.mem_of_mem_take hz)).1
theorem PSt.more {os : List Str} {th fo : Th} {ps : List Prt} (h : PSt os th ps) (O : Outer os) (ff : fo.map (·.1) = (os.drop th.length).take fo.length) {p : Prt} (hp : p.ok) : PSt os (th ++ fo) (ps ++ [p]) := by
  have hl : fo.length ≤ 27 - th.length := by
    have := congrArg List.length ff
    rw [List.length_map, List.length_take, List.length_drop, O.len] at this
    omega
  have := h.le
  refine ⟨?_, by rw [List.length_append]; omega, fun q hq => ?_⟩
  · rw [List.map_append, h.at_, ff, List.length_append, List.take_add]
  · rcases List.mem_append.mp hq with hq | hq
    · exact h.ok q hq
    · rw [List.mem_singleton.mp hq]; exact hp
section
variable {P : Program} {w : World} {K : PySem.W.Frag} {mg : Str → Option Value} {base : Heap} {H H' : Hp}
theorem sql_upd {p l : Addr} {xs : List V} {o : HO} (h : SqL K H l xs) (hn : l ≠ p) : SqL K (upd H p o) l xs := by
  rcases h with h | h
  · rcases h with h | ⟨o', h⟩
    · exact .inl (.inl (by rw [upd_ne hn]; exact h))
    · exact .inl (.inr ⟨o', by rw [upd_ne hn]; exact h⟩)
  · exact .inr h
structure PH (K : PySem.W.Frag) (H : Hp) (pl tl hl np ol : Addr) (ns os : List Str) (ps : List Prt) (th : Th) (hs : List HR) (xs ys : List V) : Prop where
  p : H pl = some (.lst xs)
  pd : DtA K H xs (ps.map Prt.dr)
  t : H tl = some (.lst ys)
  td : DtA K H ys (dTh th)
  h : H hl = some (.lst (hs.map fun h => V.ref h.a))
  r : ∀ x ∈ hs, HrAt K H x ∧ HrOk x ∧ x.l ≠ pl ∧ x.l ≠ tl ∧ x.l ≠ hl
  rl : ∀ x ∈ hs, H x.l = some (.lst (x.ks.map V.str))
  n : H np = some (.lst (ns.map V.str))
  o : H ol = some (.lst (os.map V.str))
  pt : pl ≠ tl
  ph : pl ≠ hl
  th_ : tl ≠ hl
  np_ : np ≠ pl ∧ np ≠ tl ∧ np ≠ hl
  op_ : ol ≠ pl ∧ ol ≠ tl ∧ ol ≠ hl
variable {pl tl hl np ol : Addr} {ns os : List Str} {ps : List Prt} {th : Th} {hs : List HR} {xs ys : List V}
theorem PH.same (x : PH K H pl tl hl np ol ns os ps th hs xs ys) (s : Same H H') : PH K H' pl tl hl np ol ns os ps th hs xs ys :=
  ⟨s _ _ x.p, x.pd.sm s.sm, s _ _ x.t, x.td.sm s.sm, s _ _ x.h, fun y hy => ⟨(x.r y hy).1.same s, (x.r y hy).2⟩, fun y hy => s _ _ (x.rl y hy), s _ _ x.n, s _ _ x.o, x.pt, x.ph, x.th_, x.np_, x.op_⟩
theorem PH.hp (x : PH K H pl tl hl np ol ns os ps th hs xs ys) : HpL K H hl hs := ⟨SqL.of x.h, fun y hy => (x.r y hy).1⟩
theorem PH.addP (x : PH K H pl tl hl np ol ns os ps th hs xs ys) {v : V} {q : Prt} (hv : Dt K H v q.dr) : PH K (upd H pl (.lst (xs ++ [v]))) pl tl hl np ol ns os (ps ++ [q]) th hs (xs ++ [v]) ys := by
  have m : Sm K H (upd H pl (.lst (xs ++ [v]))) := Sm.lst x.p
  refine ⟨upd_same, ?_, by rw [upd_ne (Ne.symm x.pt)]; exact x.t, x.td.sm m, by rw [upd_ne (Ne.symm x.ph)]; exact x.h, fun y hy => ⟨⟨m.t (x.r y hy).1.1, sql_upd (x.r y hy).1.2 (x.r y hy).2.2.1⟩, (x.r y hy).2⟩, fun y hy => (by rw [upd_ne (x.r y hy).2.2.1]; exact x.rl y hy), by rw [upd_ne x.np_.1]; exact x.n, by rw [upd_ne x.op_.1]; exact x.o, x.pt, x.ph, x.th_, x.np_, x.op_⟩
  rw [List.map_append]
  exact (x.pd.snoc hv).sm m
theorem PH.addT (x : PH K H pl tl hl np ol ns os ps th hs xs ys) {v : V} {t : Str × Str} (hv : Dt K H v (.tuple [.str t.1, .str t.2])) : PH K (upd H tl (.lst (ys ++ [v]))) pl tl hl np ol ns os ps (th ++ [t]) hs xs (ys ++ [v]) := by
  have m : Sm K H (upd H tl (.lst (ys ++ [v]))) := Sm.lst x.t
  refine ⟨by rw [upd_ne x.pt]; exact x.p, x.pd.sm m, upd_same, ?_, by rw [upd_ne (Ne.symm x.th_)]; exact x.h, fun y hy => ⟨⟨m.t (x.r y hy).1.1, sql_upd (x.r y hy).1.2 (x.r y hy).2.2.2.1⟩, (x.r y hy).2⟩, fun y hy => (by rw [upd_ne (x.r y hy).2.2.2.1]; exact x.rl y hy), by rw [upd_ne x.np_.2.1]; exact x.n, by rw [upd_ne x.op_.2.1]; exact x.o, x.pt, x.ph, x.th_, x.np_, x.op_⟩
  unfold dTh
  rw [List.map_append]
  exact (x.td.snoc hv).sm m
theorem PH.addH (x : PH K H pl tl hl np ol ns os ps th hs xs ys) {h : HR} (ha : HrAt K H h) (hok : HrOk h) (n1 : h.l ≠ pl) (n2 : h.l ≠ tl) (n3 : h.l ≠ hl) (hl4 : H h.l = some (.lst (h.ks.map V.str))) : PH K (upd H hl (.lst ((hs.map fun h => V.ref h.a) ++ [V.ref h.a]))) pl tl hl np ol ns os ps th (hs ++ [h]) xs ys := by
  have m : Sm K H (upd H hl (.lst ((hs.map fun h => V.ref h.a) ++ [V.ref h.a]))) := Sm.lst x.h
  refine ⟨by rw [upd_ne x.ph]; exact x.p, x.pd.sm m, by rw [upd_ne x.th_]; exact x.t, x.td.sm m, by rw [upd_same, List.map_append]; rfl, fun y hy => ?_, fun y hy => ?_, by rw [upd_ne x.np_.2.2]; exact x.n, by rw [upd_ne x.op_.2.2]; exact x.o, x.pt, x.ph, x.th_, x.np_, x.op_⟩
  · rcases List.mem_append.mp hy with hy | hy
    · exact ⟨⟨m.t (x.r y hy).1.1, sql_upd (x.r y hy).1.2 (x.r y hy).2.2.2.2⟩, (x.r y hy).2⟩
    · rw [List.mem_singleton.mp hy]
      exact ⟨⟨m.t ha.1, sql_upd ha.2 n3⟩, hok, n1, n2, n3⟩
  · rcases List.mem_append.mp hy with hy | hy
    · rw [upd_ne (x.r y hy).2.2.2.2]
      exact x.rl y hy
    · rw [List.mem_singleton.mp hy, upd_ne n3]
      exact hl4
theorem PH.newT (x : PH K H pl tl hl np ol ns os ps th hs xs ys) {tl2 : Addr} (h2 : H tl2 = none) {fs : List V} {fo : Th} (hv : DtA K H fs (dTh fo)) : PH K (upd H tl2 (.lst (ys ++ fs))) pl tl2 hl np ol ns os ps (th ++ fo) hs xs (ys ++ fs) := by
  have s : Same H (upd H tl2 (.lst (ys ++ fs))) := Same.new h2
  have ne : ∀ {b : Addr} {o : HO}, H b = some o → b ≠ tl2 := fun e q => by rw [q, h2] at e; cases e
  refine ⟨s _ _ x.p, x.pd.sm s.sm, upd_same, ?_, s _ _ x.h, fun y hy => ⟨(x.r y hy).1.same s, (x.r y hy).2.1, (x.r y hy).2.2.1, ne (x.rl y hy), (x.r y hy).2.2.2.2⟩, fun y hy => s _ _ (x.rl y hy), s _ _ x.n, s _ _ x.o, ne x.p, x.ph, Ne.symm (ne x.h), ⟨x.np_.1, ne x.n, x.np_.2.2⟩, ⟨x.op_.1, ne x.o, x.op_.2.2⟩⟩
  unfold dTh
  rw [List.map_append]
  exact (x.td.append hv).sm s.sm
/-! ### _law_parts -/
def spLParts (K : PySem.W.Frag) : S1 := fun vs H Q => ∃ (a : Addr) (is : List Int), vs = [.ref a, .int 0, .int 20] ∧ SqL K H a (is.map V.int) ∧ is.length ≤ 1000 ∧
  ∀ p H' xs (ps : List Prt), Same H H' → H p = none → H' p = some (.lst xs) → DtA K H' xs (ps.map Prt.dr) → (∀ p ∈ ps, p.ok) → ps.length ≤ 22 → (∃ n x y r, ps = .stp (.give n x y) :: r ∧ Nm n ∧ n.length ≤ 12) → Q (.ref p) H'
abbrev N_L_parts : List Str := ["_law_script", "_law_first", "_law_most", "_law_names_here", "_law_ahead", "_law_outer", "_law_parts_here", "_law_there", "_law_helpers", "_law_k", "_law_cell", "_law_way", "_law_left", "_law_part", "_law_row_here", "_law_name"]
theorem sc_L_parts : FnScope N_L_parts ["_law_script", "_law_first", "_law_most"] (defScope s_L_parts) := ⟨rfl, rfl, rfl, by decide +kernel, rfl, by decide +kernel, by decide +kernel⟩
theorem give_ok {n : Str} {f g : Fr} (hn : Nm n) (hf : f.ok) (hg : g.ok) : (Stp.give n f g).ok := ⟨fun z hz => by rw [List.mem_singleton.mp hz]; exact hn, fun n' x y e => by injection e with _ e1 e2; rw [← e1, ← e2]; exact ⟨hf, hg⟩, fun _ _ _ e => nomatch e⟩
theorem ok_L_parts (T : Tx K mg) : GC P w K mg base 4 "_law_parts" (spLParts K) := by
  obtain ⟨fd, F⟩ := T.d_L_parts
  have bd : Binds K fd ["_law_script", "_law_first", "_law_most"] [] := F.bindsN fun _ _ _ _ _ _ us hl => match us, hl with | [_, _, _], _ => rfl
  have G_L_mixed := ok_L_mixed (P := P) (w := w) (base := base) T
  have G_L_cell_at := ok_L_cell_at (P := P) (w := w) (base := base) T
  have G_L_names := ok_L_names (P := P) (w := w) (base := base) T
  have G_L_fraction := ok_L_fraction (P := P) (w := w) (base := base) T
  have G_L_step := ok_L_step (P := P) (w := w) (base := base) T
  have G_L_kinds_made := ok_L_kinds_made (P := P) (w := w) (base := base) T
  have G_L_helper := ok_L_helper (P := P) (w := w) (base := base) T
  refine gc_fn (F.ok sc_L_parts (fun vs H Q E h => ?_) (fun cdv A outer s H vs Q E hr h => ?_)) T.g_L_parts F.kp bd
  · obtain ⟨_, _, rfl, _⟩ := h
    rfl
  · obtain ⟨a, is, rfl, ha, hil, kk⟩ := h
    have nd := sc_L_parts.nd
    refine ⟨_, PSs.nox (pss_cons (ps_set (i := 3) nd rfl (Or.inl rfl) (pe_gc G_L_names hr (by decide) rfl (pa_cons (pe_gc G_L_cell_at hr (by decide) rfl (pa_cons (pv 0) (pa_cons (pv 1) pa_nil))) (pa_cons pe_int pa_nil))))
    (pss_cons (ps_set (i := 4) nd rfl (Or.inr rfl) (pe_ix ix_list (pe_lst (pa_cons pe_str (pa_cons pe_str (pa_cons pe_str (pa_cons pe_str pa_nil))))) (pe_op op_mod (pe_op op_fdiv (pe_gc G_L_mixed hr (by decide) rfl (pa_cons (pe_gc G_L_cell_at hr (by decide) rfl (pa_cons (pv 0) (pa_cons (pv 1) pa_nil))) (pa_cons pe_int pa_nil))) pe_int) pe_int) (fun _ _ => rfl)))
    (pss_cons (ps_setLc (i := 5) (own := [("_law_name", 15)]) (by rfl) nd rfl rfl (sw_true rfl rfl rfl (by decide +kernel)) (pi_list (pv 3)) (blkOk_by (N := N_L_parts) (sc := defScope s_L_parts) (by decide +kernel)) (fun _ _ _ _ _ => (pg_name (i := 15) nd rfl (Or.inl rfl))) (fun _ _ _ _ _ => pts_nil) (fun _ _ _ _ _ => (pe_op op_add_str (pv 4) (pv 15))))
    (pss_cons (ps_set (i := 6) nd rfl (Or.inl rfl) (pe_lst pa_nil))
    (pss_cons (ps_set (i := 7) nd rfl (Or.inl rfl) (pe_lst pa_nil))
    (pss_cons (ps_set (i := 8) nd rfl (Or.inl rfl) (pe_lst pa_nil))
    (pss_cons (ps_for PassesOwn.never rfl (pi_range1 (by rfl) T.f_range (pa_cons pe_int pa_nil)) (pg_name (i := 9) nd rfl (Or.inl rfl))
      (pss_cons (ps_set (i := 10) nd rfl (Or.inl rfl) (pe_gc G_L_mixed hr (by decide) rfl (pa_cons (pe_gc G_L_cell_at hr (by decide) rfl (pa_cons (pv 0) (pa_cons (pe_op op_add (pe_op op_add (pv 1) pe_int) (pv 9)) pa_nil))) (pa_cons (pe_op op_add pe_int (pv 9)) pa_nil))))
      (pss_cons (ps_expr (pe_bm PySem.F.plainAttrs_list PySem.F.slot_list_append PySem.F.type_list_append mt_append (pv 6) (pa_cons (pe_tup (pa_cons pe_str (pa_cons (pe_ix ix_list (pv 5) (pv 9) (fun _ _ => rfl)) (pa_cons (pe_gc G_L_fraction hr (by decide) rfl (pa_cons (pv 10) pa_nil)) (pa_cons (pe_gc G_L_fraction hr (by decide) rfl (pa_cons (pe_gc G_L_mixed hr (by decide) rfl (pa_cons (pv 10) (pa_cons pe_int pa_nil))) pa_nil)) pa_nil))))) pa_nil)))
      (pss_one (ps_expr (pe_bm PySem.F.plainAttrs_list PySem.F.slot_list_append PySem.F.type_list_append mt_append (pv 7) (pa_cons (pe_tup (pa_cons (pe_ix ix_list (pv 5) (pv 9) (fun _ _ => rfl)) (pa_cons pe_str pa_nil))) pa_nil)))))))
    (pss_cons (ps_for PassesOwn.never rfl (pi_enum (by rfl) T.f_enumerate (pa_cons (pe_slice sl_list (pv 0) (po_some (pe_op op_add (pv 1) pe_int)) (po_some (pe_op op_add (pe_op op_add (pv 1) pe_int) (pv 2)))) pa_nil)) (pg_tup rfl (pgs_cons (pg_name (i := 9) nd rfl (Or.inl rfl)) (pgs_cons (pg_name (i := 10) nd rfl (Or.inl rfl)) pgs_nil)))
      (pss_cons (ps_set (i := 11) nd rfl (Or.inl rfl) (pe_op op_mod (pe_op op_fdiv (pe_gc G_L_mixed hr (by decide) rfl (pa_cons (pv 10) (pa_cons (pe_op op_add pe_int (pv 9)) pa_nil))) pe_int) pe_int))
      (pss_cons (ps_set (i := 12) nd rfl (Or.inl rfl) (pe_slice sl_list (pv 5) (po_some (pe_callB call_len_seq (by rfl) T.f_len (by decide +kernel) (pa_cons (pv 7) pa_nil))) po_none))
      (pss_one (ps_if (PW.pt (pw_and (pt_cmpR op_eq (pv 11) pe_int (nomark _)) (pw_and1 (pt_cmpR op_lt (pe_callB call_len_seq (by rfl) T.f_len (by decide +kernel) (pa_cons (pv 8) pa_nil)) pe_int (nomark _)))))
        (pss_cons (ps_asg (pe_gc G_L_helper hr (by decide) rfl (pa_cons (pe_gc G_L_mixed hr (by decide) rfl (pa_cons (pv 10) (pa_cons (pv 9) pa_nil))) (pa_cons (pe_ix ix_list (pv 3) (pe_callB call_len_seq (by rfl) T.f_len (by decide +kernel) (pa_cons (pv 8) pa_nil)) (fun _ _ => rfl)) (pa_cons (pe_revL (pv 3)) (pa_cons (pv 8) pa_nil))))) (pg_tup rfl (pgs_cons (pg_name (i := 13) nd rfl (Or.inl rfl)) (pgs_cons (pg_name (i := 14) nd rfl (Or.inl rfl)) pgs_nil))))
        (pss_cons (ps_expr (pe_bm PySem.F.plainAttrs_list PySem.F.slot_list_append PySem.F.type_list_append mt_append (pv 6) (pa_cons (pv 13) pa_nil)))
        (pss_one (ps_expr (pe_bm PySem.F.plainAttrs_list PySem.F.slot_list_append PySem.F.type_list_append mt_append (pv 8) (pa_cons (pv 14) pa_nil))))))
        (pss_one (ps_if (PW.pt (pw_and (pt_cmpR op_eq (pv 11) pe_int (nomark _)) (pw_and1 (pt_cmpR (op_neD hr.units) (pv 12) (pe_lst pa_nil) (nomark _)))))
          (pss_cons (ps_expr (pe_bm PySem.F.plainAttrs_list PySem.F.slot_list_append PySem.F.type_list_append mt_append (pv 6) (pa_cons (pe_tup (pa_cons pe_str (pa_cons (pe_ix ix_list (pv 12) pe_int (fun _ _ => rfl)) (pa_cons (pe_gc G_L_fraction hr (by decide) rfl (pa_cons (pv 10) pa_nil)) (pa_cons (pe_gc G_L_fraction hr (by decide) rfl (pa_cons (pe_gc G_L_mixed hr (by decide) rfl (pa_cons (pv 10) (pa_cons pe_int pa_nil))) pa_nil)) pa_nil))))) pa_nil)))
          (pss_one (ps_expr (pe_bm PySem.F.plainAttrs_list PySem.F.slot_list_append PySem.F.type_list_append mt_append (pv 7) (pa_cons (pe_tup (pa_cons (pe_ix ix_list (pv 12) pe_int (fun _ _ => rfl)) (pa_cons pe_str pa_nil))) pa_nil)))))
          (pss_one (ps_if (pt_cmpR op_gt (pe_callB call_len_seq (by rfl) T.f_len (by decide +kernel) (pa_cons (pv 12) pa_nil)) pe_int (nomark _))
            (pss_cons (ps_expr (pe_bm PySem.F.plainAttrs_list PySem.F.slot_list_append PySem.F.type_list_append mt_append (pv 6) (pa_cons (pe_gc G_L_step hr (by decide) rfl (pa_cons (pe_gc G_L_mixed hr (by decide) rfl (pa_cons (pv 10) (pa_cons (pv 9) pa_nil))) (pa_cons (pv 7) (pa_cons (pv 8) (pa_cons (pv 12) pa_nil))))) pa_nil)))
            (pss_one (ps_set (i := 7) nd rfl (Or.inl rfl) (pe_op op_cat (pv 7) (pe_gc G_L_kinds_made hr (by decide) rfl (pa_cons (pe_ix ix_list (pv 6) (pe_un un_neg pe_int) (fun _ _ => rfl)) (pa_cons (pv 8) pa_nil)))))))
            pss_nil)))))))))
    (pss_one (ps_ret (pv 6))))))))))), ?_⟩
    -- names, ahead, outer
    refine ⟨_, rfl, _, rfl, a, is, 0, rfl, ha, by decide, fun r0 => ⟨_, rfl, fun np H1 ns s1 hnp1 e1 N => ?_⟩⟩
    refine ⟨by show 4 ≤ sizeLine; decide, fun al hal => ?_⟩
    have s2 := Same.new (o := .lst [V.str "", V.str "", V.str "m.", V.str "a.b."]) hal
    have g2 : SqL K (upd H1 al (.lst [V.str "", V.str "", V.str "m.", V.str "a.b."])) al [V.str "", V.str "", V.str "m.", V.str "a.b."] := SqL.of upd_same
    have s12 := s1.trans s2
    have e2 := s2 _ _ e1
    generalize upd H1 al (.lst [V.str "", V.str "", V.str "m.", V.str "a.b."]) = H2 at s2 g2 s12 e2 ⊢
    refine ⟨_, rfl, _, rfl, a, is, 0, rfl, Same.ls s12 ha, by decide, fun r1 => ⟨_, _, rfl, fun r2 => ?_⟩⟩
    have hah : ∃ ah : Str, atI [V.str "", V.str "", V.str "m.", V.str "a.b."] (((r2 : Nat) : Int) / 7 % 4) = some (.str ah) ∧ Ahead ah := by
      have e : ((r2 : Nat) : Int) / 7 % 4 = ((r2 / 7 % 4 : Nat) : Int) := by omega
      rw [e]
      have h4 : r2 / 7 % 4 < 4 := by omega
      generalize r2 / 7 % 4 = j at h4
      match j, h4 with
      | 0, _ => exact ⟨_, atI_nat (j := 0) rfl, .inl rfl⟩
      | 1, _ => exact ⟨_, atI_nat (j := 1) rfl, .inl rfl⟩
      | 2, _ => exact ⟨_, atI_nat (j := 2) rfl, .inr (.inl rfl)⟩
      | 3, _ => exact ⟨_, atI_nat (j := 3) rfl, .inr (.inr rfl)⟩
    obtain ⟨ah, hat, hA⟩ := hah
    refine ⟨_, _, rfl, rfl, ⟨by decide, by decide⟩, _, _, rfl, rfl, (by show (0 : Int) < _; decide), al, _, _, _, rfl, rfl, g2, hat, ?_⟩
    have O := outer_ok hA N
    refine ⟨_, rfl, np, rfl, ⟨_, SqL.of e2⟩, ?_⟩
    refine lc_fn (K := K) (walk_list (K := K) (a := np) (xs := ns.map V.str)) ns (by rw [List.length_map]) (by rw [N.len]; decide) (fun n => V.str (ah ++ n)) (fun _ s => Same.ls s (SqL.of e2)) (fun j n x H8 H9 hj s8 y Nx kx => ?_) mono_name fun ol H3 hol2 s3 ha3 => ?_
    · obtain ⟨rfl, hx⟩ := y
      rw [List.getElem?_map, hj] at hx
      obtain rfl := Option.some.inj hx
      have hl := (hA.nm (N.pl n (List.mem_of_getElem? hj))).2
      exact ⟨rfl, _, rfl, _, rfl, _, _, rfl, rfl, by rw [← Str.length_append]; exact Nat.le_trans hl (by decide), kx _ (Same.refl _)⟩
    have e3o : H3 ol = some (.lst ((ns.map fun n => ah ++ n).map V.str)) := by rw [ha3, List.map_map]; rfl
    generalize ns.map (fun n => ah ++ n) = os at O e3o
    have e3n := s3 _ _ e2
    have s13 := s12.trans s3
    -- three new lists
    refine ⟨by decide, fun pl hpl => ?_⟩
    have s4 := Same.new (o := .lst []) hpl
    have e4p : (upd H3 pl (.lst [])) pl = some (.lst []) := upd_same
    have hplH : H pl = none := Same.back s13 hpl
    have e4n := s4 _ _ e3n
    have e4o := s4 _ _ e3o
    have n1 : np ≠ pl := fun e => by rw [e, hpl] at e3n; cases e3n
    have n2 : ol ≠ pl := fun e => by rw [e, hpl] at e3o; cases e3o
    generalize upd H3 pl (.lst []) = H4 at s4 e4p e4n e4o ⊢
    refine ⟨by decide, fun tl hql => ?_⟩
    have s5 := Same.new (o := .lst []) hql
    have e5t : (upd H4 tl (.lst [])) tl = some (.lst []) := upd_same
    have htlH : H tl = none := Same.back (s13.trans s4) hql
    have n3 : np ≠ tl := fun e => by rw [e, hql] at e4n; cases e4n
    have n4 : ol ≠ tl := fun e => by rw [e, hql] at e4o; cases e4o
    have n5 : pl ≠ tl := fun e => by rw [e, hql] at e4p; cases e4p
    have e5p := s5 _ _ e4p
    have e5n := s5 _ _ e4n
    have e5o := s5 _ _ e4o
    generalize upd H4 tl (.lst []) = H5 at s5 e5t e5p e5n e5o ⊢
    refine ⟨by decide, fun hl hhl => ?_⟩
    have s6 := Same.new (o := .lst []) hhl
    have hhlH : H hl = none := Same.back (s13.trans (s4.trans s5)) hhl
    have PH0 : PH K (upd H5 hl (.lst [])) pl tl hl np ol ns os [] [] [] [] [] :=
      ⟨s6 _ _ e5p, dta_nil, s6 _ _ e5t, dta_nil, upd_same, fun x hx => (nomatch hx), fun x hx => (nomatch hx), s6 _ _ e5n, s6 _ _ e5o, n5, fun e => (by rw [e, hhl] at e5p; cases e5p), fun e => (by rw [e, hhl] at e5t; cases e5t), ⟨n1, n3, fun e => (by rw [e, hhl] at e5n; cases e5n)⟩, ⟨n2, n4, fun e => (by rw [e, hhl] at e5o; cases e5o)⟩⟩
    have s16 := s13.trans (s4.trans (s5.trans s6))
    generalize upd H5 hl (.lst []) = H6 at s6 PH0 s16 ⊢
    clear e5t e5p e5n e5o e4p e4n e4o e3o e3n
    have olen := O.len
    -- two points
    refine ⟨_, rfl, by decide, by decide, ?_⟩
    refine for_it (walk_range (lo := 0) (n := 2)) (fun i σ H' => ∃ (kv cv : Option V) (xs ys : List V) (th : Th) (ps : List Prt),
      σ = [some (.ref a), some (.int 0), some (.int 20), some (.ref np), some (.str ah), some (.ref ol), some (.ref pl), some (.ref tl), some (.ref hl), kv, cv, none, none, none, none, none] ∧ Same H H' ∧ PH K H' pl tl hl np ol ns os ps th [] xs ys ∧ PSt os th ps ∧ th.length = i ∧ ps.length = i ∧
      (1 ≤ i → ptsN th ≠ [] ∧ ∃ n x y r, ps = .stp (.give n x y) :: r ∧ Nm n ∧ n.length ≤ 12)) ⟨none, none, [], [], [], [], rfl, s16, PH0, ⟨rfl, Nat.zero_le _, fun p hp => (nomatch hp)⟩, rfl, rfl, fun e => absurd e (by decide)⟩ (fun _ _ _ _ _ => trivial) (fun i x σ H7 H8 hi q y => ?_) fun σ H7 q => ?_
    · obtain ⟨kv, cv, xs, ys, th, ps, rfl, s7, X, S, ht, hp, hf⟩ := q
      obtain ⟨rfl, rfl⟩ := y
      have hio : i < os.length := by omega
      have lp := X.pd.length
      rw [List.length_map] at lp
      have lt := X.td.length
      have lth : (dTh th).length = th.length := by unfold dTh; rw [List.length_map]
      rw [lth] at lt
      refine ⟨_, rfl, _, rfl, _, _, rfl, rfl, _, rfl, _, _, rfl, rfl, a, is, 1 + i, ?_, Same.ls s7 ha, by omega, fun r3 => ?_⟩
      · show [V.ref a, V.int (0 + 1 + (0 + (i : Int)))] = [V.ref a, V.int ((1 + i : Nat) : Int)]
        rw [show (0 : Int) + 1 + (0 + (i : Int)) = ((1 + i : Nat) : Int) by omega]
      refine ⟨_, rfl, _, _, rfl, rfl, _, _, rfl, fun r4 => ?_⟩
      refine ⟨_, rfl, .inl ⟨rfl, _, SqL.of X.p⟩, ?_⟩
      have hoi : atI (os.map V.str) (0 + (i : Int)) = some (.str os[i]) := by
        rw [Int.zero_add]
        exact strs_at hio
      have hon := O.nm os[i] (List.getElem_mem hio)
      refine ⟨_, rfl, _, rfl, ol, _, _, _, rfl, rfl, SqL.of X.o, hoi, ?_⟩
      refine ⟨_, rfl, _, rfl, fun f1 v1 H9 s9 fk1 d1 => ⟨_, rfl, _, _, rfl, fun r5 => ⟨_, rfl, fun f2 v2 H10 s10 fk2 d2 => ?_⟩⟩⟩
      refine ⟨by show 4 ≤ sizeLine; decide, fun g hg => ?_⟩
      have s11 := Same.new (o := .tup [V.str "give", V.str os[i], v1, v2]) hg
      have s911 := s9.trans (s10.trans s11)
      have X11 := X.same s911
      have hv : Dt K (upd H10 g (.tup [V.str "give", V.str os[i], v1, v2])) (.ref g) (Prt.stp (.give os[i] f1 f2)).dr := dt_tup (SqT.of upd_same) (dta_cons dt_str (dta_cons dt_str (dta_cons (d1.sm (s10.trans s11).sm) (dta_cons (d2.sm s11.sm) dta_nil))))
      generalize upd H10 g (.tup [V.str "give", V.str os[i], v1, v2]) = H11 at s11 s911 X11 hv ⊢
      refine ⟨pl, _, _, rfl, rfl, X11.p, Nat.lt_of_le_of_lt (by omega : _ ≤ 10) (by decide), ?_⟩
      have X12 := X11.addP hv
      have s12' : Same H (upd H11 pl (.lst (xs ++ [V.ref g]))) := Same.mut (s7.trans s911) hplH
      generalize upd H11 pl (.lst (xs ++ [V.ref g])) = H12 at X12 s12' ⊢
      refine ⟨_, rfl, .inl ⟨rfl, _, SqL.of X12.t⟩, _, rfl, _, rfl, ol, _, _, _, rfl, rfl, SqL.of X12.o, hoi, by show 2 ≤ sizeLine; decide, fun g2 hg2 => ?_⟩
      have s13' := Same.new (o := .tup [V.str os[i], V.str "point"]) hg2
      have X13 := X12.same s13'
      have hv2 : Dt K (upd H12 g2 (.tup [V.str os[i], V.str "point"])) (.ref g2) (.tuple [.str (os[i], ("point" : Str)).1, .str (os[i], ("point" : Str)).2]) := dt_tup (SqT.of upd_same) (dta_cons dt_str (dta_cons dt_str dta_nil))
      generalize upd H12 g2 (.tup [V.str os[i], V.str "point"]) = H13 at s13' X13 hv2 ⊢
      refine ⟨tl, _, _, rfl, rfl, X13.t, Nat.lt_of_le_of_lt (by omega : _ ≤ 10) (by decide), ?_⟩
      have X14 := X13.addT hv2
      refine ⟨some (.int (0 + (i : Int))), some (.int (r4 : Nat)), _, _, _, _, rfl, Same.mut (s12'.trans s13') htlH, X14, S.more O ?_ (give_ok hon.1 fk1 fk2), by rw [List.length_append, ht]; rfl, by rw [List.length_append, hp]; rfl, fun _ => ⟨?_, ?_⟩⟩
      · show [os[i]] = (os.drop th.length).take 1
        rw [ht, List.drop_eq_getElem_cons hio]
        rfl
      · rw [ptsN_app]
        intro e
        have e2 := (List.append_eq_nil_iff.mp e).2
        have e3 : ptsN [(os[i], ("point" : Str))] = [os[i]] := by
          unfold ptsN
          rw [List.filter_cons, if_pos (decide_eq_true rfl)]
          rfl
        rw [e3] at e2
        cases e2
      · by_cases h1 : 1 ≤ i
        · obtain ⟨_, n, x, y, r, e, q1, q2⟩ := hf h1
          exact ⟨n, x, y, r ++ [.stp (.give os[i] f1 f2)], by rw [e]; rfl, q1, q2⟩
        · have : ps = [] := List.eq_nil_of_length_eq_zero (by omega)
          exact ⟨os[i], f1, f2, [], by rw [this]; rfl, hon⟩
    obtain ⟨kv, cv, xs, ys, th, ps, rfl, s7, X, S, ht, hp, hf⟩ := q
    obtain ⟨hpt, hgive⟩ := hf (by decide)
    -- the cells
    refine ⟨_, rfl, _, rfl, _, _, rfl, rfl, (0 + 3 : Int), rfl, _, rfl, _, _, rfl, rfl, _, rfl, _, _, rfl, rfl, (0 + 3 + 20 : Int), rfl, a, _, rfl, Same.ls s7 ha, fun cl hcl => ?_⟩
    have hcut : cutV (is.map V.int) (some (0 + 3)) (some (0 + 3 + 20)) = ((is.take 23).drop 3).map V.int := by
      have e := cutV_mid (is.map V.int) 3 23
      rw [List.map_drop, List.map_take]
      exact e
    rw [hcut]
    have hisl : ((is.take 23).drop 3).length ≤ 20 := by
      rw [List.length_drop, List.length_take]
      omega
    generalize (is.take 23).drop 3 = cs at hisl
    have s8 := Same.new (o := .lst (cs.map V.int)) hcl
    have g8 : (upd H7 cl (.lst (cs.map V.int))) cl = some (.lst (cs.map V.int)) := upd_same
    have ncl : cl ≠ pl ∧ cl ≠ tl ∧ cl ≠ hl := ⟨fun e => (by have := X.p; rw [← e, hcl] at this; cases this), fun e => (by have := X.t; rw [← e, hcl] at this; cases this), fun e => (by have := X.h; rw [← e, hcl] at this; cases this)⟩
    have X8 := X.same s8
    have s78 := s7.trans s8
    generalize upd H7 cl (.lst (cs.map V.int)) = H8 at s8 g8 X8 s78 ⊢
    have fin : ∀ {H9 : Hp} {tl2 : Addr} {xs ys : List V} {th : Th} {ps : List Prt} {hs : List HR}, Same H H9 → PH K H9 pl tl2 hl np ol ns os ps th hs xs ys → PSt os th ps → ps.length ≤ 22 → (∃ n x y r, ps = .stp (.give n x y) :: r ∧ Nm n ∧ n.length ≤ 12) → Q (.ref pl) H9 := fun s9 X S hl hg => kk pl _ _ _ s9 hplH X.p X.pd S.ok hl hg
    refine ⟨cl, _, rfl, SqL.of g8, ?_⟩
    refine for_it (walk_enum (K := K) (a := cl) (xs := cs.map V.int)) (fun i σ H' => ∃ (tl : Addr) (k1 k2 k3 k4 k5 k6 : Option V) (xs ys : List V) (th : Th) (ps : List Prt) (hs : List HR),
      σ = [some (.ref a), some (.int 0), some (.int 20), some (.ref np), some (.str ah), some (.ref ol), some (.ref pl), some (.ref tl), some (.ref hl), k1, k2, k3, k4, k5, k6, none] ∧ Same H H' ∧ PH K H' pl tl hl np ol ns os ps th hs xs ys ∧ PSt os th ps ∧ hs.length ≤ 3 ∧ ps.length ≤ 2 + i ∧
      ptsN th ≠ [] ∧ (∃ n x y r, ps = .stp (.give n x y) :: r ∧ Nm n ∧ n.length ≤ 12) ∧ H' cl = some (.lst (cs.map V.int)) ∧ cl ≠ tl ∧ H tl = none)
      ⟨tl, kv, cv, none, none, none, none, xs, ys, th, ps, [], rfl, s78, X8, S, Nat.zero_le _, by omega, hpt, hgive, g8, ncl.2.1, htlH⟩ (fun i σ H' _ q => by
        obtain ⟨_, _, _, _, _, _, _, _, _, _, _, _, _, _, _, _, _, _, _, _, q, _⟩ := q
        exact SqL.of q) (fun i x σ H9 H10 hi q y => ?_) fun σ H9 q => ?_
    · obtain ⟨tl, k1, k2, k3, k4, k5, k6, xs, ys, th, ps, hs, rfl, s9, X, S, hh3, hpl2, hpt, hgive, gcl, nct, htlH⟩ := q
      obtain ⟨t, x1, x2, rfl, htn, rfl, ex1, ex2⟩ := y
      obtain rfl := Option.some.inj ex1
      have ex2 : (cs.map V.int)[i]? = some x2 := ex2
      rw [List.getElem?_map] at ex2
      obtain ⟨cell, hcell, rfl⟩ := Option.map_eq_some_iff.mp ex2
      have hic : i < cs.length := (List.getElem?_eq_some_iff.mp hcell).1
      have s10 := Same.new (o := .tup [V.int ((i : Nat) : Int), V.int cell]) htn
      refine ⟨t, _, rfl, SqT.of upd_same, rfl, _, _, rfl, _, _, rfl, rfl, ?_⟩
      have X10 := X.same s10
      have gcl10 := s10 _ _ gcl
      have s910 := s9.trans s10
      generalize upd H9 t (.tup [V.int ((i : Nat) : Int), V.int cell]) = H10 at s10 X10 gcl10 s910 ⊢
      have lp := X10.pd.length
      rw [List.length_map] at lp
      have lt := X10.td.length
      have lth : (dTh th).length = th.length := by unfold dTh; rw [List.length_map]
      rw [lth] at lt
      have tle := S.le
      -- way, left
      refine ⟨_, rfl, _, rfl, _, _, rfl, rfl, _, _, rfl, fun r3 => ⟨_, _, rfl, rfl, ⟨by decide, by decide⟩, _, _, rfl, rfl, (by show (0 : Int) < _; decide), ?_⟩⟩
      generalize hwy : (fun i j : Int => V.int (i % j)) (((r3 : Nat) : Int) / 7) 6 = wyv
      obtain ⟨wy, rfl⟩ : ∃ wy : Int, wyv = V.int wy := ⟨_, hwy.symm⟩
      clear hwy
      refine ⟨_, rfl, _, rfl, tl, _, rfl, .inl (SqL.of X10.t), _, rfl, ol, _, rfl, SqL.of X10.o, fun ll hll => ?_⟩
      have hcut : cutV (os.map V.str) (some ((ys.length : Nat) : Int)) none = (os.drop th.length).map V.str := by
        rw [lt]
        exact cut_from _ _
      rw [hcut]
      have s11 := Same.new (o := .lst ((os.drop th.length).map V.str)) hll
      have e11 : (upd H10 ll (.lst ((os.drop th.length).map V.str))) ll = some (.lst ((os.drop th.length).map V.str)) := upd_same
      have X11 := X10.same s11
      have gcl11 := s11 _ _ gcl10
      have s911 := s910.trans s11
      generalize upd H10 ll (.lst ((os.drop th.length).map V.str)) = H11 at s11 e11 X11 gcl11 s911 ⊢
      have lok : ∀ z ∈ os.drop th.length, Nm z ∧ z.length ≤ 12 := fun z hz => O.nm z (List.mem_of_mem_drop hz)
      by_cases hA : wy = 0 ∧ hs.length < 3
      · -- a helper
        obtain ⟨rfl, hh⟩ := hA
        refine ⟨_, rfl, rfl, _, rfl, iteI (eqIt rfl) ?_⟩
        refine ⟨_, rfl, hl, _, rfl, .inl (SqL.of X11.h), _, _, rfl, rfl, _, rfl, iteI (decide_eq_true (by rw [List.length_map]; omega)) ?_⟩
        refine ⟨_, rfl, _, rfl, _, _, rfl, fun r4 => ?_⟩
        have hnl : hs.length < ns.length := by rw [N.len]; omega
        refine ⟨_, rfl, _, rfl, hl, _, rfl, .inl (SqL.of X11.h), np, _, _, V.str ns[hs.length], rfl, rfl, SqL.of X11.n, ?_, ?_⟩
        · show atI (ns.map V.str) ((((hs.map fun h => V.ref h.a).length : Nat) : Int)) = _
          rw [List.length_map]
          exact strs_at hnl
        refine ⟨_, rfl, np, _, rfl, SqL.of X11.n, fun rv hrv => ?_⟩
        rw [← List.map_reverse]
        have s12 := Same.new (o := .lst (ns.reverse.map V.str)) hrv
        have e12 : (upd H11 rv (.lst (ns.reverse.map V.str))) rv = some (.lst (ns.reverse.map V.str)) := upd_same
        have X12 := X11.same s12
        have gcl12 := s12 _ _ gcl11
        have s912 := s911.trans s12
        generalize upd H11 rv (.lst (ns.reverse.map V.str)) = H12 at s12 e12 X12 gcl12 s912 ⊢
        refine ⟨_, rfl, _, ns[hs.length], rv, hl, ns.reverse, hs, rfl, N.pl _ (List.getElem_mem hnl), SqL.of e12, N.rev, X12.hp, fun y hy => (X12.r y hy).2.1, hh3, fun q H13 v1 h qs as ss s13 hq hv1 hok hat hrok hln hl13 => ?_⟩
        have X13 := X12.same s13
        have gcl13 := s13 _ _ gcl12
        have s913 := s912.trans s13
        have nl : h.l ≠ pl ∧ h.l ≠ tl ∧ h.l ≠ hl := ⟨fun e => (by have := X12.p; rw [← e, hln] at this; cases this), fun e => (by have := X12.t; rw [← e, hln] at this; cases this), fun e => (by have := X12.h; rw [← e, hln] at this; cases this)⟩
        refine ⟨q, _, rfl, hq, rfl, _, _, rfl, _, _, rfl, rfl, ?_⟩
        refine ⟨_, rfl, .inl ⟨rfl, _, SqL.of X13.p⟩, _, rfl, pl, _, _, rfl, rfl, X13.p, Nat.lt_of_le_of_lt (by omega : _ ≤ 100) (by decide), ?_⟩
        have X14 := X13.addP hv1
        have m14 : Sm K H13 (upd H13 pl (.lst (xs ++ [v1]))) := Sm.lst X13.p
        have s914 : Same H (upd H13 pl (.lst (xs ++ [v1]))) := Same.mut s913 hplH
        have gcl14 : (upd H13 pl (.lst (xs ++ [v1]))) cl = some (.lst (cs.map V.int)) := by rw [upd_ne ncl.1]; exact gcl13
        have hat14 : HrAt K (upd H13 pl (.lst (xs ++ [v1]))) h := ⟨m14.t hat.1, sql_upd hat.2 nl.1⟩
        have hl14 : (upd H13 pl (.lst (xs ++ [v1]))) h.l = some (.lst (h.ks.map V.str)) := by rw [upd_ne nl.1]; exact hl13
        generalize upd H13 pl (.lst (xs ++ [v1])) = H14 at X14 m14 s914 gcl14 hat14 hl14 ⊢
        refine ⟨_, rfl, .inl ⟨rfl, _, SqL.of X14.h⟩, _, rfl, hl, _, _, rfl, rfl, X14.h, Nat.lt_of_le_of_lt (by rw [List.length_map]; omega : _ ≤ 100) (by decide), ?_⟩
        have X15 := X14.addH hat14 hrok nl.1 nl.2.1 nl.2.2 hl14
        refine ⟨tl, some (.int ((i : Nat) : Int)), some (.int cell), some (.int 0), some (.ref ll), some v1, some (.ref h.a), _, _, th, ps ++ [.hlp ns[hs.length] qs as ss], hs ++ [h], rfl, Same.mut s914 hhlH, X15, ⟨S.at_, S.le, fun p hp => ?_⟩, by rw [List.length_append]; show _ + 1 ≤ _; omega, by rw [List.length_append]; show _ + 1 ≤ _; omega, hpt, ?_, by rw [upd_ne ncl.2.2]; exact gcl14, nct, htlH⟩
        · rcases List.mem_append.mp hp with hp | hp
          · exact S.ok p hp
          · rw [List.mem_singleton.mp hp]; exact hok
        · obtain ⟨n, x, y, r, e, q1, q2⟩ := hgive
          exact ⟨n, x, y, r ++ [.hlp ns[hs.length] qs as ss], by rw [e]; rfl, q1, q2⟩
      dsimp only [gName]
      refine ifS_no (fun Q' k' => ?_) fun H12 s12 => ?_
      · refine ⟨_, rfl, rfl, _, rfl, ?_⟩
        refine ite2 (fun e => ?_) fun _ => k' _ (Same.refl _)
        have hw0 : wy = 0 := V.int.inj (of_decide_eq_true e)
        refine ⟨_, rfl, hl, _, rfl, .inl (SqL.of X11.h), _, _, rfl, rfl, _, rfl, ?_⟩
        rw [decide_eq_false (show ¬ ((((hs.map fun h => V.ref h.a).length : Nat) : Int) < 3) by
          rw [List.length_map]
          intro z
          exact hA ⟨hw0, by omega⟩)]
        exact k' _ (Same.refl _)
      have X12 := X11.same s12
      have e12 := s12 _ _ e11
      have gcl12 := s12 _ _ gcl11
      have s912 := s911.trans s12
      have lso : ∀ z ∈ os.drop th.length, PyData.strOk z = true := fun z hz => (lok z hz).1.sok
      by_cases hB : wy = 1 ∧ os.drop th.length ≠ []
      · -- a point
        obtain ⟨rfl, hne⟩ := hB
        obtain ⟨n0, lr, el⟩ : ∃ n0 lr, os.drop th.length = n0 :: lr := by
          cases e : os.drop th.length with
          | nil => exact absurd e hne
          | cons a b => exact ⟨a, b, rfl⟩
        rw [el] at e12 lok lso hne
        refine ⟨_, rfl, rfl, _, rfl, iteI (eqIt rfl) ?_⟩
        refine ⟨_, rfl, by decide, fun em hem => ?_⟩
        have s13 := Same.new (o := .lst []) hem
        have X13 := X12.same s13
        have e13 := s13 _ _ e12
        have gcl13 := s13 _ _ gcl12
        have s913 := s912.trans s13
        refine ⟨_, _, dp_strs (SqL.of e13), .lst (SqL.of upd_same) .nil, shaped_strs lso, rfl, _, rfl, ?_⟩
        rw [eqv_nil, decide_eq_false hne]
        refine iteI rfl ?_
        generalize upd H12 em (.lst []) = H13 at s13 X13 e13 gcl13 s913 ⊢
        have hon := lok n0 List.mem_cons_self
        refine ⟨_, rfl, .inl ⟨rfl, _, SqL.of X13.p⟩, _, rfl, ll, _, 0, _, rfl, rfl, SqL.of e13, atV _ _, _, rfl, _, rfl, fun f1 v1 H14 s14 fk1 d1 => ⟨_, rfl, _, _, rfl, fun r5 => ⟨_, rfl, fun f2 v2 H15 s15 fk2 d2 => ?_⟩⟩⟩
        refine ⟨by show 4 ≤ sizeLine; decide, fun g hg => ?_⟩
        have s16 := Same.new (o := .tup [V.str "give", V.str n0, v1, v2]) hg
        have s1416 := s14.trans (s15.trans s16)
        have X16 := X13.same s1416
        have e16 := s1416 _ _ e13
        have gcl16 := s1416 _ _ gcl13
        have s916 := s913.trans s1416
        have hv : Dt K (upd H15 g (.tup [V.str "give", V.str n0, v1, v2])) (.ref g) (Prt.stp (.give n0 f1 f2)).dr := dt_tup (SqT.of upd_same) (dta_cons dt_str (dta_cons dt_str (dta_cons (d1.sm (s15.trans s16).sm) (dta_cons (d2.sm s16.sm) dta_nil))))
        generalize upd H15 g (.tup [V.str "give", V.str n0, v1, v2]) = H16 at s16 s1416 X16 e16 gcl16 s916 hv ⊢
        refine ⟨pl, _, _, rfl, rfl, X16.p, Nat.lt_of_le_of_lt (by omega : _ ≤ 100) (by decide), ?_⟩
        have X17 := X16.addP hv
        have nll : ll ≠ pl := fun e => by
          have := X10.p
          rw [← e, hll] at this
          cases this
        have e17 : (upd H16 pl (.lst (xs ++ [V.ref g]))) ll = some (.lst ((n0 :: lr).map V.str)) := by rw [upd_ne nll]; exact e16
        have gcl17 : (upd H16 pl (.lst (xs ++ [V.ref g]))) cl = some (.lst (cs.map V.int)) := by rw [upd_ne ncl.1]; exact gcl16
        have s917 : Same H (upd H16 pl (.lst (xs ++ [V.ref g]))) := Same.mut s916 hplH
        generalize upd H16 pl (.lst (xs ++ [V.ref g])) = H17 at X17 e17 gcl17 s917 ⊢
        refine ⟨_, rfl, .inl ⟨rfl, _, SqL.of X17.t⟩, _, rfl, ll, _, 0, _, rfl, rfl, SqL.of e17, atV _ _, by show 2 ≤ sizeLine; decide, fun g2 hg2 => ?_⟩
        have s18 := Same.new (o := .tup [V.str n0, V.str "point"]) hg2
        have X18 := X17.same s18
        have gcl18 := s18 _ _ gcl17
        have hv2 : Dt K (upd H17 g2 (.tup [V.str n0, V.str "point"])) (.ref g2) (.tuple [.str (n0, ("point" : Str)).1, .str (n0, ("point" : Str)).2]) := dt_tup (SqT.of upd_same) (dta_cons dt_str (dta_cons dt_str dta_nil))
        have s918 := s917.trans s18
        generalize upd H17 g2 (.tup [V.str n0, V.str "point"]) = H18 at s18 X18 hv2 gcl18 s918 ⊢
        refine ⟨tl, _, _, rfl, rfl, X18.t, Nat.lt_of_le_of_lt (by omega : _ ≤ 100) (by decide), ?_⟩
        have X19 := X18.addT hv2
        refine ⟨tl, some (.int ((i : Nat) : Int)), some (.int cell), some (.int 1), some (.ref ll), k5, k6, _, _, _, _, hs, rfl, Same.mut s918 htlH, X19, S.more O ?_ (give_ok hon.1 fk1 fk2), hh3, by rw [List.length_append]; show _ + 1 ≤ _; omega, ?_, ?_, by rw [upd_ne nct]; exact gcl18, nct, htlH⟩
        · show [n0] = (os.drop th.length).take 1
          rw [el]
          rfl
        · rw [ptsN_app]
          exact fun e => hpt (List.append_eq_nil_iff.mp e).1
        · obtain ⟨n, x, y, r, e, q1, q2⟩ := hgive
          exact ⟨n, x, y, r ++ [.stp (.give n0 f1 f2)], by rw [e]; rfl, q1, q2⟩
      refine ifS_no (fun Q' k' => ?_) fun H13 s13 => ?_
      · refine ⟨_, rfl, rfl, _, rfl, ?_⟩
        refine ite2 (fun e => ?_) fun _ => k' _ (Same.refl _)
        have hw0 : wy = 1 := V.int.inj (of_decide_eq_true e)
        have hnil : os.drop th.length = [] := Decidable.of_not_not fun z => hB ⟨hw0, z⟩
        refine ⟨_, rfl, by decide, fun em hem => ?_⟩
        have s13 := Same.new (o := .lst []) hem
        refine ⟨_, _, dp_strs (SqL.of (s13 _ _ e12)), .lst (SqL.of upd_same) .nil, shaped_strs lso, rfl, _, rfl, ?_⟩
        rw [eqv_nil, decide_eq_true hnil]
        exact k' _ s13
      have X13 := X12.same s13
      have e13 := s13 _ _ e12
      have gcl13 := s13 _ _ gcl12
      have s913 := s912.trans s13
      refine ⟨_, rfl, ll, _, rfl, .inl (SqL.of e13), _, _, rfl, rfl, _, rfl, ?_⟩
      refine ite2 (fun e => ?_) fun _ => ⟨tl, some (.int ((i : Nat) : Int)), some (.int cell), some (.int wy), some (.ref ll), k5, k6, xs, ys, th, ps, hs, rfl, s913, X13, S, hh3, by omega, hpt, hgive, gcl13, nct, htlH⟩
      have hl3 : 3 ≤ (os.drop th.length).length := by
        have := of_decide_eq_true e
        rw [List.length_map] at this
        omega
      -- a step
      refine ⟨_, rfl, .inl ⟨rfl, _, SqL.of X13.p⟩, _, rfl, _, rfl, _, _, rfl, fun r4 => ⟨_, rfl, _, rfl, _, rfl, ?_⟩⟩
      refine ⟨_, tl, hl, ll, ys, th, hs, os.drop th.length, rfl, SqL.of X13.t, X13.td, X13.hp, fun y hy => (X13.r y hy).2.1, SqL.of e13, S.nd O, S.nm O, hpt, by omega, fun z hz => (lok z hz).1, hl3, fun v H14 s0 s14 hv sok sg made => ?_⟩
      have X14 := X13.same s14
      have gcl14 := s14 _ _ gcl13
      refine ⟨pl, _, _, rfl, rfl, X14.p, Nat.lt_of_le_of_lt (by omega : _ ≤ 100) (by decide), ?_⟩
      have X15 := X14.addP (q := .stp s0) hv
      have m15 : Sm K H14 (upd H14 pl (.lst (xs ++ [v]))) := Sm.lst X14.p
      have hv15 := hv.sm m15
      have gcl15 : (upd H14 pl (.lst (xs ++ [v]))) cl = some (.lst (cs.map V.int)) := by rw [upd_ne ncl.1]; exact gcl14
      have s915 : Same H (upd H14 pl (.lst (xs ++ [v]))) := Same.mut (s913.trans s14) hplH
      generalize upd H14 pl (.lst (xs ++ [v])) = H15 at X15 m15 hv15 gcl15 s915 ⊢
      refine ⟨_, rfl, ?_⟩
      refine ⟨_, rfl, _, rfl, pl, _, _, _, rfl, rfl, SqL.of X15.p, atI_last _ _, _, rfl, v, hl, s0, hs, os.drop th.length, rfl, hv15, X15.hp, fun y hy => (X15.r y hy).2.1, by omega, sg, made, hl3, fun fl H16 fs fo s16 hfl e16 hfo f1 f3 ff fso => ?_⟩
      have X16 := X15.same s16
      have gcl16 := s16 _ _ gcl15
      have lfs := hfo.length
      have lfo : (dTh fo).length = fo.length := by unfold dTh; rw [List.length_map]
      rw [lfo] at lfs
      refine ⟨tl, fl, _, _, rfl, rfl, X16.t, e16, Nat.le_trans (by omega : _ ≤ 100) (by decide), fun tl2 htl2 => ?_⟩
      have X17 := X16.newT htl2 hfo
      have s917 := s915.trans s16
      have s17 : Same H16 (upd H16 tl2 (.lst (ys ++ fs))) := Same.new htl2
      refine ⟨tl2, some (.int ((i : Nat) : Int)), some (.int cell), some (.int wy), some (.ref ll), k5, k6, _, _, _, _, hs, rfl, s917.trans s17, X17, S.more O ff sok, hh3, by rw [List.length_append]; show _ + 1 ≤ _; omega, ?_, ?_, s17 _ _ gcl16, fun e => (by rw [e, htl2] at gcl16; cases gcl16), Same.back s917 htl2⟩
      · rw [ptsN_app]
        exact fun e => hpt (List.append_eq_nil_iff.mp e).1
      · obtain ⟨n, x, y, r, e, q1, q2⟩ := hgive
        exact ⟨n, x, y, r ++ [.stp s0], by rw [e]; rfl, q1, q2⟩
    obtain ⟨tl, k1, k2, k3, k4, k5, k6, xs, ys, th, ps, hs, rfl, s9, X, S, hh3, hpl2, hpt, hgive, gcl, nct, htlH⟩ := q
    have hcl : ps.length ≤ 22 := by
      rw [List.length_map] at hpl2
      omega
    exact ⟨_, rfl, fin s9 X S hcl hgive⟩
end
end Rod
set_option Elab.async false
set_option linter.all false
set_option maxRecDepth 100000
set_option maxHeartbeats 4000000
namespace Rod
open PySem PySem.Spec PyProof.Rows L2 TL
/-! ### the told data may be compared -/
def Gd (n : Nat) (d : PyData) : Prop := d.canLay0 = true ∧ d.depth ≤ n
theorem gd_str {n : Nat} {z : Str} (h : PyData.strOk z = true) : Gd n (.str z) := ⟨by show PyData.strOk z = true; exact h, Nat.zero_le _⟩
theorem gd_int {n : Nat} {i : Int} : Gd n (.int i) := ⟨rfl, Nat.zero_le _⟩
theorem gd_non {n : Nat} : Gd n .none := ⟨rfl, Nat.zero_le _⟩
theorem Gd.mono {n m : Nat} {d : PyData} (h : Gd n d) (hl : n ≤ m) : Gd m d := ⟨h.1, Nat.le_trans h.2 hl⟩
theorem gd_all {n : Nat} : ∀ {ds : List PyData}, (∀ d ∈ ds, Gd n d) → PyData.canLayAll0 ds = true ∧ PyData.depthAll ds ≤ n
  | [], _ => ⟨rfl, Nat.zero_le _⟩
  | d :: r, h => by
    have h1 := h d List.mem_cons_self
    have h2 := gd_all (ds := r) fun x hx => h x (List.mem_cons_of_mem _ hx)
    refine ⟨?_, ?_⟩
    · show (PyData.canLay0 d && PyData.canLayAll0 r) = true
      rw [h1.1, h2.1]
      rfl
    · show max d.depth (PyData.depthAll r) ≤ n
      exact Nat.max_le.mpr ⟨h1.2, h2.2⟩
theorem gd_tup {n : Nat} {ds : List PyData} (h : ∀ d ∈ ds, Gd n d) : Gd (n + 1) (.tuple ds) := by
  have := gd_all h
  exact ⟨by show PyData.canLayAll0 ds = true; exact this.1, Nat.succ_le_succ this.2⟩
theorem gd_ns {n : Nat} {ns : List Str} (h : ∀ z ∈ ns, PyData.strOk z = true) : Gd (n + 1) (dNs ns) := gd_tup fun d hd => by
  obtain ⟨z, hz, rfl⟩ := List.mem_map.mp hd
  exact gd_str (h z hz)
theorem gd_dF {n : Nat} (f : Fr) : Gd (n + 1) (dF f) := gd_tup (allC gd_int (allC gd_int allN))
theorem Stp.ok.gd {s : Stp} (h : s.ok) : Gd 2 s.bd := by
  have k := h.sok
  cases s with
  | give n x y => exact gd_tup (allC (gd_str (k _ List.mem_cons_self)) (allC (gd_str (k n (by simp [Stp.ws]))) (allC (gd_dF x) (allC (gd_dF y) allN))))
  | line n b c => exact gd_tup (allC (gd_str (k _ List.mem_cons_self)) (allC (gd_str (k n (by simp [Stp.ws]))) (allC (gd_str (k b (by simp [Stp.ws]))) (allC (gd_str (k c (by simp [Stp.ws]))) allN))))
  | round n b c o =>
    refine gd_tup (allC (gd_str (k _ List.mem_cons_self)) (allC (gd_str (k n (by simp [Stp.ws]))) (allC (gd_str (k b (by simp [Stp.ws]))) (allC (gd_str (k c (by simp [Stp.ws]))) (allC ?_ allN)))))
    cases o with
    | none => exact gd_non
    | some z => exact gd_str (k z (by simp [Stp.ws]))
  | meet n b c o =>
    refine gd_tup (allC (gd_str (k _ List.mem_cons_self)) (allC (gd_str (k n (by simp [Stp.ws]))) (allC (gd_str (k b (by simp [Stp.ws]))) (allC (gd_str (k c (by simp [Stp.ws]))) (allC ?_ allN)))))
    cases o with
    | none => exact gd_non
    | some z => exact gd_ns fun y hy => k y (by simp only [Stp.ws]; exact List.mem_cons_of_mem _ (List.mem_cons_of_mem _ (List.mem_cons_of_mem _ (List.mem_cons_of_mem _ hy))))
  | use h0 gs ns =>
    exact gd_tup (allC (gd_str (k _ List.mem_cons_self)) (allC (gd_str (k h0 (by simp [Stp.ws]))) (allC (gd_ns fun z hz => k z (by simp [Stp.ws, hz])) (allC (gd_ns fun z hz => k z (by simp [Stp.ws, hz])) allN))))
theorem Prt.ok.gd {p : Prt} (h : p.ok) : Gd 4 p.bd := by
  cases p with
  | stp s => exact (Stp.ok.gd h).mono (by decide)
  | hlp n ps as ss =>
    have k : ∀ z ∈ (Ln.head n ps as).ws, PyData.strOk z = true := (lines_ok (ps := [Prt.hlp n ps as ss]) (allC h allN) (Ln.head n ps as) (by simp [lines, Prt.lns])).sok
    refine gd_tup (allC (gd_str (k _ List.mem_cons_self)) (allC (gd_str (k n (by simp [Ln.ws]))) (allC (gd_ns fun z hz => k z (by simp [Ln.ws, hz])) (allC (gd_ns fun z hz => k z (by simp [Ln.ws, hz])) (allC (gd_tup fun d hd => ?_) allN)))))
    obtain ⟨s, hs, rfl⟩ := List.mem_map.mp hd
    exact ((h : Prt.hok n ps as ss).sm s hs).1.gd
theorem shaped_gd {n : Nat} {d : PyData} (h : Gd n d) (hn : n ≤ 64) : SeqAt.shaped d = true := by
  unfold SeqAt.shaped
  rw [Bool.and_eq_true]
  exact ⟨h.1, decide_eq_true (Nat.le_trans h.2 hn)⟩
theorem gd_bds {ps : List Prt} (h : ∀ p ∈ ps, p.ok) : Gd 5 (.tuple (ps.map Prt.bd)) := gd_tup fun d hd => by
  obtain ⟨p, hp, rfl⟩ := List.mem_map.mp hd
  exact (h p hp).gd
end Rod
set_option Elab.async false
set_option linter.all false
set_option maxRecDepth 100000
set_option maxHeartbeats 4000000
namespace Rod
open PySem PySem.Spec PyProof.Rows L2 TL
/-! ### the law -/
theorem qm_tl : tl ("q.m." : Str) = [113, 46, 109, 46] := by decide +kernel
theorem pl_q : Pl ("q" : Str) := pl_one (c := 113) (by decide +kernel) ⟨by decide, by decide⟩ (by decide +kernel)
theorem pl_x : Pl ("x" : Str) := pl_one (c := 120) (by decide +kernel) ⟨by decide, by decide⟩ (by decide +kernel)
theorem pl_lost : Pl ("lost" : Str) := by
  have e : tl ("lost" : Str) = [108, 111, 115, 116] := by decide +kernel
  refine ⟨by rw [len_tl, e]; decide, by decide +kernel, ⟨108, _, e, by decide, by decide⟩, fun c hc => ?_⟩
  rw [e] at hc
  left
  simp at hc
  rcases hc with rfl | rfl | rfl | rfl <;> exact ⟨by decide, by decide⟩
theorem nm_qx : Nm ("q.x" : Str) := ⟨by decide +kernel, ["q", "x"], by simp, allC pl_q (allC pl_x allN), by decide +kernel⟩
theorem joinL_cons2 (S a : List Nat) : ∀ {r : List (List Nat)}, r ≠ [] → joinL S (a :: r) = a ++ (S ++ joinL S r)
  | [], h => absurd rfl h
  | _ :: _, _ => rfl
theorem nm_qm {n : Str} (h : Nm n) (hl : n.length ≤ 12) : Nm ("q.m." ++ n) := by
  obtain ⟨ps, hn, hp, e⟩ := h.ps
  refine ⟨?_, "q" :: "m" :: ps, by simp, allC pl_q (allC pl_m hp), ext_tl ?_⟩
  · rw [Str.length_append]
    have e4 : ("q.m." : Str).length = 4 := by decide +kernel
    omega
  · rw [tl_append, qm_tl, join_eq, tl_join, dot_tl, e, join_eq, tl_join, dot_tl]
    have e1 : tl ("q" : Str) = [113] := by decide +kernel
    have e2 : tl ("m" : Str) = [109] := by decide +kernel
    have hne : ps.map tl ≠ [] := fun q => hn (List.map_eq_nil_iff.mp q)
    show _ = joinL [46] (tl ("q" : Str) :: tl ("m" : Str) :: ps.map tl)
    rw [joinL_cons2 _ _ (by simp), joinL_cons2 _ _ hne, e1, e2]
    rfl
theorem joinL_mono (S : List Nat) : ∀ {a b : List (List Nat)}, Paired (fun x y => x.length ≤ y.length) a b → (joinL S a).length ≤ (joinL S b).length
  | [], [], _ => Nat.le_refl _
  | [x], [y], .cons h .nil => h
  | x :: x2 :: xs, y :: y2 :: ys, .cons h (.cons h2 r) => by
    show (x ++ (S ++ joinL S (x2 :: xs))).length ≤ (y ++ (S ++ joinL S (y2 :: ys))).length
    have := joinL_mono S (a := x2 :: xs) (b := y2 :: ys) (.cons h2 r)
    rw [List.length_append, List.length_append, List.length_append, List.length_append]
    omega
theorem paired_refl : ∀ l : List (List Nat), Paired (fun x y => x.length ≤ y.length) l l
  | [] => .nil
  | x :: r => .cons (Nat.le_refl _) (paired_refl r)
theorem Stp.ok.red_row {s : Stp} (h : s.ok) : s.red.row.length ≤ s.row.length := by
  unfold Stp.row
  rw [len_tl, len_tl, rowT_tl, rowT_tl]
  refine joinL_mono _ ?_
  cases s with
  | give n x y =>
    obtain ⟨hx, hy⟩ := h.fr n x y rfl
    refine .cons (Nat.le_refl _) (.cons (Nat.le_refl _) (.cons ?_ (.cons ?_ .nil)))
    · rw [← len_tl, ← len_tl]; exact hx.red_len
    · rw [← len_tl, ← len_tl]; exact hy.red_len
  | _ => exact paired_refl _
def rsum (l : List Ln) : Nat := (l.map fun x => x.row.length + 1).sum
theorem rsum_app (a b : List Ln) : rsum (a ++ b) = rsum a + rsum b := by
  unfold rsum
  rw [List.map_append, List.sum_append]
theorem text_len (ps : List Prt) : (textP ps).length = rsum (lines ps) := by
  unfold textP rows rsum
  rw [len_textT, List.map_map]
  rfl
theorem rsum_stp : ∀ {ss : List Stp}, (∀ s ∈ ss, s.ok) → rsum ((ss.map Stp.red).map Ln.stp) ≤ rsum (ss.map Ln.stp)
  | [], _ => Nat.le_refl _
  | s :: r, h => by
    have h1 := (h s List.mem_cons_self).red_row
    have h2 := rsum_stp (ss := r) fun x hx => h x (List.mem_cons_of_mem _ hx)
    show (s.red.row.length + 1) + rsum _ ≤ (s.row.length + 1) + rsum _
    omega
theorem red_len : ∀ {ps : List Prt}, (∀ p ∈ ps, p.ok) → rsum (lines (ps.map Prt.red)) ≤ rsum (lines ps)
  | [], _ => Nat.le_refl _
  | p :: r, h => by
    have h2 := red_len (ps := r) fun x hx => h x (List.mem_cons_of_mem _ hx)
    have h0 := h p List.mem_cons_self
    rw [List.map_cons, lines_cons, lines_cons, rsum_app, rsum_app]
    have h1 : rsum p.red.lns ≤ rsum p.lns := by
      cases p with
      | stp s =>
        have := Stp.ok.red_row (s := s) h0
        show (s.red.row.length + 1) + 0 ≤ (s.row.length + 1) + 0
        omega
      | hlp n qs as ss =>
        have := rsum_stp (ss := ss) fun s hs => ((h0 : Prt.hok n qs as ss).sm s hs).1
        show (_ + 1) + rsum (((ss.map Stp.red).map Ln.stp) ++ [Ln.fin]) ≤ (_ + 1) + rsum ((ss.map Ln.stp) ++ [Ln.fin])
        rw [rsum_app, rsum_app]
        omega
    omega
theorem rows_nl {ps : List Prt} (ok : ∀ p ∈ ps, p.ok) : ∀ r ∈ rows ps, 10 ∉ tl r := fun r hr => by
  obtain ⟨l, hl, rfl⟩ := List.mem_map.mp hr
  exact row_nl (lines_ok ok l hl).wds
theorem split_textP {ps : List Prt} (ok : ∀ p ∈ ps, p.ok) : Txt.split (textP ps) "\n" = rows ps ++ [("" : Str)] := split_text (rows_nl ok)
theorem skip_nil : Skip ("" : Str) := ⟨by decide +kernel, by decide +kernel, .inl (by decide +kernel), fun u hu => by
  have e : wordsR ("" : Str) = [] := by decide +kernel
  rw [e] at hu
  exact nomatch hu⟩
theorem skip_hash : Skip ("# x" : Str) := ⟨by decide +kernel, by decide +kernel, .inr ⟨"#", ["x"], by decide +kernel, by decide +kernel, by decide +kernel⟩, by decide +kernel⟩
theorem Stp.ok.all_nm {s : Stp} (h : s.ok) : ∀ z ∈ s.makes ++ s.asks, Nm z := fun z hz => h.nm z (by
  cases s with
  | use h0 gs ns =>
    show z ∈ h0 :: (gs ++ ns)
    rcases List.mem_append.mp hz with hz | hz
    · exact List.mem_cons_of_mem _ (List.mem_append_right _ hz)
    · exact List.mem_cons_of_mem _ (List.mem_append_left _ hz)
  | give => exact hz
  | line => exact hz
  | round => exact hz
  | meet => exact hz)
theorem Stp.ok.cnt {s : Stp} (h : s.ok) : (s.makes ++ s.asks).length ≤ 20 := by
  cases s with
  | use h0 gs ns =>
    obtain ⟨_, h1, _, h2⟩ := h.us h0 gs ns rfl
    show (ns ++ gs).length ≤ 20
    rw [List.length_append]
    omega
  | give => show 1 ≤ 20; decide
  | line => show 3 ≤ 20; decide
  | round n b c o => cases o <;> simp [Stp.makes, Stp.asks]
  | meet n b c o =>
    cases o with
    | none => simp [Stp.makes, Stp.asks, chP]
    | some c1 => cases c1 <;> simp [Stp.makes, Stp.asks, chP, Ch.pts]
/-- what the two helpers tell -/
def hpD (k : List Int) : PyData := .tuple [.str "helper", dW k, .str "h", dNs ["a"], dNs ["b"], .tuple []]
theorem hpD_gd (k : List Int) : Gd 2 (hpD k) := gd_tup (allC (gd_str (by decide +kernel)) (allC (gd_tup fun d hd => by
  obtain ⟨i, _, rfl⟩ := List.mem_map.mp hd
  exact gd_int) (allC (gd_str (by decide +kernel)) (allC (gd_ns (allC (by decide +kernel) allN)) (allC (gd_ns (allC (by decide +kernel) allN)) (allC (gd_tup allN) allN))))))
theorem eq_yes {n : Nat} {d : PyData} (h : Gd n d) : PyData.eqv d d = true := SeqAt.eqv_refl d h.1
theorem ne_no {n : Nat} {d : PyData} (h : Gd n d) : ¬ ((!PyData.eqv d d) = true) := by
  rw [eq_yes h]
  decide
theorem gd_nil : Gd 1 (.tuple []) := gd_tup allN
section
variable {P : Program} {w : World} {K : PySem.W.Frag} {mg : Str → Option Value} {base : Heap} {H H' : Hp}
/-- told of the two helpers made by hand -/
def rcHp (K : PySem.W.Frag) : List Int → V → Hp → Prop := fun i x H => ∃ a, x = .ref a ∧ HelpAt K H a i "h" ["a"] ["b"] 0 []
theorem ok_htold (T : Tx K mg) : VM P w K mg base 3 "told" (rcHp K) (fun i => spHTold K i "h" ["a"] ["b"] 0 []) := by
  refine ⟨fun i x H h => ?_⟩
  obtain ⟨a, rfl, w0, p, q, r, bs, ⟨dx, e⟩, _⟩ := h
  exact ⟨a, _, dx, _, _, rfl, e, fHelper_no_told .., T.c_Helper, T.m_Helper_told, (ok_Helper_told T i "h" ["a"] ["b"] 0 []).imp fun vs H' Q h => h.elim fun _ h => h.2⟩
theorem StepAt.way (T : Tx K mg) {a : Addr} {k : List Int} {s : Stp} (h : StepAt K H a k s) : ∃ C dx fs w, H a = some (.ins C dx fs) ∧ Cls K C ∧ NoAttr K C "way" ∧ fs.lookup ("way" : Str) = some (.ref w) ∧ WyAt K H w k := by
  cases s with
  | give n x y =>
    obtain ⟨w, p, q, ⟨dx, e⟩, hw, _⟩ := h
    exact ⟨_, dx, _, w, e, T.c_Give, T.n_Give_way, fGive_way .., hw⟩
  | line n b c =>
    obtain ⟨w, ⟨dx, e⟩, hw⟩ := h
    exact ⟨_, dx, _, w, e, T.c_Through, T.n_Through_way, fThrough_way .., hw⟩
  | round n b c o =>
    obtain ⟨w, ⟨dx, e⟩, hw⟩ := h
    exact ⟨_, dx, _, w, e, T.c_About, T.n_About_way, fAbout_way .., hw⟩
  | meet n b c o =>
    obtain ⟨w, v, ⟨dx, e⟩, hw, _⟩ := h
    exact ⟨_, dx, _, w, e, T.c_Crossing, T.n_Crossing_way, fCrossing_way .., hw⟩
  | use h0 gs ns =>
    obtain ⟨w, g, m, ⟨dx, e⟩, hw, _⟩ := h
    exact ⟨_, dx, _, w, e, T.c_Use, T.n_Use_way, fUse_way .., hw⟩
def spLaw (K : PySem.W.Frag) : S1 := fun vs H Q => ∃ (a : Addr) (is : List Int), vs = [.ref a] ∧ SqL K H a (is.map V.int) ∧ is.length ≤ 1000 ∧ ∀ H', Q (.bl true) H'
abbrev N_law : List Str := ["_law_script", "_law_parts_here", "_law_rows_here", "_law_text", "_law_plan", "_law_again", "_law_other", "_law_step_here", "_law_handed", "_law_made", "_law_lists", "_law_own", "_law_one", "_law_bare_here", "_law_part", "_law_row_here", "_law_k", "_law_name"]
theorem sc_law : FnScope N_law ["_law_script"] (defScope s_law) := ⟨rfl, rfl, rfl, by decide +kernel, rfl, by decide +kernel, by decide +kernel⟩
theorem ok_law (T : Tx K mg) {fd : FuncData} (F : FunD K "law" "law" (defArgs s_law) (defBody s_law) (defScope s_law) [] [] (He.ga K "law") fd) : FnOk P w K mg base CX0 9 (He.ga K "law") fd ["_law_script"] (up (spLaw K)) := by
  have G_L_parts := ok_L_parts (P := P) (w := w) (base := base) T
  have G_L_cell_at := ok_L_cell_at (P := P) (w := w) (base := base) T
  have G_L_rows := ok_L_rows (P := P) (w := w) (base := base) T
  have G_read := ok_read (P := P) (w := w) (base := base) T
  have G_written := ok_written (P := P) (w := w) (base := base) T
  have G_L_same := ok_L_same (P := P) (w := w) (base := base) T 6
  have V_ptold := ok_pltold (P := P) (w := w) (base := base) T
  have G_L_plan_told := ok_L_plan_told (P := P) (w := w) (base := base) T
  have G_L_steps := ok_L_steps (P := P) (w := w) (base := base) T
  have V_told := ok_told (P := P) (w := w) (base := base) T
  have V_renamed := ok_renamed (P := P) (w := w) (base := base) T
  have V_makes := ok_makes (P := P) (w := w) (base := base) T
  have V_asks := ok_asks (P := P) (w := w) (base := base) T
  have G_is_name := ok_is_name (P := P) (w := w) (base := base) T
  have G_is_plain := ok_is_plain (P := P) (w := w) (base := base) T
  have G_Plan := ok_Plan (P := P) (w := w) (base := base) T
  have G_Helper := ok_Helper (P := P) (w := w) (base := base) T
  have V_htold := ok_htold (P := P) (w := w) (base := base) T
  have G_L_bare := ok_L_bare (P := P) (w := w) (base := base) T
  refine F.ok sc_law (fun vs H Q E h => ?_) (fun cdv A outer s H vs Q E hr h => ?_)
  · obtain ⟨_, _, rfl, _⟩ := h
    rfl
  · obtain ⟨a, is, rfl, ha, hil, kk⟩ := h
    have nd := sc_law.nd
    refine ⟨_, PSs.nox (pss_cons (ps_set (i := 1) nd rfl (Or.inl rfl) (pe_gc G_L_parts hr (by decide) rfl (pa_cons (pv 0) (pa_cons pe_int (pa_cons pe_int pa_nil)))))
    (pss_cons (ps_if (pt_cmpR op_eq (pe_op op_mod (pe_gc G_L_cell_at hr (by decide) rfl (pa_cons (pv 0) (pa_cons pe_int pa_nil))) pe_int) pe_int (nomark _))
      (pss_one (ps_expr (pe_bm PySem.F.plainAttrs_list PySem.F.slot_list_append PySem.F.type_list_append mt_append (pv 1) (pa_cons (pe_tup (pa_cons pe_str (pa_cons (pe_op op_add_str pe_str (pe_ix ix_tup (pe_ix ix_list (pv 1) pe_int (fun _ _ => rfl)) pe_int (fun _ _ => rfl))) (pa_cons (pe_tup (pa_cons (pe_ix ix_tup (pe_ix ix_list (pv 1) pe_int (fun _ _ => rfl)) pe_int (fun _ _ => rfl)) (pa_cons pe_str pa_nil))) (pa_cons (pe_tup (pa_cons pe_str pa_nil)) pa_nil))))) pa_nil))))
      pss_nil)
    (pss_cons (ps_set (i := 2) nd rfl (Or.inl rfl) (pe_gc G_L_rows hr (by decide) rfl (pa_cons (pv 1) pa_nil)))
    (pss_cons (ps_set (i := 3) nd rfl (Or.inl rfl) (pe_join pe_str (pe_lc (own := [("_law_row_here", 15)]) (by rfl) nd (pi_list (pv 2)) (blkOk_by (N := N_law) (sc := defScope s_law) (by decide +kernel)) (fun _ _ _ _ _ => (pg_name (i := 15) nd rfl (Or.inl rfl))) (fun _ _ _ _ _ => pts_nil) (fun _ _ _ _ _ => (pe_op op_add_str (pv 15) pe_str)))))
    (pss_cons (ps_if (PW.pt (pw_or (pt_cmpR op_gt (pe_callB call_len_str (by rfl) T.f_len (by decide +kernel) (pa_cons (pv 3) pa_nil)) pe_int (nomark _)) (pw_or1 (pt_cmpR op_gt (pe_callB call_len_seq (by rfl) T.f_len (by decide +kernel) (pa_cons (pv 2) pa_nil)) pe_int (nomark _)))))
      (pss_one (ps_ret pe_bl))
      pss_nil)
    (pss_cons (ps_set (i := 4) nd rfl (Or.inl rfl) (pe_gc G_read hr (by decide) rfl (pa_cons (pv 3) pa_nil)))
    (pss_cons (ps_set (i := 5) nd rfl (Or.inl rfl) (pe_gc G_written hr (by decide) rfl (pa_cons (pv 4) pa_nil)))
    (pss_cons (ps_set (i := 6) nd rfl (Or.inl rfl) (pe_gc G_read hr (by decide) rfl (pa_cons (pv 5) pa_nil)))
    (pss_cons (ps_if (PW.pt (pw_or (pt_not (pt_val (pe_gc G_L_same hr (by decide) rfl (pa_cons (pe_vm0 V_ptold hr (by decide) (pv 4)) (pa_cons (pe_vm0 V_ptold hr (by decide) (pv 6)) pa_nil))))) (pw_or (pt_cmpR op_ne (pe_gc G_written hr (by decide) rfl (pa_cons (pv 6) pa_nil)) (pv 5) (nomark _)) (pw_or1 (pt_cmpR op_ne (pe_gc G_written hr (by decide) rfl (pa_cons (pv 4) pa_nil)) (pv 5) (nomark _))))))
      (pss_one (ps_ret pe_bl))
      pss_nil)
    (pss_cons (ps_if (pt_not (pt_val (pe_gc G_L_same hr (by decide) rfl (pa_cons (pe_vm0 V_ptold hr (by decide) (pv 4)) (pa_cons (pe_gc G_L_plan_told hr (by decide) rfl (pa_cons (pv 1) (pa_cons (pe_lc (own := [("_law_k", 16)]) (by rfl) nd (pi_range1 (by rfl) T.f_range (pa_cons (pe_callB call_len_seq (by rfl) T.f_len (by decide +kernel) (pa_cons (pv 2) pa_nil)) pa_nil)) (blkOk_by (N := N_law) (sc := defScope s_law) (by decide +kernel)) (fun _ _ _ _ _ => (pg_name (i := 16) nd rfl (Or.inl rfl))) (fun _ _ _ _ _ => pts_nil) (fun _ _ _ _ _ => (pe_tup (pa_cons (pe_op op_add (pv 16) pe_int) pa_nil)))) pa_nil))) pa_nil)))))
      (pss_one (ps_ret pe_bl))
      pss_nil)
    (pss_cons (ps_for PassesOwn.never rfl (pi_list (pe_gc G_L_steps hr (by decide) rfl (pa_cons (pv 4) pa_nil))) (pg_name (i := 7) nd rfl (Or.inl rfl))
      (pss_cons (ps_if (pt_not (pt_val (pe_gc G_L_same hr (by decide) rfl (pa_cons (pe_vm0 V_told hr (by decide) (pe_vm V_renamed hr (by decide) (pv 7) (pa_cons (pe_fld (pv 7) rfl) (pa_cons pe_dnewK pa_nil)))) (pa_cons (pe_vm0 V_told hr (by decide) (pv 7)) pa_nil)))))
        (pss_one (ps_ret pe_bl))
        pss_nil)
      (pss_one (ps_if (pt_not (pt_val (pe_callB (cr_all rfl) (by rfl) T.f_all (by decide +kernel) (pa_cons (pe_lc (own := [("_law_name", 17)]) (by rfl) nd (pi_tup (pe_op op_catS (pe_vm0 V_makes hr (by decide) (pv 7)) (pe_vm0 V_asks hr (by decide) (pv 7)))) (blkOk_by (N := N_law) (sc := defScope s_law) (by decide +kernel)) (fun _ _ _ _ _ => (pg_name (i := 17) nd rfl (Or.inl rfl))) (fun _ _ _ _ _ => pts_nil) (fun _ _ _ _ _ => (pe_gc G_is_name hr (by decide) rfl (pa_cons (pv 17) pa_nil)))) pa_nil))))
        (pss_one (ps_ret pe_bl))
        pss_nil))))
    (pss_cons (ps_setLc (i := 8) (own := [("_law_part", 14)]) (by rfl) nd rfl rfl (sw_true rfl rfl rfl (by decide +kernel)) (pi_tup (pe_fld (pv 4) rfl)) (blkOk_by (N := N_law) (sc := defScope s_law) (by decide +kernel)) (fun _ _ _ _ _ => (pg_name (i := 14) nd rfl (Or.inl rfl))) (fun _ _ _ _ _ => (pts_one (PW.pt (pw_or (pt_not (pt_val (pe_callB (isi_ (K := K) rfl) (by rfl) T.f_isinstance (by decide +kernel) (pa_cons (pv 14) (pa_cons (pe_glob (v := .ref (He.ga K "Helper")) rfl T.g_Helper rfl) pa_nil))))) (pw_or1 (pt_val (pe_gc G_is_plain hr (by decide) rfl (pa_cons (fld_ (K := K) rfl (pv 14) rfl) pa_nil)))))))) (fun _ _ _ _ _ => (pv 14)))
    (pss_cons (ps_set (i := 9) nd rfl (Or.inl rfl) (pe_gc G_Plan hr (by decide) rfl (pa_cons (pv 8) pa_nil)))
    (pss_cons (ps_expr (pe_bm0 PySem.F.plainAttrs_list PySem.F.slot_list_clear PySem.F.type_list_clear mt_clear (pv 8)))
    (pss_cons (ps_set (i := 10) nd rfl (Or.inl rfl) (pe_lst (pa_cons (pe_lst (pa_cons pe_str pa_nil)) (pa_cons (pe_lst (pa_cons pe_str pa_nil)) (pa_cons (pe_lst pa_nil) (pa_cons (pe_lst (pa_cons pe_int pa_nil)) pa_nil))))))
    (pss_cons (ps_set (i := 11) nd rfl (Or.inl rfl) (pe_gc G_Helper hr (by decide) rfl (pa_cons (pe_ix ix_list (pv 10) pe_int (fun _ _ => rfl)) (pa_cons pe_str (pa_cons (pe_ix ix_list (pv 10) pe_int (fun _ _ => rfl)) (pa_cons (pe_ix ix_list (pv 10) pe_int (fun _ _ => rfl)) (pa_cons (pe_ix ix_list (pv 10) pe_int (fun _ _ => rfl)) pa_nil)))))))
    (pss_cons (ps_for PassesOwn.never rfl (pi_list (pv 10)) (pg_name (i := 12) nd rfl (Or.inl rfl))
      (pss_one (ps_expr (pe_bm PySem.F.plainAttrs_list PySem.F.slot_list_append PySem.F.type_list_append mt_append (pv 12) (pa_cons pe_str pa_nil)))))
    (pss_cons (ps_if (PW.pt (pw_or (pt_cmpR (op_neD hr.units) (pe_vm0 V_htold hr (by decide) (pv 11)) (pe_tup (pa_cons pe_str (pa_cons (pe_tup (pa_cons pe_int pa_nil)) (pa_cons pe_str (pa_cons (pe_tup (pa_cons pe_str pa_nil)) (pa_cons (pe_tup (pa_cons pe_str pa_nil)) (pa_cons (pe_tup pa_nil) pa_nil))))))) (nomark _)) (pw_or1 (pt_not (pt_val (pe_callB call_isi (by rfl) T.f_isinstance (by decide +kernel) (pa_cons (pe_fld (pv 9) rfl) (pa_cons (pe_bltn (v := .ty "tuple") rfl T.f_tuple (by decide +kernel) rfl) pa_nil))))))))
      (pss_one (ps_ret pe_bl))
      pss_nil)
    (pss_cons (ps_set (i := 13) nd rfl (Or.inl rfl) (pe_gc G_Helper hr (by decide) rfl (pa_cons pe_non (pa_cons pe_str (pa_cons (pe_tup (pa_cons pe_str pa_nil)) (pa_cons (pe_tup (pa_cons pe_str pa_nil)) (pa_cons (pe_tup pa_nil) pa_nil)))))))
    (pss_cons (ps_if (PW.pt (pw_or (pt_cmpR (op_neD hr.units) (pe_vm0 V_htold hr (by decide) (pv 13)) (pe_tup (pa_cons pe_str (pa_cons (pe_tup pa_nil) (pa_cons pe_str (pa_cons (pe_tup (pa_cons pe_str pa_nil)) (pa_cons (pe_tup (pa_cons pe_str pa_nil)) (pa_cons (pe_tup pa_nil) pa_nil))))))) (nomark _)) (pw_or1 (pt_cmpR (op_neD hr.units) (pe_fld (pv 13) rfl) (pe_tup pa_nil) (nomark _)))))
      (pss_one (ps_ret pe_bl))
      pss_nil)
    (pss_cons (ps_if (PW.pt (pw_or (pt_cmpR op_ne (pe_gc G_written hr (by decide) rfl (pa_cons (pe_gc G_Plan hr (by decide) rfl (pa_cons (pe_tup pa_nil) pa_nil)) pa_nil)) pe_str (nomark _)) (pw_or (pt_cmpR (op_neD hr.units) (pe_vm0 V_ptold hr (by decide) (pe_gc G_read hr (by decide) rfl (pa_cons pe_str pa_nil))) (pe_tup pa_nil) (nomark _)) (pw_or1 (pt_cmpR (op_neD hr.units) (pe_vm0 V_ptold hr (by decide) (pe_gc G_read hr (by decide) rfl (pa_cons pe_str pa_nil))) (pe_tup pa_nil) (nomark _))))))
      (pss_one (ps_ret pe_bl))
      pss_nil)
    (pss_one (ps_ret (pe_and (pe_cmpR (op_eqD hr.units) (pe_gc G_L_bare hr (by decide) rfl (pa_cons (pe_vm0 V_ptold hr (by decide) (pv 9)) pa_nil)) (pe_gc G_L_bare hr (by decide) rfl (pa_cons (pe_vm0 V_ptold hr (by decide) (pv 6)) pa_nil)) (nomark _)) (pe_one (pe_cmpR op_eq (pe_gc G_written hr (by decide) rfl (pa_cons (pv 9) pa_nil)) (pv 5) (nomark _))))))))))))))))))))))))))), ?_⟩
    refine ⟨_, rfl, a, is, rfl, ha, hil, fun pl H1 xs0 ps0 s1 hpl e1 hxs0 ok0 hl0 hgive => ?_⟩
    obtain ⟨n0, f0, g0, r0, eps, hn0, hn12⟩ := hgive
    -- the odd use
    dsimp only
    refine vq_if (fun σ' H' => σ' = [some (.ref a), some (.ref pl), none, none, none, none, none, none, none, none, none, none, none, none, none, none, none, none] ∧ Same H H' ∧ ∃ (xs : List V) (ps : List Prt), H' pl = some (.lst xs) ∧ DtA K H' xs (ps.map Prt.dr) ∧ (∀ p ∈ ps, p.ok) ∧ ps.length ≤ 23) (fun D' hD' => ?_) fun σ' H2 hσ => ?_
    · have no := hD' [some (.ref a), some (.ref pl), none, none, none, none, none, none, none, none, none, none, none, none, none, none, none, none] H1 ⟨rfl, s1, xs0, ps0, e1, hxs0, ok0, by omega⟩
      refine ⟨_, rfl, a, is, 13, rfl, Same.ls s1 ha, by decide, fun rr => ⟨_, _, rfl, rfl, (by show (0 : Int) < _; decide), rfl, _, rfl, ?_⟩⟩
      refine ite2 (fun _ => ?_) fun _ => no
      rw [eps] at hxs0
      obtain ⟨v0, vr, rfl, hv0, _⟩ := DtA.cons_inv (ds := r0.map Prt.dr) hxs0
      obtain ⟨b0, w1, w2, rfl, hb0, _, _⟩ := dr_give (n := n0) (x := f0) (y := g0) hv0
      have at00 : atI (V.ref b0 :: vr) 0 = some (.ref b0) := atV _ _
      have at01 : atI [V.str "give", V.str n0, w1, w2] 1 = some (.str n0) := atI_nat (j := 1) rfl
      have e4 : ("q.m." : Str).length = 4 := by decide +kernel
      refine ⟨_, rfl, .inl ⟨rfl, _, SqL.of e1⟩, _, rfl, pl, _, 0, _, rfl, rfl, SqL.of e1, at00, b0, _, 1, _, rfl, rfl, hb0, at01, _, _, rfl, rfl, Nat.le_trans (by rw [e4]; omega : _ ≤ 20) (by decide), ?_⟩
      refine ⟨_, rfl, pl, _, 0, _, rfl, rfl, SqL.of e1, at00, b0, _, 1, _, rfl, rfl, hb0, at01, by show 2 ≤ sizeLine; decide, fun t1 ht1 => ?_⟩
      have u1 := Same.new (o := .tup [V.str n0, V.str "lost"]) ht1
      refine ⟨by show 1 ≤ sizeLine; decide, fun t2 ht2 => ?_⟩
      have u2 := Same.new (o := .tup [V.str "q.x"]) ht2
      refine ⟨by show 4 ≤ sizeLine; decide, fun t3 ht3 => ?_⟩
      have u3 := Same.new (o := .tup [V.str "use", V.str ("q.m." ++ n0), V.ref t1, V.ref t2]) ht3
      have u13 := u1.trans (u2.trans u3)
      refine ⟨pl, _, _, rfl, rfl, u13 _ _ e1, ?_, hD' _ _ ⟨rfl, Same.mut (s1.trans u13) hpl, V.ref b0 :: vr ++ [V.ref t3], ps0 ++ [.stp (.use ("q.m." ++ n0) [n0, "lost"] ["q.x"])], upd_same, ?_, fun p hp => ?_, by rw [List.length_append]; show _ + 1 ≤ _; omega⟩⟩
      · have := hxs0.length
        rw [this, List.length_map, ← eps]
        exact Nat.lt_of_le_of_lt hl0 (by decide)
      · rw [List.map_append, eps]
        refine DtA.sm (Sm.lst (u13 _ _ e1)) ?_
        exact (hxs0.sm u13.sm).snoc (dt_tup (SqT.of upd_same) (dta_cons dt_str (dta_cons dt_str (dta_cons (dt_ns (ns := [n0, "lost"]) (Same.t (u2.trans u3) (SqT.of upd_same))) (dta_cons (dt_ns (ns := ["q.x"]) (Same.t u3 (SqT.of upd_same))) dta_nil)))))
      · rcases List.mem_append.mp hp with hp | hp
        · exact ok0 p hp
        · rw [List.mem_singleton.mp hp]
          show Stp.ok (.use ("q.m." ++ n0) [n0, "lost"] ["q.x"])
          refine ⟨fun z hz => ?_, fun _ _ _ e => Stp.noConfusion e, fun h0 gs ns e => ?_⟩
          · exact allC (p := Nm) (nm_qm hn0 hn12) (allC hn0 (allC pl_lost.nm (allC nm_qx allN))) z hz
          · injection e with _ e2 e3
            rw [← e2, ← e3]
            exact ⟨by simp, by show 2 ≤ _; decide, by simp, by show 1 ≤ _; decide⟩
    obtain ⟨rfl, s2, xs, ps, e2, hxs, ok, hl⟩ := hσ
    clear hxs0 ok0 e1
    have rl7 : (lines ps).length ≤ 161 := Nat.le_trans (lines_len ok) (by omega)
    have rowl : (rows ps).length = (lines ps).length := by unfold rows; rw [List.length_map]
    have roww : ∀ z ∈ rows ps, z.length ≤ 4020 := fun z hz => by
      obtain ⟨l, hl, rfl⟩ := List.mem_map.mp hz
      exact (lines_ok ok l hl).row_len
    -- rows, text
    refine ⟨_, rfl, pl, xs, ps, rfl, SqL.of e2, hxs, ok, by omega, fun rl H3 s3 hrl e3 => ?_⟩
    refine ⟨⟨_, rfl⟩, _, rfl, rl, rfl, ⟨_, SqL.of e3⟩, ?_⟩
    refine lc_fn (K := K) (walk_list (K := K) (a := rl) (xs := (rows ps).map V.str)) (rows ps) (by rw [List.length_map]) (by omega) (fun z => V.str (z ++ "\n")) (fun _ s => Same.ls s (SqL.of e3)) (fun i z x H8 H9 hi s8 y Nx kx => ?_) mono_name fun D H4 hD s4 ha4 => ?_
    · obtain ⟨rfl, hx⟩ := y
      rw [List.getElem?_map, hi] at hx
      obtain rfl := Option.some.inj hx
      have h1 := roww z (List.mem_of_getElem? hi)
      have e1 : ("\n" : Str).length = 1 := by decide +kernel
      exact ⟨rfl, _, rfl, _, _, rfl, rfl, by rw [e1]; exact Nat.le_trans (Nat.add_le_add_right h1 1) (by decide), kx _ (Same.refl _)⟩
    refine ⟨"", D, (rows ps).map (fun z => z ++ "\n"), rfl, rfl, .inl (SqL.of (by rw [ha4, List.map_map]; rfl)), ?_, ?_⟩
    · have e1 : ("" : Str).length = 0 := by decide +kernel
      rw [e1, Nat.mul_zero, Nat.add_zero]
      refine Nat.le_trans (sum_map_le (b := 4021) fun z hz => ?_) ?_
      · obtain ⟨y, hy, rfl⟩ := List.mem_map.mp hz
        have := roww y hy
        have e1 : ("\n" : Str).length = 1 := by decide +kernel
        rw [Str.length_append, e1]
        omega
      · rw [List.length_map]
        omega
    have s24 := s2.trans (s3.trans s4)
    have e24p := s4 _ _ (s3 _ _ e2)
    have e24r := s4 _ _ e3
    have hxs4 := (hxs.sm s3.sm).sm s4.sm
    have tlen : (textP ps).length ≤ sizeLine := by
      rw [text_len]
      unfold rsum
      refine Nat.le_trans (sum_map_le (b := 4021) fun l hl => ?_) ?_
      · have := (lines_ok ok l hl).row_len
        omega
      · exact Nat.le_trans (Nat.mul_le_mul_left 4021 rl7) (by decide)
    -- too long: nothing asked
    refine ⟨_, rfl, textP ps, rfl, tlen, _, _, rfl, rfl, _, rfl, ?_⟩
    refine ite2 (fun _ => iteI rfl (kk _)) fun hlong => ?_
    refine ⟨_, rfl, rl, _, rfl, .inl (SqL.of e24r), _, _, rfl, rfl, _, rfl, ?_⟩
    refine ite2 (fun _ => kk _) fun hlong2 => ?_
    have tl6 : (textP ps).length ≤ 6000 := by
      have : ¬ (6000 : Int) < ((textP ps).length : Nat) := fun z => hlong (decide_eq_true z)
      omega
    have okr := oks_red ok
    have tr6 : (textP (ps.map Prt.red)).length ≤ 6000 := by
      rw [text_len] at tl6 ⊢
      exact Nat.le_trans (red_len ok) tl6
    have rl7r : (lines (ps.map Prt.red)).length ≤ 161 := Nat.le_trans (lines_len okr) (by rw [List.length_map]; omega)
    have skl : ∀ u ∈ [("" : Str)], Skip u := allC skip_nil allN
    have rcount : ∀ qs : List Prt, (lines qs).length ≤ 161 → (rows qs ++ [("" : Str)]).length ≤ 1000 := fun qs h => by
      unfold rows
      rw [List.length_append, List.length_map]
      show _ + 1 ≤ _
      omega
    -- read, written, read
    refine ⟨_, rfl, textP ps, ps, [""], rfl, tl6, split_textP ok, skl, rcount ps rl7, ok, by omega, fun pa H5 s5 hpa => ?_⟩
    refine ⟨_, rfl, pa, ps, rfl, hpa, ok, by omega, fun H6 s6 => ?_⟩
    refine ⟨_, rfl, textP (ps.map Prt.red), ps.map Prt.red, [""], rfl, tr6, split_textP okr, skl, rcount _ rl7r, okr, by rw [List.length_map]; omega, fun oa H7 s7 hoa => ?_⟩
    have s57 := s5.trans (s6.trans s7)
    have hpa7 := hpa.sm T (s6.trans s7).sm
    have hld : okD 6 (.tuple (ptds 1 ps)) := plan_ok ok (by omega) 1
    -- told the same, written the same
    refine ⟨_, rfl, ps, ⟨pa, rfl, hpa7⟩, pa, rfl, hpa7, ok, by omega, fun v8 H8 s8 d8 => ?_⟩
    have hoa8 := hoa.sm T s8.sm
    refine ⟨_, rfl, ps.map Prt.red, ⟨oa, rfl, hoa8⟩, oa, rfl, hoa8, okr, by rw [List.length_map]; omega, fun v9 H9 s9 d9 => ?_⟩
    rw [ptds_red ps 1 ok] at d9
    refine ⟨v8, v9, _, rfl, d8.sm s9.sm, d9, hld, fun H10 s10 => ⟨true, rfl, iteN (by decide) ?_⟩⟩
    have s710 := s8.trans (s9.trans s10)
    refine ⟨_, rfl, oa, ps.map Prt.red, rfl, hoa.sm T s710.sm, okr, by rw [List.length_map]; omega, fun H11 s11 => ⟨_, rfl, rfl, _, rfl, iteN (neS (by rw [red_reds ok])) ?_⟩⟩
    refine ⟨_, rfl, pa, ps, rfl, hpa7.sm T (s710.trans s11).sm, ok, by omega, fun H12 s12 => ⟨_, rfl, rfl, _, rfl, iteN (neS rfl) ?_⟩⟩
    have s712 := s710.trans (s11.trans s12)
    have hpa12 := hpa7.sm T s712.sm
    have hoa12 := hoa.sm T s712.sm
    have s412 := s57.trans s712
    have e12p := s412 _ _ e24p
    have e12r := s412 _ _ e24r
    have hxs12 := hxs4.sm s412.sm
    -- the plan that was drawn
    refine ⟨_, rfl, ps, ⟨pa, rfl, hpa12⟩, pa, rfl, hpa12, ok, by omega, fun v13 H13 s13 d13 => ?_⟩
    refine ⟨_, rfl, _, rfl, rl, _, rfl, .inl (SqL.of (s13 _ _ e12r)), _, rfl, by omega, ?_, ?_⟩
    · rw [List.length_map, rowl]
      omega
    refine lc_mk (K := K) (walk_range (lo := 0) (n := ((((rows ps).map V.str).length : Nat) : Int).toNat)) (List.range (rows ps).length) (by rw [List.length_range, List.length_map]; rfl) (by rw [List.length_range]; omega) (fun j v H => Dt K H v (dW [((j : Nat) : Int) + 1])) (fun _ _ _ _ sm h => h.sm sm) (fun _ _ => trivial) (fun i j x H8 H9 hi s8 y Nx kx => ?_) mono_name fun wl H14 acc hwl s14 ha14 hp14 => ?_
    · obtain ⟨rfl, rfl⟩ := y
      have hlt : i < (rows ps).length := by
        have := (List.getElem?_eq_some_iff.mp hi).1
        rwa [List.length_range] at this
      rw [List.getElem?_range hlt] at hi
      have hij : i = j := Option.some.inj hi
      refine ⟨rfl, _, rfl, _, _, rfl, rfl, by show 1 ≤ sizeLine; decide, fun t ht => kx _ _ (Same.new ht) ?_⟩
      refine dt_tup (SqT.of upd_same) ?_
      show DtA K _ [V.int (0 + ((i : Nat) : Int) + 1)] [PyData.int (((j : Nat) : Int) + 1)]
      rw [← hij, Int.zero_add]
      exact dta_cons dt_int dta_nil
    have hwd : DtA K H14 acc (wysD (rows ps).length) := paired_dta (f := fun j : Nat => dW [((j : Nat) : Int) + 1]) hp14
    refine ⟨pl, wl, xs, acc, ps, (rows ps).length, rfl, SqL.of (s14 _ _ (s13 _ _ e12p)), hxs12.sm (s13.trans s14).sm, SqL.of ha14, hwd, by omega, ok, by omega, fun v15 H15 s15 d15 => ?_⟩
    refine ⟨v13, v15, _, rfl, d13.sm (s14.trans s15).sm, d15, hld, fun H16 s16 => ⟨true, rfl, iteN (by decide) ?_⟩⟩
    have s1216 := s13.trans (s14.trans (s15.trans s16))
    have hpa16 := hpa12.sm T s1216.sm
    have hoa16 := hoa12.sm T s1216.sm
    -- each step
    refine ⟨_, rfl, pa, ps, rfl, hpa16, ok, by omega, fun sl H17 es s17 hsl e17 hes => ⟨sl, rfl, ⟨_, SqL.of e17⟩, ?_⟩⟩
    have hpa17 := hpa16.sm T s17.sm
    have hoa17 := hoa16.sm T s17.sm
    refine for_it (walk_list (K := K) (a := sl) (xs := es.map fun e => V.ref e.a)) (fun i σ H' => Same H17 H' ∧ ∃ pt : Option V, σ = [some (.ref a), some (.ref pl), some (.ref rl), some (.str (textP ps)), some (.ref pa), some (.str (textP (ps.map Prt.red))), some (.ref oa), pt, none, none, none, none, none, none, none, none, none, none]) ⟨Same.refl _, none, rfl⟩ (fun i σ H' _ q => Same.ls q.1 (SqL.of e17)) (fun i x σ H18 H18' hi q y => ?_) fun σ H18 q => ?_
    · obtain ⟨s18, pt, rfl⟩ := q
      obtain ⟨rfl, hx⟩ := y
      rw [List.getElem?_map] at hx
      obtain ⟨e, he, rfl⟩ := Option.map_eq_some_iff.mp hx
      obtain ⟨hat, sok, kj, hkj⟩ := hes e (List.mem_of_getElem? he)
      obtain ⟨b, k, s0⟩ := e
      have hat := hat.sm T s18.sm
      obtain ⟨C, dx, fs, wy, eb, hC, hN, hlk, hwy⟩ := hat.way T
      refine ⟨_, rfl, (k, s0), ⟨b, rfl, hat⟩, _, rfl, b, C, dx, fs, _, rfl, eb, hC, hN, hlk, fun dd hdd => ?_⟩
      have t1 := Same.new (o := .dK []) hdd
      refine ⟨b, wy, dd, k, rfl, hat.sm T t1.sm, Same.t t1 hwy, upd_same, sok, fun c H19 t2 hc => ?_⟩
      refine ⟨(k, s0), ⟨c, rfl, hc⟩, c, rfl, hc, fun v20 H20 t3 d20 => ?_⟩
      have hat20 := hat.sm T (t1.trans (t2.trans t3)).sm
      refine ⟨_, rfl, (k, s0), ⟨b, rfl, hat20⟩, b, rfl, hat20, fun v21 H21 t4 d21 => ?_⟩
      have hok3 : okD 6 (s0.td (dW k)) := by
        have hkj : k = [kj] := hkj
        rw [hkj]
        exact (sok.td_ok kj).mono (by decide)
      refine ⟨v20, v21, _, rfl, d20.sm t4.sm, d21, hok3, fun H22 t5 => ⟨true, rfl, iteN (by decide) ?_⟩⟩
      have t15 := t1.trans (t2.trans (t3.trans (t4.trans t5)))
      have hat22 := hat.sm T t15.sm
      refine ⟨_, rfl, (k, s0), ⟨b, rfl, hat22⟩, b, rfl, hat22, fun m1 H23 t6 hm1 => ?_⟩
      have hat23 := hat22.sm T t6.sm
      refine ⟨_, rfl, (k, s0), ⟨b, rfl, hat23⟩, b, rfl, hat23, fun m2 H24 t7 hm2 => ?_⟩
      have hcnt : (s0.makes ++ s0.asks).length ≤ 20 := sok.cnt
      refine ⟨m1, m2, _, _, rfl, rfl, Same.t t7 hm1, hm2, by rw [List.length_map, List.length_map, ← List.length_append]; exact Nat.le_trans hcnt (by decide), fun m3 H25 t8 hm3 => ⟨m3, rfl, ⟨_, hm3⟩, ?_⟩⟩
      rw [← List.map_append] at hm3
      refine lc_true (K := K) (walk_tup (K := K) (a := m3) (xs := (s0.makes ++ s0.asks).map V.str)) (s0.makes ++ s0.asks) (by rw [List.length_map]) (Nat.le_trans hcnt (by decide)) (fun _ s => Same.t s hm3) (fun j z x H26 H27 hj t9 y Nx kx => ?_) mono_name fun D26 H26 t9 hD26 ha26 => ?_
      · obtain ⟨rfl, hx⟩ := y
        rw [List.getElem?_map, hj] at hx
        obtain rfl := Option.some.inj hx
        exact ⟨rfl, _, rfl, z, rfl, sok.all_nm z (List.mem_of_getElem? hj), fun H' s' => kx _ s'⟩
      · refine ⟨D26, _, rfl, hD26, ?_⟩
        rw [ha26]
        exact ⟨true, rfl, iteN (by decide) ⟨s18.trans (t15.trans (t6.trans (t7.trans (t8.trans t9)))), _, rfl⟩⟩
    obtain ⟨s18, pt, rfl⟩ := q
    have hpa18 := hpa17.sm T s18.sm
    have hoa18 := hoa17.sm T s18.sm
    -- handed, made
    obtain ⟨t, bs, ⟨dxp, hpl18⟩, ht18, hs18⟩ := hpa18
    refine ⟨_, rfl, pa, _, dxp, _, _, rfl, hpl18, T.c_Plan, T.n_Plan_parts, fPlan_parts .., t, rfl, ⟨_, ht18⟩, ?_⟩
    refine lc_filter (walk_tup (K := K) (a := t) (xs := bs.map V.ref)) bs (by rw [List.length_map]) (by rw [hs18.len]; omega) (fun _ => true) V.ref (fun _ s => Same.t s ht18) (fun i b x H2 H3 hi s2 y Nx Nf kx kn => ?_) fun hd H19 hD19 s19 ha19 => ?_
    · obtain ⟨rfl, hx⟩ := y
      rw [List.getElem?_map, hi] at hx
      obtain rfl := Option.some.inj hx
      have hlt : i < (wpt 1 ps).length := by
        rw [wpt_len, ← hs18.len]
        exact (List.getElem?_eq_some_iff.mp hi).1
      obtain ⟨b', hb', hsb⟩ := (hs18.sm T s2.sm).ww i _ (List.getElem?_eq_getElem hlt)
      rw [hi] at hb'
      obtain rfl := Option.some.inj hb'
      have hm0 : ((wpt 1 ps)[i]).2 ∈ (wpt 1 ps).map Prod.snd := List.mem_map_of_mem (List.getElem_mem hlt)
      rw [wpt_snd ps 1] at hm0
      have pok : ((wpt 1 ps)[i]).2.ok := ok _ hm0
      generalize (wpt 1 ps)[i] = dd at hsb pok
      obtain ⟨k0, p0⟩ := dd
      refine ⟨rfl, ?_⟩
      cases p0 with
      | stp s0 =>
        have hsb : StepAt K H3 b [k0] s0 := hsb
        obtain ⟨ty, hty, k1, k2, k3⟩ := isi_step T hsb
        exact ⟨_, rfl, _, _, ty, _, false, rfl, .own _, hty, k2, false, rfl, iteI rfl (iteI rfl ⟨_, rfl, kx _ (Same.refl _) rfl⟩)⟩
      | hlp n qs as st =>
        obtain ⟨w0, p1, q1, r1, bs1, ⟨dy, hb1⟩, hw1, hp1, hq1, hr1, hs1⟩ := hsb
        obtain ⟨ty, hty, k1, k2⟩ := isi_help T hb1
        have hok : Prt.hok n qs as st := pok
        exact ⟨_, rfl, _, _, ty, _, true, rfl, .own _, hty, k2, true, rfl, iteN (by decide) ⟨_, rfl, b, _, dy, _, _, rfl, hb1, T.c_Helper, T.n_Helper_name, fHelper_name .., n, rfl, hok.nm, fun H' s' => ⟨true, rfl, iteI rfl ⟨_, rfl, kx _ s' rfl⟩⟩⟩⟩
    rw [List.filter_eq_self.mpr (fun _ _ => rfl)] at ha19
    refine ⟨_, rfl, hd, _, rfl, .inl (SqL.of ha19), fun ma H20 s20 t2 hma ht2 => ?_⟩
    have s1820 := s19.trans s20
    have hma20 : PlanAt K H20 ma ps := ⟨t2, bs, hma, ht2, hs18.sm T s1820.sm⟩
    have hoa20 := hoa18.sm T s1820.sm
    have e20 := s20 _ _ ha19
    refine ⟨_, rfl, .inl ⟨rfl, _, SqL.of e20⟩, hd, _, rfl, rfl, e20, ?_⟩
    have m21 : Sm K H20 (upd H20 hd (.lst [])) := Sm.lst e20
    have hma21 := hma20.sm T m21
    have hoa21 := hoa20.sm T m21
    generalize upd H20 hd (.lst []) = H21 at hma21 hoa21 ⊢
    -- the four lists
    refine ⟨by show 1 ≤ sizeLine; decide, fun l0 hl0 => ?_⟩
    refine ⟨by show 1 ≤ sizeLine; decide, fun l1 hl1 => ?_⟩
    refine ⟨by show 0 ≤ sizeLine; decide, fun l2 hl2 => ?_⟩
    refine ⟨by show 1 ≤ sizeLine; decide, fun l3 hl3 => ?_⟩
    refine ⟨by show 4 ≤ sizeLine; decide, fun lo hlo => ?_⟩
    have n0 := Same.new (o := .lst [V.str "a"]) hl0
    have n1 := Same.new (o := .lst [V.str "b"]) hl1
    have n2 := Same.new (o := .lst []) hl2
    have n3 := Same.new (o := .lst [V.int 7]) hl3
    have n4 := Same.new (o := .lst [V.ref l0, V.ref l1, V.ref l2, V.ref l3]) hlo
    have x0 := n4 _ _ (n3 _ _ (n2 _ _ (n1 l0 (.lst [V.str "a"]) upd_same)))
    have x1 := n4 _ _ (n3 _ _ (n2 l1 (.lst [V.str "b"]) upd_same))
    have x2 := n4 _ _ (n3 l2 (.lst []) upd_same)
    have x3 := n4 l3 (.lst [V.int 7]) upd_same
    have d0 : l0 ≠ lo := ne_of_none (n3 _ _ (n2 _ _ (n1 l0 (.lst [V.str "a"]) upd_same))) hlo
    have d1 : l1 ≠ lo := ne_of_none (n3 _ _ (n2 l1 (.lst [V.str "b"]) upd_same)) hlo
    have d2 : l2 ≠ lo := ne_of_none (n3 l2 (.lst []) upd_same) hlo
    have d3 : l3 ≠ lo := ne_of_none (show _ = some (HO.lst [V.int 7]) from upd_same) hlo
    have xo : (upd (upd (upd (upd (upd H21 l0 (.lst [V.str "a"])) l1 (.lst [V.str "b"])) l2 (.lst [])) l3 (.lst [V.int 7])) lo (.lst [V.ref l0, V.ref l1, V.ref l2, V.ref l3])) lo = some (.lst [V.ref l0, V.ref l1, V.ref l2, V.ref l3]) := upd_same
    have n04 := n0.trans (n1.trans (n2.trans (n3.trans n4)))
    have hma22 := hma21.sm T n04.sm
    have hoa22 := hoa21.sm T n04.sm
    generalize (upd (upd (upd (upd (upd H21 l0 (.lst [V.str "a"])) l1 (.lst [V.str "b"])) l2 (.lst [])) l3 (.lst [V.int 7])) lo (.lst [V.ref l0, V.ref l1, V.ref l2, V.ref l3])) = H22 at x0 x1 x2 x3 xo hma22 hoa22 ⊢
    -- own
    refine ⟨_, rfl, lo, _, 3, _, rfl, rfl, SqL.of xo, atI_nat (j := 3) rfl, ?_⟩
    refine ⟨_, rfl, lo, _, 0, _, rfl, rfl, SqL.of xo, atI_nat (j := 0) rfl, ?_⟩
    refine ⟨_, rfl, lo, _, 1, _, rfl, rfl, SqL.of xo, atI_nat (j := 1) rfl, ?_⟩
    refine ⟨_, rfl, lo, _, 2, _, rfl, rfl, SqL.of xo, atI_nat (j := 2) rfl, ?_⟩
    refine ⟨_, [V.int 7], _, l0, [V.str "a"], l1, [V.str "b"], l2, [], rfl, .inr ⟨l3, rfl, .inl (SqL.of x3)⟩, .inl (SqL.of x0), .inl (SqL.of x1), .inl (SqL.of x2), fun ow H23 s23 w' v1' v2' v3' how hw' hv1 hv2 hv3 => ?_⟩
    have how23 : HelpAt K H23 ow [7] "h" ["a"] ["b"] 0 [] := ⟨w', v1', v2', v3', [], how, hw', hv1, hv2, hv3, rfl⟩
    have hma23 := hma22.sm T s23.sm
    have hoa23 := hoa22.sm T s23.sm
    have x0 := s23 _ _ x0
    have x1 := s23 _ _ x1
    have x2 := s23 _ _ x2
    have x3 := s23 _ _ x3
    have xo := s23 _ _ xo
    -- the lists are written on
    refine ⟨_, rfl, lo, rfl, ⟨_, SqL.of xo⟩, ?_⟩
    refine for_it (walk_list (K := K) (a := lo) (xs := [V.ref l0, V.ref l1, V.ref l2, V.ref l3])) (fun i σ H' => Sm K H23 H' ∧ H' lo = some (.lst [V.ref l0, V.ref l1, V.ref l2, V.ref l3]) ∧ (∀ l, l ∈ [l0, l1, l2, l3] → ∃ ys, H' l = some (.lst ys) ∧ ys.length ≤ 1 + i) ∧ ∃ lv : Option V, σ = [some (.ref a), some (.ref pl), some (.ref rl), some (.str (textP ps)), some (.ref pa), some (.str (textP (ps.map Prt.red))), some (.ref oa), pt, some (.ref hd), some (.ref ma), some (.ref lo), some (.ref ow), lv, none, none, none, none, none])
      ⟨Sm.refl _, xo, fun l hl => ?_, none, rfl⟩ (fun i σ H' _ q => SqL.of q.2.1) (fun i x σ H24 H24' hi q y => ?_) fun σ H24 q => ?_
    · have : l = l0 ∨ l = l1 ∨ l = l2 ∨ l = l3 := by simpa using hl
      rcases this with rfl | rfl | rfl | rfl
      · exact ⟨_, x0, by show 1 ≤ 1; decide⟩
      · exact ⟨_, x1, by show 1 ≤ 1; decide⟩
      · exact ⟨_, x2, by show 0 ≤ 1; decide⟩
      · exact ⟨_, x3, by show 1 ≤ 1; decide⟩
    · obtain ⟨q1, q2, q3, lv, rfl⟩ := q
      obtain ⟨rfl, hx⟩ := y
      have hi4 : i < 4 := (List.getElem?_eq_some_iff.mp hx).1
      obtain ⟨l, hl, rfl⟩ : ∃ l, l ∈ [l0, l1, l2, l3] ∧ x = V.ref l := by
        have := List.mem_of_getElem? hx
        have h4 : x = V.ref l0 ∨ x = V.ref l1 ∨ x = V.ref l2 ∨ x = V.ref l3 := by simpa using this
        rcases h4 with e | e | e | e
        · exact ⟨l0, by simp, e⟩
        · exact ⟨l1, by simp, e⟩
        · exact ⟨l2, by simp, e⟩
        · exact ⟨l3, by simp, e⟩
      have hne : lo ≠ l := by
        have : l = l0 ∨ l = l1 ∨ l = l2 ∨ l = l3 := by simpa using hl
        rcases this with rfl | rfl | rfl | rfl
        · exact d0.symm
        · exact d1.symm
        · exact d2.symm
        · exact d3.symm
      obtain ⟨ys, hy, hyl⟩ := q3 l hl
      refine ⟨_, rfl, .inl ⟨rfl, _, SqL.of hy⟩, l, ys, _, rfl, rfl, hy, Nat.lt_of_le_of_lt hyl (Nat.lt_of_lt_of_le (by omega : 1 + i < 6) (by decide)), ?_⟩
      refine ⟨q1.trans (Sm.lst hy), by rw [upd_ne hne]; exact q2, fun l' hl' => ?_, _, rfl⟩
      by_cases hll : l' = l
      · subst hll
        exact ⟨_, upd_same, by rw [List.length_append]; show _ + 1 ≤ _; omega⟩
      · obtain ⟨zs, hz, hzl⟩ := q3 l' hl'
        exact ⟨zs, by rw [upd_ne hll]; exact hz, by omega⟩
    obtain ⟨m24, _, _, lv, rfl⟩ := q
    have how24 := how23.sm T m24
    have hma24 := hma23.sm T m24
    have hoa24 := hoa23.sm T m24
    -- told of own
    refine ⟨_, rfl, [7], ⟨ow, rfl, how24⟩, ow, rfl, how24, by show 0 ≤ 1000; decide, fun v25 H25 s25 e25 => ?_⟩
    refine ⟨by show 1 ≤ sizeLine; decide, fun b1 hb1 => ?_⟩
    refine ⟨by show 1 ≤ sizeLine; decide, fun b2 hb2 => ?_⟩
    refine ⟨by show 1 ≤ sizeLine; decide, fun b3 hb3 => ?_⟩
    refine ⟨by show 0 ≤ sizeLine; decide, fun b4 hb4 => ?_⟩
    refine ⟨by show 6 ≤ sizeLine; decide, fun b5 hb5 => ?_⟩
    have p1 := Same.new (o := .tup [V.int 7]) hb1
    have p2 := Same.new (o := .tup [V.str "a"]) hb2
    have p3 := Same.new (o := .tup [V.str "b"]) hb3
    have p4 := Same.new (o := .tup []) hb4
    have p5 := Same.new (o := .tup [V.str "helper", V.ref b1, V.str "h", V.ref b2, V.ref b3, V.ref b4]) hb5
    have p15 := p1.trans (p2.trans (p3.trans (p4.trans p5)))
    refine ⟨hpD [7], hpD [7], (e25.sm p15.sm).dp, (dt_tup (SqT.of upd_same) (dta_cons dt_str (dta_cons (dt_w (k := [7]) (Same.t (p2.trans (p3.trans (p4.trans p5))) (SqT.of upd_same))) (dta_cons dt_str (dta_cons (dt_ns (ns := ["a"]) (Same.t (p3.trans (p4.trans p5)) (SqT.of upd_same))) (dta_cons (dt_ns (ns := ["b"]) (Same.t (p4.trans p5) (SqT.of upd_same))) (dta_cons (dt_tup (Same.t p5 (SqT.of upd_same)) dta_nil) dta_nil))))))).dp, shaped_gd (hpD_gd _) (by decide), shaped_gd (hpD_gd _) (by decide), _, rfl, iteN (ne_no (hpD_gd _)) ?_⟩
    have hma25 := (hma24.sm T s25.sm).sm T p15.sm
    have hoa25 := (hoa24.sm T s25.sm).sm T p15.sm
    generalize (upd (upd (upd (upd (upd H25 b1 _) b2 _) b3 _) b4 _) b5 _) = H26 at hma25 hoa25 ⊢
    -- made.parts
    have hma25' := hma25
    obtain ⟨tp, bs2, ⟨dxq, hpm⟩, htp, _⟩ := hma25'
    refine ⟨_, rfl, ma, _, dxq, _, _, rfl, hpm, T.c_Plan, T.n_Plan_parts, fPlan_parts .., _, _, _, _, true, rfl, .ty _, ty_tup htp, kO_tt K, true, rfl, iteN (by decide) ?_⟩
    -- the bare one
    refine ⟨by show 1 ≤ sizeLine; decide, fun c1 hc1 => ?_⟩
    refine ⟨by show 1 ≤ sizeLine; decide, fun c2 hc2 => ?_⟩
    refine ⟨by show 0 ≤ sizeLine; decide, fun c3 hc3 => ?_⟩
    have r1 := Same.new (o := .tup [V.str "a"]) hc1
    have r2 := Same.new (o := .tup [V.str "b"]) hc2
    have r3 := Same.new (o := .tup []) hc3
    have r13 := r1.trans (r2.trans r3)
    refine ⟨_, [], _, c1, [V.str "a"], c2, [V.str "b"], c3, [], rfl, .inl ⟨rfl, rfl⟩, .inr (Same.t (r2.trans r3) (SqT.of upd_same)), .inr (Same.t r3 (SqT.of upd_same)), .inr (SqT.of upd_same), fun ba H27 s27 w2 v1'' v2'' v3'' hba hw2 hu1 hu2 hu3 => ?_⟩
    have hba27 : HelpAt K H27 ba [] "h" ["a"] ["b"] 0 [] := ⟨w2, v1'', v2'', v3'', [], hba, hw2, hu1, hu2, hu3, rfl⟩
    have hma27 := (hma25.sm T r13.sm).sm T s27.sm
    have hoa27 := (hoa25.sm T r13.sm).sm T s27.sm
    refine ⟨_, rfl, [], ⟨ba, rfl, hba27⟩, ba, rfl, hba27, by show 0 ≤ 1000; decide, fun v28 H28 s28 e28 => ?_⟩
    have hba28 := hba27.sm T s28.sm
    have hma28 := hma27.sm T s28.sm
    have hoa28 := hoa27.sm T s28.sm
    refine ⟨by show 0 ≤ sizeLine; decide, fun b1 hb1 => ?_⟩
    refine ⟨by show 1 ≤ sizeLine; decide, fun b2 hb2 => ?_⟩
    refine ⟨by show 1 ≤ sizeLine; decide, fun b3 hb3 => ?_⟩
    refine ⟨by show 0 ≤ sizeLine; decide, fun b4 hb4 => ?_⟩
    refine ⟨by show 6 ≤ sizeLine; decide, fun b5 hb5 => ?_⟩
    have p1 := Same.new (o := .tup []) hb1
    have p2 := Same.new (o := .tup [V.str "a"]) hb2
    have p3 := Same.new (o := .tup [V.str "b"]) hb3
    have p4 := Same.new (o := .tup []) hb4
    have p5 := Same.new (o := .tup [V.str "helper", V.ref b1, V.str "h", V.ref b2, V.ref b3, V.ref b4]) hb5
    have p15 := p1.trans (p2.trans (p3.trans (p4.trans p5)))
    refine ⟨hpD [], hpD [], (e28.sm p15.sm).dp, (dt_tup (SqT.of upd_same) (dta_cons dt_str (dta_cons (dt_w (k := []) (Same.t (p2.trans (p3.trans (p4.trans p5))) (SqT.of upd_same))) (dta_cons dt_str (dta_cons (dt_ns (ns := ["a"]) (Same.t (p3.trans (p4.trans p5)) (SqT.of upd_same))) (dta_cons (dt_ns (ns := ["b"]) (Same.t (p4.trans p5) (SqT.of upd_same))) (dta_cons (dt_tup (Same.t p5 (SqT.of upd_same)) dta_nil) dta_nil))))))).dp, shaped_gd (hpD_gd _) (by decide), shaped_gd (hpD_gd _) (by decide), _, rfl, iteN (ne_no (hpD_gd _)) ?_⟩
    have hba29 := hba28.sm T p15.sm
    have hma29 := hma28.sm T p15.sm
    have hoa29 := hoa28.sm T p15.sm
    generalize (upd (upd (upd (upd (upd H28 b1 _) b2 _) b3 _) b4 _) b5 _) = H29 at hba29 hma29 hoa29 ⊢
    obtain ⟨w3, _, _, _, _, ⟨dxb, hb9⟩, hw3, _⟩ := hba29
    refine ⟨_, rfl, ba, _, dxb, _, _, rfl, hb9, T.c_Helper, T.n_Helper_way, fHelper_way .., by show 0 ≤ sizeLine; decide, fun u30 hu30 => ?_⟩
    have g30 := Same.new (o := .tup []) hu30
    refine ⟨.tuple [], .tuple [], (dt_tup (Same.t g30 hw3) dta_nil).dp, (dt_tup (SqT.of upd_same) dta_nil).dp, shaped_gd gd_nil (by decide), shaped_gd gd_nil (by decide), _, rfl, iteN (ne_no gd_nil) ?_⟩
    have hma30 := hma29.sm T g30.sm
    have hoa30 := hoa29.sm T g30.sm
    generalize upd H29 u30 (.tup []) = H30 at hma30 hoa30 ⊢
    -- nothing written, nothing read
    refine ⟨by show 0 ≤ sizeLine; decide, fun u31 hu31 => ?_⟩
    have g31 := Same.new (o := .tup []) hu31
    refine ⟨u31, [], rfl, .inr (SqT.of upd_same), fun pe H32 s32 tv hpe htv => ?_⟩
    refine ⟨pe, [], rfl, ⟨tv, [], hpe, htv, rfl⟩, allN, by show 0 ≤ 100; decide, fun H33 s33 => ⟨rfl, _, rfl, iteN (neS (by decide +kernel)) ?_⟩⟩
    have g33 := g31.trans (s32.trans s33)
    refine ⟨"", [], [""], rfl, by decide +kernel, by decide +kernel, skl, by show 1 ≤ 1000; decide, allN, by show 0 ≤ 1000; decide, fun ra H34 s34 hra => ?_⟩
    refine ⟨[], ⟨ra, rfl, hra⟩, ra, rfl, hra, allN, by show 0 ≤ 1000; decide, fun v35 H35 s35 e35 => ?_⟩
    refine ⟨by show 0 ≤ sizeLine; decide, fun u36 hu36 => ?_⟩
    have g36 := Same.new (o := .tup []) hu36
    refine ⟨.tuple [], .tuple [], (e35.sm g36.sm).dp, (dt_tup (SqT.of upd_same) dta_nil).dp, shaped_gd gd_nil (by decide), shaped_gd gd_nil (by decide), _, rfl, iteN (ne_no gd_nil) ?_⟩
    have g3336 := g33.trans (s34.trans (s35.trans g36))
    refine ⟨"# x\n\n", [], ["# x", "", ""], rfl, by decide +kernel, by decide +kernel, allC skip_hash (allC skip_nil (allC skip_nil allN)), by show 3 ≤ 1000; decide, allN, by show 0 ≤ 1000; decide, fun ra H37 s37 hra => ?_⟩
    refine ⟨[], ⟨ra, rfl, hra⟩, ra, rfl, hra, allN, by show 0 ≤ 1000; decide, fun v38 H38 s38 e38 => ?_⟩
    refine ⟨by show 0 ≤ sizeLine; decide, fun u39 hu39 => ?_⟩
    have g39 := Same.new (o := .tup []) hu39
    refine ⟨.tuple [], .tuple [], (e38.sm g39.sm).dp, (dt_tup (SqT.of upd_same) dta_nil).dp, shaped_gd gd_nil (by decide), shaped_gd gd_nil (by decide), _, rfl, iteN (ne_no gd_nil) ?_⟩
    have g3039 := g3336.trans (s37.trans (s38.trans g39))
    have hmaF := hma30.sm T g3039.sm
    have hoaF := hoa30.sm T g3039.sm
    generalize upd H38 u39 (.tup []) = H39 at hmaF hoaF ⊢
    -- the answer
    have ebd : (ps.map Prt.red).map Prt.bd = ps.map Prt.bd := by
      rw [List.map_map]
      exact List.map_congr_left fun p hp => (ok p hp).red_bd
    have gb := gd_bds ok
    refine ⟨_, rfl, ps, ⟨ma, rfl, hmaF⟩, ma, rfl, hmaF, ok, by omega, fun v40 H40 s40 e40 => ?_⟩
    refine ⟨v40, ps, 1, rfl, e40, by omega, ok, fun v41 H41 s41 e41 => ?_⟩
    have hoa41 := (hoaF.sm T s40.sm).sm T s41.sm
    refine ⟨_, rfl, ps.map Prt.red, ⟨oa, rfl, hoa41⟩, oa, rfl, hoa41, okr, by rw [List.length_map]; omega, fun v42 H42 s42 e42 => ?_⟩
    refine ⟨v42, ps.map Prt.red, 1, rfl, e42, by rw [List.length_map]; omega, okr, fun v43 H43 s43 e43 => ?_⟩
    rw [ebd] at e43
    refine ⟨_, _, ((e41.sm s42.sm).sm s43.sm).dp, e43.dp, shaped_gd gb (by decide), shaped_gd gb (by decide), _, rfl, iteI (eq_yes gb) ?_⟩
    refine ⟨_, rfl, ma, ps, rfl, (((hmaF.sm T s40.sm).sm T s41.sm).sm T s42.sm).sm T s43.sm, ok, by omega, fun H44 s44 => ⟨_, rfl, rfl, ?_⟩⟩
    rw [decide_eq_true rfl]
    exact kk _
end
end Rod
set_option Elab.async false
set_option linter.all false
set_option maxRecDepth 100000
set_option maxHeartbeats 0
namespace Rod
open PySem PySem.Spec PyProof.Rows L2
theorem facts_law {P : Program} {w : World} {K : PySem.W.Frag} {h : Heap} {mg : Str → Option Value} {f : Addr} (X : K.In h) (G : h.Ns mainGlobals mg) (hfa : mg ("law" : Str) = some (.ref f)) (c : SaysR K) :
    ∃ fd : FuncData, (∀ (s : Shared) (v : Value), BindsTo s fd ⟨[v], []⟩ [("_law_script", v)]) ∧ ∀ base : Heap, K.In base → base.Ns mainGlobals mg → FnOk P w K mg base CX0 9 f fd ["_law_script"] (up (spLaw K)) := by
  have T : Tx K mg := ⟨c, ⟨h, X, G⟩⟩
  obtain ⟨fd, F⟩ := T.d_law
  have e := hfa.symm.trans T.g_law
  cases e
  have b := FunD.bindsA (ps := ["_law_script"]) F fun _ _ _ _ _ _ us hl => match us, hl with | [_], _ => rfl
  exact ⟨fd, fun s v => b s [v] rfl, fun base _ _ => ok_law T F⟩
end Rod
open PySem PySem.W PySem.Calls PyProof.Rows
theorem PySem.Challenge.cw_rodleg_k56_whole_texts_holds : PySem.Challenge.rw_rodleg_k56_whole_texts.Holds := by
  w_on; o_law
  refine HandSHeadRun.head_any (r := OpenLaw.row PySem.Challenge.rw_rodleg_k56_whole_texts) (q := view (OpenLaw.row PySem.Challenge.rw_rodleg_k56_whole_texts).prog [114]) (H := Rod.hookR) (ob := Rod.ob) (M := 20000) (loose := Rod.nm) (d := HandSHeadRun.topDef (OpenLaw.row PySem.Challenge.rw_rodleg_k56_whole_texts).prog 114) (kwd := []) Rod.ob_eq
    (by kernel_rfl) (fun s => by kernel_rfl) Rod.run (by kernel_rfl) (by kernel_rfl) (by kernel_rfl) (by rfl) (by first | assumption | decide +kernel) (by decide +kernel) ⟨rfl, rfl, rfl, rfl, rfl, by decide +kernel⟩ ?hw ?hc
  case hw => w_witness2
  case hc =>
    refine L2.walk_ofE (l := PySem.Challenge.rw_rodleg_k56_whole_texts) (n := 63) (k := 9) (x := "_law_script") (CX := L2.CX0) rfl (by decide) (by kernel_rfl) ⟨rfl, by decide, by decide⟩ ?F (fun _ _ _ _ z => z)
    intro w mg fa h Y G hmg0
    obtain ⟨K, KX, c⟩ := Y
    have hmg : mg ("law" : PySem.Str) = some (.ref fa) := by
      have e : (HandSHeadRun.topDef (OpenLaw.row PySem.Challenge.rw_rodleg_k56_whole_texts).prog 114).name = ("law" : PySem.Str) := by kernel_rfl
      rw [← e]
      exact hmg0
    obtain ⟨fd, hb, hF⟩ := Rod.facts_law (P := (PySem.Challenge.rw_rodleg_k56_whole_texts).prog) (w := w) KX G hmg c
    exact ⟨K, fd, Rod.up (Rod.spLaw K), KX, hb, fun H a ns hl _ hS => ⟨a, ns, rfl, hS, by omega, fun _ => rfl⟩, hF⟩
