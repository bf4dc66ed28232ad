import PyProof.Rows.All
import Wide.All
import OpenK.AllK
import Wide.FinOn
import KE.DatumOrd
import HandS.ForMost
import HandS.TupAny
import HandS.Wide
import HandS.IsInst
import HandS.Conv
import HandS.Defaults
import HandS.HeadHook1
import HandS.HeadHook2
import PySem.Challenge.RW_quitsways_k71_whole_unlike_queues
import KE.KStateDown
import HandS.Head0
import HandS.Head1
import HandS.Head2
import HandS.HeadEnd
import HandS.HeadHook4
import HandS.Codes
set_option Elab.async false
set_option linter.all false
set_option maxRecDepth 100000
set_option maxHeartbeats 4000000
namespace K71
open PySem PySem.Spec PyProof.Rows L2
/-! ### the text by places -/
def top (i : Nat) : Stmt := PySem.Challenge.pw_quitsways_k71_whole_unlike_queues.main.body.getD i (.Pass ⟨0, 0, 0, 0⟩)
abbrev s__wall : Stmt := top 0
abbrev s_BadEvening_init : Stmt := inClass (top 3) 0
abbrev s_TooMany_init : Stmt := inClass (top 4) 0
abbrev s_is_integer : Stmt := top 7
abbrev s_is_within : Stmt := top 8
abbrev s_is_pair : Stmt := top 9
abbrev s_are_ascending : Stmt := top 10
abbrev s_is_lot_below : Stmt := top 11
abbrev s_check_most : Stmt := top 12
abbrev s_common_divisor : Stmt := top 15
abbrev s_made : Stmt := top 16
abbrev s_whole : Stmt := top 17
abbrev s_plus : Stmt := top 18
abbrev s_minus : Stmt := top 19
abbrev s_times : Stmt := top 20
abbrev s_over : Stmt := top 21
abbrev s_is_less : Stmt := top 22
abbrev s_least_of : Stmt := top 23
abbrev s_total_of : Stmt := top 24
abbrev s_measure_of : Stmt := top 25
abbrev s_is_fraction : Stmt := top 26
abbrev s_is_amount : Stmt := top 27
abbrev s_are_sums : Stmt := top 30
abbrev s_Evening_init : Stmt := inClass (top 31) 0
abbrev s_Evening___eq__ : Stmt := inClass (top 31) 1
abbrev s_all_sums : Stmt := top 32
abbrev s_people : Stmt := top 33
abbrev s_measure : Stmt := top 34
abbrev s_State_init : Stmt := inClass (top 36) 0
abbrev s_State_amount_of : Stmt := inClass (top 36) 1
abbrev s_State_go : Stmt := inClass (top 36) 2
abbrev s_State_all_quits : Stmt := inClass (top 36) 3
abbrev s_State_told : Stmt := inClass (top 36) 4
abbrev s_State_pairs : Stmt := inClass (top 36) 5
abbrev s_is_order : Stmt := top 39
abbrev s_sorted_numbers : Stmt := top 40
abbrev s_check_orders : Stmt := top 41
abbrev s_way_of_queues : Stmt := top 42
abbrev s_queue_way : Stmt := top 43
abbrev s_queue_number : Stmt := top 44
abbrev s_whole_sums : Stmt := top 45
abbrev s_rest_by : Stmt := top 46
abbrev s_fits_unit : Stmt := top 47
abbrev s_queue_unit : Stmt := top 48
abbrev s_Joints_init : Stmt := inClass (top 49) 0
abbrev s_Joints_next_ones : Stmt := inClass (top 49) 1
abbrev s_Joints_follow : Stmt := inClass (top 49) 2
abbrev s_Joints_later_lots : Stmt := inClass (top 49) 3
abbrev s_Joints_orders : Stmt := inClass (top 49) 4
abbrev s_queues_alike : Stmt := top 50
abbrev s_unlike_queues : Stmt := top 51
abbrev s_l_is_integer : Stmt := top 53
abbrev s_l_source : Stmt := top 54
abbrev s_l_draw : Stmt := top 55
abbrev s_l_made : Stmt := top 56
abbrev s_l_unit : Stmt := top 57
abbrev s_l_times : Stmt := top 58
abbrev s_l_split : Stmt := top 59
abbrev s_l_perm : Stmt := top 60
abbrev s_l_side : Stmt := top 61
abbrev s_l_sums : Stmt := top 62
abbrev s_l_crowd : Stmt := top 63
abbrev s_l_evening : Stmt := top 64
abbrev s_l_pay : Stmt := top 65
abbrev s_l_flag : Stmt := top 66
abbrev s_l_orders : Stmt := top 67
abbrev s_l_queue_way : Stmt := top 68
abbrev s_l_queue_unit : Stmt := top 69
abbrev s_l_queue_numbers : Stmt := top 70
abbrev s_l_most_parts : Stmt := top 71
abbrev s_l_together : Stmt := top 72
abbrev s_l_is_order : Stmt := top 73
abbrev s_l_put_together : Stmt := top 74
abbrev s_l_right : Stmt := top 75
abbrev s_l_fourteen_hold : Stmt := top 76
abbrev s_law : Stmt := top 77
abbrev FnP (K : PySem.W.Frag) (x qual : Str) (st : Stmt) (f : Addr) (fd : FuncData) : Prop := FunD K x qual (defArgs st) (defBody st) (defScope st) [] [] f fd
/-! ### what the head tells -/
structure Txt (K : PySem.W.Frag) (mg : Str → Option Value) : Prop where
  c_ZERO : mg "ZERO" = some (.ref (He.ga K "ZERO"))
  zero : ∀ H : Hp, SqT K H (He.ga K "ZERO") [.int 0, .int 1]
  c_MOST_SIDE : ∃ t, mg "MOST_SIDE" = some (.int 100 t)
  c_MOST_JOINED : ∃ t, mg "MOST_JOINED" = some (.int 14 t)
  cl_Evening : Cls K (He.ga K "Evening")
  cl_State : Cls K (He.ga K "State")
  cl_Joints : Cls K (He.ga K "Joints")
  mg_Evening : mg "Evening" = some (.ref (He.ga K "Evening"))
  mg_State : mg "State" = some (.ref (He.ga K "State"))
  mg_Joints : mg "Joints" = some (.ref (He.ga K "Joints"))
  na_owed : NoAttr K (He.ga K "Evening") "owed"
  na_due : NoAttr K (He.ga K "Evening") "due"
  na_owed_left : NoAttr K (He.ga K "State") "owed_left"
  na_due_left : NoAttr K (He.ga K "State") "due_left"
  na_many : NoAttr K (He.ga K "Joints") "many"
  na_everyone : NoAttr K (He.ga K "Joints") "everyone"
  na_gaps : NoAttr K (He.ga K "Joints") "gaps"
  na_everybody : NoAttr K (He.ga K "Joints") "everybody"
  len' : mg "len" = none
  abs' : mg "abs" = none
  min' : mg "min" = none
  max' : mg "max" = none
  sum' : mg "sum" = none
  all' : mg "all" = none
  int' : mg "int" = none
  bool' : mg "bool" = none
  tuple' : mg "tuple" = none
  list' : mg "list" = none
  sorted' : mg "sorted" = none
  isinstance' : mg "isinstance" = none
  range : mg "range" = none
/-- a def of the module: its promise, by its name -/
structure Dn (P : Program) (w : World) (K : PySem.W.Frag) (mg : Str → Option Value) (base : Heap) (x : Str) (ps : List Str) (k : Nat) (sp : Sp) : Prop where
  ex : ∃ f fd, FnOk P w K mg base CX0 k f fd ps sp ∧ mg x = some (.ref f) ∧ PySem.W.keepIn K (.ref f) = true ∧ Binds K fd ps []
/-- a method -/
structure Dm (P : Program) (w : World) (K : PySem.W.Frag) (mg : Str → Option Value) (base : Heap) (C m : Str) (ps : List Str) (k : Nat) (sp : Sp) : Prop where
  ex : ∃ f fd, FnOk P w K mg base CX0 k f fd ps sp ∧ Meth K (He.ga K C) m f ∧ Binds K fd ps []
/-- an __init__ -/
structure Di (P : Program) (w : World) (K : PySem.W.Frag) (mg : Str → Option Value) (base : Heap) (C : Str) (ps : List Str) (k : Nat) (sp : Sp) : Prop where
  ex : ∃ f fd, FnOk P w K mg base CX0 k f fd ps sp ∧ Mk K (He.ga K C) f ∧ Binds K fd ps []
section
variable {X : Cx} {x m C : Str} {ps : List Str} {k : Nat} {sp : Sp} {e o : Expr} {es : List Expr} {p pos apos : Pos} {t : TA} {ta : TE}
theorem pe_dn (D : Dn X.prog X.w X.K X.mg X.base x ps k sp) (hr : Room k X.A) (hg : Gl X x) (ha : PA X (e :: es) t) (hdb : (x == ("__debug__" : Str)) = false := by decide)
    (he : starEach (e :: es) X.env = (false, eval e X.env) :: starEach es X.env := by rfl) (hpl : (backTo pos (starEach es X.env)).any (·.1) = false := by rfl) : PE X (.Call (.Name x p) (e :: es) [] pos) (tCall sp [] E0 t) := by
  obtain ⟨f, fd, F, hm, hk, hb⟩ := D.ex
  exact pe_call F hr hg hm hk hb .nil pass0 ha hdb he hpl
theorem pe_mk (D : Di X.prog X.w X.K X.mg X.base C ps k sp) (hr : Room (k + 1) X.A) (hg : Gl X x) (hm : X.mg x = some (.ref (He.ga X.K C))) (ha : PA X (e :: es) t) (hdb : (x == ("__debug__" : Str)) = false := by decide)
    (he : starEach (e :: es) X.env = (false, eval e X.env) :: starEach es X.env := by rfl) (hpl : (backTo pos (starEach es X.env)).any (·.1) = false := by rfl) : PE X (.Call (.Name x p) (e :: es) [] pos) (tMake (He.ga X.K C) sp [] E0 t) := by
  obtain ⟨f, fd, F, M, hb⟩ := D.ex
  exact pe_make M F hr hg hm hb .nil pass0 ha hdb he hpl
theorem pe_mt {pl : Sem Bool} (D : Dm X.prog X.w X.K X.mg X.base C m ps k sp) (c : Cls X.K (He.ga X.K C)) (ho : PE X o ta) (hr : Room k X.A) (ha : PA X (e :: es) t)
    (hst : starEach (e :: es) X.env = (false, eval e X.env) :: starEach es X.env := by rfl) (hpl : (backTo pos (starEach es X.env)).any (·.1) = false := by rfl)
    (ht : eval (.Call (.Attribute o m apos) (e :: es) [] pos) X.env = (do
      let ov ← eval o X.env
      standAt apos.atName
      let (f, first) ← holding [ov] (getMethod ov m pl)
      callWith pos f first (backTo pos (starEach (e :: es) X.env)) (backToKw pos (keywordEach [] X.env))) := by rfl) :
    PE X (.Call (.Attribute o m apos) (e :: es) [] pos) (tMeth (He.ga X.K C) m sp [] E0 ta t) := by
  obtain ⟨f, fd, F, hm, hb⟩ := D.ex
  exact pe_meth ho c hm F hr hb .nil pass0 ha hst hpl ht
theorem ixT (K : PySem.W.Frag) (h : X.K = K := by rfl) : IxR X (rIxT K) := by
  subst h
  exact ix_tup
theorem ixL (K : PySem.W.Frag) (h : X.K = K := by rfl) : IxR X (rIxL K) := by
  subst h
  exact ix_list
theorem isi (K : PySem.W.Frag) (h : X.K = K := by rfl) : CallR X (.builtin "isinstance") (rIsi K) := by
  subst h
  exact call_isi
theorem fldK {f : Str} (K : PySem.W.Frag) (he : PE X e ta) (hb : attributeBase e f X.env (eval e X.env) = eval e X.env) (h : X.K = K := by rfl) : PE X (.Attribute e f pos) (tFld K ta f) := by
  subst h
  exact pe_fld he hb
theorem eqD (K : PySem.W.Frag) (hu : X.A.units + 64 < cLine) (h : X.K = K := by rfl) : OpR X (compareOp .Eq) (rEqD K) := by
  subst h
  exact op_eqD hu
theorem neD (K : PySem.W.Frag) (hu : X.A.units + 64 < cLine) (h : X.K = K := by rfl) : OpR X (compareOp .NotEq) (rNeD K) := by
  subst h
  exact op_neD hu
theorem pe_globR {a : Addr} (h : X.mg x = some (.ref a)) (hg : Gl X x) (hd : (x == ("__debug__" : Str)) = false := by decide) (hcd : (x == ("__classdict__" : Str)) = false := by decide) : PE X (.Name x p) (tC (.ref a)) := pe_glob (v := .ref a) hg h rfl hd
theorem pe_globI {j : Int} (h : ∃ t, X.mg x = some (.int j t)) (hg : Gl X x) (hd : (x == ("__debug__" : Str)) = false := by decide) (hcd : (x == ("__classdict__" : Str)) = false := by decide) : PE X (.Name x p) (tC (.int j)) := by
  obtain ⟨t, hm⟩ := h
  exact pe_glob (v := .int j) hg hm ⟨_, rfl⟩ hd
end
section
variable {P : Program} {w : World} {K : PySem.W.Frag} {mg : Str → Option Value} {base : Heap} {f : Addr} {fd : FuncData} {x q : Str} {st : Stmt} {ps : List Str} {k : Nat} {sp : Sp}
theorem dn_of (F : FnP K x q st f fd) (G : FnOk P w K mg base CX0 k f fd ps sp) (hm : mg x = some (.ref f)) (hb : Binds K fd ps []) : Dn P w K mg base x ps k sp := ⟨f, fd, G, hm, F.kp, hb⟩
end
/-! ### heaps -/
theorem _root_.L2.Same.new {H : Hp} {p : Addr} {o : HO} (h : H p = none) : Same H (upd H p o) := fun a u e => by
  rw [upd_ne (ne_of_none e h)]
  exact e
theorem _root_.L2.Same.mut {H H' : Hp} {p : Addr} {o : HO} (e : Same H H') (h : H p = none) : Same H (upd H' p o) := fun a u ha => by
  rw [upd_ne (ne_of_none ha h)]
  exact e a u ha
theorem _root_.L2.Same.rd {H H' : Hp} {a : Addr} {u : HO} (e : Same H H') (h : Rd H a u) : Rd H' a u := by
  rcases h with h | ⟨o, h⟩
  · exact Or.inl (e a _ h)
  · exact Or.inr ⟨o, e a _ h⟩
theorem _root_.L2.Same.t {K : PySem.W.Frag} {H H' : Hp} {a : Addr} {xs : List V} (e : Same H H') (h : SqT K H a xs) : SqT K H' a xs := by
  rcases h with h | h
  · exact Or.inl (e.rd h)
  · exact Or.inr h
theorem _root_.L2.Same.l {K : PySem.W.Frag} {H H' : Hp} {a : Addr} {xs : List V} (e : Same H H') (h : SqL K H a xs) : SqL K H' a xs := e.seq h
theorem sqt {K : PySem.W.Frag} {H : Hp} {a : Addr} {xs : List V} (h : H a = some (.tup xs)) : SqT K H a xs := .inl (.inl h)
theorem sql {K : PySem.W.Frag} {H : Hp} {a : Addr} {xs : List V} (h : H a = some (.lst xs)) : SqL K H a xs := .inl (.inl h)
/-- two tellings of one tuple -/
def P2 (q : Int × Int) : List V := [.int q.1, .int q.2]
/-- a fraction stands there -/
def Fr (K : PySem.W.Frag) (H : Hp) (v : V) (q : Int × Int) : Prop := ∃ p, v = .ref p ∧ SqT K H p (P2 q)
theorem Fr.mono {K : PySem.W.Frag} {H H' : Hp} {v : V} {q : Int × Int} (e : Same H H') (h : Fr K H v q) : Fr K H' v q := by
  obtain ⟨p, a, b⟩ := h
  exact ⟨p, a, e.t b⟩
/-- related one by one -/
abbrev Frs (K : PySem.W.Frag) (H : Hp) (vs : List V) (qs : List (Int × Int)) : Prop := Paired (fun v q => Fr K H v q) vs qs
theorem Frs.mono {K : PySem.W.Frag} {H H' : Hp} {vs : List V} {qs : List (Int × Int)} (e : Same H H') (h : Frs K H vs qs) : Frs K H' vs qs := Paired.mapP h fun _ _ r => r.mono e
/-- a tuple of fractions -/
def FrT (K : PySem.W.Frag) (H : Hp) (v : V) (qs : List (Int × Int)) : Prop := ∃ p vs, v = .ref p ∧ SqT K H p vs ∧ Frs K H vs qs
theorem FrT.mono {K : PySem.W.Frag} {H H' : Hp} {v : V} {qs : List (Int × Int)} (e : Same H H') (h : FrT K H v qs) : FrT K H' v qs := by
  obtain ⟨p, vs, a, b, c⟩ := h
  exact ⟨p, vs, a, e.t b, c.mono e⟩
/-- a tuple (a list) of ints -/
def IT (K : PySem.W.Frag) (H : Hp) (v : V) (ns : List Int) : Prop := ∃ p, v = .ref p ∧ SqT K H p (ns.map V.int)
theorem IT.mono {K : PySem.W.Frag} {H H' : Hp} {v : V} {ns : List Int} (e : Same H H') (h : IT K H v ns) : IT K H' v ns := by
  obtain ⟨p, a, b⟩ := h
  exact ⟨p, a, e.t b⟩
def IL (K : PySem.W.Frag) (H : Hp) (v : V) (ns : List Int) : Prop := ∃ p, v = .ref p ∧ SqL K H p (ns.map V.int)
/-- a tuple has the type tuple -/
theorem ty_tup {K : PySem.W.Frag} {H : Hp} {a : Addr} {xs : List V} (h : SqT K H a xs) : TyX K H (.ref a) (.type "tuple") := by
  rcases h with (h | ⟨o, h⟩) | h
  · exact .base (.tup h)
  · exact .fTuple h
  · obtain ⟨o, its, n, l, c, _⟩ := h
    exact .kTuple l c
/-! ### calls on tuples of ints that the layer has for lists alone -/
theorem ints_hold {h : Heap} {its : List Value} {ns : List Int} (r : IntsAre its ns) : PySem.W.HoldAll h its ns := by
  induction r with
  | nil => exact PySem.W.HoldAll.nil
  | cons n t _ ih => exact PySem.W.HoldAll.cons ⟨_, Reads.int n t⟩ ih
theorem hold_int {h : Heap} {v : Value} {n : Int} (r : PySem.W.Holds h v n) : ∃ t, v = .int n t := by
  obtain ⟨as, r⟩ := r
  have r2 : Reads h v (.int n) as := r
  cases r2 with
  | int _ t => exact ⟨t, rfl⟩
theorem minOf_ok : ∀ (xs : List Int) (x : Int), PySem.W.minOf x xs ∈ x :: xs ∧ ∀ y ∈ x :: xs, PySem.W.minOf x xs ≤ y
  | [], x => ⟨List.mem_cons_self .., fun y hy => by
    rcases List.mem_cons.mp hy with e | hy
    · rw [e]
      exact Int.le_refl _
    · cases hy⟩
  | z :: xs, x => by
    have e : PySem.W.minOf x (z :: xs) = PySem.W.minOf (if decide (z < x) = true then z else x) xs := rfl
    rw [e]
    by_cases h : z < x
    · rw [if_pos (decide_eq_true h)]
      obtain ⟨h1, h2⟩ := minOf_ok xs z
      refine ⟨List.mem_cons_of_mem _ h1, fun y hy => ?_⟩
      rcases List.mem_cons.mp hy with e | hy
      · have := h2 z (List.mem_cons_self ..)
        omega
      · exact h2 y hy
    · rw [if_neg (by simpa using h)]
      obtain ⟨h1, h2⟩ := minOf_ok xs x
      refine ⟨?_, fun y hy => ?_⟩
      · rcases List.mem_cons.mp h1 with e | h1
        · rw [e]
          exact List.mem_cons_self ..
        · exact List.mem_cons_of_mem _ (List.mem_cons_of_mem _ h1)
      · have hx := h2 x (List.mem_cons_self ..)
        rcases List.mem_cons.mp hy with e | hy
        · omega
        · rcases List.mem_cons.mp hy with e | hy
          · omega
          · exact h2 y (List.mem_cons_of_mem _ hy)
theorem maxOf_ok : ∀ (xs : List Int) (x : Int), PySem.W.maxOf x xs ∈ x :: xs ∧ ∀ y ∈ x :: xs, y ≤ PySem.W.maxOf x xs
  | [], x => ⟨List.mem_cons_self .., fun y hy => by
    rcases List.mem_cons.mp hy with e | hy
    · rw [e]
      exact Int.le_refl _
    · cases hy⟩
  | z :: xs, x => by
    have e : PySem.W.maxOf x (z :: xs) = PySem.W.maxOf (if decide (x < z) = true then z else x) xs := rfl
    rw [e]
    by_cases h : x < z
    · rw [if_pos (decide_eq_true h)]
      obtain ⟨h1, h2⟩ := maxOf_ok xs z
      refine ⟨List.mem_cons_of_mem _ h1, fun y hy => ?_⟩
      rcases List.mem_cons.mp hy with e | hy
      · have := h2 z (List.mem_cons_self ..)
        omega
      · exact h2 y hy
    · rw [if_neg (by simpa using h)]
      obtain ⟨h1, h2⟩ := maxOf_ok xs x
      refine ⟨?_, fun y hy => ?_⟩
      · rcases List.mem_cons.mp h1 with e | h1
        · rw [e]
          exact List.mem_cons_self ..
        · exact List.mem_cons_of_mem _ (List.mem_cons_of_mem _ h1)
      · have hx := h2 x (List.mem_cons_self ..)
        rcases List.mem_cons.mp hy with e | hy
        · omega
        · rcases List.mem_cons.mp hy with e | hy
          · omega
          · exact h2 y (List.mem_cons_of_mem _ hy)
def rMinT (K : PySem.W.Frag) : List V → Hp → VK → Prop := fun vs H Q => ∃ (a : Addr) (ns : List Int), vs = [V.ref a] ∧ SqT K H a (ns.map V.int) ∧ ns ≠ [] ∧ ∀ m, m ∈ ns → (∀ y, y ∈ ns → m ≤ y) → Q (.int m) H
def rMaxT (K : PySem.W.Frag) : List V → Hp → VK → Prop := fun vs H Q => ∃ (a : Addr) (ns : List Int), vs = [V.ref a] ∧ SqT K H a (ns.map V.int) ∧ ns ≠ [] ∧ ∀ m, m ∈ ns → (∀ y, y ∈ ns → y ≤ m) → Q (.int m) H
section
variable {X : Cx}
theorem room_I {u : Nat} (hu : u + 64 < cLine) : u + 1 + PySem.W.Datum.depth Int < cLine := by
  have hd : PySem.W.Datum.depth Int = 0 := rfl
  omega
theorem cr_minT (hc : X.calm = true) (hu : X.A.units + 64 < cLine) : CallR X (.builtin "min") (rMinT X.K) := by
  intro pins s σ H vs us Q I r h
  obtain ⟨a, ns, rfl, hs, ne, q⟩ := h
  obtain ⟨its, rv, ht, _⟩ := I.tuple hs
  rw [Vals.ref1 r]
  cases ns with
  | nil => exact absurd rfl ne
  | cons x xs =>
    refine PySem.W.min_tuple_datum (I.ok.hd hc) ht (ints_hold rv.ints) (room_I hu) fun i v h' tk hi hv hk => ?_
    obtain ⟨t, rfl⟩ := hold_int hv
    exact ⟨.int _, H, I.kept hk, ⟨_, rfl⟩, q _ (minOf_ok xs x).1 (minOf_ok xs x).2⟩
theorem cr_maxT (hc : X.calm = true) (hu : X.A.units + 64 < cLine) : CallR X (.builtin "max") (rMaxT X.K) := by
  intro pins s σ H vs us Q I r h
  obtain ⟨a, ns, rfl, hs, ne, q⟩ := h
  obtain ⟨its, rv, ht, _⟩ := I.tuple hs
  rw [Vals.ref1 r]
  cases ns with
  | nil => exact absurd rfl ne
  | cons x xs =>
    refine PySem.W.max_tuple_datum (I.ok.hd hc) ht (ints_hold rv.ints) (room_I hu) fun i v h' tk hi hv hk => ?_
    obtain ⟨t, rfl⟩ := hold_int hv
    exact ⟨.int _, H, I.kept hk, ⟨_, rfl⟩, q _ (maxOf_ok xs x).1 (maxOf_ok xs x).2⟩
end
/-! ### sorted(a tuple of ints) -/
section
variable {prog : Program} {w : World} {A : Around} {E : Value → Shared → Prop} {s : Shared}
theorem collect_tupleK {l : Addr} {vs : List Value} {Q : List Value → Shared → Prop} (hl : IsTup s.heap l vs.toArray) (hsz : vs.length ≤ sizeLine)
    (h : Q vs { s with heap := (s.heap.push (seqObj "list" #[] 0)).update s.heap.objs.size (Obj.mapSeq (· ++ vs.toArray)) }) : wpAny (model prog w) A (collect (.ref l)) Q E s := by
  obtain ⟨o, ho, hc, n, hd⟩ := id hl
  unfold collect
  refine wpAny_bind (wpAny_runValue (codeAny_builtin entry_proto_collect' ?_))
  show wpAny _ _ (do again (.builtin "list.__iadd__" ⟨[← newList [], .ref l], []⟩)) _ _ s
  refine wpAny_bind (wpAny_newList (wpAny_pure ⟨Code.quiet_builtin _ (by decide +kernel), codeAny_builtin entry_list_iadd' ?_⟩))
  show wpAny _ _ (Builtin.List.listExtendWith (.ref s.heap.objs.size) (.ref l) (.ref s.heap.objs.size)) _ _ { s with heap := s.heap.push (seqObj "list" #[] 0) }
  unfold Builtin.List.listExtendWith
  have ho' : (s.heap.push (seqObj "list" #[] 0)).get? l = some o := Heap.get?_push_of_some _ ho
  refine wpAny_bind (wpAny_typeOf (T := "tuple") ⟨o, ho', hc⟩ ?_)
  have ht : (Value.type "tuple" == Value.type "tuple") = true := by rfl
  rw [if_pos (by rw [ht]; simp)]
  refine wpAny_bind (listItems_at ho' hd ?_)
  refine wpAny_bind (listItems_at (xs := #[]) (n := 0) (Heap.get?_push_size _ rfl) rfl ?_)
  rw [if_neg (by simp)]
  refine wpAny_bind (listUpdate_at (xs := #[]) (n := 0) (Heap.get?_push_size _ rfl) rfl ?_ (Nat.zero_le _) (by show (#[] ++ vs.toArray).size ≤ sizeLine + 1; simp only [Array.size_append, List.size_toArray, List.length_nil]; omega))
  refine wpAny_pure ?_
  show wpAny (model prog w) A (do
      let o ← load s.heap.objs.size
      match o.data with
      | .seq xs _ => pure xs.toList
      | _ => unsupported "internal:collect") Q E { s with heap := (s.heap.push (seqObj "list" #[] 0)).update s.heap.objs.size (Obj.mapSeq (· ++ vs.toArray)) }
  refine wpAny_bind (wpAny_load (get?_update_seq (Heap.get?_push_size _ rfl) _) ?_)
  show wpAny _ _ (pure ((#[] : Array Value) ++ vs.toArray).toList) Q E _
  rw [show ((#[] : Array Value) ++ vs.toArray).toList = vs by simp]
  exact wpAny_pure h
theorem sorted_tup_ints {l : Addr} {vs : List Value} {ns : List Int} {Q : Value → Shared → Prop} (hl : IsTup s.heap l vs.toArray) (hI : IntsAre vs ns) (h64 : vs.length < 64)
    (h : ∀ (out : Array Value) (ns' : List Int), IntsAre out.toList ns' → ns'.Perm ns → ns'.Pairwise (· ≤ ·) → Q (.ref (s.heap.objs.size + 1)) { s with heap := sortedAll s.heap vs out }) :
    wpAny (model prog w) A (call (.builtin "sorted") [.ref l]) Q E s := by
  refine Calls.call_function_entry kind_sorted plain_sorted entry_sorted (args_sorted1 _) ?_
  unfold Builtin.«sorted»
  refine wpAny_bind (m := checkCount "sorted" 1 1 _) (wpAny_pure ?_)
  refine wpAny_bind (collect_tupleK hl (small64 h64) ?_)
  refine wpAny_bind (wpAny_newList ?_)
  have hsz : ((s.heap.push (seqObj "list" #[] 0)).update s.heap.objs.size (Obj.mapSeq (· ++ vs.toArray))).objs.size = s.heap.objs.size + 1 := by
    rw [Heap.size_update, size_push']
  have hoL : (((s.heap.push (seqObj "list" #[] 0)).update s.heap.objs.size (Obj.mapSeq (· ++ vs.toArray))).push (seqObj "list" vs.toArray 0)).get? (s.heap.objs.size + 1) = some (seqObj "list" vs.toArray 0) := by
    rw [← hsz]; exact Heap.get?_push_size _ rfl
  show wpAny _ _ _ _ _ { s with heap := ((s.heap.push (seqObj "list" #[] 0)).update s.heap.objs.size (Obj.mapSeq (· ++ vs.toArray))).push (seqObj "list" vs.toArray 0) }
  rw [hsz]
  refine wpAny_bind (wpAny_holding (wpAny_call_entry slot_list_sort ⟨_, hoL, rfl⟩ entry_list_sort (list_sort_tree hoL hI h64 fun out ns' a1 a2 a3 => ⟨_, rfl, ?_⟩) (args_list_sort _)))
  exact wpAny_pure ⟨_, rfl, h out ns' a1 a2 a3⟩
end
def rSortedTI (K : PySem.W.Frag) : List V → Hp → VK → Prop := fun vs H Q => ∃ (a : Addr) (ns : List Int), vs = [V.ref a] ∧ SqT K H a (ns.map V.int) ∧ ns.length < 64 ∧
  ∀ (ns' : List Int) (p : Addr), ns'.Perm ns → ns'.Pairwise (· ≤ ·) → H p = none → Q (.ref p) (upd H p (.lst (ns'.map V.int)))
theorem cr_sortedTI {X : Cx} : CallR X (.builtin "sorted") (rSortedTI X.K) := by
  intro pins s σ H vs us Q I r h
  obtain ⟨a, ns, rfl, hs, h64, q⟩ := h
  obtain ⟨its, rv, hl, _⟩ := I.tuple hs
  rw [Vals.ref1 r]
  have hi := rv.ints
  refine sorted_tup_ints hl hi (by rw [hi.length]; exact h64) fun out ns' h1 h2 h3 => ?_
  obtain ⟨ep, he'⟩ := PyProof.Rows.sortedAll_at s.heap its out
  have hlen : (ns'.map V.int).length ≤ sizeLine := by rw [List.length_map, h2.length_eq]; exact small64 h64
  exact ⟨.ref _, upd H (s.heap.objs.size + 1) (.lst (ns'.map V.int)), I.laid (t' := s.toks) (fun _ _ => PyProof.Rows.sortedAll_old) (Nat.le_succ _) ⟨hlen, out.toList, ep, vals_of_ints h1, he'⟩, rfl, q ns' _ h2 h3 (I.hok.fresh (Nat.le_succ _))⟩
end K71
namespace K71
open PySem PySem.Spec PyProof.Rows L2

/-! ### the head: facts by names, the run -/
def d_l_source : He.DefD := ⟨("_law_source", none), "_law_source", "_law_source", defArgs s_l_source, defBody s_l_source, defScope s_l_source, [], []⟩
def d_l_draw : He.DefD := ⟨("_law_draw", none), "_law_draw", "_law_draw", defArgs s_l_draw, defBody s_l_draw, defScope s_l_draw, [], []⟩
def d_l_side : He.DefD := ⟨("_law_side", none), "_law_side", "_law_side", defArgs s_l_side, defBody s_l_side, defScope s_l_side, [], []⟩
def d_l_perm : He.DefD := ⟨("_law_perm", none), "_law_perm", "_law_perm", defArgs s_l_perm, defBody s_l_perm, defScope s_l_perm, [], []⟩
def d_l_split : He.DefD := ⟨("_law_split", none), "_law_split", "_law_split", defArgs s_l_split, defBody s_l_split, defScope s_l_split, [], []⟩
def d_l_sums : He.DefD := ⟨("_law_sums", none), "_law_sums", "_law_sums", defArgs s_l_sums, defBody s_l_sums, defScope s_l_sums, [], []⟩
def d_l_crowd : He.DefD := ⟨("_law_crowd", none), "_law_crowd", "_law_crowd", defArgs s_l_crowd, defBody s_l_crowd, defScope s_l_crowd, [], []⟩
def d_common_divisor : He.DefD := ⟨("common_divisor", none), "common_divisor", "common_divisor", defArgs s_common_divisor, defBody s_common_divisor, defScope s_common_divisor, [], []⟩
def d_is_pair : He.DefD := ⟨("is_pair", none), "is_pair", "is_pair", defArgs s_is_pair, defBody s_is_pair, defScope s_is_pair, [], []⟩
def d_is_integer : He.DefD := ⟨("is_integer", none), "is_integer", "is_integer", defArgs s_is_integer, defBody s_is_integer, defScope s_is_integer, [], []⟩
def d_is_fraction : He.DefD := ⟨("is_fraction", none), "is_fraction", "is_fraction", defArgs s_is_fraction, defBody s_is_fraction, defScope s_is_fraction, [], []⟩
def d_is_amount : He.DefD := ⟨("is_amount", none), "is_amount", "is_amount", defArgs s_is_amount, defBody s_is_amount, defScope s_is_amount, [], []⟩
def d_are_sums : He.DefD := ⟨("are_sums", none), "are_sums", "are_sums", defArgs s_are_sums, defBody s_are_sums, defScope s_are_sums, [], []⟩
def d_made : He.DefD := ⟨("made", none), "made", "made", defArgs s_made, defBody s_made, defScope s_made, [], []⟩
def d_plus : He.DefD := ⟨("plus", none), "plus", "plus", defArgs s_plus, defBody s_plus, defScope s_plus, [], []⟩
def d_total_of : He.DefD := ⟨("total_of", none), "total_of", "total_of", defArgs s_total_of, defBody s_total_of, defScope s_total_of, [], []⟩
def d_Evening_init : He.DefD := ⟨("Evening", some "__init__"), "__init__", "Evening.__init__", defArgs s_Evening_init, defBody s_Evening_init, defScope s_Evening_init, [], []⟩
def d_l_made : He.DefD := ⟨("_law_made", none), "_law_made", "_law_made", defArgs s_l_made, defBody s_l_made, defScope s_l_made, [], []⟩
def d_l_times : He.DefD := ⟨("_law_times", none), "_law_times", "_law_times", defArgs s_l_times, defBody s_l_times, defScope s_l_times, [], []⟩
def d_l_evening : He.DefD := ⟨("_law_evening", none), "_law_evening", "_law_evening", defArgs s_l_evening, defBody s_l_evening, defScope s_l_evening, [], []⟩
def d_check_most : He.DefD := ⟨("check_most", none), "check_most", "check_most", defArgs s_check_most, defBody s_check_most, defScope s_check_most, [], []⟩
def d_measure_of : He.DefD := ⟨("measure_of", none), "measure_of", "measure_of", defArgs s_measure_of, defBody s_measure_of, defScope s_measure_of, [], []⟩
def d_all_sums : He.DefD := ⟨("all_sums", none), "all_sums", "all_sums", defArgs s_all_sums, defBody s_all_sums, defScope s_all_sums, [], []⟩
def d_measure : He.DefD := ⟨("measure", none), "measure", "measure", defArgs s_measure, defBody s_measure, defScope s_measure, [], []⟩
def d_over : He.DefD := ⟨("over", none), "over", "over", defArgs s_over, defBody s_over, defScope s_over, [], []⟩
def d_whole_sums : He.DefD := ⟨("whole_sums", none), "whole_sums", "whole_sums", defArgs s_whole_sums, defBody s_whole_sums, defScope s_whole_sums, [], []⟩
def d_Joints_init : He.DefD := ⟨("Joints", some "__init__"), "__init__", "Joints.__init__", defArgs s_Joints_init, defBody s_Joints_init, defScope s_Joints_init, [], []⟩
def d_minus : He.DefD := ⟨("minus", none), "minus", "minus", defArgs s_minus, defBody s_minus, defScope s_minus, [], []⟩
def d_times : He.DefD := ⟨("times", none), "times", "times", defArgs s_times, defBody s_times, defScope s_times, [], []⟩
def d_whole : He.DefD := ⟨("whole", none), "whole", "whole", defArgs s_whole, defBody s_whole, defScope s_whole, [], []⟩
def d_rest_by : He.DefD := ⟨("rest_by", none), "rest_by", "rest_by", defArgs s_rest_by, defBody s_rest_by, defScope s_rest_by, [], []⟩
def d_fits_unit : He.DefD := ⟨("fits_unit", none), "fits_unit", "fits_unit", defArgs s_fits_unit, defBody s_fits_unit, defScope s_fits_unit, [], []⟩
def d_queue_unit : He.DefD := ⟨("queue_unit", none), "queue_unit", "queue_unit", defArgs s_queue_unit, defBody s_queue_unit, defScope s_queue_unit, [], []⟩
def d_people : He.DefD := ⟨("people", none), "people", "people", defArgs s_people, defBody s_people, defScope s_people, [], []⟩
def d_Joints_next_ones : He.DefD := ⟨("Joints", some "next_ones"), "next_ones", "Joints.next_ones", defArgs s_Joints_next_ones, defBody s_Joints_next_ones, defScope s_Joints_next_ones, [], []⟩
def d_Joints_later_lots : He.DefD := ⟨("Joints", some "later_lots"), "later_lots", "Joints.later_lots", defArgs s_Joints_later_lots, defBody s_Joints_later_lots, defScope s_Joints_later_lots, [], []⟩
def d_Joints_follow : He.DefD := ⟨("Joints", some "follow"), "follow", "Joints.follow", defArgs s_Joints_follow, defBody s_Joints_follow, defScope s_Joints_follow, [], []⟩
def d_Joints_orders : He.DefD := ⟨("Joints", some "orders"), "orders", "Joints.orders", defArgs s_Joints_orders, defBody s_Joints_orders, defScope s_Joints_orders, [], []⟩
def d_unlike_queues : He.DefD := ⟨("unlike_queues", none), "unlike_queues", "unlike_queues", defArgs s_unlike_queues, defBody s_unlike_queues, defScope s_unlike_queues, [], []⟩
def d_l_together : He.DefD := ⟨("_law_together", none), "_law_together", "_law_together", defArgs s_l_together, defBody s_l_together, defScope s_l_together, [], []⟩
def d_l_unit : He.DefD := ⟨("_law_unit", none), "_law_unit", "_law_unit", defArgs s_l_unit, defBody s_l_unit, defScope s_l_unit, [], []⟩
def d_are_ascending : He.DefD := ⟨("are_ascending", none), "are_ascending", "are_ascending", defArgs s_are_ascending, defBody s_are_ascending, defScope s_are_ascending, [], []⟩
def d_is_within : He.DefD := ⟨("is_within", none), "is_within", "is_within", defArgs s_is_within, defBody s_is_within, defScope s_is_within, [], []⟩
def d_is_lot_below : He.DefD := ⟨("is_lot_below", none), "is_lot_below", "is_lot_below", defArgs s_is_lot_below, defBody s_is_lot_below, defScope s_is_lot_below, [], []⟩
def d_sorted_numbers : He.DefD := ⟨("sorted_numbers", none), "sorted_numbers", "sorted_numbers", defArgs s_sorted_numbers, defBody s_sorted_numbers, defScope s_sorted_numbers, [], []⟩
def d_is_order : He.DefD := ⟨("is_order", none), "is_order", "is_order", defArgs s_is_order, defBody s_is_order, defScope s_is_order, [], []⟩
def d_check_orders : He.DefD := ⟨("check_orders", none), "check_orders", "check_orders", defArgs s_check_orders, defBody s_check_orders, defScope s_check_orders, [], []⟩
def d_State_init : He.DefD := ⟨("State", some "__init__"), "__init__", "State.__init__", defArgs s_State_init, defBody s_State_init, defScope s_State_init, [], []⟩
def d_is_less : He.DefD := ⟨("is_less", none), "is_less", "is_less", defArgs s_is_less, defBody s_is_less, defScope s_is_less, [], []⟩
def d_least_of : He.DefD := ⟨("least_of", none), "least_of", "least_of", defArgs s_least_of, defBody s_least_of, defScope s_least_of, [], []⟩
def d_State_amount_of : He.DefD := ⟨("State", some "amount_of"), "amount_of", "State.amount_of", defArgs s_State_amount_of, defBody s_State_amount_of, defScope s_State_amount_of, [], []⟩
def d_State_go : He.DefD := ⟨("State", some "go"), "go", "State.go", defArgs s_State_go, defBody s_State_go, defScope s_State_go, [], []⟩
def d_way_of_queues : He.DefD := ⟨("way_of_queues", none), "way_of_queues", "way_of_queues", defArgs s_way_of_queues, defBody s_way_of_queues, defScope s_way_of_queues, [], []⟩
def d_queue_way : He.DefD := ⟨("queue_way", none), "queue_way", "queue_way", defArgs s_queue_way, defBody s_queue_way, defScope s_queue_way, [], []⟩
def d_queue_number : He.DefD := ⟨("queue_number", none), "queue_number", "queue_number", defArgs s_queue_number, defBody s_queue_number, defScope s_queue_number, [], []⟩
def d_l_is_integer : He.DefD := ⟨("_law_is_integer", none), "_law_is_integer", "_law_is_integer", defArgs s_l_is_integer, defBody s_l_is_integer, defScope s_l_is_integer, [], []⟩
def d_l_is_order : He.DefD := ⟨("_law_is_order", none), "_law_is_order", "_law_is_order", defArgs s_l_is_order, defBody s_l_is_order, defScope s_l_is_order, [], []⟩
def d_l_pay : He.DefD := ⟨("_law_pay", none), "_law_pay", "_law_pay", defArgs s_l_pay, defBody s_l_pay, defScope s_l_pay, [], []⟩
def d_l_queue_way : He.DefD := ⟨("_law_queue_way", none), "_law_queue_way", "_law_queue_way", defArgs s_l_queue_way, defBody s_l_queue_way, defScope s_l_queue_way, [], []⟩
def d_l_right : He.DefD := ⟨("_law_right", none), "_law_right", "_law_right", defArgs s_l_right, defBody s_l_right, defScope s_l_right, [], []⟩
def d_l_queue_unit : He.DefD := ⟨("_law_queue_unit", none), "_law_queue_unit", "_law_queue_unit", defArgs s_l_queue_unit, defBody s_l_queue_unit, defScope s_l_queue_unit, [], []⟩
def d_l_most_parts : He.DefD := ⟨("_law_most_parts", none), "_law_most_parts", "_law_most_parts", defArgs s_l_most_parts, defBody s_l_most_parts, defScope s_l_most_parts, [], []⟩
def d_l_fourteen_hold : He.DefD := ⟨("_law_fourteen_hold", none), "_law_fourteen_hold", "_law_fourteen_hold", defArgs s_l_fourteen_hold, defBody s_l_fourteen_hold, defScope s_l_fourteen_hold, [], []⟩
def d_l_put_together : He.DefD := ⟨("_law_put_together", none), "_law_put_together", "_law_put_together", defArgs s_l_put_together, defBody s_l_put_together, defScope s_l_put_together, [], []⟩
def d_l_flag : He.DefD := ⟨("_law_flag", none), "_law_flag", "_law_flag", defArgs s_l_flag, defBody s_l_flag, defScope s_l_flag, [], []⟩
def d_queues_alike : He.DefD := ⟨("queues_alike", none), "queues_alike", "queues_alike", defArgs s_queues_alike, defBody s_queues_alike, defScope s_queues_alike, [], []⟩
def d_l_orders : He.DefD := ⟨("_law_orders", none), "_law_orders", "_law_orders", defArgs s_l_orders, defBody s_l_orders, defScope s_l_orders, [], []⟩
def d_l_queue_numbers : He.DefD := ⟨("_law_queue_numbers", none), "_law_queue_numbers", "_law_queue_numbers", defArgs s_l_queue_numbers, defBody s_l_queue_numbers, defScope s_l_queue_numbers, [], []⟩
def d_law : He.DefD := ⟨("law", none), "law", "law", defArgs s_law, defBody s_law, defScope s_law, [], []⟩
def fns0 : List He.DefD := [d_l_source, d_l_draw, d_l_side, d_l_perm, d_l_split, d_l_sums, d_l_crowd, d_common_divisor, d_is_pair, d_is_integer, d_is_fraction, d_is_amount, d_are_sums, d_made, d_plus, d_total_of, d_Evening_init, d_l_made, d_l_times, d_l_evening, d_check_most, d_measure_of, d_all_sums, d_measure, d_over, d_whole_sums, d_Joints_init, d_minus, d_times, d_whole]
def fns1 : List He.DefD := [d_rest_by, d_fits_unit, d_queue_unit, d_people, d_Joints_next_ones, d_Joints_later_lots, d_Joints_follow, d_Joints_orders, d_unlike_queues, d_l_together, d_l_unit, d_are_ascending, d_is_within, d_is_lot_below, d_sorted_numbers, d_is_order, d_check_orders, d_State_init, d_is_less, d_least_of, d_State_amount_of, d_State_go, d_way_of_queues, d_queue_way, d_queue_number, d_l_is_integer, d_l_is_order, d_l_pay, d_l_queue_way, d_l_right]
def fns2 : List He.DefD := [d_l_queue_unit, d_l_most_parts, d_l_fourteen_hold, d_l_put_together, d_l_flag, d_queues_alike, d_l_orders, d_l_queue_numbers, d_law]
def fns : List He.DefD := fns0 ++ fns1 ++ fns2
def fas0 : List He.Fa := [.glo "_law_source", .glo "_law_draw", .glo "_law_side", .glo "_law_perm", .glo "_law_split", .glo "_law_sums", .glo "_law_crowd", .glo "common_divisor", .glo "is_pair", .glo "is_integer", .glo "is_fraction", .glo "is_amount", .glo "are_sums", .glo "made", .glo "plus", .glo "total_of", .mkr "Evening", .glo "_law_made", .glo "_law_times", .glo "_law_evening", .glo "check_most", .glo "measure_of", .glo "all_sums", .glo "measure", .glo "over", .glo "whole_sums", .mkr "Joints", .glo "minus", .glo "times", .glo "whole"]
def fas1 : List He.Fa := [.glo "rest_by", .glo "fits_unit", .glo "queue_unit", .glo "people", .meth "Joints" "next_ones", .meth "Joints" "later_lots", .meth "Joints" "follow", .meth "Joints" "orders", .glo "unlike_queues", .glo "_law_together", .glo "_law_unit", .glo "are_ascending", .glo "is_within", .glo "is_lot_below", .glo "sorted_numbers", .glo "is_order", .glo "check_orders", .mkr "State", .glo "is_less", .glo "least_of", .meth "State" "amount_of", .meth "State" "go", .glo "way_of_queues", .glo "queue_way", .glo "queue_number", .glo "_law_is_integer", .glo "_law_is_order", .glo "_law_pay", .glo "_law_queue_way", .glo "_law_right"]
def fas2 : List He.Fa := [.glo "_law_queue_unit", .glo "_law_most_parts", .glo "_law_fourteen_hold", .glo "_law_put_together", .glo "_law_flag", .glo "queues_alike", .glo "_law_orders", .glo "_law_queue_numbers", .glo "law", .glo "ZERO", .int "MOST_SIDE" 100, .int "MOST_JOINED" 14, .glo "Evening", .cls "Evening", .glo "State", .cls "State", .glo "Joints", .cls "Joints", .noat "Evening" "owed", .noat "Evening" "due", .noat "State" "owed_left", .noat "State" "due_left", .noat "Joints" "many", .noat "Joints" "everyone", .noat "Joints" "gaps", .noat "Joints" "everybody", .free "len", .free "abs", .free "min", .free "max"]
def fas3 : List He.Fa := [.free "sum", .free "all", .free "int", .free "bool", .free "tuple", .free "list", .free "sorted", .free "isinstance", .free "range"]
def fas : List He.Fa := fas0 ++ fas1 ++ fas2 ++ fas3
def loose0 : List PySem.Str := ["_wall", "QuitsError", "BadEvening", "TooMany", "NoOrder", "is_integer", "is_within", "is_pair", "are_ascending", "is_lot_below", "check_most", "ZERO", "common_divisor", "made", "whole", "plus", "minus", "times", "over", "is_less", "least_of", "total_of", "measure_of", "is_fraction", "is_amount", "MOST_SIDE", "are_sums", "Evening", "all_sums", "people"]
def loose1 : List PySem.Str := ["measure", "State", "MOST_JOINED", "is_order", "sorted_numbers", "check_orders", "way_of_queues", "queue_way", "queue_number", "whole_sums", "rest_by", "fits_unit", "queue_unit", "Joints", "queues_alike", "unlike_queues", "_law_is_integer", "_law_source", "_law_draw", "_law_made", "_law_unit", "_law_times", "_law_split", "_law_perm", "_law_side", "_law_sums", "_law_crowd", "_law_evening", "_law_pay", "_law_flag"]
def loose2 : List PySem.Str := ["_law_orders", "_law_queue_way", "_law_queue_unit", "_law_queue_numbers", "_law_most_parts", "_law_together", "_law_is_order", "_law_put_together", "_law_right", "_law_fourteen_hold"]
def loose : List PySem.Str := loose0 ++ loose1 ++ loose2
abbrev R : PySem.W.OpenRow := PySem.W.OpenLaw.row PySem.Challenge.rw_quitsways_k71_whole_unlike_queues
def exZ (K : PySem.W.Frag) : Bool := He.tupB K "ZERO" [.int 0, .int 1]
/-- a list of addresses, each told out -/
def frL {α : Type} : List Addr → (List Addr → α) → α
  | [], k => k []
  | a :: r, k => HandSHeadRun.frNat a fun a => frL r fun r => k (a :: r)
/-- the objects there, each looked up once -/
def frF {α : Type} (g : Addr → Option Obj) : List Addr → (PySem.W.Frag → α) → α
  | [], k => k []
  | a :: r, k => match g a with
    | some o => frF g r fun K => k ((a, o) :: K)
    | none => frF g r k
theorem frF_in {g : Addr → Option Obj} {α : Type} : ∀ (as : List Addr) (k : PySem.W.Frag → α), ∃ K : PySem.W.Frag, (∀ a o, (a, o) ∈ K → g a = some o) ∧ frF g as k = k K
  | [], k => ⟨[], fun _ _ h => absurd h List.not_mem_nil, rfl⟩
  | a :: r, k => by
    cases h : g a with
    | none =>
      obtain ⟨K, h1, h2⟩ := frF_in r k
      refine ⟨K, h1, ?_⟩
      show (match g a with
        | some o => frF g r fun K => k ((a, o) :: K)
        | none => frF g r k) = _
      rw [h]
      exact h2
    | some o =>
      obtain ⟨K, h1, h2⟩ := frF_in r fun K => k ((a, o) :: K)
      refine ⟨(a, o) :: K, fun b u hb => ?_, ?_⟩
      · rcases List.mem_cons.mp hb with e | hb
        · injection e with e1 e2
          rw [e1, e2]
          exact h
        · exact h1 b u hb
      · show (match g a with
          | some o => frF g r fun K => k ((a, o) :: K)
          | none => frF g r k) = _
        rw [h]
        exact h2
def nx (g : Addr → Option Obj) (as : List Addr) : List Addr := as.flatMap fun a => match g a with
  | some o => He.refsO o
  | none => []
abbrev AlM : Type := He.AlD × Bool
def seeM (K : PySem.W.Frag) : AlM := (He.obsD fas fns K, exZ K)
def valM : AlM := (He.valD fns, true)
def obM (g : Addr → Option Obj) : AlM := frL (nx g [mainGlobals]) fun l1 => frL (nx g l1) fun l2 => frL (nx g l2) fun l3 => frL (nx g l3) fun l4 => frF g (mainGlobals :: (l1 ++ (l2 ++ (l3 ++ l4)))) seeM
theorem frL_eq {α : Type} : ∀ (as : List Addr) (k : List Addr → α), frL as k = k as
  | [], _ => rfl
  | a :: r, k => by
    show HandSHeadRun.frNat a (fun a => frL r fun r => k (a :: r)) = _
    rw [HandSHeadRun.frNat_eq, frL_eq r]
structure SaysM (K : PySem.W.Frag) : Prop where
  d : He.SaysD fas fns K
  z : exZ K = true
theorem saysM_of {h : Heap} (e : obM h.get? = valM) : ∃ K : PySem.W.Frag, K.In h ∧ SaysM K := by
  unfold obM at e
  rw [frL_eq, frL_eq, frL_eq, frL_eq] at e
  obtain ⟨K, h1, h2⟩ := frF_in (g := h.get?) (mainGlobals :: (nx h.get? [mainGlobals] ++ (nx h.get? (nx h.get? [mainGlobals]) ++ (nx h.get? (nx h.get? (nx h.get? [mainGlobals])) ++ nx h.get? (nx h.get? (nx h.get? (nx h.get? [mainGlobals]))))))) seeM
  rw [h2] at e
  exact ⟨K, fun a o q => h1 a o (He.lookup_mem q), congrArg (fun z : AlM => z.1) e, congrArg (fun z : AlM => z.2) e⟩
def hk : PySem.W.Hook where
  α := AlM
  obs := fun s => obM s.heap.get?
  val := fun _ => valM
  says := fun _ h => ∃ K : PySem.W.Frag, K.In h ∧ SaysM K
  of := fun _ _ e => saysM_of e
  keeps := fun _ _ _ ⟨K, hK, c⟩ k => ⟨K, PySem.W.Frag.In.keeps hK k, c⟩
def ob (s : PySem.W.SharedT) : AlM := obM (HandSHeadRun.getT s)
theorem ob_eq (s : PySem.W.SharedT) : ob s = hk.obs s.abs := by
  have e : HandSHeadRun.getT s = s.abs.heap.get? := funext fun a => HandSHeadRun.getT_eq s a
  show obM (HandSHeadRun.getT s) = obM s.abs.heap.get?
  rw [e]
theorem run (w : World) : HandSHeadRun.RunEq R (PySem.W.view R.prog [77]) hk ob 20000 loose w := by
  intro os
  kernel_rfl
end K71
/-! Plain mathematics of queues: prefix sums, joints, payments, the ninth fact. -/
namespace K71

/-- the sums of the first ones, each but the empty one -/
def ps : List Int → List Int
  | [] => []
  | x :: xs => x :: (ps xs).map (x + ·)

def PosL (xs : List Int) : Prop := ∀ x ∈ xs, 0 < x

theorem PosL.tail {x : Int} {xs : List Int} (h : PosL (x :: xs)) : PosL xs := fun y hy => h y (List.mem_cons_of_mem _ hy)
theorem PosL.head {x : Int} {xs : List Int} (h : PosL (x :: xs)) : 0 < x := h x (List.mem_cons_self ..)
theorem PosL.cons {x : Int} {xs : List Int} (a : 0 < x) (h : PosL xs) : PosL (x :: xs) := fun y hy => by
  rcases List.mem_cons.mp hy with rfl | hy
  · exact a
  · exact h y hy
theorem PosL.perm {xs ys : List Int} (p : xs.Perm ys) (h : PosL xs) : PosL ys := fun y hy => h y (p.mem_iff.mpr hy)
theorem PosL.left {xs ys : List Int} (h : PosL (xs ++ ys)) : PosL xs := fun y hy => h y (List.mem_append_left _ hy)
theorem PosL.right {xs ys : List Int} (h : PosL (xs ++ ys)) : PosL ys := fun y hy => h y (List.mem_append_right _ hy)
theorem PosL.sum_nonneg : ∀ {xs : List Int}, PosL xs → 0 ≤ xs.sum
  | [], _ => by simp
  | x :: xs, h => by
    have := PosL.sum_nonneg h.tail
    have := h.head
    rw [List.sum_cons]
    omega
theorem PosL.sum_pos {xs : List Int} (h : PosL xs) (ne : xs ≠ []) : 0 < xs.sum := by
  cases xs with
  | nil => exact absurd rfl ne
  | cons x xs =>
    have := h.tail.sum_nonneg
    have := h.head
    rw [List.sum_cons]
    omega

theorem ps_pos : ∀ {xs : List Int}, PosL xs → ∀ p ∈ ps xs, 0 < p
  | [], _, p, h => by cases h
  | x :: xs, hp, p, h => by
    rcases List.mem_cons.mp h with rfl | h
    · exact hp.head
    · obtain ⟨q, hq, rfl⟩ := List.mem_map.mp h
      have := ps_pos hp.tail q hq
      have := hp.head
      omega
theorem ps_ge {x : Int} {xs : List Int} (hp : PosL (x :: xs)) : ∀ p ∈ ps (x :: xs), x ≤ p := fun p h => by
  rcases List.mem_cons.mp h with rfl | h
  · exact Int.le_refl _
  · obtain ⟨q, hq, rfl⟩ := List.mem_map.mp h
    have := ps_pos hp.tail q hq
    omega
theorem mem_ps_cons {x p : Int} {xs : List Int} : p ∈ ps (x :: xs) ↔ p = x ∨ (p - x) ∈ ps xs := by
  constructor
  · intro h
    rcases List.mem_cons.mp h with h | h
    · exact .inl h
    · obtain ⟨q, hq, e⟩ := List.mem_map.mp h
      right
      have : p - x = q := by omega
      rw [this]
      exact hq
  · intro h
    rcases h with h | h
    · rw [h]
      exact List.mem_cons_self ..
    · refine List.mem_cons_of_mem _ (List.mem_map.mpr ⟨p - x, h, by omega⟩)
theorem ps_append : ∀ (xs ys : List Int), ps (xs ++ ys) = ps xs ++ (ps ys).map (xs.sum + ·)
  | [], ys => by simp [ps]
  | x :: xs, ys => by
    rw [List.cons_append]
    show x :: (ps (xs ++ ys)).map (x + ·) = x :: (ps xs).map (x + ·) ++ _
    rw [ps_append xs ys, List.map_append, List.map_map, List.cons_append, List.sum_cons]
    congr 3
    funext a
    show x + (xs.sum + a) = x + xs.sum + a
    omega
theorem mem_ps_append {xs ys : List Int} {p : Int} : p ∈ ps (xs ++ ys) ↔ p ∈ ps xs ∨ (p - xs.sum) ∈ ps ys := by
  rw [ps_append, List.mem_append, List.mem_map]
  constructor
  · rintro (h | ⟨a, h, rfl⟩)
    · exact .inl h
    · right
      have : xs.sum + a - xs.sum = a := by omega
      rw [this]
      exact h
  · rintro (h | h)
    · exact .inl h
    · exact .inr ⟨_, h, by omega⟩
theorem ps_le : ∀ {xs : List Int}, PosL xs → ∀ p ∈ ps xs, p ≤ xs.sum
  | [], _, p, h => by cases h
  | x :: xs, hp, p, h => by
    rw [List.sum_cons]
    rcases mem_ps_cons.mp h with rfl | h
    · have := hp.tail.sum_nonneg
      omega
    · have := ps_le hp.tail _ h
      omega
theorem sum_mem_ps : ∀ {xs : List Int}, xs ≠ [] → xs.sum ∈ ps xs
  | [], h => absurd rfl h
  | [x], _ => by simp [ps]
  | x :: y :: xs, _ => by
    rw [mem_ps_cons, List.sum_cons]
    right
    have := sum_mem_ps (xs := y :: xs) (by simp)
    have e : x + (y :: xs).sum - x = (y :: xs).sum := by omega
    rw [e]
    exact this
theorem ps_length : ∀ (xs : List Int), (ps xs).length = xs.length
  | [] => rfl
  | x :: xs => by
    show ((ps xs).map (x + ·)).length + 1 = xs.length + 1
    rw [List.length_map, ps_length xs]

/-- how many sums two queues have alike -/
def J (xs ys : List Int) : Nat := (ps xs).countP fun p => decide (p ∈ ps ys)

/-- the number of payments of two queues -/
def steps : List Int → List Int → Nat
  | x :: xs, y :: ys => if x < y then steps xs ((y - x) :: ys) + 1 else if y < x then steps ((x - y) :: xs) ys + 1 else steps xs ys + 1
  | _, _ => 0
termination_by xs ys => xs.length + ys.length

theorem countP_congr' {α : Type} {p q : α → Bool} : ∀ {l : List α}, (∀ a ∈ l, p a = q a) → l.countP p = l.countP q
  | [], _ => rfl
  | a :: l, h => by
    rw [List.countP_cons, List.countP_cons, countP_congr' (fun b hb => h b (List.mem_cons_of_mem _ hb)), h a (List.mem_cons_self ..)]

theorem steps_J : ∀ (n : Nat) (xs ys : List Int), xs.length + ys.length = n → PosL xs → PosL ys → xs.sum = ys.sum → steps xs ys + J xs ys = xs.length + ys.length
  | 0, xs, ys, hn, _, _, _ => by
    have hx : xs = [] := List.eq_nil_of_length_eq_zero (by omega)
    have hy : ys = [] := List.eq_nil_of_length_eq_zero (by omega)
    subst hx hy
    rw [steps]
    · rfl
    · intro x xs' y ys' h
      cases h
  | n + 1, xs, ys, hn, px, py, hs => by
    cases xs with
    | nil =>
      cases ys with
      | nil => simp at hn
      | cons y ys =>
        have := py.sum_pos (by simp)
        rw [List.sum_nil] at hs
        omega
    | cons x xs =>
      cases ys with
      | nil =>
        have := px.sum_pos (by simp)
        rw [List.sum_nil] at hs
        omega
      | cons y ys =>
        have hx := px.head
        have hy := py.head
        have hl : (x :: xs).length + (y :: ys).length = xs.length + ys.length + 2 := by simp; omega
        rw [hl] at hn ⊢
        rw [List.sum_cons, List.sum_cons] at hs
        rw [steps]
        by_cases h1 : x < y
        · rw [if_pos h1]
          have ih := steps_J n xs ((y - x) :: ys) (by simp; omega) px.tail (PosL.cons (by omega) py.tail) (by rw [List.sum_cons]; omega)
          have e : J (x :: xs) (y :: ys) = J xs ((y - x) :: ys) := by
            unfold J
            show List.countP _ (x :: (ps xs).map (x + ·)) = _
            rw [List.countP_cons, List.countP_map]
            have h0 : decide (x ∈ ps (y :: ys)) = false := decide_eq_false fun h => by
              have := ps_ge py x h
              omega
            rw [h0]
            show List.countP _ (ps xs) + 0 = _
            rw [Nat.add_zero]
            refine countP_congr' fun p hp => ?_
            show decide (x + p ∈ ps (y :: ys)) = decide (p ∈ ps ((y - x) :: ys))
            refine decide_eq_decide.mpr ?_
            rw [mem_ps_cons, mem_ps_cons]
            have e1 : (x + p = y) ↔ (p = y - x) := by omega
            have e2 : x + p - y = p - (y - x) := by omega
            rw [e1, e2]
          rw [e]
          simp at ih ⊢
          omega
        · rw [if_neg h1]
          by_cases h2 : y < x
          · rw [if_pos h2]
            have ih := steps_J n ((x - y) :: xs) ys (by simp; omega) (PosL.cons (by omega) px.tail) py.tail (by rw [List.sum_cons]; omega)
            have e : J (x :: xs) (y :: ys) = J ((x - y) :: xs) ys := by
              have e0 : ps (x :: xs) = (ps ((x - y) :: xs)).map (y + ·) := by
                show x :: (ps xs).map (x + ·) = (y + (x - y)) :: ((ps xs).map ((x - y) + ·)).map (y + ·)
                rw [List.map_map]
                congr 1
                · omega
                · refine List.map_congr_left fun a _ => ?_
                  show x + a = y + (x - y + a)
                  omega
              unfold J
              rw [e0, List.countP_map]
              refine countP_congr' fun p hp => ?_
              show decide (y + p ∈ ps (y :: ys)) = decide (p ∈ ps ys)
              refine decide_eq_decide.mpr ?_
              rw [mem_ps_cons]
              have hp0 := ps_pos (PosL.cons (show 0 < x - y by omega) px.tail) p hp
              have e2 : y + p - y = p := by omega
              rw [e2]
              constructor
              · rintro (h | h)
                · omega
                · exact h
              · exact .inr
            rw [e]
            simp at ih ⊢
            omega
          · rw [if_neg h2]
            have exy : x = y := by omega
            subst exy
            cases n with
            | zero => omega
            | succ n =>
            have ih := steps_J n xs ys (by omega) px.tail py.tail (by omega)
            have e : J (x :: xs) (x :: ys) = J xs ys + 1 := by
              unfold J
              show List.countP _ (x :: (ps xs).map (x + ·)) = _
              rw [List.countP_cons, List.countP_map]
              have h0 : decide (x ∈ ps (x :: ys)) = true := decide_eq_true (List.mem_cons_self ..)
              rw [h0]
              show List.countP _ (ps xs) + 1 = _
              congr 1
              refine countP_congr' fun p hp => ?_
              show decide (x + p ∈ ps (x :: ys)) = decide (p ∈ ps ys)
              refine decide_eq_decide.mpr ?_
              rw [mem_ps_cons]
              have hp0 := ps_pos px.tail p hp
              have e2 : x + p - x = p := by omega
              rw [e2]
              constructor
              · rintro (h | h)
                · omega
                · exact h
              · exact .inr
            rw [e]
            omega

/-! ### J is even-handed -/
theorem steps_nl (ys : List Int) : steps [] ys = 0 := by
  rw [steps]
  intro _ _ _ _ h _
  cases h
theorem steps_nr (xs : List Int) : steps xs [] = 0 := by
  rw [steps]
  intro _ _ _ _ _ h
  cases h
theorem steps_comm : ∀ (n : Nat) (xs ys : List Int), xs.length + ys.length = n → steps xs ys = steps ys xs
  | n, [], ys, _ => by
    rw [steps_nl, steps_nr]
  | n, x :: xs, [], _ => by
    rw [steps_nl, steps_nr]
  | n, x :: xs, y :: ys, hn => by
    rw [steps, steps]
    by_cases h1 : x < y
    · rw [if_pos h1, if_neg (by omega), if_pos h1, steps_comm (n - 1) xs ((y - x) :: ys) (by simp at hn ⊢; omega)]
    · rw [if_neg h1]
      by_cases h2 : y < x
      · rw [if_pos h2, if_pos h2, steps_comm (n - 1) ((x - y) :: xs) ys (by simp at hn ⊢; omega)]
      · rw [if_neg h2, if_neg h2, if_neg h1, steps_comm (n - 2) xs ys (by simp at hn ⊢; omega)]
termination_by n xs ys => xs.length + ys.length

theorem J_comm {xs ys : List Int} (px : PosL xs) (py : PosL ys) (hs : xs.sum = ys.sum) : J xs ys = J ys xs := by
  have a := steps_J _ xs ys rfl px py hs
  have b := steps_J _ ys xs rfl py px hs.symm
  have c := steps_comm _ xs ys rfl
  omega
theorem J_le {xs ys : List Int} : J xs ys ≤ xs.length := by
  unfold J
  have := List.countP_le_length (p := fun p => decide (p ∈ ps ys)) (l := ps xs)
  rw [ps_length] at this
  exact this
end K71
/-! The ninth fact, both halves. -/
namespace K71

theorem perm_sum {xs ys : List Int} (p : xs.Perm ys) : xs.sum = ys.sum := by
  induction p with
  | nil => rfl
  | cons x _ ih => rw [List.sum_cons, List.sum_cons, ih]
  | swap x y l =>
    rw [List.sum_cons, List.sum_cons, List.sum_cons, List.sum_cons]
    omega
  | trans _ _ a b => exact a.trans b

def bN (b : Bool) : Nat := if b then 1 else 0
theorem J_mid (A R ys : List Int) (x y : Int) : J (A ++ x :: y :: R) ys =
    (ps A).countP (fun p => decide (p ∈ ps ys)) + bN (decide (A.sum + x ∈ ps ys)) + bN (decide (A.sum + (x + y) ∈ ps ys)) + (ps R).countP (fun p => decide (A.sum + (x + y + p) ∈ ps ys)) := by
  unfold J
  rw [ps_append, List.countP_append, List.countP_map]
  show _ + List.countP _ (x :: (y :: (ps R).map (y + ·)).map (x + ·)) = _
  rw [List.map_cons, List.countP_cons, List.countP_cons, List.map_map, List.countP_map]
  have e : List.countP (((fun p => decide (p ∈ ps ys)) ∘ fun x => A.sum + x) ∘ (fun a => x + a) ∘ fun a => y + a) (ps R) = (ps R).countP (fun p => decide (A.sum + (x + y + p) ∈ ps ys)) := by
    refine countP_congr' fun p _ => ?_
    show decide (A.sum + (x + (y + p)) ∈ ps ys) = decide (A.sum + (x + y + p) ∈ ps ys)
    rw [Int.add_assoc x y p]
  rw [e]
  show _ + (_ + (if decide (A.sum + (x + y) ∈ ps ys) = true then 1 else 0) + (if decide (A.sum + x ∈ ps ys) = true then 1 else 0)) = _
  unfold bN
  omega
theorem J_swap {A R ys : List Int} {x y : Int} (h : J (A ++ x :: y :: R) ys = J (A ++ y :: x :: R) ys) : A.sum + x ∈ ps ys ↔ A.sum + y ∈ ps ys := by
  rw [J_mid, J_mid, Int.add_comm y x] at h
  have e : bN (decide (A.sum + x ∈ ps ys)) = bN (decide (A.sum + y ∈ ps ys)) := by omega
  by_cases h1 : A.sum + x ∈ ps ys
  · by_cases h2 : A.sum + y ∈ ps ys
    · exact ⟨fun _ => h2, fun _ => h1⟩
    · rw [decide_eq_true h1, decide_eq_false h2] at e
      cases e
  · by_cases h2 : A.sum + y ∈ ps ys
    · rw [decide_eq_false h1, decide_eq_true h2] at e
      cases e
    · exact ⟨fun h => absurd h h1, fun h => absurd h h2⟩

theorem ps_split : ∀ {L : List Int} {d : Int}, d ∈ ps L → ∃ B C, L = B ++ C ∧ B.sum = d ∧ B ≠ []
  | [], _, h => by cases h
  | x :: L, d, h => by
    rcases mem_ps_cons.mp h with rfl | h
    · exact ⟨[d], L, rfl, by simp, by simp⟩
    · obtain ⟨B, C, rfl, hs, _⟩ := ps_split h
      exact ⟨x :: B, C, rfl, by rw [List.sum_cons]; omega, by simp⟩

/-- lists of the same number -/
theorem all_eq_sum : ∀ {L : List Int} {u : Int}, (∀ z ∈ L, z = u) → L.sum = (L.length : Int) * u
  | [], u, _ => by simp
  | x :: L, u, h => by
    rw [List.sum_cons, all_eq_sum (fun z hz => h z (List.mem_cons_of_mem _ hz)), h x (List.mem_cons_self ..), List.length_cons]
    rw [Int.natCast_add, Int.add_mul]
    show u + _ = _ + 1 * u
    omega

theorem perm_out {L : List Int} {b : Int} (h : b ∈ L) : ∃ A, L.Perm (A ++ [b]) ∧ L.Perm (b :: A) := by
  obtain ⟨s, t, rfl⟩ := List.append_of_mem h
  refine ⟨s ++ t, ?_, List.perm_middle⟩
  exact (List.perm_middle).trans (List.perm_append_comm (l₁ := [b]) (l₂ := s ++ t))

theorem all_same {L : List Int} {d : Int} (hp : PosL L) (h0 : 0 < d) (h1 : d < L.sum) (h : ∀ L' : List Int, L'.Perm L → d ∈ ps L') : ∃ u, ∀ z ∈ L, z = u := by
  obtain ⟨B, C, rfl, hB, nB⟩ := ps_split (h L (List.Perm.refl _))
  have nC : C ≠ [] := fun e => by
    rw [e, List.append_nil] at h1
    omega
  have key : ∀ b ∈ B, ∀ c ∈ C, b = c := fun b hb c hc => by
    obtain ⟨B', e1, _⟩ := perm_out hb
    obtain ⟨C', _, e2⟩ := perm_out hc
    have e3 : (B' ++ c :: b :: C').Perm (B ++ C) := by
      have a1 : (B ++ C).Perm ((B' ++ [b]) ++ (c :: C')) := e1.append e2
      have a2 : ((B' ++ [b]) ++ (c :: C')).Perm (B' ++ c :: b :: C') := by
        rw [List.append_assoc]
        exact List.Perm.append_left B' (List.Perm.swap c b C')
      exact (a1.trans a2).symm
    have m := h _ e3
    have sB : B'.sum + b = d := by
      have := perm_sum e1
      rw [List.sum_append, List.sum_cons, List.sum_nil] at this
      omega
    have pB : 0 < b := hp b (List.mem_append_left _ hb)
    have pc : 0 < c := hp c (List.mem_append_right _ hc)
    have pall : PosL (B' ++ c :: b :: C') := hp.perm e3.symm
    rcases mem_ps_append.mp m with m | m
    · have := ps_le pall.left _ m
      omega
    · have eb : d - B'.sum = b := by omega
      rw [eb] at m
      rcases mem_ps_cons.mp m with m | m
      · exact m
      · have := ps_ge (pall.right).tail _ m
        omega
  obtain ⟨b0, hb0⟩ := List.exists_mem_of_ne_nil B nB
  obtain ⟨c0, hc0⟩ := List.exists_mem_of_ne_nil C nC
  refine ⟨c0, fun z hz => ?_⟩
  rcases List.mem_append.mp hz with hz | hz
  · exact key z hz c0 hc0
  · rw [← key b0 hb0 z hz, key b0 hb0 c0 hc0]

def Fits (ones others : List Int) : Prop := ∃ u r, (∀ z ∈ ones, z = u) ∧ ∀ z ∈ others, z % u = r

section
variable {owed due I0 I1 J0 J1 : List Int} {c : Nat}
def Const (owed due : List Int) (c : Nat) : Prop := ∀ xs ys : List Int, xs.Perm owed → ys.Perm due → J xs ys = c
theorem Const.swap (k : Const owed due c) {A R ys : List Int} {x y : Int} (h : (A ++ x :: y :: R).Perm owed) (hy : ys.Perm due) : A.sum + x ∈ ps ys ↔ A.sum + y ∈ ps ys := by
  refine J_swap (R := R) ?_
  rw [k _ _ h hy, k _ _ ((List.Perm.append_left A (List.Perm.swap x y R)).trans h) hy]

/-- an even part, and its rest -/
structure Part (owed due I0 I1 J0 J1 : List Int) : Prop where
  po : PosL owed
  pd : PosL due
  hs : owed.sum = due.sum
  eo : (I0 ++ I1).Perm owed
  ed : (J0 ++ J1).Perm due
  e0 : I0.sum = J0.sum
  n0 : I0 ≠ []
  n1 : I1 ≠ []
  m0 : J0 ≠ []
  m1 : J1 ≠ []
theorem Part.flip (p : Part owed due I0 I1 J0 J1) : Part owed due I1 I0 J1 J0 where
  po := p.po
  pd := p.pd
  hs := p.hs
  eo := List.perm_append_comm.trans p.eo
  ed := List.perm_append_comm.trans p.ed
  e0 := by
    have a := perm_sum p.eo
    have b := perm_sum p.ed
    have := p.hs
    have := p.e0
    rw [List.sum_append] at a b
    omega
  n0 := p.n1
  n1 := p.n0
  m0 := p.m1
  m1 := p.m0
theorem Part.turn (p : Part owed due I0 I1 J0 J1) : Part due owed J0 J1 I0 I1 where
  po := p.pd
  pd := p.po
  hs := p.hs.symm
  eo := p.ed
  ed := p.eo
  e0 := p.e0.symm
  n0 := p.m0
  n1 := p.m1
  m0 := p.n0
  m1 := p.n1
theorem Const.turn (k : Const owed due c) (p : Part owed due I0 I1 J0 J1) : Const due owed c := fun xs ys hx hy => by
  rw [J_comm (p.pd.perm hx.symm) (p.po.perm hy.symm) (by rw [perm_sum hx, perm_sum hy, p.hs])]
  exact k ys xs hy hx
theorem Part.out (p : Part owed due I0 I1 J0 J1) {x y : Int} (hx : x ∈ I0) (hy : y ∈ I1) : ∃ A B, (A ++ x :: y :: B).Perm owed ∧ A.sum + x = I0.sum ∧ y + B.sum = I1.sum := by
  obtain ⟨A, e1, _⟩ := perm_out hx
  obtain ⟨B, _, e2⟩ := perm_out hy
  have s1 := perm_sum e1
  have s2 := perm_sum e2
  rw [List.sum_append, List.sum_cons, List.sum_nil] at s1
  rw [List.sum_cons] at s2
  refine ⟨A, B, ?_, by omega, by omega⟩
  have a1 := e1.append e2
  rw [List.append_assoc] at a1
  exact a1.symm.trans p.eo
theorem low (p : Part owed due I0 I1 J0 J1) (k : Const owed due c) {x y : Int} (hx : x ∈ I0) (hy : y ∈ I1) (hlt : x < y) : ∃ u, ∀ z ∈ due, z = u := by
  obtain ⟨A, B, eo, s1, s2⟩ := p.out hx hy
  have sw : ∀ ys : List Int, ys.Perm due → (A.sum + x ∈ ps ys ↔ A.sum + y ∈ ps ys) := fun ys h => k.swap eo h
  have pI : PosL (I0 ++ I1) := p.po.perm p.eo.symm
  have pJ : PosL (J0 ++ J1) := p.pd.perm p.ed.symm
  have x0 : 0 < x := pI x (List.mem_append_left _ hx)
  have bpos : 0 ≤ B.sum := by
    have pa : PosL (A ++ x :: y :: B) := p.po.perm eo.symm
    exact pa.right.tail.tail.sum_nonneg
  have sJ := p.flip.e0
  have e0 := p.e0
  -- upwards
  have up : ∀ K1 : List Int, K1.Perm J1 → (y - x) ∈ ps K1 := fun K1 hK => by
    have hp : (J0 ++ K1).Perm due := (List.Perm.append_left J0 hK).trans p.ed
    have m0 : A.sum + x ∈ ps (J0 ++ K1) := by
      rw [mem_ps_append]
      left
      have := sum_mem_ps p.m0
      rw [show A.sum + x = J0.sum by omega]
      exact this
    rcases mem_ps_append.mp ((sw _ hp).mp m0) with m | m
    · have := ps_le pJ.left _ m
      omega
    · have e : A.sum + y - J0.sum = y - x := by omega
      rw [e] at m
      exact m
  obtain ⟨u, hu⟩ := all_same pJ.right (show 0 < y - x by omega) (by omega) up
  obtain ⟨B1, C1, e1, hB1, nB1⟩ := ps_split (up J1 (List.Perm.refl _))
  -- downwards
  have down : ∀ K0 : List Int, K0.Perm (J0 ++ B1) → J0.sum ∈ ps K0 := fun K0 hK => by
    have hp : (K0 ++ C1).Perm due := by
      refine (hK.append_right C1).trans ?_
      rw [List.append_assoc, ← e1]
      exact p.ed
    have sK : K0.sum = J0.sum + (y - x) := by rw [perm_sum hK, List.sum_append, hB1]
    have nK : K0 ≠ [] := fun e => by
      rw [e] at sK
      have := pJ.left.sum_nonneg
      rw [List.sum_nil] at sK
      omega
    have m0 : A.sum + y ∈ ps (K0 ++ C1) := by
      rw [mem_ps_append]
      left
      rw [show A.sum + y = K0.sum by omega]
      exact sum_mem_ps nK
    have pall : PosL (K0 ++ C1) := p.pd.perm hp.symm
    rcases mem_ps_append.mp ((sw _ hp).mpr m0) with m | m
    · rw [show A.sum + x = J0.sum by omega] at m
      exact m
    · have := ps_pos pall.right _ m
      omega
  have pd2 : PosL (J0 ++ B1) := fun z hz => by
    rcases List.mem_append.mp hz with hz | hz
    · exact pJ z (List.mem_append_left _ hz)
    · exact pJ z (List.mem_append_right _ (by rw [e1]; exact List.mem_append_left _ hz))
  have sJ0 : 0 < J0.sum := pJ.left.sum_pos p.m0
  obtain ⟨v, hv⟩ := all_same pd2 sJ0 (by rw [List.sum_append, hB1]; omega) down
  obtain ⟨b, hb⟩ := List.exists_mem_of_ne_nil B1 nB1
  have euv : u = v := by
    have a1 := hv b (List.mem_append_right _ hb)
    have a2 := hu b (by rw [e1]; exact List.mem_append_left _ hb)
    omega
  refine ⟨u, fun z hz => ?_⟩
  have hz2 := p.ed.mem_iff.mpr hz
  rcases List.mem_append.mp hz2 with h | h
  · rw [euv]
    exact hv z (List.mem_append_left _ h)
  · exact hu z h
theorem ps_dvd {L : List Int} {u : Int} : (∀ z ∈ L, z = u) → ∀ p ∈ ps L, u ∣ p := by
  intro h p hp
  obtain ⟨B, C, rfl, hs, _⟩ := ps_split hp
  have := all_eq_sum (L := B) (u := u) fun z hz => h z (List.mem_append_left _ hz)
  exact ⟨B.length, by rw [← hs, this, Int.mul_comm]⟩
theorem cong (p : Part owed due I0 I1 J0 J1) (k : Const owed due c) {u : Int} (hu : ∀ z ∈ due, z = u) : Fits due owed := by
  have key : ∀ a ∈ I0, ∀ b ∈ I1, a % u = b % u := fun a ha b hb => by
    obtain ⟨A, B, eo, s1, s2⟩ := p.out ha hb
    have hJ : ∀ z ∈ J0 ++ J1, z = u := fun z hz => hu z (p.ed.mem_iff.mp hz)
    have m0 : A.sum + a ∈ ps (J0 ++ J1) := by
      rw [mem_ps_append]
      left
      have := p.e0
      rw [show A.sum + a = J0.sum by omega]
      exact sum_mem_ps p.m0
    have m1 := (k.swap eo p.ed).mp m0
    obtain ⟨q0, h0⟩ := ps_dvd hJ _ m0
    obtain ⟨q1, h1⟩ := ps_dvd hJ _ m1
    refine Int.emod_eq_emod_iff_emod_sub_eq_zero.mpr (Int.emod_eq_zero_of_dvd ?_)
    refine ⟨q0 - q1, ?_⟩
    rw [Int.mul_sub, ← h0, ← h1]
    omega
  obtain ⟨a0, ha0⟩ := List.exists_mem_of_ne_nil I0 p.n0
  obtain ⟨b0, hb0⟩ := List.exists_mem_of_ne_nil I1 p.n1
  refine ⟨u, b0 % u, hu, fun z hz => ?_⟩
  rcases List.mem_append.mp (p.eo.mem_iff.mpr hz) with h | h
  · exact key z h b0 hb0
  · rw [← key a0 ha0 z h, key a0 ha0 b0 hb0]
theorem unlike (p : Part owed due I0 I1 J0 J1) (k : Const owed due c) {x y : Int} (hx : x ∈ I0) (hy : y ∈ I1) (hne : x ≠ y) : Fits due owed := by
  have h : ∃ u, ∀ z ∈ due, z = u := by
    by_cases h : x < y
    · exact low p k hx hy h
    · exact low p.flip k hy hx (by omega)
  obtain ⟨u, hu⟩ := h
  exact cong p k hu
theorem all_of {α : Type} {L M : List α} (nL : L ≠ []) (h : ∀ x ∈ L, ∀ y ∈ M, x = y) (nM : M ≠ []) : ∃ u, ∀ z ∈ L ++ M, z = u := by
  obtain ⟨a, ha⟩ := List.exists_mem_of_ne_nil L nL
  obtain ⟨b, hb⟩ := List.exists_mem_of_ne_nil M nM
  refine ⟨a, fun z hz => ?_⟩
  rcases List.mem_append.mp hz with hz | hz
  · rw [h z hz b hb, h a ha b hb]
  · exact (h a ha z hz).symm
/-- THE NINTH FACT, the hard half -/
theorem ninth (p : Part owed due I0 I1 J0 J1) (k : Const owed due c) : Fits due owed ∨ Fits owed due := by
  by_cases h : ∃ x ∈ I0, ∃ y ∈ I1, x ≠ y
  · obtain ⟨x, hx, y, hy, ne⟩ := h
    exact .inl (unlike p k hx hy ne)
  · right
    by_cases h2 : ∃ x ∈ J0, ∃ y ∈ J1, x ≠ y
    · obtain ⟨x, hx, y, hy, ne⟩ := h2
      exact unlike p.turn (k.turn p) hx hy ne
    · obtain ⟨u, hu⟩ := all_of p.n0 (fun x hx y hy => Classical.byContradiction fun ne => h ⟨x, hx, y, hy, ne⟩) p.n1
      obtain ⟨v, hv⟩ := all_of p.m0 (fun x hx y hy => Classical.byContradiction fun ne => h2 ⟨x, hx, y, hy, ne⟩) p.m1
      exact ⟨u, v % u, fun z hz => hu z (p.eo.mem_iff.mpr hz), fun z hz => by rw [hv z (p.ed.mem_iff.mpr hz)]⟩
end

/-! ### the easy half -/
theorem count_dvd {u r : Int} : ∀ {xs xs' : List Int} {a a' : Int}, xs.length = xs'.length → (∀ z ∈ xs, z % u = r) → (∀ z ∈ xs', z % u = r) → a % u = a' % u →
    (ps xs).countP (fun p => decide ((a + p) % u = 0)) = (ps xs').countP (fun p => decide ((a' + p) % u = 0))
  | [], [], _, _, _, _, _, _ => rfl
  | x :: xs, x' :: xs', a, a', hl, h, h', ha => by
    have hx := h x (List.mem_cons_self ..)
    have hx' := h' x' (List.mem_cons_self ..)
    have e : (a + x) % u = (a' + x') % u := by
      rw [Int.add_emod, hx, ha, ← hx', ← Int.add_emod]
    have ih := count_dvd (a := a + x) (a' := a' + x') (by simpa using hl) (fun z hz => h z (List.mem_cons_of_mem _ hz)) (fun z hz => h' z (List.mem_cons_of_mem _ hz)) e
    show List.countP _ (x :: (ps xs).map (x + ·)) = List.countP _ (x' :: (ps xs').map (x' + ·))
    rw [List.countP_cons, List.countP_cons, List.countP_map, List.countP_map]
    have c1 : List.countP ((fun p => decide ((a + p) % u = 0)) ∘ fun z => x + z) (ps xs) = (ps xs).countP (fun p => decide ((a + x + p) % u = 0)) := by
      refine countP_congr' fun p _ => ?_
      show decide ((a + (x + p)) % u = 0) = _
      rw [← Int.add_assoc]
    have c2 : List.countP ((fun p => decide ((a' + p) % u = 0)) ∘ fun z => x' + z) (ps xs') = (ps xs').countP (fun p => decide ((a' + x' + p) % u = 0)) := by
      refine countP_congr' fun p _ => ?_
      show decide ((a' + (x' + p)) % u = 0) = _
      rw [← Int.add_assoc]
    rw [c1, c2, ih, e]
theorem mem_ps_same : ∀ {ys : List Int} {u p : Int}, (∀ z ∈ ys, z = u) → 0 < u → 0 < p → p ≤ ys.sum → (p ∈ ps ys ↔ p % u = 0)
  | [], u, p, _, _, h0, h1 => by
    rw [List.sum_nil] at h1
    omega
  | y :: ys, u, p, h, hu, h0, h1 => by
    have hy := h y (List.mem_cons_self ..)
    subst hy
    rw [List.sum_cons] at h1
    rw [mem_ps_cons]
    by_cases e : p = y
    · subst e
      simp
    · by_cases lt : p < y
      · constructor
        · rintro (h | hm)
          · omega
          · have := ps_pos (xs := ys) (fun z hz => by rw [h z (List.mem_cons_of_mem _ hz)]; exact hu) _ hm
            omega
        · intro h
          rw [Int.emod_eq_of_lt (by omega) lt] at h
          omega
      · rw [mem_ps_same (fun z hz => h z (List.mem_cons_of_mem _ hz)) hu (show 0 < p - y by omega) (by omega)]
        have : (p - y) % y = p % y := by
          rw [Int.sub_emod, Int.emod_self]
          simp
        rw [this]
        constructor
        · rintro (h | h)
          · omega
          · exact h
        · exact .inr
theorem J_same {xs ys : List Int} {u : Int} (px : PosL xs) (hu : 0 < u) (h : ∀ z ∈ ys, z = u) (hs : xs.sum = ys.sum) : J xs ys = (ps xs).countP (fun p => decide ((0 + p) % u = 0)) := by
  unfold J
  refine countP_congr' fun p hp => ?_
  refine decide_eq_decide.mpr ?_
  rw [Int.zero_add]
  exact mem_ps_same h hu (ps_pos px p hp) (by rw [← hs]; exact ps_le px p hp)
theorem fits_due {owed due : List Int} (po : PosL owed) (pd : PosL due) (hs : owed.sum = due.sum) (nd : due ≠ []) (f : Fits due owed) {xs xs' ys ys' : List Int} (hx : xs.Perm owed) (hx' : xs'.Perm owed) (hy : ys.Perm due) (hy' : ys'.Perm due) : J xs ys = J xs' ys' := by
  obtain ⟨u, r, h1, h2⟩ := f
  obtain ⟨d, hd⟩ := List.exists_mem_of_ne_nil due nd
  have hu : 0 < u := by
    have := pd d hd
    rw [h1 d hd] at this
    exact this
  rw [J_same (po.perm hx.symm) hu (fun z hz => h1 z (hy.mem_iff.mp hz)) (by rw [perm_sum hx, perm_sum hy, hs]),
    J_same (po.perm hx'.symm) hu (fun z hz => h1 z (hy'.mem_iff.mp hz)) (by rw [perm_sum hx', perm_sum hy', hs])]
  exact count_dvd (by rw [hx.length_eq, hx'.length_eq]) (fun z hz => h2 z (hx.mem_iff.mp hz)) (fun z hz => h2 z (hx'.mem_iff.mp hz)) rfl
/-- THE NINTH FACT, the easy half -/
theorem fits_const {owed due : List Int} (po : PosL owed) (pd : PosL due) (hs : owed.sum = due.sum) (no : owed ≠ []) (nd : due ≠ []) (f : Fits due owed ∨ Fits owed due) {xs xs' ys ys' : List Int} (hx : xs.Perm owed) (hx' : xs'.Perm owed) (hy : ys.Perm due) (hy' : ys'.Perm due) : J xs ys = J xs' ys' := by
  rcases f with f | f
  · exact fits_due po pd hs nd f hx hx' hy hy'
  · rw [J_comm (po.perm hx.symm) (pd.perm hy.symm) (by rw [perm_sum hx, perm_sum hy, hs]), J_comm (po.perm hx'.symm) (pd.perm hy'.symm) (by rw [perm_sum hx', perm_sum hy', hs])]
    exact fits_due pd po hs.symm no f hy hy' hx hx'
end K71
namespace K71
open PySem PySem.Spec PyProof.Rows L2
section
variable {P : Program} {w : World} {K : PySem.W.Frag} {mg : Str → Option Value} {base : Heap}
/-! ### the fractions' promises -/
def mkQ (t b : Int) : Int × Int := (t / (Int.gcd t b : Int), b / (Int.gcd t b : Int))
def sp_common_divisor (K : PySem.W.Frag) : Sp := fun vs H Q _ => ∃ a b : Int, vs = [.int a, .int b] ∧ Q (.int (Int.gcd a b : Int)) H
/-- what is wanted of a new fraction -/
def newFr (K : PySem.W.Frag) (H : Hp) (Q : VK) (q : Int × Int) : Prop := ∀ v H', Same H H' → Fr K H' v q → Q v H'
def sp_made (K : PySem.W.Frag) : Sp := fun vs H Q _ => ∃ a b : Int, vs = [.int a, .int b] ∧ 0 < b ∧ b.natAbs < 2 ^ 600 ∧ newFr K H Q (mkQ a b)
def spFF (K : PySem.W.Frag) (f : Int × Int → Int × Int → Int × Int) : Sp := fun vs H Q _ => ∃ (v u : V) (a b : Int × Int), vs = [v, u] ∧ Fr K H v a ∧ Fr K H u b ∧ (0 < a.2 ∧ 0 < b.2) ∧ (a.1.natAbs < 2 ^ 250 ∧ a.2.natAbs < 2 ^ 250) ∧ (b.1.natAbs < 2 ^ 250 ∧ b.2.natAbs < 2 ^ 250) ∧ newFr K H Q (f a b)
def sp_plus (K : PySem.W.Frag) : Sp := spFF K fun a b => mkQ (a.1 * b.2 + b.1 * a.2) (a.2 * b.2)
def sp_minus (K : PySem.W.Frag) : Sp := spFF K fun a b => mkQ (a.1 * b.2 - b.1 * a.2) (a.2 * b.2)
def sp_times (K : PySem.W.Frag) : Sp := spFF K fun a b => mkQ (a.1 * b.1) (a.2 * b.2)
def sp_over (K : PySem.W.Frag) : Sp := fun vs H Q _ => ∃ (v u : V) (a b : Int × Int), vs = [v, u] ∧ Fr K H v a ∧ Fr K H u b ∧ (0 < a.2 ∧ 0 < b.1) ∧ (a.1.natAbs < 2 ^ 250 ∧ a.2.natAbs < 2 ^ 250) ∧ (b.1.natAbs < 2 ^ 250 ∧ b.2.natAbs < 2 ^ 250) ∧ newFr K H Q (mkQ (a.1 * b.2) (a.2 * b.1))
theorem igcd (a b : Int) : Int.gcd a b = Nat.gcd a.natAbs b.natAbs := rfl
theorem gcd_step {x y a b : Int} (hx : 0 ≤ x) (hy : 0 < y) (h : Int.gcd x y = Int.gcd a b) : Int.gcd y (x % y) = Int.gcd a b := by
  rw [← h]
  obtain ⟨n, rfl⟩ := Int.eq_ofNat_of_zero_le hx
  obtain ⟨m, rfl⟩ := Int.eq_ofNat_of_zero_le (Int.le_of_lt hy)
  rw [← Int.natCast_emod, igcd, igcd, Int.natAbs_natCast, Int.natAbs_natCast, Int.natAbs_natCast, Nat.gcd_comm n m, Nat.gcd_rec m n, Nat.gcd_comm]
theorem sc_common_divisor : FnScope ["one", "other"] ["one", "other"] (defScope s_common_divisor) := ⟨rfl, rfl, rfl, by decide +kernel, rfl, by decide +kernel, by decide +kernel⟩
/-- the body of common_divisor -/
theorem ok_common_divisor {f : Addr} {fd : FuncData} (T : Txt K mg) (F : FnP K "common_divisor" "common_divisor" s_common_divisor f fd)  : FnOk P w K mg base CX0 1 f fd ["one", "other"] (sp_common_divisor K) := by
  refine F.ok sc_common_divisor (fun vs H Q E h => ?_) (fun cdv A outer s H vs Q E hr h => ⟨_, PSs.nox (pss_cons (ps_par (i := 0) (j := 1) rfl sc_common_divisor.nd rfl rfl (by decide) rfl rfl (pa_cons (pe_callB call_abs (by rfl) T.abs' (by decide +kernel) (pa_cons (pv 0) pa_nil)) (pa_cons (pe_callB call_abs (by rfl) T.abs' (by decide +kernel) (pa_cons (pv 1) pa_nil)) pa_nil)) (by rfl))
    (pss_cons (ps_while PassesOwn.never (pt_cmpR op_gt (pv 1) pe_int (nomark _))
      (pss_one (ps_par (i := 0) (j := 1) rfl sc_common_divisor.nd rfl rfl (by decide) rfl rfl (pa_cons (pv 1) (pa_cons (pe_op op_mod (pv 0) (pv 1)) pa_nil)) (by rfl))))
    (pss_one (ps_ret (pv 0))))), ?_⟩)
  · first | (obtain ⟨_, rfl, _⟩ := h; rfl) | (obtain ⟨_, _, rfl, _⟩ := h; rfl) | (obtain ⟨_, _, _, rfl, _⟩ := h; rfl) | (obtain ⟨_, _, _, _, rfl, _⟩ := h; rfl) | (obtain ⟨_, _, _, _, _, rfl, _⟩ := h; rfl) | (obtain ⟨_, _, _, _, _, _, rfl, _⟩ := h; rfl) | (obtain ⟨_, _, _, _, _, _, _, rfl, _⟩ := h; rfl) | (obtain ⟨_, _, _, _, _, _, _, _, rfl, _⟩ := h; rfl) | (obtain ⟨_, _, _, _, _, _, _, _, _, rfl, _⟩ := h; rfl) | (obtain ⟨_, _, _, _, _, _, _, _, _, _, rfl, _⟩ := h; rfl) | (obtain ⟨_, _, _, _, _, _, _, _, _, _, _, rfl, _⟩ := h; rfl) | (obtain ⟨_, _, _, _, _, _, _, _, _, _, _, _, rfl, _⟩ := h; rfl)
  obtain ⟨a, b, rfl, k⟩ := h
  refine ⟨_, rfl, _, rfl, _, rfl, _, rfl, _, _, rfl, ?_⟩
  refine while_by (fun σ H' => H' = H ∧ ∃ x y : Int, σ = [some (.int x), some (.int y)] ∧ 0 ≤ x ∧ 0 ≤ y ∧ Int.gcd x y = Int.gcd a b)
    (fun σ _ => match σ with | [_, some (.int y)] => y.toNat | _ => 0) ?_ ?_ ?_
  · refine ⟨rfl, _, _, rfl, ?_, ?_, ?_⟩
    · split <;> omega
    · split <;> omega
    · have e1 : (if a < 0 then -a else a) = ((a.natAbs : Nat) : Int) := by split <;> omega
      have e2 : (if b < 0 then -b else b) = ((b.natAbs : Nat) : Int) := by split <;> omega
      rw [e1, e2, igcd, igcd, Int.natAbs_natCast, Int.natAbs_natCast]
  · rintro σ H' ⟨rfl, x, y, rfl, hx, hy, hg⟩
    refine ⟨_, rfl, _, _, rfl, rfl, _, rfl, ?_⟩
    refine ite2 (fun h0 => ?_) (fun h0 => ?_)
    · have h0 := of_decide_eq_true h0
      refine ⟨_, rfl, _, rfl, _, rfl, _, _, rfl, rfl, h0, _, _, rfl, ⟨rfl, _, _, rfl, by omega, Int.emod_nonneg _ (by omega), gcd_step hx h0 hg⟩, ?_⟩
      show (x % y).toNat < y.toNat
      have := Int.emod_lt_of_pos x h0
      omega
    · refine ⟨_, rfl, ?_⟩
      have e : y = 0 := by
        have : ¬ 0 < y := fun z => h0 (decide_eq_true z)
        omega
      subst e
      have e2 : x = ((Int.gcd a b : Nat) : Int) := by
        rw [← hg, Int.gcd_zero_right]
        omega
      rw [← e2] at k
      exact k
  · rintro σ H' Q1 Q2 hq ⟨v, e, i, j, e1, e2, kk, e3, q⟩
    exact ⟨v, e, i, j, e1, e2, kk, e3, hq _ _ q⟩
theorem gcd_lt {a b : Int} {n : Nat} (hb : 0 < b) (h : b.natAbs < 2 ^ n) : 0 < (Int.gcd a b : Int) ∧ (Int.gcd a b : Int).natAbs < 2 ^ n := by
  have h1 : 0 < Int.gcd a b := Int.gcd_pos_of_ne_zero_right a (by omega)
  have h2 : Int.gcd a b ≤ b.natAbs := Nat.gcd_le_right _ (by omega)
  refine ⟨by omega, ?_⟩
  rw [Int.natAbs_natCast]
  omega
theorem sc_made : FnScope ["top", "bottom", "divisor"] ["top", "bottom"] (defScope s_made) := ⟨rfl, rfl, rfl, by decide +kernel, rfl, by decide +kernel, by decide +kernel⟩
/-- the body of made -/
theorem ok_made {f : Addr} {fd : FuncData} (T : Txt K mg) (F : FnP K "made" "made" s_made f fd) (D_common_divisor : Dn P w K mg base "common_divisor" ["one", "other"] 1 (sp_common_divisor K)) : FnOk P w K mg base CX0 2 f fd ["top", "bottom"] (sp_made K) := by
  refine F.ok sc_made (fun vs H Q E h => ?_) (fun cdv A outer s H vs Q E hr h => ⟨_, PSs.nox (pss_cons (ps_set (i := 2) sc_made.nd rfl (Or.inl rfl) (pe_dn D_common_divisor (hr.mono (by decide)) rfl (pa_cons (pv 0) (pa_cons (pv 1) pa_nil))))
    (pss_one (ps_ret (pe_tup (pa_cons (pe_op op_fdivW (pv 0) (pv 2)) (pa_cons (pe_op op_fdivW (pv 1) (pv 2)) pa_nil)))))), ?_⟩)
  · first | (obtain ⟨_, rfl, _⟩ := h; rfl) | (obtain ⟨_, _, rfl, _⟩ := h; rfl) | (obtain ⟨_, _, _, rfl, _⟩ := h; rfl) | (obtain ⟨_, _, _, _, rfl, _⟩ := h; rfl) | (obtain ⟨_, _, _, _, _, rfl, _⟩ := h; rfl) | (obtain ⟨_, _, _, _, _, _, rfl, _⟩ := h; rfl) | (obtain ⟨_, _, _, _, _, _, _, rfl, _⟩ := h; rfl) | (obtain ⟨_, _, _, _, _, _, _, _, rfl, _⟩ := h; rfl) | (obtain ⟨_, _, _, _, _, _, _, _, _, rfl, _⟩ := h; rfl) | (obtain ⟨_, _, _, _, _, _, _, _, _, _, rfl, _⟩ := h; rfl) | (obtain ⟨_, _, _, _, _, _, _, _, _, _, _, rfl, _⟩ := h; rfl) | (obtain ⟨_, _, _, _, _, _, _, _, _, _, _, _, rfl, _⟩ := h; rfl)
  obtain ⟨a, b, rfl, h0, hb, k⟩ := h
  obtain ⟨g0, g1⟩ := gcd_lt (a := a) h0 hb
  refine ⟨_, rfl, _, rfl, a, b, rfl, _, rfl, _, rfl, _, _, rfl, rfl, wide_div g0 g1 (by decide) (by decide), _, rfl, _, rfl, _, _, rfl, rfl, wide_div g0 g1 (by decide) (by decide), (by show 2 ≤ sizeLine; decide), fun p hp => ?_⟩
  exact k _ _ (Same.new hp) ⟨p, rfl, sqt upd_same⟩
def sp_whole (K : PySem.W.Frag) : Sp := fun vs H Q _ => ∃ a : Int, vs = [.int a] ∧ newFr K H Q (a, 1)
theorem sc_whole : FnScope ["number"] ["number"] (defScope s_whole) := ⟨rfl, rfl, rfl, by decide +kernel, rfl, by decide +kernel, by decide +kernel⟩
/-- the body of whole -/
theorem ok_whole {f : Addr} {fd : FuncData} (T : Txt K mg) (F : FnP K "whole" "whole" s_whole f fd)  : FnOk P w K mg base CX0 1 f fd ["number"] (sp_whole K) := by
  refine F.ok sc_whole (fun vs H Q E h => ?_) (fun cdv A outer s H vs Q E hr h => ⟨_, PSs.nox (pss_one (ps_ret (pe_tup (pa_cons (pv 0) (pa_cons pe_int pa_nil))))), ?_⟩)
  · first | (obtain ⟨_, rfl, _⟩ := h; rfl) | (obtain ⟨_, _, rfl, _⟩ := h; rfl) | (obtain ⟨_, _, _, rfl, _⟩ := h; rfl) | (obtain ⟨_, _, _, _, rfl, _⟩ := h; rfl) | (obtain ⟨_, _, _, _, _, rfl, _⟩ := h; rfl) | (obtain ⟨_, _, _, _, _, _, rfl, _⟩ := h; rfl) | (obtain ⟨_, _, _, _, _, _, _, rfl, _⟩ := h; rfl) | (obtain ⟨_, _, _, _, _, _, _, _, rfl, _⟩ := h; rfl) | (obtain ⟨_, _, _, _, _, _, _, _, _, rfl, _⟩ := h; rfl) | (obtain ⟨_, _, _, _, _, _, _, _, _, _, rfl, _⟩ := h; rfl) | (obtain ⟨_, _, _, _, _, _, _, _, _, _, _, rfl, _⟩ := h; rfl) | (obtain ⟨_, _, _, _, _, _, _, _, _, _, _, _, rfl, _⟩ := h; rfl)
  obtain ⟨a, rfl, k⟩ := h
  refine ⟨_, rfl, (by show 2 ≤ sizeLine; decide), fun p hp => ?_⟩
  exact k _ _ (Same.new hp) ⟨p, rfl, sqt upd_same⟩
theorem bd5 {a b : Int} (ha : a.natAbs < 2 ^ 250) (hb : b.natAbs < 2 ^ 250) : (a * b).natAbs < 2 ^ 600 := Nat.lt_of_lt_of_le (wide_lt ha hb) (Nat.pow_le_pow_right (by decide) (by decide))
theorem wm {a b : Int} (ha : a.natAbs < 2 ^ 250) (hb : b.natAbs < 2 ^ 250) : CMulW a b := wide_mul ha hb (by decide) (by decide) (by decide)
theorem sc_plus : FnScope ["one", "other"] ["one", "other"] (defScope s_plus) := ⟨rfl, rfl, rfl, by decide +kernel, rfl, by decide +kernel, by decide +kernel⟩
/-- the body of plus -/
theorem ok_plus {f : Addr} {fd : FuncData} (T : Txt K mg) (F : FnP K "plus" "plus" s_plus f fd) (D_made : Dn P w K mg base "made" ["top", "bottom"] 2 (sp_made K)) : FnOk P w K mg base CX0 3 f fd ["one", "other"] (sp_plus K) := by
  refine F.ok sc_plus (fun vs H Q E h => ?_) (fun cdv A outer s H vs Q E hr h => ⟨_, PSs.nox (pss_one (ps_ret (pe_dn D_made (hr.mono (by decide)) rfl (pa_cons (pe_op op_add (pe_op op_mulW (pe_ix (ixT K) (pv 0) pe_int (fun _ _ => rfl)) (pe_ix (ixT K) (pv 1) pe_int (fun _ _ => rfl))) (pe_op op_mulW (pe_ix (ixT K) (pv 1) pe_int (fun _ _ => rfl)) (pe_ix (ixT K) (pv 0) pe_int (fun _ _ => rfl)))) (pa_cons (pe_op op_mulW (pe_ix (ixT K) (pv 0) pe_int (fun _ _ => rfl)) (pe_ix (ixT K) (pv 1) pe_int (fun _ _ => rfl))) pa_nil))))), ?_⟩)
  · first | (obtain ⟨_, rfl, _⟩ := h; rfl) | (obtain ⟨_, _, rfl, _⟩ := h; rfl) | (obtain ⟨_, _, _, rfl, _⟩ := h; rfl) | (obtain ⟨_, _, _, _, rfl, _⟩ := h; rfl) | (obtain ⟨_, _, _, _, _, rfl, _⟩ := h; rfl) | (obtain ⟨_, _, _, _, _, _, rfl, _⟩ := h; rfl) | (obtain ⟨_, _, _, _, _, _, _, rfl, _⟩ := h; rfl) | (obtain ⟨_, _, _, _, _, _, _, _, rfl, _⟩ := h; rfl) | (obtain ⟨_, _, _, _, _, _, _, _, _, rfl, _⟩ := h; rfl) | (obtain ⟨_, _, _, _, _, _, _, _, _, _, rfl, _⟩ := h; rfl) | (obtain ⟨_, _, _, _, _, _, _, _, _, _, _, rfl, _⟩ := h; rfl) | (obtain ⟨_, _, _, _, _, _, _, _, _, _, _, _, rfl, _⟩ := h; rfl)
  obtain ⟨v, u, a, b, rfl, ⟨p, rfl, h1⟩, ⟨q, rfl, h2⟩, ⟨z1, z2⟩, ⟨a1, a2⟩, ⟨b1, b2⟩, k⟩ := h
  exact ⟨_, rfl, _, _, _, _, rfl, rfl, h1, rfl, _, rfl, _, _, _, _, rfl, rfl, h2, rfl, _, _, rfl, rfl, wm a1 b2, _, rfl, _, _, _, _, rfl, rfl, h2, rfl, _, rfl, _, _, _, _, rfl, rfl, h1, rfl, _, _, rfl, rfl, wm b1 a2, _, _, rfl, rfl, _, rfl, _, _, _, _, rfl, rfl, h1, rfl, _, rfl, _, _, _, _, rfl, rfl, h2, rfl, _, _, rfl, rfl, wm a2 b2, _, _, rfl, Int.mul_pos z1 z2, bd5 a2 b2, k⟩
theorem sc_minus : FnScope ["one", "other"] ["one", "other"] (defScope s_minus) := ⟨rfl, rfl, rfl, by decide +kernel, rfl, by decide +kernel, by decide +kernel⟩
/-- the body of minus -/
theorem ok_minus {f : Addr} {fd : FuncData} (T : Txt K mg) (F : FnP K "minus" "minus" s_minus f fd) (D_made : Dn P w K mg base "made" ["top", "bottom"] 2 (sp_made K)) : FnOk P w K mg base CX0 3 f fd ["one", "other"] (sp_minus K) := by
  refine F.ok sc_minus (fun vs H Q E h => ?_) (fun cdv A outer s H vs Q E hr h => ⟨_, PSs.nox (pss_one (ps_ret (pe_dn D_made (hr.mono (by decide)) rfl (pa_cons (pe_op op_sub (pe_op op_mulW (pe_ix (ixT K) (pv 0) pe_int (fun _ _ => rfl)) (pe_ix (ixT K) (pv 1) pe_int (fun _ _ => rfl))) (pe_op op_mulW (pe_ix (ixT K) (pv 1) pe_int (fun _ _ => rfl)) (pe_ix (ixT K) (pv 0) pe_int (fun _ _ => rfl)))) (pa_cons (pe_op op_mulW (pe_ix (ixT K) (pv 0) pe_int (fun _ _ => rfl)) (pe_ix (ixT K) (pv 1) pe_int (fun _ _ => rfl))) pa_nil))))), ?_⟩)
  · first | (obtain ⟨_, rfl, _⟩ := h; rfl) | (obtain ⟨_, _, rfl, _⟩ := h; rfl) | (obtain ⟨_, _, _, rfl, _⟩ := h; rfl) | (obtain ⟨_, _, _, _, rfl, _⟩ := h; rfl) | (obtain ⟨_, _, _, _, _, rfl, _⟩ := h; rfl) | (obtain ⟨_, _, _, _, _, _, rfl, _⟩ := h; rfl) | (obtain ⟨_, _, _, _, _, _, _, rfl, _⟩ := h; rfl) | (obtain ⟨_, _, _, _, _, _, _, _, rfl, _⟩ := h; rfl) | (obtain ⟨_, _, _, _, _, _, _, _, _, rfl, _⟩ := h; rfl) | (obtain ⟨_, _, _, _, _, _, _, _, _, _, rfl, _⟩ := h; rfl) | (obtain ⟨_, _, _, _, _, _, _, _, _, _, _, rfl, _⟩ := h; rfl) | (obtain ⟨_, _, _, _, _, _, _, _, _, _, _, _, rfl, _⟩ := h; rfl)
  obtain ⟨v, u, a, b, rfl, ⟨p, rfl, h1⟩, ⟨q, rfl, h2⟩, ⟨z1, z2⟩, ⟨a1, a2⟩, ⟨b1, b2⟩, k⟩ := h
  exact ⟨_, rfl, _, _, _, _, rfl, rfl, h1, rfl, _, rfl, _, _, _, _, rfl, rfl, h2, rfl, _, _, rfl, rfl, wm a1 b2, _, rfl, _, _, _, _, rfl, rfl, h2, rfl, _, rfl, _, _, _, _, rfl, rfl, h1, rfl, _, _, rfl, rfl, wm b1 a2, _, _, rfl, rfl, _, rfl, _, _, _, _, rfl, rfl, h1, rfl, _, rfl, _, _, _, _, rfl, rfl, h2, rfl, _, _, rfl, rfl, wm a2 b2, _, _, rfl, Int.mul_pos z1 z2, bd5 a2 b2, k⟩
theorem sc_times : FnScope ["one", "other"] ["one", "other"] (defScope s_times) := ⟨rfl, rfl, rfl, by decide +kernel, rfl, by decide +kernel, by decide +kernel⟩
/-- the body of times -/
theorem ok_times {f : Addr} {fd : FuncData} (T : Txt K mg) (F : FnP K "times" "times" s_times f fd) (D_made : Dn P w K mg base "made" ["top", "bottom"] 2 (sp_made K)) : FnOk P w K mg base CX0 3 f fd ["one", "other"] (sp_times K) := by
  refine F.ok sc_times (fun vs H Q E h => ?_) (fun cdv A outer s H vs Q E hr h => ⟨_, PSs.nox (pss_one (ps_ret (pe_dn D_made (hr.mono (by decide)) rfl (pa_cons (pe_op op_mulW (pe_ix (ixT K) (pv 0) pe_int (fun _ _ => rfl)) (pe_ix (ixT K) (pv 1) pe_int (fun _ _ => rfl))) (pa_cons (pe_op op_mulW (pe_ix (ixT K) (pv 0) pe_int (fun _ _ => rfl)) (pe_ix (ixT K) (pv 1) pe_int (fun _ _ => rfl))) pa_nil))))), ?_⟩)
  · first | (obtain ⟨_, rfl, _⟩ := h; rfl) | (obtain ⟨_, _, rfl, _⟩ := h; rfl) | (obtain ⟨_, _, _, rfl, _⟩ := h; rfl) | (obtain ⟨_, _, _, _, rfl, _⟩ := h; rfl) | (obtain ⟨_, _, _, _, _, rfl, _⟩ := h; rfl) | (obtain ⟨_, _, _, _, _, _, rfl, _⟩ := h; rfl) | (obtain ⟨_, _, _, _, _, _, _, rfl, _⟩ := h; rfl) | (obtain ⟨_, _, _, _, _, _, _, _, rfl, _⟩ := h; rfl) | (obtain ⟨_, _, _, _, _, _, _, _, _, rfl, _⟩ := h; rfl) | (obtain ⟨_, _, _, _, _, _, _, _, _, _, rfl, _⟩ := h; rfl) | (obtain ⟨_, _, _, _, _, _, _, _, _, _, _, rfl, _⟩ := h; rfl) | (obtain ⟨_, _, _, _, _, _, _, _, _, _, _, _, rfl, _⟩ := h; rfl)
  obtain ⟨v, u, a, b, rfl, ⟨p, rfl, h1⟩, ⟨q, rfl, h2⟩, ⟨z1, z2⟩, ⟨a1, a2⟩, ⟨b1, b2⟩, k⟩ := h
  exact ⟨_, rfl, _, _, _, _, rfl, rfl, h1, rfl, _, rfl, _, _, _, _, rfl, rfl, h2, rfl, _, _, rfl, rfl, wm a1 b1, _, rfl, _, _, _, _, rfl, rfl, h1, rfl, _, rfl, _, _, _, _, rfl, rfl, h2, rfl, _, _, rfl, rfl, wm a2 b2, _, _, rfl, Int.mul_pos z1 z2, bd5 a2 b2, k⟩
theorem sc_over : FnScope ["one", "other"] ["one", "other"] (defScope s_over) := ⟨rfl, rfl, rfl, by decide +kernel, rfl, by decide +kernel, by decide +kernel⟩
/-- the body of over -/
theorem ok_over {f : Addr} {fd : FuncData} (T : Txt K mg) (F : FnP K "over" "over" s_over f fd) (D_made : Dn P w K mg base "made" ["top", "bottom"] 2 (sp_made K)) : FnOk P w K mg base CX0 3 f fd ["one", "other"] (sp_over K) := by
  refine F.ok sc_over (fun vs H Q E h => ?_) (fun cdv A outer s H vs Q E hr h => ⟨_, PSs.nox (pss_one (ps_ret (pe_dn D_made (hr.mono (by decide)) rfl (pa_cons (pe_op op_mulW (pe_ix (ixT K) (pv 0) pe_int (fun _ _ => rfl)) (pe_ix (ixT K) (pv 1) pe_int (fun _ _ => rfl))) (pa_cons (pe_op op_mulW (pe_ix (ixT K) (pv 0) pe_int (fun _ _ => rfl)) (pe_ix (ixT K) (pv 1) pe_int (fun _ _ => rfl))) pa_nil))))), ?_⟩)
  · first | (obtain ⟨_, rfl, _⟩ := h; rfl) | (obtain ⟨_, _, rfl, _⟩ := h; rfl) | (obtain ⟨_, _, _, rfl, _⟩ := h; rfl) | (obtain ⟨_, _, _, _, rfl, _⟩ := h; rfl) | (obtain ⟨_, _, _, _, _, rfl, _⟩ := h; rfl) | (obtain ⟨_, _, _, _, _, _, rfl, _⟩ := h; rfl) | (obtain ⟨_, _, _, _, _, _, _, rfl, _⟩ := h; rfl) | (obtain ⟨_, _, _, _, _, _, _, _, rfl, _⟩ := h; rfl) | (obtain ⟨_, _, _, _, _, _, _, _, _, rfl, _⟩ := h; rfl) | (obtain ⟨_, _, _, _, _, _, _, _, _, _, rfl, _⟩ := h; rfl) | (obtain ⟨_, _, _, _, _, _, _, _, _, _, _, rfl, _⟩ := h; rfl) | (obtain ⟨_, _, _, _, _, _, _, _, _, _, _, _, rfl, _⟩ := h; rfl)
  obtain ⟨v, u, a, b, rfl, ⟨p, rfl, h1⟩, ⟨q, rfl, h2⟩, ⟨z1, z2⟩, ⟨a1, a2⟩, ⟨b1, b2⟩, k⟩ := h
  exact ⟨_, rfl, _, _, _, _, rfl, rfl, h1, rfl, _, rfl, _, _, _, _, rfl, rfl, h2, rfl, _, _, rfl, rfl, wm a1 b2, _, rfl, _, _, _, _, rfl, rfl, h1, rfl, _, rfl, _, _, _, _, rfl, rfl, h2, rfl, _, _, rfl, rfl, wm a2 b1, _, _, rfl, Int.mul_pos z1 z2, bd5 a2 b1, k⟩
def lessQ (a b : Int × Int) : Bool := decide (a.1 * b.2 < b.1 * a.2)
def sp_is_less (K : PySem.W.Frag) : Sp := fun vs H Q _ => ∃ (v u : V) (a b : Int × Int), vs = [v, u] ∧ Fr K H v a ∧ Fr K H u b ∧ (a.1.natAbs < 2 ^ 250 ∧ a.2.natAbs < 2 ^ 250) ∧ (b.1.natAbs < 2 ^ 250 ∧ b.2.natAbs < 2 ^ 250) ∧ Q (.bl (lessQ a b)) H
theorem sc_is_less : FnScope ["one", "other"] ["one", "other"] (defScope s_is_less) := ⟨rfl, rfl, rfl, by decide +kernel, rfl, by decide +kernel, by decide +kernel⟩
/-- the body of is_less -/
theorem ok_is_less {f : Addr} {fd : FuncData} (T : Txt K mg) (F : FnP K "is_less" "is_less" s_is_less f fd)  : FnOk P w K mg base CX0 1 f fd ["one", "other"] (sp_is_less K) := by
  refine F.ok sc_is_less (fun vs H Q E h => ?_) (fun cdv A outer s H vs Q E hr h => ⟨_, PSs.nox (pss_one (ps_ret (pe_cmpR op_lt (pe_op op_mulW (pe_ix (ixT K) (pv 0) pe_int (fun _ _ => rfl)) (pe_ix (ixT K) (pv 1) pe_int (fun _ _ => rfl))) (pe_op op_mulW (pe_ix (ixT K) (pv 1) pe_int (fun _ _ => rfl)) (pe_ix (ixT K) (pv 0) pe_int (fun _ _ => rfl))) (nomark _)))), ?_⟩)
  · first | (obtain ⟨_, rfl, _⟩ := h; rfl) | (obtain ⟨_, _, rfl, _⟩ := h; rfl) | (obtain ⟨_, _, _, rfl, _⟩ := h; rfl) | (obtain ⟨_, _, _, _, rfl, _⟩ := h; rfl) | (obtain ⟨_, _, _, _, _, rfl, _⟩ := h; rfl) | (obtain ⟨_, _, _, _, _, _, rfl, _⟩ := h; rfl) | (obtain ⟨_, _, _, _, _, _, _, rfl, _⟩ := h; rfl) | (obtain ⟨_, _, _, _, _, _, _, _, rfl, _⟩ := h; rfl) | (obtain ⟨_, _, _, _, _, _, _, _, _, rfl, _⟩ := h; rfl) | (obtain ⟨_, _, _, _, _, _, _, _, _, _, rfl, _⟩ := h; rfl) | (obtain ⟨_, _, _, _, _, _, _, _, _, _, _, rfl, _⟩ := h; rfl) | (obtain ⟨_, _, _, _, _, _, _, _, _, _, _, _, rfl, _⟩ := h; rfl)
  obtain ⟨v, u, a, b, rfl, ⟨p, rfl, h1⟩, ⟨q, rfl, h2⟩, ⟨a1, a2⟩, ⟨b1, b2⟩, k⟩ := h
  exact ⟨_, rfl, _, _, _, _, rfl, rfl, h1, rfl, _, rfl, _, _, _, _, rfl, rfl, h2, rfl, _, _, rfl, rfl, wm a1 b2, _, rfl, _, _, _, _, rfl, rfl, h2, rfl, _, rfl, _, _, _, _, rfl, rfl, h1, rfl, _, _, rfl, rfl, wm b1 a2, _, _, rfl, rfl, k⟩
def sp_least_of (K : PySem.W.Frag) : Sp := fun vs H Q _ => ∃ (v u : V) (a b : Int × Int), vs = [v, u] ∧ Fr K H v a ∧ Fr K H u b ∧ (a.1.natAbs < 2 ^ 250 ∧ a.2.natAbs < 2 ^ 250) ∧ (b.1.natAbs < 2 ^ 250 ∧ b.2.natAbs < 2 ^ 250) ∧ (∀ x, Fr K H x (if lessQ b a = true then b else a) → Q x H)
theorem sc_least_of : FnScope ["one", "other"] ["one", "other"] (defScope s_least_of) := ⟨rfl, rfl, rfl, by decide +kernel, rfl, by decide +kernel, by decide +kernel⟩
/-- the body of least_of -/
theorem ok_least_of {f : Addr} {fd : FuncData} (T : Txt K mg) (F : FnP K "least_of" "least_of" s_least_of f fd) (D_is_less : Dn P w K mg base "is_less" ["one", "other"] 1 (sp_is_less K)) : FnOk P w K mg base CX0 2 f fd ["one", "other"] (sp_least_of K) := by
  refine F.ok sc_least_of (fun vs H Q E h => ?_) (fun cdv A outer s H vs Q E hr h => ⟨_, PSs.nox (pss_one (ps_ret (pe_ifExp (pt_val (pe_dn D_is_less (hr.mono (by decide)) rfl (pa_cons (pv 1) (pa_cons (pv 0) pa_nil)))) (pv 1) (pv 0)))), ?_⟩)
  · first | (obtain ⟨_, rfl, _⟩ := h; rfl) | (obtain ⟨_, _, rfl, _⟩ := h; rfl) | (obtain ⟨_, _, _, rfl, _⟩ := h; rfl) | (obtain ⟨_, _, _, _, rfl, _⟩ := h; rfl) | (obtain ⟨_, _, _, _, _, rfl, _⟩ := h; rfl) | (obtain ⟨_, _, _, _, _, _, rfl, _⟩ := h; rfl) | (obtain ⟨_, _, _, _, _, _, _, rfl, _⟩ := h; rfl) | (obtain ⟨_, _, _, _, _, _, _, _, rfl, _⟩ := h; rfl) | (obtain ⟨_, _, _, _, _, _, _, _, _, rfl, _⟩ := h; rfl) | (obtain ⟨_, _, _, _, _, _, _, _, _, _, rfl, _⟩ := h; rfl) | (obtain ⟨_, _, _, _, _, _, _, _, _, _, _, rfl, _⟩ := h; rfl) | (obtain ⟨_, _, _, _, _, _, _, _, _, _, _, _, rfl, _⟩ := h; rfl)
  obtain ⟨v, u, a, b, rfl, h1, h2, ha, hb, k⟩ := h
  refine ⟨_, rfl, _, rfl, u, v, b, a, rfl, h2, h1, hb, ha, _, rfl, ?_⟩
  cases e : lessQ b a with
  | true =>
    refine iteT ⟨_, rfl, k _ ?_⟩
    rw [e]
    exact h2
  | false =>
    refine iteF ⟨_, rfl, k _ ?_⟩
    rw [e]
    exact h1
end
end K71
/-! Plain laws of fractions in lowest terms: multiples of one unit p / q. -/
namespace K71
theorem gcd_pos {t b : Int} (hb : 0 < b) : 0 < (Int.gcd t b : Int) := by
  have h1 : 0 < Int.gcd t b := Int.gcd_pos_of_ne_zero_right t (by omega)
  omega
theorem mkQ_fst (t b : Int) : (mkQ t b).1 * (Int.gcd t b : Int) = t := Int.ediv_mul_cancel (Int.gcd_dvd_left ..)
theorem mkQ_snd (t b : Int) : (mkQ t b).2 * (Int.gcd t b : Int) = b := Int.ediv_mul_cancel (Int.gcd_dvd_right ..)
theorem mkQ_pos {t b : Int} (hb : 0 < b) : 0 < (mkQ t b).2 := by
  have h := mkQ_snd t b
  have g := gcd_pos (t := t) hb
  by_cases c : 0 < (mkQ t b).2
  · exact c
  · have : (mkQ t b).2 * (Int.gcd t b : Int) ≤ 0 := Int.mul_nonpos_of_nonpos_of_nonneg (by omega) (by omega)
    omega
theorem mkQ_gcd {t b : Int} (hb : 0 < b) : Int.gcd (mkQ t b).1 (mkQ t b).2 = 1 := by
  have h : 0 < Int.gcd t b := Int.gcd_pos_of_ne_zero_right t (by omega)
  exact Int.gcd_ediv_gcd_ediv_gcd h
theorem mkQ_cross {t b : Int} (hb : 0 < b) : (mkQ t b).1 * b = t * (mkQ t b).2 := by
  have h1 := mkQ_fst t b
  have h2 := mkQ_snd t b
  generalize (mkQ t b).1 = x at *
  generalize (mkQ t b).2 = y at *
  generalize (Int.gcd t b : Int) = g at *
  rw [← h2, ← h1]
  grind
theorem dvd_out {b a d : Int} (h : b ∣ a * d) (g : Int.gcd b a = 1) : b ∣ d := by
  have h1 : b.natAbs ∣ a.natAbs * d.natAbs := by
    rw [← Int.natAbs_mul]
    exact Int.natAbs_dvd_natAbs.mpr h
  exact Int.natAbs_dvd_natAbs.mp (Nat.Coprime.dvd_of_dvd_mul_left (show Nat.Coprime b.natAbs a.natAbs from g) h1)
/-- lowest terms are told by their value -/
theorem low_uniq {a b c d : Int} (hb : 0 < b) (hd : 0 < d) (g1 : Int.gcd a b = 1) (g2 : Int.gcd c d = 1) (h : a * d = c * b) : a = c ∧ b = d := by
  have d1 : b ∣ d := by
    have : b ∣ a * d := ⟨c, by rw [h, Int.mul_comm]⟩
    refine dvd_out this ?_
    rw [Int.gcd_comm]
    exact g1
  have d2 : d ∣ b := by
    have : d ∣ c * b := ⟨a, by rw [← h, Int.mul_comm]⟩
    refine dvd_out this ?_
    rw [Int.gcd_comm]
    exact g2
  have e : b = d := Int.dvd_antisymm (by omega) (by omega) d1 d2
  subst e
  exact ⟨Int.eq_of_mul_eq_mul_right (by omega) h, rfl⟩
theorem mkQ_eq {t b t' b' : Int} (hb : 0 < b) (hb' : 0 < b') (h : t * b' = t' * b) : mkQ t b = mkQ t' b' := by
  have c1 := mkQ_cross (t := t) hb
  have c2 := mkQ_cross (t := t') hb'
  have p1 := mkQ_pos (t := t) hb
  have p2 := mkQ_pos (t := t') hb'
  have e : (mkQ t b).1 * (mkQ t' b').2 = (mkQ t' b').1 * (mkQ t b).2 := by
    generalize mkQ t b = x at *
    generalize mkQ t' b' = y at *
    refine Int.eq_of_mul_eq_mul_right (show b * b' ≠ 0 from Int.mul_ne_zero (by omega) (by omega)) ?_
    grind
  obtain ⟨e1, e2⟩ := low_uniq p1 p2 (mkQ_gcd hb) (mkQ_gcd hb') e
  exact Prod.ext e1 e2
theorem mkQ_inj {t b t' b' : Int} (hb : 0 < b) (hb' : 0 < b') (h : mkQ t b = mkQ t' b') : t * b' = t' * b := by
  have c1 := mkQ_cross (t := t) hb
  have c2 := mkQ_cross (t := t') hb'
  have p1 := mkQ_pos (t := t) hb
  rw [← h] at c2
  generalize mkQ t b = x at *
  refine Int.eq_of_mul_eq_mul_right (show x.2 ≠ 0 by omega) ?_
  grind

/-- k units p / q -/
def fr (p q k : Int) : Int × Int := mkQ (k * p) q
/-- a unit -/
structure Unit2 (p q : Int) : Prop where
  p0 : 0 < p
  q0 : 0 < q
  pl : p.natAbs < 2 ^ 100
  ql : q.natAbs < 2 ^ 100
section
variable {p q k l : Int}
theorem fr_pos (u : Unit2 p q) : 0 < (fr p q k).2 := mkQ_pos u.q0
theorem fr_val (u : Unit2 p q) : (fr p q k).1 * q = k * p * (fr p q k).2 := mkQ_cross u.q0
theorem fr_gcd (u : Unit2 p q) : Int.gcd (fr p q k).1 (fr p q k).2 = 1 := mkQ_gcd u.q0
theorem fr_zero (u : Unit2 p q) : fr p q 0 = (0, 1) := by
  have h : mkQ (0 * p) q = mkQ 0 1 := mkQ_eq u.q0 (by decide) (by simp)
  rw [fr, h]
  rfl
theorem fr_inj (u : Unit2 p q) (h : fr p q k = fr p q l) : k = l := by
  have h1 := mkQ_inj u.q0 u.q0 h
  have h2 := Int.eq_of_mul_eq_mul_right (by have := u.q0; omega) h1
  exact Int.eq_of_mul_eq_mul_right (by have := u.p0; omega) h2
theorem fr_plus (u : Unit2 p q) : mkQ ((fr p q k).1 * (fr p q l).2 + (fr p q l).1 * (fr p q k).2) ((fr p q k).2 * (fr p q l).2) = fr p q (k + l) := by
  have h1 := fr_val (k := k) u
  have h2 := fr_val (k := l) u
  refine mkQ_eq (Int.mul_pos (fr_pos u) (fr_pos u)) u.q0 ?_
  generalize fr p q k = x at *
  generalize fr p q l = y at *
  grind
theorem fr_minus (u : Unit2 p q) : mkQ ((fr p q k).1 * (fr p q l).2 - (fr p q l).1 * (fr p q k).2) ((fr p q k).2 * (fr p q l).2) = fr p q (k - l) := by
  have h1 := fr_val (k := k) u
  have h2 := fr_val (k := l) u
  refine mkQ_eq (Int.mul_pos (fr_pos u) (fr_pos u)) u.q0 ?_
  generalize fr p q k = x at *
  generalize fr p q l = y at *
  grind
theorem fr_lt (u : Unit2 p q) : lessQ (fr p q k) (fr p q l) = decide (k < l) := by
  have h1 := fr_val (k := k) u
  have h2 := fr_val (k := l) u
  have b1 := fr_pos (k := k) u
  have b2 := fr_pos (k := l) u
  unfold lessQ
  refine decide_eq_decide.mpr ?_
  generalize fr p q k = x at *
  generalize fr p q l = y at *
  have e1 : q * (x.1 * y.2) = (p * x.2 * y.2) * k := by grind
  have e2 : q * (y.1 * x.2) = (p * x.2 * y.2) * l := by grind
  have pp : 0 < p * x.2 * y.2 := Int.mul_pos (Int.mul_pos u.p0 b1) b2
  constructor
  · intro h
    have h3 := Int.mul_lt_mul_of_pos_left h u.q0
    rw [e1, e2] at h3
    exact Int.lt_of_mul_lt_mul_left h3 (by omega)
  · intro h
    have h3 := Int.mul_lt_mul_of_pos_left h pp
    rw [← e1, ← e2] at h3
    exact Int.lt_of_mul_lt_mul_left h3 (by have := u.q0; omega)
theorem fr_top (u : Unit2 p q) (h : 0 < k) : 0 < (fr p q k).1 := by
  have h1 := fr_val (k := k) u
  have b1 := fr_pos (k := k) u
  have : 0 < (fr p q k).1 * q := by
    rw [h1]
    exact Int.mul_pos (Int.mul_pos h u.p0) b1
  by_cases c : 0 < (fr p q k).1
  · exact c
  · have : (fr p q k).1 * q ≤ 0 := Int.mul_nonpos_of_nonpos_of_nonneg (by omega) (by have := u.q0; omega)
    omega
theorem fr_over (u : Unit2 p q) (h : 0 < l) : mkQ ((fr p q k).1 * (fr p q l).2) ((fr p q k).2 * (fr p q l).1) = mkQ k l := by
  have h1 := fr_val (k := k) u
  have h2 := fr_val (k := l) u
  have t0 := fr_top u h
  refine mkQ_eq (Int.mul_pos (fr_pos u) t0) h ?_
  generalize fr p q k = x at *
  generalize fr p q l = y at *
  refine Int.eq_of_mul_eq_mul_right (show q * p ≠ 0 from Int.mul_ne_zero (by have := u.q0; omega) (by have := u.p0; omega)) ?_
  grind
theorem fr_times (u : Unit2 p q) {n : Int} : mkQ (n * (fr p q l).1) (1 * (fr p q l).2) = fr p q (n * l) := by
  have h2 := fr_val (k := l) u
  have b2 := fr_pos (k := l) u
  refine mkQ_eq (by omega) u.q0 ?_
  generalize fr p q l = y at *
  grind
theorem mkQ_dvd {g : Int} (hg : 0 < g) (h : g ∣ k) : mkQ k g = (k / g, 1) := by
  obtain ⟨c, rfl⟩ := h
  have e : mkQ (g * c) g = mkQ c 1 := mkQ_eq hg (by decide) (by grind)
  rw [e, Int.mul_ediv_cancel_left c (by omega)]
  show (c / (Int.gcd c 1 : Int), (1 : Int) / (Int.gcd c 1 : Int)) = (c, 1)
  rw [Int.gcd_one_right]
  simp
theorem mkQ_floor (hl : 0 < l) : (mkQ k l).1 / (mkQ k l).2 = k / l := by
  have h1 := mkQ_fst k l
  have h2 := mkQ_snd k l
  have g := gcd_pos (t := k) hl
  have e : k / l = ((mkQ k l).1 * (Int.gcd k l : Int)) / ((mkQ k l).2 * (Int.gcd k l : Int)) := by rw [h1, h2]
  rw [e, Int.mul_ediv_mul_of_pos_left _ _ g]
theorem fr_gcd2 (u : Unit2 p q) {g : Int} (hg : 0 < g) (hk : 0 < k) : mkQ (Int.gcd ((fr p q g).1 * (fr p q k).2) ((fr p q k).1 * (fr p q g).2) : Int) ((fr p q g).2 * (fr p q k).2) = fr p q (Int.gcd g k : Int) := by
  have h1 := fr_val (k := g) u
  have h2 := fr_val (k := k) u
  have b1 := fr_pos (k := g) u
  have b2 := fr_pos (k := k) u
  refine mkQ_eq (Int.mul_pos b1 b2) u.q0 ?_
  generalize fr p q g = x at *
  generalize fr p q k = y at *
  have hm : 0 < p * x.2 * y.2 := Int.mul_pos (Int.mul_pos u.p0 b1) b2
  have e1 : (Int.gcd ((x.1 * y.2) * q) ((y.1 * x.2) * q) : Int) = (Int.gcd (x.1 * y.2) (y.1 * x.2) : Int) * q := by
    rw [Int.gcd_mul_right]
    rw [Int.natCast_mul]
    congr 1
    have := u.q0
    omega
  have e2 : (Int.gcd (g * (p * x.2 * y.2)) (k * (p * x.2 * y.2)) : Int) = (Int.gcd g k : Int) * (p * x.2 * y.2) := by
    rw [Int.gcd_mul_right]
    rw [Int.natCast_mul]
    congr 1
    omega
  rw [← e1]
  have e3 : x.1 * y.2 * q = g * (p * x.2 * y.2) := by grind
  have e4 : y.1 * x.2 * q = k * (p * x.2 * y.2) := by grind
  rw [e3, e4, e2]
  grind
theorem fr_bd (u : Unit2 p q) (hk : k.natAbs < 2 ^ 50) : (fr p q k).1.natAbs < 2 ^ 250 ∧ (fr p q k).2.natAbs < 2 ^ 250 := by
  have f1 := mkQ_fst (k * p) q
  have f2 := mkQ_snd (k * p) q
  have g := gcd_pos (t := k * p) u.q0
  have le : ∀ x y G : Int, x * G = y → 0 < G → x.natAbs ≤ y.natAbs := fun x y G e hG => by
    rw [← e, Int.natAbs_mul]
    exact Nat.le_mul_of_pos_right _ (by omega)
  have l1 : (fr p q k).1.natAbs ≤ (k * p).natAbs := le _ _ _ f1 g
  have l2 : (fr p q k).2.natAbs ≤ q.natAbs := le _ _ _ f2 g
  have l3 : (k * p).natAbs < 2 ^ (50 + 100) := by
    rw [Int.natAbs_mul, Nat.pow_add]
    exact Nat.mul_lt_mul'' hk u.pl
  have l4 := u.ql
  exact ⟨Nat.lt_of_le_of_lt l1 (Nat.lt_of_lt_of_le l3 (Nat.pow_le_pow_right (by decide) (by decide))), Nat.lt_of_le_of_lt l2 (Nat.lt_of_lt_of_le l4 (Nat.pow_le_pow_right (by decide) (by decide)))⟩
end
end K71
namespace K71
open PySem PySem.Spec PyProof.Rows L2
section
variable {P : Program} {w : World} {K : PySem.W.Frag} {mg : Str → Option Value} {base : Heap}
theorem szl {n : Nat} (h : n ≤ 100000) : n ≤ sizeLine := Nat.le_trans h (by decide)
theorem szt {n : Nat} (h : n < 100000) : n < sizeLine := Nat.lt_of_lt_of_le h (by decide)
/-! ### comprehensions without a test, item by item -/
/-- the tuples stay -/
def Tame (H H' : Hp) : Prop := ∀ a xs, Rd H a (.tup xs) → Rd H' a (.tup xs)
theorem Tame.refl (H : Hp) : Tame H H := fun _ _ h => h
theorem Tame.trans {H H1 H2 : Hp} (a : Tame H H1) (b : Tame H1 H2) : Tame H H2 := fun x xs h => b x xs (a x xs h)
theorem _root_.L2.Same.tame {H H' : Hp} (e : Same H H') : Tame H H' := fun _ _ h => e.rd h
theorem Tame.lst {H : Hp} {D : Addr} {xs : List V} {o : HO} (h : H D = some (.lst xs)) : Tame H (upd H D o) := fun a ys r => by
  have ne : a ≠ D := fun e => by
    subst e
    rcases r with r | ⟨o, r⟩
    · rw [h] at r
      cases r
    · rw [h] at r
      cases r
  rcases r with r | ⟨o, r⟩
  · exact .inl (by rw [upd_ne ne]; exact r)
  · exact .inr ⟨o, by rw [upd_ne ne]; exact r⟩
theorem Tame.t {H H' : Hp} {a : Addr} {xs : List V} (e : Tame H H') (h : SqT K H a xs) : SqT K H' a xs := by
  rcases h with h | h
  · exact .inl (e _ _ h)
  · exact .inr h
theorem Fr.tame {H H' : Hp} {v : V} {q : Int × Int} (e : Tame H H') (h : Fr K H v q) : Fr K H' v q := by
  obtain ⟨p, a, b⟩ := h
  exact ⟨p, a, e.t b⟩
theorem Frs.tame {H H' : Hp} {vs : List V} {qs : List (Int × Int)} (e : Tame H H') (h : Frs K H vs qs) : Frs K H' vs qs := Paired.mapP h fun _ _ r => r.tame e
theorem FrT.tame {H H' : Hp} {v : V} {qs : List (Int × Int)} (e : Tame H H') (h : FrT K H v qs) : FrT K H' v qs := by
  obtain ⟨p, vs, a, b, c⟩ := h
  exact ⟨p, vs, a, e.t b, c.tame e⟩
theorem IT.tame {H H' : Hp} {v : V} {ns : List Int} (e : Tame H H') (h : IT K H v ns) : IT K H' v ns := by
  obtain ⟨p, a, b⟩ := h
  exact ⟨p, a, e.t b⟩
/-- what a step gives, whatever is wanted: a value y of R, all that stood stands -/
def Gives (te : TE) (σ : L2.St) (H : Hp) (R : V → Hp → Prop) : Prop := ∀ Q : VK, (∀ y H', Same H H' → R y H' → Q y H') → te σ H Q
/-- the invariant of such a comprehension -/
def LcI (H1 : Hp) (D : Addr) (R : Nat → V → Hp → Prop) (i : Nat) (H : Hp) : Prop := Same H1 H ∧ ∃ acc, H D = some (.lst acc) ∧ acc.length = i ∧ ∀ (j : Nat) y, acc[j]? = some y → R j y H
theorem wipe1 {σ : L2.St} {s : Nat} {x : V} : wipe ((wipe σ [s]).set s (some x)) [s] = wipe σ [s] := by
  show ((σ.set s none).set s (some x)).set s none = σ.set s none
  rw [List.set_set, List.set_set]
theorem lc_turn {H1 : Hp} {D : Addr} {R : Nat → V → Hp → Prop} {i : Nat} {H H4 : Hp} {y : V} (mono : ∀ i v H H', Tame H H' → R i v H → R i v H') (hD : H1 D = none) (p : LcI H1 D R i H) (hi : i < sizeLine) (e : Same H H4) (r : R i y H4) :
    ∃ acc, H4 D = some (.lst acc) ∧ acc.length < sizeLine ∧ LcI H1 D R (i + 1) (upd H4 D (.lst (acc ++ [y]))) := by
  obtain ⟨s1, acc, h, hl, hR⟩ := p
  have h4 := e D _ h
  have tm : Tame H4 (upd H4 D (.lst (acc ++ [y]))) := Tame.lst h4
  refine ⟨acc, h4, by omega, (s1.trans e).mut hD, acc ++ [y], upd_same, by rw [List.length_append, List.length_singleton, hl], fun j z hj => ?_⟩
  by_cases c : j < acc.length
  · rw [List.getElem?_append_left c] at hj
    exact mono _ _ _ _ tm (mono _ _ _ _ e.tame (hR j z hj))
  · rw [List.getElem?_append_right (by omega)] at hj
    have e0 : j - acc.length = 0 := by
      by_cases z0 : j - acc.length = 0
      · exact z0
      · rw [List.getElem?_eq_none (by simp; omega)] at hj
        cases hj
    rw [e0] at hj
    have ey : y = z := Option.some.inj hj
    have ej : j = i := by omega
    subst ey ej
    exact mono _ _ _ _ tm r
/-- what is left to show behind it -/
def LcEnd (H1 : Hp) (D : Addr) (R : Nat → V → Hp → Prop) (n : Nat) (Qd : Hp → Prop) : Prop := ∀ ys H, Same H1 H → H D = some (.lst ys) → ys.length = n → (∀ (i : Nat) y, ys[i]? = some y → R i y H) → Qd H
theorem lc_start {H1 : Hp} {D : Addr} {R : Nat → V → Hp → Prop} (hD : H1 D = none) : LcI H1 D R 0 (upd H1 D (.lst [])) := ⟨Same.new hD, [], upd_same, rfl, fun j y h => by cases h⟩
theorem lc_fin {H1 : Hp} {D : Addr} {R : Nat → V → Hp → Prop} {n : Nat} {Qd : Hp → Prop} (hd : LcEnd H1 D R n Qd) {H : Hp} (p : LcI H1 D R n H) : Qd H := by
  obtain ⟨s1, acc, h, hl, hR⟩ := p
  exact hd acc H s1 h hl hR
def lc_tupR {a : Addr} {xs : List V} {te : TE} {s : Nat} {σ : L2.St} {H1 : Hp} {D : Addr} {Qd : Hp → Prop} (R : Nat → V → Hp → Prop) (mono : ∀ i v H H', Tame H H' → R i v H → R i v H') (hD : H1 D = none) (hx : SqT K H1 a xs) (hn : xs.length ≤ sizeLine)
    (hs : ∀ i x H, xs[i]? = some x → Same H1 H → Gives te ((σ.set s none).set s (some x)) H (R i)) (hd : LcEnd H1 D R xs.length Qd) :=
  lc_tup (K := K) (a := a) (xs := xs) (g := gName s) (tt := tYes) (te := te) (vs := [s]) (σ := σ) (H1 := H1) (D := D) (Qd := Qd) (LcI H1 D R) (lc_start hD) (fun i H _ p => p.1.t hx) (fun i x H hi p => by
    have hi2 := (List.getElem?_eq_some_iff.mp hi).1
    refine ⟨wipe1, ?_⟩
    refine iteT (B := LcI H1 D R (i + 1) H) ?_
    exact hs i x H hi p.1 _ fun y H4 e r => lc_turn mono hD p (by omega) e r) (fun H p => lc_fin hd p)
def lc_listR {a : Addr} {xs : List V} {te : TE} {s : Nat} {σ : L2.St} {H1 : Hp} {D : Addr} {Qd : Hp → Prop} (R : Nat → V → Hp → Prop) (mono : ∀ i v H H', Tame H H' → R i v H → R i v H') (hD : H1 D = none) (hx : SqL K H1 a xs) (hn : xs.length ≤ sizeLine)
    (hs : ∀ i x H, xs[i]? = some x → Same H1 H → Gives te ((σ.set s none).set s (some x)) H (R i)) (hd : LcEnd H1 D R xs.length Qd) :=
  lc_list (K := K) (a := a) (xs := xs) (g := gName s) (tt := tYes) (te := te) (vs := [s]) (σ := σ) (H1 := H1) (D := D) (Qd := Qd) (LcI H1 D R) (lc_start hD) (fun i H _ p => p.1.l hx) (fun i x H hi p => by
    have hi2 := (List.getElem?_eq_some_iff.mp hi).1
    refine ⟨wipe1, ?_⟩
    refine iteT (B := LcI H1 D R (i + 1) H) ?_
    exact hs i x H hi p.1 _ fun y H4 e r => lc_turn mono hD p (by omega) e r) (fun H p => lc_fin hd p)
def lc_rangeR {lo : Int} {n : Nat} {te : TE} {s : Nat} {σ : L2.St} {H1 : Hp} {D : Addr} {Qd : Hp → Prop} (R : Nat → V → Hp → Prop) (mono : ∀ i v H H', Tame H H' → R i v H → R i v H') (hD : H1 D = none) (hn : n ≤ sizeLine)
    (hs : ∀ i H, i < n → Same H1 H → Gives te ((σ.set s none).set s (some (.int (lo + i)))) H (R i)) (hd : LcEnd H1 D R n Qd) :=
  lc_range (lo := lo) (n := n) (g := gName s) (tt := tYes) (te := te) (vs := [s]) (σ := σ) (H1 := H1) (D := D) (Qd := Qd) (LcI H1 D R) (lc_start hD) (fun i H hi p => by
    refine ⟨wipe1, ?_⟩
    refine iteT (B := LcI H1 D R (i + 1) H) ?_
    exact hs i H hi p.1 _ fun y H4 e r => lc_turn mono hD p (by omega) e r) (fun H p => lc_fin hd p)
/-- the items are told -/
theorem list_of_ix {ys : List V} {n : Nat} {f : Nat → V} (hl : ys.length = n) (h : ∀ (i : Nat) y, ys[i]? = some y → y = f i) : ys = (List.range n).map f := by
  refine List.ext_getElem? fun i => ?_
  by_cases c : i < n
  · rw [List.getElem?_map, List.getElem?_range c]
    have h1 : ys[i]? = some ys[i] := List.getElem?_eq_getElem (by omega)
    rw [h1]
    exact congrArg some (h i _ h1)
  · rw [List.getElem?_eq_none (by omega), List.getElem?_eq_none (by simp; omega)]
theorem list_of_map {α : Type} {ys : List V} {xs : List α} {f : α → V} (hl : ys.length = xs.length) (h : ∀ (i : Nat) y x, ys[i]? = some y → xs[i]? = some x → y = f x) : ys = xs.map f := by
  refine List.ext_getElem? fun i => ?_
  by_cases c : i < xs.length
  · rw [List.getElem?_map]
    have h1 : ys[i]? = some ys[i] := List.getElem?_eq_getElem (by omega)
    have h2 : xs[i]? = some xs[i] := List.getElem?_eq_getElem c
    rw [h1, h2]
    exact congrArg some (h i _ _ h1 h2)
  · rw [List.getElem?_eq_none (by omega), List.getElem?_eq_none (by simp; omega)]
theorem paired_of {α : Type} {F : V → α → Prop} : ∀ {ys : List V} {xs : List α}, ys.length = xs.length → (∀ (i : Nat) y x, ys[i]? = some y → xs[i]? = some x → F y x) → Paired F ys xs
  | [], [], _, _ => .nil
  | y :: ys, x :: xs, hl, h => .cons (h 0 y x rfl rfl) (paired_of (by simpa using hl) fun i y x hy hx => h (i + 1) y x (by simpa using hy) (by simpa using hx))
theorem paired_at {α β : Type} {F : α → β → Prop} : ∀ {xs : List α} {ys : List β}, Paired F xs ys → ∀ {i : Nat} {x : α}, xs[i]? = some x → ∃ y, ys[i]? = some y ∧ F x y
  | _, _, .nil, i, x, h => by cases h
  | _, _, .cons r t, 0, x, h => by
    have e := Option.some.inj h
    subst e
    exact ⟨_, rfl, r⟩
  | _, _, .cons r t, i + 1, x, h => paired_at t (i := i) (by simpa using h)
theorem paired_at' {α β : Type} {F : α → β → Prop} : ∀ {xs : List α} {ys : List β}, Paired F xs ys → ∀ {i : Nat} {y : β}, ys[i]? = some y → ∃ x, xs[i]? = some x ∧ F x y
  | _, _, .nil, i, x, h => by cases h
  | _, _, .cons r t, 0, x, h => by
    have e := Option.some.inj h
    subst e
    exact ⟨_, rfl, r⟩
  | _, _, .cons r t, i + 1, x, h => paired_at' t (i := i) (by simpa using h)
theorem at_map {α : Type} {f : α → V} {xs : List α} {i : Nat} {y : V} (h : (xs.map f)[i]? = some y) : ∃ x, xs[i]? = some x ∧ y = f x := by
  rw [List.getElem?_map] at h
  cases e : xs[i]? with
  | none =>
    rw [e] at h
    cases h
  | some x =>
    rw [e] at h
    exact ⟨x, rfl, (Option.some.inj h).symm⟩
end
end K71
namespace K71
open PySem PySem.Spec PyProof.Rows L2
section
variable {P : Program} {w : World} {K : PySem.W.Frag} {mg : Str → Option Value} {base : Heap}
/-! ### checks -/
def sp_is_integer (K : PySem.W.Frag) : Sp := fun vs H Q _ => ∃ i : Int, vs = [.int i] ∧ Q (.bl true) H
theorem sc_is_integer : FnScope ["thing"] ["thing"] (defScope s_is_integer) := ⟨rfl, rfl, rfl, by decide +kernel, rfl, by decide +kernel, by decide +kernel⟩
/-- the body of is_integer -/
theorem ok_is_integer {f : Addr} {fd : FuncData} (T : Txt K mg) (F : FnP K "is_integer" "is_integer" s_is_integer f fd)  : FnOk P w K mg base CX0 1 f fd ["thing"] (sp_is_integer K) := by
  refine F.ok sc_is_integer (fun vs H Q E h => ?_) (fun cdv A outer s H vs Q E hr h => ⟨_, PSs.nox (pss_one (ps_ret (pe_and (pe_callB (isi K) (by rfl) T.isinstance' (by decide +kernel) (pa_cons (pv 0) (pa_cons (pe_bltn (by rfl) T.int' (by decide +kernel) (show RelV (.ty "int") (.type "int") from rfl)) pa_nil))) (pe_one (pe_not (pe_callB (isi K) (by rfl) T.isinstance' (by decide +kernel) (pa_cons (pv 0) (pa_cons (pe_bltn (by rfl) T.bool' (by decide +kernel) (show RelV (.ty "bool") (.type "bool") from rfl)) pa_nil)))))))), ?_⟩)
  · first | (obtain ⟨_, rfl, _⟩ := h; rfl) | (obtain ⟨_, _, rfl, _⟩ := h; rfl) | (obtain ⟨_, _, _, rfl, _⟩ := h; rfl) | (obtain ⟨_, _, _, _, rfl, _⟩ := h; rfl) | (obtain ⟨_, _, _, _, _, rfl, _⟩ := h; rfl) | (obtain ⟨_, _, _, _, _, _, rfl, _⟩ := h; rfl) | (obtain ⟨_, _, _, _, _, _, _, rfl, _⟩ := h; rfl) | (obtain ⟨_, _, _, _, _, _, _, _, rfl, _⟩ := h; rfl) | (obtain ⟨_, _, _, _, _, _, _, _, _, rfl, _⟩ := h; rfl) | (obtain ⟨_, _, _, _, _, _, _, _, _, _, rfl, _⟩ := h; rfl) | (obtain ⟨_, _, _, _, _, _, _, _, _, _, _, rfl, _⟩ := h; rfl) | (obtain ⟨_, _, _, _, _, _, _, _, _, _, _, _, rfl, _⟩ := h; rfl)
  obtain ⟨i, rfl, k⟩ := h
  exact ⟨_, rfl, _, _, _, _, true, rfl, .ty "int", .base (.int i), kit_ty (by decide +kernel), true, rfl, iteT ⟨_, rfl, _, _, _, _, false, rfl, .ty "bool", .base (.int i), kit_ty (by decide +kernel), false, rfl, k⟩⟩
def sp_is_pair (K : PySem.W.Frag) : Sp := fun vs H Q _ => ∃ (v : V) (q : Int × Int), vs = [v] ∧ Fr K H v q ∧ Q (.bl true) H
theorem sc_is_pair : FnScope ["thing"] ["thing"] (defScope s_is_pair) := ⟨rfl, rfl, rfl, by decide +kernel, rfl, by decide +kernel, by decide +kernel⟩
/-- the body of is_pair -/
theorem ok_is_pair {f : Addr} {fd : FuncData} (T : Txt K mg) (F : FnP K "is_pair" "is_pair" s_is_pair f fd)  : FnOk P w K mg base CX0 1 f fd ["thing"] (sp_is_pair K) := by
  refine F.ok sc_is_pair (fun vs H Q E h => ?_) (fun cdv A outer s H vs Q E hr h => ⟨_, PSs.nox (pss_one (ps_ret (pe_and (pe_callB (isi K) (by rfl) T.isinstance' (by decide +kernel) (pa_cons (pv 0) (pa_cons (pe_bltn (by rfl) T.tuple' (by decide +kernel) (show RelV (.ty "tuple") (.type "tuple") from rfl)) pa_nil))) (pe_one (pe_cmpR op_eq (pe_callB call_len_seq (by rfl) T.len' (by decide +kernel) (pa_cons (pv 0) pa_nil)) pe_int (nomark _)))))), ?_⟩)
  · first | (obtain ⟨_, rfl, _⟩ := h; rfl) | (obtain ⟨_, _, rfl, _⟩ := h; rfl) | (obtain ⟨_, _, _, rfl, _⟩ := h; rfl) | (obtain ⟨_, _, _, _, rfl, _⟩ := h; rfl) | (obtain ⟨_, _, _, _, _, rfl, _⟩ := h; rfl) | (obtain ⟨_, _, _, _, _, _, rfl, _⟩ := h; rfl) | (obtain ⟨_, _, _, _, _, _, _, rfl, _⟩ := h; rfl) | (obtain ⟨_, _, _, _, _, _, _, _, rfl, _⟩ := h; rfl) | (obtain ⟨_, _, _, _, _, _, _, _, _, rfl, _⟩ := h; rfl) | (obtain ⟨_, _, _, _, _, _, _, _, _, _, rfl, _⟩ := h; rfl) | (obtain ⟨_, _, _, _, _, _, _, _, _, _, _, rfl, _⟩ := h; rfl) | (obtain ⟨_, _, _, _, _, _, _, _, _, _, _, _, rfl, _⟩ := h; rfl)
  obtain ⟨v, q, rfl, ⟨p, rfl, h1⟩, k⟩ := h
  exact ⟨_, rfl, _, _, _, _, true, rfl, .ty "tuple", ty_tup h1, kit_ty (by decide +kernel), true, rfl, iteT ⟨_, rfl, p, _, rfl, .inr h1, rfl, k⟩⟩
def sp_is_within (K : PySem.W.Frag) : Sp := fun vs H Q _ => ∃ i lo hi : Int, vs = [.int i, .int lo, .int hi] ∧ lo ≤ i ∧ i ≤ hi ∧ Q (.bl true) H
theorem sc_is_within : FnScope ["thing", "least", "most"] ["thing", "least", "most"] (defScope s_is_within) := ⟨rfl, rfl, rfl, by decide +kernel, rfl, by decide +kernel, by decide +kernel⟩
/-- the body of is_within -/
theorem ok_is_within {f : Addr} {fd : FuncData} (T : Txt K mg) (F : FnP K "is_within" "is_within" s_is_within f fd) (D_is_integer : Dn P w K mg base "is_integer" ["thing"] 1 (sp_is_integer K)) : FnOk P w K mg base CX0 2 f fd ["thing", "least", "most"] (sp_is_within K) := by
  refine F.ok sc_is_within (fun vs H Q E h => ?_) (fun cdv A outer s H vs Q E hr h => ⟨_, PSs.nox (pss_one (ps_ret (pe_and (pe_dn D_is_integer (hr.mono (by decide)) rfl (pa_cons (pv 0) pa_nil)) (pe_one (pe_chain op_le op_le (pv 1) (pv 0) (pv 2)))))), ?_⟩)
  · first | (obtain ⟨_, rfl, _⟩ := h; rfl) | (obtain ⟨_, _, rfl, _⟩ := h; rfl) | (obtain ⟨_, _, _, rfl, _⟩ := h; rfl) | (obtain ⟨_, _, _, _, rfl, _⟩ := h; rfl) | (obtain ⟨_, _, _, _, _, rfl, _⟩ := h; rfl) | (obtain ⟨_, _, _, _, _, _, rfl, _⟩ := h; rfl) | (obtain ⟨_, _, _, _, _, _, _, rfl, _⟩ := h; rfl) | (obtain ⟨_, _, _, _, _, _, _, _, rfl, _⟩ := h; rfl) | (obtain ⟨_, _, _, _, _, _, _, _, _, rfl, _⟩ := h; rfl) | (obtain ⟨_, _, _, _, _, _, _, _, _, _, rfl, _⟩ := h; rfl) | (obtain ⟨_, _, _, _, _, _, _, _, _, _, _, rfl, _⟩ := h; rfl) | (obtain ⟨_, _, _, _, _, _, _, _, _, _, _, _, rfl, _⟩ := h; rfl)
  obtain ⟨i, lo, hi, rfl, h1, h2, k⟩ := h
  refine ⟨_, rfl, i, rfl, true, rfl, iteT ⟨_, rfl, _, rfl, _, _, rfl, rfl, _, rfl, ?_⟩⟩
  refine ite2 (fun _ => ⟨_, rfl, _, _, rfl, rfl, ?_⟩) (fun c => absurd (decide_eq_true h1) c)
  show Q (.bl (decide (i ≤ hi))) H
  rw [decide_eq_true h2]
  exact k
def sp_are_ascending (K : PySem.W.Frag) : Sp := fun vs H Q _ => ∃ (v : V) (ns : List Int), vs = [v] ∧ IT K H v ns ∧ ns.Pairwise (· < ·) ∧ ns.length < 1000 ∧ Q (.bl true) H
theorem sc_are_ascending : FnScope ["things", "at"] ["things"] (defScope s_are_ascending) := ⟨rfl, rfl, rfl, by decide +kernel, rfl, by decide +kernel, by decide +kernel⟩
/-- the body of are_ascending -/
theorem ok_are_ascending {f : Addr} {fd : FuncData} (T : Txt K mg) (F : FnP K "are_ascending" "are_ascending" s_are_ascending f fd)  : FnOk P w K mg base CX0 1 f fd ["things"] (sp_are_ascending K) := by
  refine F.ok sc_are_ascending (fun vs H Q E h => ?_) (fun cdv A outer s H vs Q E hr h => ⟨_, PSs.nox (pss_cons (ps_for PassesOwn.never rfl (pi_range2 (by rfl) T.range (pa_cons pe_int (pa_cons (pe_callB call_len_seq (by rfl) T.len' (by decide +kernel) (pa_cons (pv 0) pa_nil)) pa_nil))) (pg_name (i := 1) sc_are_ascending.nd rfl (Or.inl rfl))
      (pss_one (ps_if (pt_cmpR op_ge (pe_ix (ixT K) (pv 0) (pe_op op_sub (pv 1) pe_int) (fun _ _ => rfl)) (pe_ix (ixT K) (pv 0) (pv 1) (fun _ _ => rfl)) (nomark _))
        (pss_one (ps_ret pe_bl))
        pss_nil)))
    (pss_one (ps_ret pe_bl))), ?_⟩)
  · first | (obtain ⟨_, rfl, _⟩ := h; rfl) | (obtain ⟨_, _, rfl, _⟩ := h; rfl) | (obtain ⟨_, _, _, rfl, _⟩ := h; rfl) | (obtain ⟨_, _, _, _, rfl, _⟩ := h; rfl) | (obtain ⟨_, _, _, _, _, rfl, _⟩ := h; rfl) | (obtain ⟨_, _, _, _, _, _, rfl, _⟩ := h; rfl) | (obtain ⟨_, _, _, _, _, _, _, rfl, _⟩ := h; rfl) | (obtain ⟨_, _, _, _, _, _, _, _, rfl, _⟩ := h; rfl) | (obtain ⟨_, _, _, _, _, _, _, _, _, rfl, _⟩ := h; rfl) | (obtain ⟨_, _, _, _, _, _, _, _, _, _, rfl, _⟩ := h; rfl) | (obtain ⟨_, _, _, _, _, _, _, _, _, _, _, rfl, _⟩ := h; rfl) | (obtain ⟨_, _, _, _, _, _, _, _, _, _, _, _, rfl, _⟩ := h; rfl)
  obtain ⟨v, ns, rfl, ⟨p, rfl, h1⟩, hp, hn, k⟩ := h
  have hl : (ns.map V.int).length = ns.length := List.length_map ..
  refine ⟨_, rfl, p, _, rfl, .inr h1, _, _, rfl, ⟨by decide, by decide, by omega, by omega⟩, for_range (lo := 1) (n := (((ns.map V.int).length : Int) - 1).toNat) (fun i σ H' => H' = H ∧ ∃ v, σ = [some (.ref p), v])
    ⟨rfl, none, rfl⟩ ?_ ?_⟩
  · rintro i σ H' hi ⟨rfl, v, rfl⟩
    have hi2 : i + 1 < ns.length := by omega
    obtain ⟨a, ea⟩ : ∃ a, ns[i]? = some a := ⟨_, List.getElem?_eq_getElem (by omega)⟩
    obtain ⟨b, eb⟩ : ∃ b, ns[i + 1]? = some b := ⟨_, List.getElem?_eq_getElem hi2⟩
    have lt : a < b := by
      obtain ⟨l1, rfl⟩ := List.getElem?_eq_some_iff.mp ea
      obtain ⟨l2, rfl⟩ := List.getElem?_eq_some_iff.mp eb
      exact List.pairwise_iff_getElem.mp hp i (i + 1) l1 l2 (by omega)
    refine ⟨_, rfl, _, rfl, _, _, rfl, rfl, p, _, _, V.int a, rfl, rfl, h1, at_of (j := i) (by omega) (by rw [List.getElem?_map, ea]; rfl), _, rfl, _, rfl, p, _, _, V.int b, rfl, rfl, h1, at_of (j := i + 1) (by omega) (by rw [List.getElem?_map, eb]; rfl), _, _, rfl, rfl, _, rfl, ?_⟩
    refine ite2 (fun c => ?_) (fun _ => ⟨rfl, _, rfl⟩)
    have := of_decide_eq_true c
    omega
  · rintro σ H' ⟨rfl, v, rfl⟩
    exact k
def sp_is_lot_below (K : PySem.W.Frag) : Sp := fun vs H Q _ => ∃ (v : V) (ns : List Int) (m : Int), vs = [v, .int m] ∧ IT K H v ns ∧ ns.Pairwise (· < ·) ∧ ns.length < 1000 ∧ (∀ n ∈ ns, 0 ≤ n ∧ n < m) ∧ ∀ H', Same H H' → Q (.bl true) H'
theorem sc_is_lot_below : FnScope ["thing", "many", "item"] ["thing", "many"] (defScope s_is_lot_below) := ⟨rfl, rfl, rfl, by decide +kernel, rfl, by decide +kernel, by decide +kernel⟩
/-- the body of is_lot_below -/
theorem ok_is_lot_below {f : Addr} {fd : FuncData} (T : Txt K mg) (F : FnP K "is_lot_below" "is_lot_below" s_is_lot_below f fd) (D_are_ascending : Dn P w K mg base "are_ascending" ["things"] 1 (sp_are_ascending K)) (D_is_within : Dn P w K mg base "is_within" ["thing", "least", "most"] 2 (sp_is_within K)) : FnOk P w K mg base CX0 3 f fd ["thing", "many"] (sp_is_lot_below K) := by
  refine F.ok sc_is_lot_below (fun vs H Q E h => ?_) (fun cdv A outer s H vs Q E hr h => ⟨_, PSs.nox (pss_cons (ps_if (PW.pt (pw_or (pt_not (pt_val (pe_callB (isi K) (by rfl) T.isinstance' (by decide +kernel) (pa_cons (pv 0) (pa_cons (pe_bltn (by rfl) T.tuple' (by decide +kernel) (show RelV (.ty "tuple") (.type "tuple") from rfl)) pa_nil))))) (pw_or1 (pt_not (pt_val (pe_callB (cr_all rfl) (by rfl) T.all' (by decide +kernel) (pa_cons (pe_lc (own := [("item", 2)]) (g := gName 2) (tt := tYes) rfl sc_is_lot_below.nd (pi_tup (pv 0)) (blkOk_by (N := ["thing", "many", "item"]) (sc := defScope s_is_lot_below) (by decide +kernel)) (fun _ _ _ _ _ => pg_name (i := 2) sc_is_lot_below.nd rfl (Or.inl rfl)) (fun _ _ _ _ _ => pts_nil) (fun _ _ _ _ _ => (pe_dn D_is_within (hr.mono (by decide)) rfl (pa_cons (pv 2) (pa_cons pe_int (pa_cons (pe_op op_sub (pv 1) pe_int) pa_nil)))))) pa_nil)))))))
      (pss_one (ps_ret pe_bl))
      pss_nil)
    (pss_one (ps_ret (pe_dn D_are_ascending (hr.mono (by decide)) rfl (pa_cons (pv 0) pa_nil))))), ?_⟩)
  · first | (obtain ⟨_, rfl, _⟩ := h; rfl) | (obtain ⟨_, _, rfl, _⟩ := h; rfl) | (obtain ⟨_, _, _, rfl, _⟩ := h; rfl) | (obtain ⟨_, _, _, _, rfl, _⟩ := h; rfl) | (obtain ⟨_, _, _, _, _, rfl, _⟩ := h; rfl) | (obtain ⟨_, _, _, _, _, _, rfl, _⟩ := h; rfl) | (obtain ⟨_, _, _, _, _, _, _, rfl, _⟩ := h; rfl) | (obtain ⟨_, _, _, _, _, _, _, _, rfl, _⟩ := h; rfl) | (obtain ⟨_, _, _, _, _, _, _, _, _, rfl, _⟩ := h; rfl) | (obtain ⟨_, _, _, _, _, _, _, _, _, _, rfl, _⟩ := h; rfl) | (obtain ⟨_, _, _, _, _, _, _, _, _, _, _, rfl, _⟩ := h; rfl) | (obtain ⟨_, _, _, _, _, _, _, _, _, _, _, _, rfl, _⟩ := h; rfl)
  obtain ⟨v, ns, m, rfl, ⟨p, rfl, h1⟩, hp, hn, hb, k⟩ := h
  refine ⟨_, rfl, _, _, _, _, true, rfl, .ty "tuple", ty_tup h1, kit_ty (by decide +kernel), true, rfl, ?_⟩
  refine iteF ?_
  refine ⟨_, rfl, p, rfl, ⟨_, h1⟩, fun D hD => ?_⟩
  refine lc_tupR (K := K) (a := p) (xs := ns.map V.int) (fun i v _ => v = .bl true) (fun _ _ _ _ _ r => r) hD h1 (by rw [List.length_map]; exact szl (by omega)) (fun i x H1 hx e Q' hq => ?_) (fun ys H1 e hD' hl hy => ?_)
  · obtain ⟨n, hn, rfl⟩ := at_map hx
    have := hb n (List.mem_of_getElem? hn)
    exact ⟨_, rfl, _, rfl, _, _, rfl, rfl, n, 0, m - 1, rfl, by omega, by omega, hq _ _ (Same.refl _) rfl⟩
  · have ey : ys = (List.replicate ys.length true).map V.bl := by
      refine list_of_map (by simp) fun i y x hy' hx => ?_
      rw [hy i y hy']
      have : x = true := List.eq_of_mem_replicate (List.mem_of_getElem? hx)
      rw [this]
    rw [ey] at hD'
    refine ⟨D, _, rfl, sql hD', ?_⟩
    have ea : (List.replicate ys.length true).all id = true := List.all_eq_true.mpr fun x hx => by rw [List.eq_of_mem_replicate hx]; rfl
    rw [ea]
    refine ⟨true, rfl, iteF ?_⟩
    exact ⟨_, rfl, _, ns, rfl, ⟨p, rfl, e.t h1⟩, hp, hn, k _ e⟩
def sp_check_most (K : PySem.W.Frag) : Sp := fun vs H Q _ => ∃ a b : Int, vs = [.int a, .int b] ∧ a ≤ b ∧ Q .non H
theorem sc_check_most : FnScope ["many", "most"] ["many", "most"] (defScope s_check_most) := ⟨rfl, rfl, rfl, by decide +kernel, rfl, by decide +kernel, by decide +kernel⟩
/-- the body of check_most -/
theorem ok_check_most {f : Addr} {fd : FuncData} (T : Txt K mg) (F : FnP K "check_most" "check_most" s_check_most f fd)  : FnOk P w K mg base CX0 1 f fd ["many", "most"] (sp_check_most K) := by
  refine F.ok sc_check_most (fun vs H Q E h => ?_) (fun cdv A outer s H vs Q E hr h => ⟨_, PSs.nox (pss_one (ps_if (pt_cmpR op_gt (pv 0) (pv 1) (nomark _))
      (pss_one ps_never)
      pss_nil)), ?_⟩)
  · first | (obtain ⟨_, rfl, _⟩ := h; rfl) | (obtain ⟨_, _, rfl, _⟩ := h; rfl) | (obtain ⟨_, _, _, rfl, _⟩ := h; rfl) | (obtain ⟨_, _, _, _, rfl, _⟩ := h; rfl) | (obtain ⟨_, _, _, _, _, rfl, _⟩ := h; rfl) | (obtain ⟨_, _, _, _, _, _, rfl, _⟩ := h; rfl) | (obtain ⟨_, _, _, _, _, _, _, rfl, _⟩ := h; rfl) | (obtain ⟨_, _, _, _, _, _, _, _, rfl, _⟩ := h; rfl) | (obtain ⟨_, _, _, _, _, _, _, _, _, rfl, _⟩ := h; rfl) | (obtain ⟨_, _, _, _, _, _, _, _, _, _, rfl, _⟩ := h; rfl) | (obtain ⟨_, _, _, _, _, _, _, _, _, _, _, rfl, _⟩ := h; rfl) | (obtain ⟨_, _, _, _, _, _, _, _, _, _, _, _, rfl, _⟩ := h; rfl)
  obtain ⟨a, b, rfl, h1, k⟩ := h
  refine ⟨_, rfl, _, rfl, _, _, rfl, rfl, _, rfl, ?_⟩
  refine ite2 (fun c => ?_) (fun _ => k)
  have := of_decide_eq_true c
  omega
/-- a fraction above 0 in lowest terms -/
structure Am (q : Int × Int) : Prop where
  t : 0 < q.1
  b : 0 < q.2
  g : Int.gcd q.1 q.2 = 1
theorem fr_am {p q k : Int} (u : Unit2 p q) (h : 0 < k) : Am (fr p q k) := ⟨fr_top u h, fr_pos u, fr_gcd u⟩
def sp_is_fraction (K : PySem.W.Frag) : Sp := fun vs H Q _ => ∃ (v : V) (q : Int × Int), vs = [v] ∧ Fr K H v q ∧ Am q ∧ Q (.bl true) H
theorem sc_is_fraction : FnScope ["thing"] ["thing"] (defScope s_is_fraction) := ⟨rfl, rfl, rfl, by decide +kernel, rfl, by decide +kernel, by decide +kernel⟩
/-- the body of is_fraction -/
theorem ok_is_fraction {f : Addr} {fd : FuncData} (T : Txt K mg) (F : FnP K "is_fraction" "is_fraction" s_is_fraction f fd) (D_common_divisor : Dn P w K mg base "common_divisor" ["one", "other"] 1 (sp_common_divisor K)) (D_is_pair : Dn P w K mg base "is_pair" ["thing"] 1 (sp_is_pair K)) (D_is_integer : Dn P w K mg base "is_integer" ["thing"] 1 (sp_is_integer K)) : FnOk P w K mg base CX0 2 f fd ["thing"] (sp_is_fraction K) := by
  refine F.ok sc_is_fraction (fun vs H Q E h => ?_) (fun cdv A outer s H vs Q E hr h => ⟨_, PSs.nox (pss_cons (ps_if (PW.pt (pw_or (pt_not (pt_val (pe_dn D_is_pair (hr.mono (by decide)) rfl (pa_cons (pv 0) pa_nil)))) (pw_or (pt_not (pt_val (pe_dn D_is_integer (hr.mono (by decide)) rfl (pa_cons (pe_ix (ixT K) (pv 0) pe_int (fun _ _ => rfl)) pa_nil)))) (pw_or (pt_not (pt_val (pe_dn D_is_integer (hr.mono (by decide)) rfl (pa_cons (pe_ix (ixT K) (pv 0) pe_int (fun _ _ => rfl)) pa_nil)))) (pw_or1 (pt_cmpR op_lt (pe_ix (ixT K) (pv 0) pe_int (fun _ _ => rfl)) pe_int (nomark _)))))))
      (pss_one (ps_ret pe_bl))
      pss_nil)
    (pss_one (ps_ret (pe_cmpR op_eq (pe_dn D_common_divisor (hr.mono (by decide)) rfl (pa_cons (pe_ix (ixT K) (pv 0) pe_int (fun _ _ => rfl)) (pa_cons (pe_ix (ixT K) (pv 0) pe_int (fun _ _ => rfl)) pa_nil))) pe_int (nomark _))))), ?_⟩)
  · first | (obtain ⟨_, rfl, _⟩ := h; rfl) | (obtain ⟨_, _, rfl, _⟩ := h; rfl) | (obtain ⟨_, _, _, rfl, _⟩ := h; rfl) | (obtain ⟨_, _, _, _, rfl, _⟩ := h; rfl) | (obtain ⟨_, _, _, _, _, rfl, _⟩ := h; rfl) | (obtain ⟨_, _, _, _, _, _, rfl, _⟩ := h; rfl) | (obtain ⟨_, _, _, _, _, _, _, rfl, _⟩ := h; rfl) | (obtain ⟨_, _, _, _, _, _, _, _, rfl, _⟩ := h; rfl) | (obtain ⟨_, _, _, _, _, _, _, _, _, rfl, _⟩ := h; rfl) | (obtain ⟨_, _, _, _, _, _, _, _, _, _, rfl, _⟩ := h; rfl) | (obtain ⟨_, _, _, _, _, _, _, _, _, _, _, rfl, _⟩ := h; rfl) | (obtain ⟨_, _, _, _, _, _, _, _, _, _, _, _, rfl, _⟩ := h; rfl)
  obtain ⟨v, q, rfl, ⟨p, rfl, h1⟩, ha, k⟩ := h
  have ht := ha.t
  have hb := ha.b
  refine ⟨_, rfl, _, q, rfl, ⟨p, rfl, h1⟩, true, rfl, iteF ?_⟩
  refine ⟨_, rfl, _, _, _, _, rfl, rfl, h1, rfl, _, rfl, true, rfl, iteF ?_⟩
  refine ⟨_, rfl, _, _, _, _, rfl, rfl, h1, rfl, _, rfl, true, rfl, iteF ?_⟩
  refine ⟨_, rfl, _, _, _, _, rfl, rfl, h1, rfl, _, _, rfl, rfl, _, rfl, ?_⟩
  refine ite2 (fun c => ?_) (fun _ => ?_)
  · have := of_decide_eq_true c
    omega
  · refine ⟨_, rfl, _, _, _, _, rfl, rfl, h1, rfl, _, rfl, _, _, _, _, rfl, rfl, h1, rfl, q.1, q.2, rfl, rfl, ?_⟩
    show Q (.bl (decide (V.int (Int.gcd q.1 q.2 : Int) = V.int 1))) H
    rw [ha.g]
    exact k
def sp_is_amount (K : PySem.W.Frag) : Sp := fun vs H Q _ => ∃ (v : V) (q : Int × Int), vs = [v] ∧ Fr K H v q ∧ Am q ∧ Q (.bl true) H
theorem sc_is_amount : FnScope ["thing"] ["thing"] (defScope s_is_amount) := ⟨rfl, rfl, rfl, by decide +kernel, rfl, by decide +kernel, by decide +kernel⟩
/-- the body of is_amount -/
theorem ok_is_amount {f : Addr} {fd : FuncData} (T : Txt K mg) (F : FnP K "is_amount" "is_amount" s_is_amount f fd) (D_is_fraction : Dn P w K mg base "is_fraction" ["thing"] 2 (sp_is_fraction K)) : FnOk P w K mg base CX0 3 f fd ["thing"] (sp_is_amount K) := by
  refine F.ok sc_is_amount (fun vs H Q E h => ?_) (fun cdv A outer s H vs Q E hr h => ⟨_, PSs.nox (pss_one (ps_ret (pe_and (pe_dn D_is_fraction (hr.mono (by decide)) rfl (pa_cons (pv 0) pa_nil)) (pe_one (pe_cmpR op_gt (pe_ix (ixT K) (pv 0) pe_int (fun _ _ => rfl)) pe_int (nomark _)))))), ?_⟩)
  · first | (obtain ⟨_, rfl, _⟩ := h; rfl) | (obtain ⟨_, _, rfl, _⟩ := h; rfl) | (obtain ⟨_, _, _, rfl, _⟩ := h; rfl) | (obtain ⟨_, _, _, _, rfl, _⟩ := h; rfl) | (obtain ⟨_, _, _, _, _, rfl, _⟩ := h; rfl) | (obtain ⟨_, _, _, _, _, _, rfl, _⟩ := h; rfl) | (obtain ⟨_, _, _, _, _, _, _, rfl, _⟩ := h; rfl) | (obtain ⟨_, _, _, _, _, _, _, _, rfl, _⟩ := h; rfl) | (obtain ⟨_, _, _, _, _, _, _, _, _, rfl, _⟩ := h; rfl) | (obtain ⟨_, _, _, _, _, _, _, _, _, _, rfl, _⟩ := h; rfl) | (obtain ⟨_, _, _, _, _, _, _, _, _, _, _, rfl, _⟩ := h; rfl) | (obtain ⟨_, _, _, _, _, _, _, _, _, _, _, _, rfl, _⟩ := h; rfl)
  obtain ⟨v, q, rfl, ⟨p, rfl, h1⟩, ha, k⟩ := h
  refine ⟨_, rfl, _, q, rfl, ⟨p, rfl, h1⟩, ha, true, rfl, iteT ?_⟩
  refine ⟨_, rfl, _, _, _, _, rfl, rfl, h1, rfl, _, _, rfl, rfl, ?_⟩
  show Q (.bl (decide (0 < q.1))) H
  rw [decide_eq_true ha.t]
  exact k
def sp_are_sums (K : PySem.W.Frag) : Sp := fun vs H Q _ => ∃ (v : V) (qs : List (Int × Int)), vs = [v] ∧ FrT K H v qs ∧ (∀ q ∈ qs, Am q) ∧ 1 ≤ qs.length ∧ qs.length ≤ 100 ∧ ∀ H', Same H H' → Q (.bl true) H'
theorem sc_are_sums : FnScope ["thing", "item"] ["thing"] (defScope s_are_sums) := ⟨rfl, rfl, rfl, by decide +kernel, rfl, by decide +kernel, by decide +kernel⟩
/-- the body of are_sums -/
theorem ok_are_sums {f : Addr} {fd : FuncData} (T : Txt K mg) (F : FnP K "are_sums" "are_sums" s_are_sums f fd) (D_is_amount : Dn P w K mg base "is_amount" ["thing"] 3 (sp_is_amount K)) : FnOk P w K mg base CX0 4 f fd ["thing"] (sp_are_sums K) := by
  refine F.ok sc_are_sums (fun vs H Q E h => ?_) (fun cdv A outer s H vs Q E hr h => ⟨_, PSs.nox (pss_one (ps_ret (pe_and (pe_callB (isi K) (by rfl) T.isinstance' (by decide +kernel) (pa_cons (pv 0) (pa_cons (pe_bltn (by rfl) T.tuple' (by decide +kernel) (show RelV (.ty "tuple") (.type "tuple") from rfl)) pa_nil))) (pe_and (pe_chain op_le op_le pe_int (pe_callB call_len_seq (by rfl) T.len' (by decide +kernel) (pa_cons (pv 0) pa_nil)) (pe_globI T.c_MOST_SIDE (by rfl))) (pe_one (pe_callB (cr_all rfl) (by rfl) T.all' (by decide +kernel) (pa_cons (pe_lc (own := [("item", 1)]) (g := gName 1) (tt := tYes) rfl sc_are_sums.nd (pi_tup (pv 0)) (blkOk_by (N := ["thing", "item"]) (sc := defScope s_are_sums) (by decide +kernel)) (fun _ _ _ _ _ => pg_name (i := 1) sc_are_sums.nd rfl (Or.inl rfl)) (fun _ _ _ _ _ => pts_nil) (fun _ _ _ _ _ => (pe_dn D_is_amount (hr.mono (by decide)) rfl (pa_cons (pv 1) pa_nil)))) pa_nil))))))), ?_⟩)
  · first | (obtain ⟨_, rfl, _⟩ := h; rfl) | (obtain ⟨_, _, rfl, _⟩ := h; rfl) | (obtain ⟨_, _, _, rfl, _⟩ := h; rfl) | (obtain ⟨_, _, _, _, rfl, _⟩ := h; rfl) | (obtain ⟨_, _, _, _, _, rfl, _⟩ := h; rfl) | (obtain ⟨_, _, _, _, _, _, rfl, _⟩ := h; rfl) | (obtain ⟨_, _, _, _, _, _, _, rfl, _⟩ := h; rfl) | (obtain ⟨_, _, _, _, _, _, _, _, rfl, _⟩ := h; rfl) | (obtain ⟨_, _, _, _, _, _, _, _, _, rfl, _⟩ := h; rfl) | (obtain ⟨_, _, _, _, _, _, _, _, _, _, rfl, _⟩ := h; rfl) | (obtain ⟨_, _, _, _, _, _, _, _, _, _, _, rfl, _⟩ := h; rfl) | (obtain ⟨_, _, _, _, _, _, _, _, _, _, _, _, rfl, _⟩ := h; rfl)
  obtain ⟨v, qs, rfl, ⟨p, xs, rfl, h1, h2⟩, ha, hl1, hl2, k⟩ := h
  have hl : xs.length = qs.length := Paired.length h2
  refine ⟨_, rfl, _, _, _, _, true, rfl, .ty "tuple", ty_tup h1, kit_ty (by decide +kernel), true, rfl, iteT ?_⟩
  refine ⟨_, rfl, p, _, rfl, .inr h1, _, _, rfl, rfl, _, rfl, ?_⟩
  refine ite2 (fun _ => ?_) (fun c => absurd (decide_eq_true (by omega)) c)
  refine ⟨_, _, rfl, rfl, decide ((xs.length : Int) ≤ 100), rfl, ?_⟩
  refine ite2 (fun _ => ?_) (fun c => absurd (decide_eq_true (by omega)) c)
  refine ⟨_, rfl, p, rfl, ⟨_, h1⟩, fun D hD => ?_⟩
  refine lc_tupR (K := K) (a := p) (xs := xs) (fun i v _ => v = .bl true) (fun _ _ _ _ _ r => r) hD h1 (szl (by omega)) (fun i x H1 hx e Q' hq => ?_) (fun ys H1 e hD' hl hy => ?_)
  · obtain ⟨q, hq1, hq2⟩ := paired_at h2 hx
    exact ⟨_, rfl, x, q, rfl, hq2.mono e, ha q (List.mem_of_getElem? hq1), hq _ _ (Same.refl _) rfl⟩
  · have ey : ys = (List.replicate ys.length true).map V.bl := by
      refine list_of_map (by simp) fun i y x hy' hx => ?_
      rw [hy i y hy']
      have : x = true := List.eq_of_mem_replicate (List.mem_of_getElem? hx)
      rw [this]
    rw [ey] at hD'
    refine ⟨D, _, rfl, sql hD', ?_⟩
    have ea : (List.replicate ys.length true).all id = true := List.all_eq_true.mpr fun x hx => by rw [List.eq_of_mem_replicate hx]; rfl
    show Q (.bl ((List.replicate ys.length true).all id)) H1
    rw [ea]
    exact k _ e
end
end K71
namespace K71
open PySem PySem.Spec PyProof.Rows L2
section
variable {P : Program} {w : World} {K : PySem.W.Frag} {mg : Str → Option Value} {base : Heap}
/-! ### evenings -/
theorem take_sum : ∀ {l : List Int} {i : Nat}, (∀ k ∈ l, 0 ≤ k) → 0 ≤ (l.take i).sum ∧ (l.take i).sum ≤ l.sum
  | [], i, _ => by simp
  | a :: r, 0, h => by
    have := (take_sum (l := r) (i := r.length) fun k hk => h k (List.mem_cons_of_mem _ hk))
    rw [List.take_length] at this
    have h0 := h a (List.mem_cons_self ..)
    rw [List.take_zero, List.sum_nil, List.sum_cons]
    omega
  | a :: r, i + 1, h => by
    have := (take_sum (l := r) (i := i) fun k hk => h k (List.mem_cons_of_mem _ hk))
    have h0 := h a (List.mem_cons_self ..)
    rw [List.take_succ_cons, List.sum_cons, List.sum_cons]
    omega
theorem mem_le_sum : ∀ {l : List Int} {k : Int}, (∀ k ∈ l, 0 ≤ k) → k ∈ l → k ≤ l.sum
  | a :: r, k, h, hk => by
    have h0 := h a (List.mem_cons_self ..)
    have hr : ∀ k ∈ r, 0 ≤ k := fun k hk => h k (List.mem_cons_of_mem _ hk)
    have h1 := (take_sum (l := r) (i := r.length) hr)
    rw [List.take_length] at h1
    rw [List.sum_cons]
    rcases List.mem_cons.mp hk with e | hk
    · omega
    · have := mem_le_sum hr hk
      omega
/-- whole multiples of a unit, together below 2^40 -/
structure Ks (ks : List Int) : Prop where
  nn : ∀ k ∈ ks, 0 ≤ k
  bd : ks.sum < 2 ^ 40
theorem Ks.le {ks : List Int} (h : Ks ks) {k : Int} (hk : k ∈ ks) : k.natAbs < 2 ^ 50 := by
  have h1 := mem_le_sum h.nn hk
  have h2 := h.bd
  have h3 := h.nn k hk
  omega
theorem Ks.tk {ks : List Int} (h : Ks ks) (i : Nat) : ((ks.take i).sum).natAbs < 2 ^ 50 := by
  have h1 := take_sum (i := i) h.nn
  have h2 := h.bd
  omega
def sp_total_of (K : PySem.W.Frag) : Sp := fun vs H Q _ => ∃ (v : V) (p q : Int) (ks : List Int), vs = [v] ∧ Unit2 p q ∧ FrT K H v (ks.map (fr p q)) ∧ Ks ks ∧ newFr K H Q (fr p q ks.sum)
theorem sc_total_of : FnScope ["fractions", "found", "fraction"] ["fractions"] (defScope s_total_of) := ⟨rfl, rfl, rfl, by decide +kernel, rfl, by decide +kernel, by decide +kernel⟩
/-- the body of total_of -/
theorem ok_total_of {f : Addr} {fd : FuncData} (T : Txt K mg) (F : FnP K "total_of" "total_of" s_total_of f fd) (D_plus : Dn P w K mg base "plus" ["one", "other"] 3 (sp_plus K)) : FnOk P w K mg base CX0 4 f fd ["fractions"] (sp_total_of K) := by
  refine F.ok sc_total_of (fun vs H Q E h => ?_) (fun cdv A outer s H vs Q E hr h => ⟨_, PSs.nox (pss_cons (ps_set (i := 1) sc_total_of.nd rfl (Or.inl rfl) (pe_globR T.c_ZERO (by rfl)))
    (pss_cons (ps_for PassesOwn.never rfl (pi_tup (pv 0)) (pg_name (i := 2) sc_total_of.nd rfl (Or.inl rfl))
      (pss_one (ps_set (i := 1) sc_total_of.nd rfl (Or.inl rfl) (pe_dn D_plus (hr.mono (by decide)) rfl (pa_cons (pv 1) (pa_cons (pv 2) pa_nil))))))
    (pss_one (ps_ret (pv 1))))), ?_⟩)
  · first | (obtain ⟨_, rfl, _⟩ := h; rfl) | (obtain ⟨_, _, rfl, _⟩ := h; rfl) | (obtain ⟨_, _, _, rfl, _⟩ := h; rfl) | (obtain ⟨_, _, _, _, rfl, _⟩ := h; rfl) | (obtain ⟨_, _, _, _, _, rfl, _⟩ := h; rfl) | (obtain ⟨_, _, _, _, _, _, rfl, _⟩ := h; rfl) | (obtain ⟨_, _, _, _, _, _, _, rfl, _⟩ := h; rfl) | (obtain ⟨_, _, _, _, _, _, _, _, rfl, _⟩ := h; rfl) | (obtain ⟨_, _, _, _, _, _, _, _, _, rfl, _⟩ := h; rfl) | (obtain ⟨_, _, _, _, _, _, _, _, _, _, rfl, _⟩ := h; rfl) | (obtain ⟨_, _, _, _, _, _, _, _, _, _, _, rfl, _⟩ := h; rfl) | (obtain ⟨_, _, _, _, _, _, _, _, _, _, _, _, rfl, _⟩ := h; rfl)
  obtain ⟨v, p, q, ks, rfl, u, ⟨a, xs, rfl, h1, h2⟩, hk, k⟩ := h
  refine ⟨_, rfl, a, rfl, ⟨_, h1⟩, for_tup (K := K) (a := a) (xs := xs) (fun i σ H' => Same H H' ∧ ∃ w x, σ = [some (.ref a), some w, x] ∧ Fr K H' w (fr p q ((ks.take i).sum))) ?_ ?_ ?_ ?_⟩
  · refine ⟨Same.refl _, _, none, rfl, _, rfl, ?_⟩
    rw [List.take_zero, List.sum_nil, fr_zero u]
    exact T.zero H
  · rintro i σ H' _ ⟨e, _⟩
    exact e.t h1
  · rintro i x σ H' hx ⟨e, w, y, rfl, hw⟩
    obtain ⟨z, hz, hf⟩ := paired_at h2 hx
    rw [List.getElem?_map] at hz
    obtain ⟨n, hn, rfl⟩ := Option.map_eq_some_iff.mp hz
    refine ⟨_, rfl, _, rfl, w, x, _, _, rfl, hw, hf.mono e, ⟨fr_pos u, fr_pos u⟩, fr_bd u (hk.tk i), fr_bd u (hk.le (List.mem_of_getElem? hn)), fun v' H2 e2 hv => ?_⟩
    refine ⟨e.trans e2, v', some x, rfl, ?_⟩
    rw [sum_take hn, ← fr_plus u]
    exact hv
  · rintro σ H' ⟨e, w, y, rfl, hw⟩
    have el : xs.length = ks.length := by rw [Paired.length h2, List.length_map]
    rw [el, List.take_length] at hw
    exact ⟨_, rfl, k _ _ e hw⟩
/-- an evening's data -/
structure EvD (p q : Int) (os ds : List Int) : Prop where
  u : Unit2 p q
  no : os ≠ []
  nd : ds ≠ []
  po : PosL os
  pd : PosL ds
  hs : os.sum = ds.sum
  bd : os.sum < 2 ^ 39
  lo : os.length ≤ 50
  ld : ds.length ≤ 50
theorem EvD.ko {p q : Int} {os ds : List Int} (h : EvD p q os ds) : Ks os := ⟨fun k hk => by have := h.po k hk; omega, by have := h.bd; omega⟩
theorem EvD.kd {p q : Int} {os ds : List Int} (h : EvD p q os ds) : Ks ds := ⟨fun k hk => by have := h.pd k hk; omega, by have := h.bd; have := h.hs; omega⟩
theorem kn_owed : ¬ (("owed" : Str) = "due") := by decide +kernel
def ef (vo vd : V) : List (Str × V) := putF "due" vd (putF "owed" vo [])
theorem ef_owed (vo vd : V) : (ef vo vd).lookup ("owed" : Str) = some vo := by
  unfold ef
  rw [lookup_putF, if_neg kn_owed, lookup_putF, if_pos rfl]
theorem ef_due (vo vd : V) : (ef vo vd).lookup ("due" : Str) = some vd := by
  unfold ef
  rw [lookup_putF, if_pos rfl]
/-- an evening stands there -/
def EvAt (K : PySem.W.Frag) (H : Hp) (v : V) (p q : Int) (os ds : List Int) : Prop := ∃ a dx vo vd, v = .ref a ∧ H a = some (.ins (He.ga K "Evening") dx (ef vo vd)) ∧ FrT K H vo (os.map (fr p q)) ∧ FrT K H vd (ds.map (fr p q))
theorem EvAt.mono {H H' : Hp} {v : V} {p q : Int} {os ds : List Int} (e : Same H H') (h : EvAt K H v p q os ds) : EvAt K H' v p q os ds := by
  obtain ⟨a, dx, vo, vd, h1, h2, h3, h4⟩ := h
  exact ⟨a, dx, vo, vd, h1, e _ _ h2, h3.mono e, h4.mono e⟩
/-- a fraction as data -/
def dq (x : Int × Int) : PyData := .tuple [.int x.1, .int x.2]
theorem fr_dp {H : Hp} {v : V} {x : Int × Int} (h : Fr K H v x) : Dp K H v (dq x) := by
  obtain ⟨a, rfl, h⟩ := h
  exact .tup h (.cons (.int _) (.cons (.int _) .nil))
theorem dq_shaped (x : Int × Int) : SeqAt.shaped (dq x) = true := rfl
theorem dq_eqv (x y : Int × Int) : PyData.eqv (dq x) (dq y) = decide (x = y) := by
  obtain ⟨a, b⟩ := x
  obtain ⟨c, d⟩ := y
  show (PyData.eqvAll [.int a, .int b] [.int c, .int d]) = _
  simp only [PyData.eqvAll, PyData.eqv, Prod.mk.injEq, Bool.and_true, Bool.decide_and]
  have e : ∀ m n : Int, (m == n) = decide (m = n) := fun m n => by
    rw [Bool.eq_iff_iff]
    simp
  rw [e, e]
def sp_Evening_init (K : PySem.W.Frag) : Sp := fun vs H Q _ => ∃ (a dx : Addr) (v1 v2 : V) (p q : Int) (os ds : List Int), vs = [.ref a, v1, v2] ∧ H a = some (.ins (He.ga K "Evening") dx []) ∧ EvD p q os ds ∧ FrT K H v1 (os.map (fr p q)) ∧ FrT K H v2 (ds.map (fr p q)) ∧
  ∀ H', (∀ b o, H b = some o → b ≠ a → H' b = some o) → H' a = some (.ins (He.ga K "Evening") dx (ef v1 v2)) → Q .non H'
theorem am_all {p q : Int} {ks : List Int} (u : Unit2 p q) (h : PosL ks) : ∀ x ∈ ks.map (fr p q), Am x := fun x hx => by
  obtain ⟨k, hk, rfl⟩ := List.mem_map.mp hx
  exact fr_am u (h k hk)
theorem len1 {α : Type} {l : List α} (h : l ≠ []) : 1 ≤ l.length := List.length_pos_iff.mpr h
theorem sc_Evening_init : FnScope ["self", "owed", "due"] ["self", "owed", "due"] (defScope s_Evening_init) := ⟨rfl, rfl, rfl, by decide +kernel, rfl, by decide +kernel, by decide +kernel⟩
/-- the body of Evening.__init__ -/
theorem ok_Evening_init {f : Addr} {fd : FuncData} (T : Txt K mg) (F : FnP K "__init__" "Evening.__init__" s_Evening_init f fd) (D_are_sums : Dn P w K mg base "are_sums" ["thing"] 4 (sp_are_sums K)) (D_total_of : Dn P w K mg base "total_of" ["fractions"] 4 (sp_total_of K)) : FnOk P w K mg base CX0 5 f fd ["self", "owed", "due"] (sp_Evening_init K) := by
  refine F.ok sc_Evening_init (fun vs H Q E h => ?_) (fun cdv A outer s H vs Q E hr h => ⟨_, PSs.nox (pss_cons (ps_if (pt_not (pt_val (pe_dn D_are_sums (hr.mono (by decide)) rfl (pa_cons (pv 1) pa_nil))))
      (pss_one ps_never)
      pss_nil)
    (pss_cons (ps_if (pt_not (pt_val (pe_dn D_are_sums (hr.mono (by decide)) rfl (pa_cons (pv 2) pa_nil))))
      (pss_one ps_never)
      pss_nil)
    (pss_cons (ps_if (pt_cmpR (neD K hr.units) (pe_dn D_total_of (hr.mono (by decide)) rfl (pa_cons (pv 1) pa_nil)) (pe_dn D_total_of (hr.mono (by decide)) rfl (pa_cons (pv 2) pa_nil)) (nomark _))
      (pss_one ps_never)
      pss_nil)
    (pss_cons (ps_fld (pv 0) (pv 1) rfl)
    (pss_one (ps_fld (pv 0) (pv 2) rfl)))))), ?_⟩)
  · first | (obtain ⟨_, rfl, _⟩ := h; rfl) | (obtain ⟨_, _, rfl, _⟩ := h; rfl) | (obtain ⟨_, _, _, rfl, _⟩ := h; rfl) | (obtain ⟨_, _, _, _, rfl, _⟩ := h; rfl) | (obtain ⟨_, _, _, _, _, rfl, _⟩ := h; rfl) | (obtain ⟨_, _, _, _, _, _, rfl, _⟩ := h; rfl) | (obtain ⟨_, _, _, _, _, _, _, rfl, _⟩ := h; rfl) | (obtain ⟨_, _, _, _, _, _, _, _, rfl, _⟩ := h; rfl) | (obtain ⟨_, _, _, _, _, _, _, _, _, rfl, _⟩ := h; rfl) | (obtain ⟨_, _, _, _, _, _, _, _, _, _, rfl, _⟩ := h; rfl) | (obtain ⟨_, _, _, _, _, _, _, _, _, _, _, rfl, _⟩ := h; rfl) | (obtain ⟨_, _, _, _, _, _, _, _, _, _, _, _, rfl, _⟩ := h; rfl)
  obtain ⟨a, dx, v1, v2, p, q, os, ds, rfl, ha, D, h1, h2, k⟩ := h
  refine ⟨_, rfl, v1, _, rfl, h1, am_all D.u D.po, by rw [List.length_map]; exact len1 D.no, by rw [List.length_map]; have := D.lo; omega, fun H1 e1 => ⟨true, rfl, iteF ?_⟩⟩
  refine ⟨_, rfl, v2, _, rfl, h2.mono e1, am_all D.u D.pd, by rw [List.length_map]; exact len1 D.nd, by rw [List.length_map]; have := D.ld; omega, fun H2 e2 => ⟨true, rfl, iteF ?_⟩⟩
  have e12 := e1.trans e2
  refine ⟨_, rfl, v1, p, q, os, rfl, D.u, h1.mono e12, D.ko, fun w1 H3 e3 f1 => ?_⟩
  refine ⟨_, rfl, v2, p, q, ds, rfl, D.u, h2.mono (e12.trans e3), D.kd, fun w2 H4 e4 f2 => ?_⟩
  refine ⟨_, _, fr_dp (f1.mono e4), fr_dp f2, dq_shaped _, dq_shaped _, _, rfl, ?_⟩
  rw [D.hs, dq_eqv, decide_eq_true rfl]
  refine iteF ?_
  have e := (e12.trans e3).trans e4
  refine ⟨_, rfl, _, rfl, a, _, dx, [], rfl, e _ _ ha, T.cl_Evening, T.na_owed, (by show 0 < 1000; decide), _, rfl, _, rfl, a, _, dx, _, rfl, upd_same, T.cl_Evening, T.na_due, (by show 1 < 1000; decide), ?_⟩
  refine k _ (fun b o hb hn => ?_) upd_same
  rw [upd_ne hn, upd_ne hn]
  exact e _ _ hb
def spEv (R : Int → Int → List Int → List Int → Hp → VK → Prop) (K : PySem.W.Frag) : Sp := fun vs H Q _ => ∃ (v : V) (p q : Int) (os ds : List Int), vs = [v] ∧ EvAt K H v p q os ds ∧ EvD p q os ds ∧ R p q os ds H Q
def sp_people (K : PySem.W.Frag) : Sp := spEv (fun p q os ds H Q => Q (.int ((os.length + ds.length : Nat) : Int)) H) K
theorem sc_people : FnScope ["evening"] ["evening"] (defScope s_people) := ⟨rfl, rfl, rfl, by decide +kernel, rfl, by decide +kernel, by decide +kernel⟩
/-- the body of people -/
theorem ok_people {f : Addr} {fd : FuncData} (T : Txt K mg) (F : FnP K "people" "people" s_people f fd)  : FnOk P w K mg base CX0 1 f fd ["evening"] (sp_people K) := by
  refine F.ok sc_people (fun vs H Q E h => ?_) (fun cdv A outer s H vs Q E hr h => ⟨_, PSs.nox (pss_one (ps_ret (pe_op op_add (pe_callB call_len_seq (by rfl) T.len' (by decide +kernel) (pa_cons (fldK K (pv 0) rfl) pa_nil)) (pe_callB call_len_seq (by rfl) T.len' (by decide +kernel) (pa_cons (fldK K (pv 0) rfl) pa_nil))))), ?_⟩)
  · first | (obtain ⟨_, rfl, _⟩ := h; rfl) | (obtain ⟨_, _, rfl, _⟩ := h; rfl) | (obtain ⟨_, _, _, rfl, _⟩ := h; rfl) | (obtain ⟨_, _, _, _, rfl, _⟩ := h; rfl) | (obtain ⟨_, _, _, _, _, rfl, _⟩ := h; rfl) | (obtain ⟨_, _, _, _, _, _, rfl, _⟩ := h; rfl) | (obtain ⟨_, _, _, _, _, _, _, rfl, _⟩ := h; rfl) | (obtain ⟨_, _, _, _, _, _, _, _, rfl, _⟩ := h; rfl) | (obtain ⟨_, _, _, _, _, _, _, _, _, rfl, _⟩ := h; rfl) | (obtain ⟨_, _, _, _, _, _, _, _, _, _, rfl, _⟩ := h; rfl) | (obtain ⟨_, _, _, _, _, _, _, _, _, _, _, rfl, _⟩ := h; rfl) | (obtain ⟨_, _, _, _, _, _, _, _, _, _, _, _, rfl, _⟩ := h; rfl)
  obtain ⟨v, p, q, os, ds, rfl, ⟨a, dx, vo, vd, rfl, hE, ⟨ao, xo, rfl, h1, r1⟩, ⟨ad, xd, rfl, h2, r2⟩⟩, D, k⟩ := h
  refine ⟨_, rfl, a, _, dx, _, _, rfl, hE, T.cl_Evening, T.na_owed, ef_owed _ _, ao, _, rfl, .inr h1, _, rfl, a, _, dx, _, _, rfl, hE, T.cl_Evening, T.na_due, ef_due _ _, ad, _, rfl, .inr h2, _, _, rfl, rfl, ?_⟩
  have e1 : xo.length = os.length := by rw [Paired.length r1, List.length_map]
  have e2 : xd.length = ds.length := by rw [Paired.length r2, List.length_map]
  rw [e1, e2]
  show Q (.int ((os.length : Int) + (ds.length : Int))) H
  rw [← Int.natCast_add]
  exact k
def sp_all_sums (K : PySem.W.Frag) : Sp := spEv (fun p q os ds H Q => ∀ v H', Same H H' → FrT K H' v ((os ++ ds).map (fr p q)) → Q v H') K
theorem paired_app {α β : Type} {F : α → β → Prop} : ∀ {xs : List α} {ys : List β} {xs' : List α} {ys' : List β}, Paired F xs ys → Paired F xs' ys' → Paired F (xs ++ xs') (ys ++ ys')
  | _, _, _, _, .nil, h => h
  | _, _, _, _, .cons r t, h => .cons r (paired_app t h)
theorem sc_all_sums : FnScope ["evening"] ["evening"] (defScope s_all_sums) := ⟨rfl, rfl, rfl, by decide +kernel, rfl, by decide +kernel, by decide +kernel⟩
/-- the body of all_sums -/
theorem ok_all_sums {f : Addr} {fd : FuncData} (T : Txt K mg) (F : FnP K "all_sums" "all_sums" s_all_sums f fd)  : FnOk P w K mg base CX0 1 f fd ["evening"] (sp_all_sums K) := by
  refine F.ok sc_all_sums (fun vs H Q E h => ?_) (fun cdv A outer s H vs Q E hr h => ⟨_, PSs.nox (pss_one (ps_ret (pe_op op_catA (fldK K (pv 0) rfl) (fldK K (pv 0) rfl)))), ?_⟩)
  · first | (obtain ⟨_, rfl, _⟩ := h; rfl) | (obtain ⟨_, _, rfl, _⟩ := h; rfl) | (obtain ⟨_, _, _, rfl, _⟩ := h; rfl) | (obtain ⟨_, _, _, _, rfl, _⟩ := h; rfl) | (obtain ⟨_, _, _, _, _, rfl, _⟩ := h; rfl) | (obtain ⟨_, _, _, _, _, _, rfl, _⟩ := h; rfl) | (obtain ⟨_, _, _, _, _, _, _, rfl, _⟩ := h; rfl) | (obtain ⟨_, _, _, _, _, _, _, _, rfl, _⟩ := h; rfl) | (obtain ⟨_, _, _, _, _, _, _, _, _, rfl, _⟩ := h; rfl) | (obtain ⟨_, _, _, _, _, _, _, _, _, _, rfl, _⟩ := h; rfl) | (obtain ⟨_, _, _, _, _, _, _, _, _, _, _, rfl, _⟩ := h; rfl) | (obtain ⟨_, _, _, _, _, _, _, _, _, _, _, _, rfl, _⟩ := h; rfl)
  obtain ⟨v, p, q, os, ds, rfl, ⟨a, dx, vo, vd, rfl, hE, ⟨ao, xo, rfl, h1, r1⟩, ⟨ad, xd, rfl, h2, r2⟩⟩, D, k⟩ := h
  have e1 : xo.length = os.length := by rw [Paired.length r1, List.length_map]
  have e2 : xd.length = ds.length := by rw [Paired.length r2, List.length_map]
  have l1 := len1 D.no
  have l2 := len1 D.nd
  have l3 := D.lo
  have l4 := D.ld
  refine ⟨_, rfl, a, _, dx, _, _, rfl, hE, T.cl_Evening, T.na_owed, ef_owed _ _, _, rfl, a, _, dx, _, _, rfl, hE, T.cl_Evening, T.na_due, ef_due _ _, ao, ad, xo, xd, rfl, rfl, h1, h2, szl (by omega), fun c => ?_, fun _ c => ?_, fun _ _ t ht => ?_⟩
  · rw [c] at e1
    simp at e1
    omega
  · rw [c] at e2
    simp at e2
    omega
  · refine k _ _ (Same.new ht) ⟨t, _, rfl, sqt upd_same, ?_⟩
    rw [List.map_append]
    exact paired_app (r1.mono (Same.new ht)) (r2.mono (Same.new ht))
def gcdL : List Int → Int
  | [] => 0
  | k :: ks => ks.foldl (fun g k => (Int.gcd g k : Int)) k
theorem gcdL_pos : ∀ {ks : List Int} {g : Int}, 0 < g → 0 < ks.foldl (fun g k => (Int.gcd g k : Int)) g
  | [], g, h => h
  | k :: ks, g, h => by
    have h1 : 0 < Int.gcd g k := Int.gcd_pos_of_ne_zero_left k (by omega)
    exact gcdL_pos (ks := ks) (g := (Int.gcd g k : Int)) (by omega)
theorem gcdL_le : ∀ {ks : List Int} {g : Int}, 0 < g → ks.foldl (fun g k => (Int.gcd g k : Int)) g ≤ g
  | [], g, _ => Int.le_refl g
  | k :: ks, g, h => by
    have h1 : 0 < Int.gcd g k := Int.gcd_pos_of_ne_zero_left k (by omega)
    have h2 := gcdL_le (ks := ks) (g := (Int.gcd g k : Int)) (by omega)
    have h3 : Int.gcd g k ≤ g.natAbs := Nat.gcd_le_left _ (by omega)
    show ks.foldl (fun g k => (Int.gcd g k : Int)) (Int.gcd g k : Int) ≤ g
    omega
def sp_measure_of (K : PySem.W.Frag) : Sp := fun vs H Q _ => ∃ (v : V) (p q : Int) (ks : List Int), vs = [v] ∧ Unit2 p q ∧ FrT K H v (ks.map (fr p q)) ∧ ks ≠ [] ∧ PosL ks ∧ (∀ k ∈ ks, k.natAbs < 2 ^ 50) ∧ newFr K H Q (fr p q (gcdL ks))
theorem cut1 (xs : List V) : cutV xs (some 1) none = xs.drop 1 := by
  unfold cutV
  rw [show (1 : Int) = ((1 : Nat) : Int) from rfl, HT.sIx_nat, HT.sIx_none]
  by_cases h : 1 ≤ xs.length
  · rw [Nat.min_eq_left h, List.take_of_length_le (by simp)]
  · have e : xs = [] := List.eq_nil_of_length_eq_zero (by omega)
    subst e
    rfl
theorem sc_measure_of : FnScope ["amounts", "top", "bottom", "amount"] ["amounts"] (defScope s_measure_of) := ⟨rfl, rfl, rfl, by decide +kernel, rfl, by decide +kernel, by decide +kernel⟩
/-- the body of measure_of -/
theorem ok_measure_of {f : Addr} {fd : FuncData} (T : Txt K mg) (F : FnP K "measure_of" "measure_of" s_measure_of f fd) (D_made : Dn P w K mg base "made" ["top", "bottom"] 2 (sp_made K)) (D_common_divisor : Dn P w K mg base "common_divisor" ["one", "other"] 1 (sp_common_divisor K)) : FnOk P w K mg base CX0 3 f fd ["amounts"] (sp_measure_of K) := by
  refine F.ok sc_measure_of (fun vs H Q E h => ?_) (fun cdv A outer s H vs Q E hr h => ⟨_, PSs.nox (pss_cons (ps_asg (pe_ix (ixT K) (pv 0) pe_int (fun _ _ => rfl)) (pg_tup rfl (pgs_cons (pg_name (i := 1) sc_measure_of.nd rfl (Or.inl rfl)) (pgs_cons (pg_name (i := 2) sc_measure_of.nd rfl (Or.inl rfl)) pgs_nil))))
    (pss_cons (ps_for PassesOwn.never rfl (pi_tup (pe_slice sl_tupA (pv 0) (po_some pe_int) po_none)) (pg_name (i := 3) sc_measure_of.nd rfl (Or.inl rfl))
      (pss_one (ps_asg (pe_dn D_made (hr.mono (by decide)) rfl (pa_cons (pe_dn D_common_divisor (hr.mono (by decide)) rfl (pa_cons (pe_op op_mulW (pv 1) (pe_ix (ixT K) (pv 3) pe_int (fun _ _ => rfl))) (pa_cons (pe_op op_mulW (pe_ix (ixT K) (pv 3) pe_int (fun _ _ => rfl)) (pv 2)) pa_nil))) (pa_cons (pe_op op_mulW (pv 2) (pe_ix (ixT K) (pv 3) pe_int (fun _ _ => rfl))) pa_nil))) (pg_tup rfl (pgs_cons (pg_name (i := 1) sc_measure_of.nd rfl (Or.inl rfl)) (pgs_cons (pg_name (i := 2) sc_measure_of.nd rfl (Or.inl rfl)) pgs_nil))))))
    (pss_one (ps_ret (pe_tup (pa_cons (pv 1) (pa_cons (pv 2) pa_nil))))))), ?_⟩)
  · first | (obtain ⟨_, rfl, _⟩ := h; rfl) | (obtain ⟨_, _, rfl, _⟩ := h; rfl) | (obtain ⟨_, _, _, rfl, _⟩ := h; rfl) | (obtain ⟨_, _, _, _, rfl, _⟩ := h; rfl) | (obtain ⟨_, _, _, _, _, rfl, _⟩ := h; rfl) | (obtain ⟨_, _, _, _, _, _, rfl, _⟩ := h; rfl) | (obtain ⟨_, _, _, _, _, _, _, rfl, _⟩ := h; rfl) | (obtain ⟨_, _, _, _, _, _, _, _, rfl, _⟩ := h; rfl) | (obtain ⟨_, _, _, _, _, _, _, _, _, rfl, _⟩ := h; rfl) | (obtain ⟨_, _, _, _, _, _, _, _, _, _, rfl, _⟩ := h; rfl) | (obtain ⟨_, _, _, _, _, _, _, _, _, _, _, rfl, _⟩ := h; rfl) | (obtain ⟨_, _, _, _, _, _, _, _, _, _, _, _, rfl, _⟩ := h; rfl)
  obtain ⟨v, p, q, ks, rfl, u, ⟨a, xs, rfl, h1, h2⟩, hne, hpos, hbd, k⟩ := h
  cases ks with
  | nil => exact absurd rfl hne
  | cons k0 ks =>
  have hlen : xs.length = ks.length + 1 := by rw [Paired.length h2, List.length_map, List.length_cons]
  have h2' : Frs K H xs (fr p q k0 :: ks.map (fr p q)) := h2
  cases h2' with
  | @cons x0 _ xr _ r0 rr =>
  obtain ⟨a0, rfl, ha0⟩ := r0
  refine ⟨_, rfl, a, _, _, _, rfl, rfl, h1, at_of (j := 0) rfl rfl, a0, _, rfl, ha0, rfl, _, _, rfl, _, _, rfl, rfl, ?_⟩
  refine ⟨_, rfl, 1, rfl, a, _, rfl, h1, fun c => ?_, fun _ t ht => ?_⟩
  · exfalso
    have c1 := c.1
    rw [show (1 : Int) = ((1 : Nat) : Int) from rfl, HT.sIx_nat] at c1
    simp at c1
  · rw [cut1]
    refine ⟨t, rfl, ⟨_, sqt upd_same⟩, for_tup (K := K) (a := t) (xs := xr) (fun i σ H' => Same (upd H t (.tup xr)) H' ∧ ∃ g w, σ = [some (.ref a), some (.int (fr p q g).1), some (.int (fr p q g).2), w] ∧ g = (ks.take i).foldl (fun g k => (Int.gcd g k : Int)) k0) ?_ ?_ ?_ ?_⟩
    · exact ⟨Same.refl _, k0, none, rfl, rfl⟩
    · rintro i σ H' _ ⟨e, _⟩
      exact e.t (sqt upd_same)
    · rintro i x σ H' hx ⟨e, g, w, rfl, hg⟩
      obtain ⟨z, hz, hf⟩ := paired_at rr hx
      rw [List.getElem?_map] at hz
      obtain ⟨n, hn, rfl⟩ := Option.map_eq_some_iff.mp hz
      have k0p : 0 < k0 := hpos _ (List.mem_cons_self ..)
      have np : 0 < n := hpos _ (List.mem_cons_of_mem _ (List.mem_of_getElem? hn))
      have g0 : 0 < g := by
        rw [hg]
        exact gcdL_pos k0p
      have gl : g ≤ k0 := by
        rw [hg]
        exact gcdL_le k0p
      have k0b := hbd k0 (List.mem_cons_self ..)
      obtain ⟨b1, b2⟩ := fr_bd (k := g) u (by omega)
      obtain ⟨b3, b4⟩ := fr_bd (k := n) u (hbd n (List.mem_cons_of_mem _ (List.mem_of_getElem? hn)))
      obtain ⟨ax, rfl, hax⟩ := (hf.mono (Same.new ht)).mono e
      refine ⟨_, rfl, _, rfl, _, _, _, _, rfl, rfl, hax, rfl, _, _, rfl, rfl, wm b1 b4, _, rfl, _, _, _, _, rfl, rfl, hax, rfl, _, rfl, _, _, rfl, rfl, wm b3 b2, _, _, rfl, _, rfl, _, rfl, _, _, _, _, rfl, rfl, hax, rfl, _, _, rfl, rfl, wm b2 b4, _, _, rfl, Int.mul_pos (fr_pos u) (fr_pos u), bd5 b2 b4, fun v' H2 e2 hv => ?_⟩
      rw [fr_gcd2 u g0 np] at hv
      obtain ⟨av, rfl, hav⟩ := hv
      refine ⟨av, _, rfl, hav, rfl, _, _, rfl, _, _, rfl, rfl, ?_⟩
      refine ⟨e.trans e2, _, _, rfl, ?_⟩
      rw [List.take_add_one, hn, List.foldl_append, ← hg]
      rfl
    · rintro σ H' ⟨e, g, w, rfl, hg⟩
      have el : xr.length = ks.length := by
        have := Paired.length rr
        rw [List.length_map] at this
        exact this
      rw [el, List.take_length] at hg
      refine ⟨_, rfl, _, rfl, (by show 2 ≤ sizeLine; decide), fun z hz => ?_⟩
      refine k _ _ (((Same.new ht).trans e).trans (Same.new hz)) ⟨z, rfl, sqt ?_⟩
      rw [upd_same, hg]
      rfl
/-- the measure of an evening, in units -/
def gE (os ds : List Int) : Int := gcdL (os ++ ds)
theorem EvD.pos {p q : Int} {os ds : List Int} (h : EvD p q os ds) : PosL (os ++ ds) := fun z hz => by
  rcases List.mem_append.mp hz with hz | hz
  · exact h.po z hz
  · exact h.pd z hz
theorem EvD.bds {p q : Int} {os ds : List Int} (h : EvD p q os ds) : ∀ k ∈ os ++ ds, k.natAbs < 2 ^ 50 := fun z hz => by
  rcases List.mem_append.mp hz with hz | hz
  · exact h.ko.le hz
  · exact h.kd.le hz
def sp_measure (K : PySem.W.Frag) : Sp := spEv (fun p q os ds H Q => newFr K H Q (fr p q (gE os ds))) K
theorem sc_measure : FnScope ["evening"] ["evening"] (defScope s_measure) := ⟨rfl, rfl, rfl, by decide +kernel, rfl, by decide +kernel, by decide +kernel⟩
/-- the body of measure -/
theorem ok_measure {f : Addr} {fd : FuncData} (T : Txt K mg) (F : FnP K "measure" "measure" s_measure f fd) (D_measure_of : Dn P w K mg base "measure_of" ["amounts"] 3 (sp_measure_of K)) (D_all_sums : Dn P w K mg base "all_sums" ["evening"] 1 (sp_all_sums K)) : FnOk P w K mg base CX0 4 f fd ["evening"] (sp_measure K) := by
  refine F.ok sc_measure (fun vs H Q E h => ?_) (fun cdv A outer s H vs Q E hr h => ⟨_, PSs.nox (pss_one (ps_ret (pe_dn D_measure_of (hr.mono (by decide)) rfl (pa_cons (pe_dn D_all_sums (hr.mono (by decide)) rfl (pa_cons (pv 0) pa_nil)) pa_nil)))), ?_⟩)
  · first | (obtain ⟨_, rfl, _⟩ := h; rfl) | (obtain ⟨_, _, rfl, _⟩ := h; rfl) | (obtain ⟨_, _, _, rfl, _⟩ := h; rfl) | (obtain ⟨_, _, _, _, rfl, _⟩ := h; rfl) | (obtain ⟨_, _, _, _, _, rfl, _⟩ := h; rfl) | (obtain ⟨_, _, _, _, _, _, rfl, _⟩ := h; rfl) | (obtain ⟨_, _, _, _, _, _, _, rfl, _⟩ := h; rfl) | (obtain ⟨_, _, _, _, _, _, _, _, rfl, _⟩ := h; rfl) | (obtain ⟨_, _, _, _, _, _, _, _, _, rfl, _⟩ := h; rfl) | (obtain ⟨_, _, _, _, _, _, _, _, _, _, rfl, _⟩ := h; rfl) | (obtain ⟨_, _, _, _, _, _, _, _, _, _, _, rfl, _⟩ := h; rfl) | (obtain ⟨_, _, _, _, _, _, _, _, _, _, _, _, rfl, _⟩ := h; rfl)
  obtain ⟨v, p, q, os, ds, rfl, hE, D, k⟩ := h
  refine ⟨_, rfl, v, p, q, os, ds, rfl, hE, D, fun v1 H1 e1 h1 => ?_⟩
  exact ⟨v1, p, q, _, rfl, D.u, h1, by simp [D.no], D.pos, D.bds, fun v2 H2 e2 h2 => k _ _ (e1.trans e2) h2⟩
end
end K71
namespace K71
open PySem PySem.Spec PyProof.Rows L2
section
variable {P : Program} {w : World} {K : PySem.W.Frag} {mg : Str → Option Value} {base : Heap}
/-! ### whole sums, rests, the unit of queues -/
theorem gcdL_dvd_start : ∀ {ks : List Int} {g : Int}, (ks.foldl (fun g k => (Int.gcd g k : Int)) g) ∣ g ∧ ∀ k ∈ ks, (ks.foldl (fun g k => (Int.gcd g k : Int)) g) ∣ k
  | [], g => ⟨Int.dvd_refl g, fun k h => by cases h⟩
  | k :: ks, g => by
    obtain ⟨h1, h2⟩ := gcdL_dvd_start (ks := ks) (g := (Int.gcd g k : Int))
    have h3 : (List.foldl (fun g k => (Int.gcd g k : Int)) g (k :: ks)) = ks.foldl (fun g k => (Int.gcd g k : Int)) (Int.gcd g k : Int) := rfl
    rw [h3]
    refine ⟨Int.dvd_trans h1 (Int.gcd_dvd_left ..), fun z hz => ?_⟩
    rcases List.mem_cons.mp hz with e | hz
    · rw [e]
      exact Int.dvd_trans h1 (Int.gcd_dvd_right ..)
    · exact h2 z hz
theorem gcdL_dvd {ks : List Int} {k : Int} (h : k ∈ ks) : gcdL ks ∣ k := by
  cases ks with
  | nil => cases h
  | cons a ks =>
    obtain ⟨h1, h2⟩ := gcdL_dvd_start (ks := ks) (g := a)
    rcases List.mem_cons.mp h with e | h
    · rw [e]
      exact h1
    · exact h2 k h
theorem gcdL_bd {ks : List Int} (hne : ks ≠ []) (hp : PosL ks) : 0 < gcdL ks ∧ ∃ k ∈ ks, gcdL ks ≤ k := by
  cases ks with
  | nil => exact absurd rfl hne
  | cons a ks => exact ⟨gcdL_pos (hp a (List.mem_cons_self ..)), a, List.mem_cons_self .., gcdL_le (hp a (List.mem_cons_self ..))⟩
theorem EvD.g {p q : Int} {os ds : List Int} (h : EvD p q os ds) : 0 < gE os ds ∧ (gE os ds).natAbs < 2 ^ 50 := by
  obtain ⟨h1, k, hk, h2⟩ := gcdL_bd (ks := os ++ ds) (by simp [h.no]) h.pos
  have h3 := h.bds k hk
  have h4 := h.pos k hk
  have e : gE os ds = gcdL (os ++ ds) := rfl
  rw [e]
  refine ⟨h1, ?_⟩
  omega
/-- an owing or being due, in the measure -/
def wh (os ds ks : List Int) : List Int := ks.map (· / gE os ds)
def sp_whole_sums (K : PySem.W.Frag) : Sp := spEv (fun p q os ds H Q => ∀ t l1 l2 H', Same H H' → H' t = some (.tup [.ref l1, .ref l2]) → H' l1 = some (.lst ((wh os ds os).map V.int)) → H' l2 = some (.lst ((wh os ds ds).map V.int)) → Q (.ref t) H') K
theorem over_gives {H : Hp} {os ds ks : List Int} {p q : Int} {v1 v : V} (D : EvD p q os ds) {k : Int} (hk : k ∈ os ++ ds) (h1 : Fr K H v1 (fr p q k)) (hv : Fr K H v (fr p q (gE os ds))) {Q : VK} (hq : newFr K H Q (k / gE os ds, 1)) (E : XK) : sp_over K [v1, v] H Q E := by
  refine ⟨v1, v, _, _, rfl, h1, hv, ⟨fr_pos D.u, fr_top D.u D.g.1⟩, fr_bd D.u (D.bds k hk), fr_bd D.u D.g.2, ?_⟩
  rw [fr_over D.u D.g.1, mkQ_dvd D.g.1 (gcdL_dvd hk)]
  exact hq
theorem sc_whole_sums : FnScope ["evening", "unit", "item"] ["evening"] (defScope s_whole_sums) := ⟨rfl, rfl, rfl, by decide +kernel, rfl, by decide +kernel, by decide +kernel⟩
/-- the body of whole_sums -/
theorem ok_whole_sums {f : Addr} {fd : FuncData} (T : Txt K mg) (F : FnP K "whole_sums" "whole_sums" s_whole_sums f fd) (D_measure : Dn P w K mg base "measure" ["evening"] 4 (sp_measure K)) (D_over : Dn P w K mg base "over" ["one", "other"] 3 (sp_over K)) : FnOk P w K mg base CX0 5 f fd ["evening"] (sp_whole_sums K) := by
  refine F.ok sc_whole_sums (fun vs H Q E h => ?_) (fun cdv A outer s H vs Q E hr h => ⟨_, PSs.nox (pss_cons (ps_set (i := 1) sc_whole_sums.nd rfl (Or.inr rfl) (pe_dn D_measure (hr.mono (by decide)) rfl (pa_cons (pv 0) pa_nil)))
    (pss_one (ps_ret (pe_tup (pa_cons (pe_lc (own := [("item", 2)]) (g := gName 2) (tt := tYes) rfl sc_whole_sums.nd (pi_tup (fldK K (pv 0) rfl)) (blkOk_by (N := ["evening", "unit", "item"]) (sc := defScope s_whole_sums) (by decide +kernel)) (fun _ _ _ _ _ => pg_name (i := 2) sc_whole_sums.nd rfl (Or.inl rfl)) (fun _ _ _ _ _ => pts_nil) (fun _ _ _ _ _ => (pe_ix (ixT K) (pe_dn D_over (hr.mono (by decide)) rfl (pa_cons (pv 2) (pa_cons (pv 1) pa_nil))) pe_int (fun _ _ => rfl)))) (pa_cons (pe_lc (own := [("item", 2)]) (g := gName 2) (tt := tYes) rfl sc_whole_sums.nd (pi_tup (fldK K (pv 0) rfl)) (blkOk_by (N := ["evening", "unit", "item"]) (sc := defScope s_whole_sums) (by decide +kernel)) (fun _ _ _ _ _ => pg_name (i := 2) sc_whole_sums.nd rfl (Or.inl rfl)) (fun _ _ _ _ _ => pts_nil) (fun _ _ _ _ _ => (pe_ix (ixT K) (pe_dn D_over (hr.mono (by decide)) rfl (pa_cons (pv 2) (pa_cons (pv 1) pa_nil))) pe_int (fun _ _ => rfl)))) pa_nil)))))), ?_⟩)
  · first | (obtain ⟨_, rfl, _⟩ := h; rfl) | (obtain ⟨_, _, rfl, _⟩ := h; rfl) | (obtain ⟨_, _, _, rfl, _⟩ := h; rfl) | (obtain ⟨_, _, _, _, rfl, _⟩ := h; rfl) | (obtain ⟨_, _, _, _, _, rfl, _⟩ := h; rfl) | (obtain ⟨_, _, _, _, _, _, rfl, _⟩ := h; rfl) | (obtain ⟨_, _, _, _, _, _, _, rfl, _⟩ := h; rfl) | (obtain ⟨_, _, _, _, _, _, _, _, rfl, _⟩ := h; rfl) | (obtain ⟨_, _, _, _, _, _, _, _, _, rfl, _⟩ := h; rfl) | (obtain ⟨_, _, _, _, _, _, _, _, _, _, rfl, _⟩ := h; rfl) | (obtain ⟨_, _, _, _, _, _, _, _, _, _, _, rfl, _⟩ := h; rfl) | (obtain ⟨_, _, _, _, _, _, _, _, _, _, _, _, rfl, _⟩ := h; rfl)
  obtain ⟨v, p, q, os, ds, rfl, hE, D, k⟩ := h
  refine ⟨_, rfl, v, p, q, os, ds, rfl, hE, D, fun v1 H1 e1 h1 => ?_⟩
  obtain ⟨a, dx, vo, vd, rfl, hE1, ⟨ao, xo, rfl, ho, r1⟩, ⟨ad, xd, rfl, hd, r2⟩⟩ := hE.mono e1
  have l1 : xo.length = os.length := by rw [Paired.length r1, List.length_map]
  have l2 : xd.length = ds.length := by rw [Paired.length r2, List.length_map]
  refine ⟨_, rfl, a, _, dx, _, _, rfl, hE1, T.cl_Evening, T.na_owed, ef_owed _ _, ao, rfl, ⟨_, ho⟩, fun D1 hD1 => ?_⟩
  refine lc_tupR (K := K) (a := ao) (xs := xo) (fun i v _ => ∀ k, os[i]? = some k → v = .int (k / gE os ds)) (fun _ _ _ _ _ r => r) hD1 ho (szl (by have := D.lo; omega)) (fun i x H2 hx e Q' hq => ?_) (fun ys H2 e2 hD2 hl hy => ?_)
  · obtain ⟨z, hz, hf⟩ := paired_at r1 hx
    rw [List.getElem?_map] at hz
    obtain ⟨n, hn, rfl⟩ := Option.map_eq_some_iff.mp hz
    refine ⟨_, rfl, _, rfl, over_gives (ks := []) D (List.mem_append_left _ (List.mem_of_getElem? hn)) (hf.mono e) (h1.mono e) (fun v3 H3 e3 h3 => ?_) E0⟩
    obtain ⟨b, rfl, hb⟩ := h3
    refine ⟨b, _, _, _, rfl, rfl, hb, rfl, hq _ _ e3 fun k hk => ?_⟩
    rw [hn] at hk
    cases hk
    rfl
  · have ey : ys = (wh os ds os).map V.int := by
      unfold wh
      rw [List.map_map]
      exact list_of_map (by omega) fun i y x hy' hx => hy i y hy' x hx
    subst ey
    obtain hE2 := e2 _ _ hE1
    refine ⟨_, rfl, a, _, dx, _, _, rfl, hE2, T.cl_Evening, T.na_due, ef_due _ _, ad, rfl, ⟨_, e2.t hd⟩, fun D3 hD3 => ?_⟩
    refine lc_tupR (K := K) (a := ad) (xs := xd) (fun i v _ => ∀ k, ds[i]? = some k → v = .int (k / gE os ds)) (fun _ _ _ _ _ r => r) hD3 (e2.t hd) (szl (by have := D.ld; omega)) (fun i x H4 hx e Q' hq => ?_) (fun ys H4 e4 hD4 hl hy => ?_)
    · obtain ⟨z, hz, hf⟩ := paired_at r2 hx
      rw [List.getElem?_map] at hz
      obtain ⟨n, hn, rfl⟩ := Option.map_eq_some_iff.mp hz
      have e' := e2.trans e
      refine ⟨_, rfl, _, rfl, over_gives (ks := []) D (List.mem_append_right _ (List.mem_of_getElem? hn)) (hf.mono e') (h1.mono e') (fun v3 H3 e3 h3 => ?_) E0⟩
      obtain ⟨b, rfl, hb⟩ := h3
      refine ⟨b, _, _, _, rfl, rfl, hb, rfl, hq _ _ e3 fun k hk => ?_⟩
      rw [hn] at hk
      cases hk
      rfl
    · have ey : ys = (wh os ds ds).map V.int := by
        unfold wh
        rw [List.map_map]
        exact list_of_map (by omega) fun i y x hy' hx => hy i y hy' x hx
      subst ey
      refine ⟨(by show 2 ≤ sizeLine; decide), fun t ht => ?_⟩
      refine k t D1 D3 _ (((e1.trans e2).trans e4).trans (Same.new ht)) upd_same ?_ ?_
      · exact Same.new ht _ _ (e4 _ _ hD2)
      · exact Same.new ht _ _ hD4
def sp_rest_by (K : PySem.W.Frag) : Sp := fun vs H Q _ => ∃ (v w : V) (p q k l : Int), vs = [v, w] ∧ Unit2 p q ∧ Fr K H v (fr p q k) ∧ Fr K H w (fr p q l) ∧ 0 < l ∧ 0 ≤ k ∧ k < 2 ^ 40 ∧ l < 2 ^ 40 ∧ newFr K H Q (fr p q (k % l))
theorem mkQ_bd {t b : Int} (hb : 0 < b) : (mkQ t b).1.natAbs ≤ t.natAbs ∧ (mkQ t b).2.natAbs ≤ b.natAbs := by
  have f1 := mkQ_fst t b
  have f2 := mkQ_snd t b
  have g := gcd_pos (t := t) hb
  have le : ∀ x y G : Int, x * G = y → 0 < G → x.natAbs ≤ y.natAbs := fun x y G e hG => by
    rw [← e, Int.natAbs_mul]
    exact Nat.le_mul_of_pos_right _ (by omega)
  exact ⟨le _ _ _ f1 g, le _ _ _ f2 g⟩
theorem p50 : (2 : Nat) ^ 50 ≤ 2 ^ 250 := Nat.pow_le_pow_right (by decide) (by decide)
theorem divmul {k l : Int} : k - k / l * l = k % l := by
  have := Int.mul_ediv_add_emod k l
  rw [Int.mul_comm (k / l) l]
  omega
theorem sc_rest_by : FnScope ["sum_here", "amount", "parts"] ["sum_here", "amount"] (defScope s_rest_by) := ⟨rfl, rfl, rfl, by decide +kernel, rfl, by decide +kernel, by decide +kernel⟩
/-- the body of rest_by -/
theorem ok_rest_by {f : Addr} {fd : FuncData} (T : Txt K mg) (F : FnP K "rest_by" "rest_by" s_rest_by f fd) (D_over : Dn P w K mg base "over" ["one", "other"] 3 (sp_over K)) (D_minus : Dn P w K mg base "minus" ["one", "other"] 3 (sp_minus K)) (D_times : Dn P w K mg base "times" ["one", "other"] 3 (sp_times K)) (D_whole : Dn P w K mg base "whole" ["number"] 1 (sp_whole K)) : FnOk P w K mg base CX0 4 f fd ["sum_here", "amount"] (sp_rest_by K) := by
  refine F.ok sc_rest_by (fun vs H Q E h => ?_) (fun cdv A outer s H vs Q E hr h => ⟨_, PSs.nox (pss_cons (ps_set (i := 2) sc_rest_by.nd rfl (Or.inl rfl) (pe_dn D_over (hr.mono (by decide)) rfl (pa_cons (pv 0) (pa_cons (pv 1) pa_nil))))
    (pss_one (ps_ret (pe_dn D_minus (hr.mono (by decide)) rfl (pa_cons (pv 0) (pa_cons (pe_dn D_times (hr.mono (by decide)) rfl (pa_cons (pe_dn D_whole (hr.mono (by decide)) rfl (pa_cons (pe_op op_fdivW (pe_ix (ixT K) (pv 2) pe_int (fun _ _ => rfl)) (pe_ix (ixT K) (pv 2) pe_int (fun _ _ => rfl))) pa_nil)) (pa_cons (pv 1) pa_nil))) pa_nil)))))), ?_⟩)
  · first | (obtain ⟨_, rfl, _⟩ := h; rfl) | (obtain ⟨_, _, rfl, _⟩ := h; rfl) | (obtain ⟨_, _, _, rfl, _⟩ := h; rfl) | (obtain ⟨_, _, _, _, rfl, _⟩ := h; rfl) | (obtain ⟨_, _, _, _, _, rfl, _⟩ := h; rfl) | (obtain ⟨_, _, _, _, _, _, rfl, _⟩ := h; rfl) | (obtain ⟨_, _, _, _, _, _, _, rfl, _⟩ := h; rfl) | (obtain ⟨_, _, _, _, _, _, _, _, rfl, _⟩ := h; rfl) | (obtain ⟨_, _, _, _, _, _, _, _, _, rfl, _⟩ := h; rfl) | (obtain ⟨_, _, _, _, _, _, _, _, _, _, rfl, _⟩ := h; rfl) | (obtain ⟨_, _, _, _, _, _, _, _, _, _, _, rfl, _⟩ := h; rfl) | (obtain ⟨_, _, _, _, _, _, _, _, _, _, _, _, rfl, _⟩ := h; rfl)
  obtain ⟨v, w', p, q, k, l, rfl, u, h1, h2, hl, hk0, hk, hl2, kk⟩ := h
  have bk := fr_bd (k := k) u (by omega)
  have bl := fr_bd (k := l) u (by omega)
  refine ⟨_, rfl, _, rfl, v, w', _, _, rfl, h1, h2, ⟨fr_pos u, fr_top u hl⟩, bk, bl, fun v1 H1 e1 f1 => ?_⟩
  rw [fr_over u hl] at f1
  obtain ⟨a1, rfl, g1⟩ := f1
  obtain ⟨m1, m2⟩ := mkQ_bd (t := k) hl
  have p50' := p50
  have m0 := mkQ_pos (t := k) hl
  have dv : CDivW (mkQ k l).1 (mkQ k l).2 := wide_div (b := 250) m0 (by omega) (by decide) (by decide)
  refine ⟨_, rfl, _, rfl, _, _, _, _, rfl, rfl, g1, rfl, _, rfl, _, _, _, _, rfl, rfl, g1, rfl, _, _, rfl, rfl, dv, _, rfl, fun v2 H2 e2 f2 => ?_⟩
  have f2 : Fr K H2 v2 (k / l, 1) := by
    rw [← mkQ_floor hl]
    exact f2
  have e12 := e1.trans e2
  have q0 : 0 ≤ k / l := Int.ediv_nonneg hk0 (by omega)
  have q1 : k / l ≤ k := Int.ediv_le_self _ hk0
  refine ⟨_, rfl, v2, w', _, _, rfl, f2, h2.mono e12, ⟨by show (0 : Int) < 1; decide, fr_pos u⟩, ⟨by show (k / l).natAbs < 2 ^ 250; omega, by show (1 : Int).natAbs < 2 ^ 250; omega⟩, bl, fun v3 H3 e3 f3 => ?_⟩
  have f3 : Fr K H3 v3 (fr p q (k / l * l)) := by
    rw [← fr_times u]
    exact f3
  have q2 : k / l * l ≤ k := Int.ediv_mul_le k (by omega)
  have q3 : 0 ≤ k / l * l := Int.mul_nonneg q0 (by omega)
  refine ⟨v, v3, _, _, rfl, h1.mono (e12.trans e3), f3, ⟨fr_pos u, fr_pos u⟩, bk, fr_bd u (by omega), fun v4 H4 e4 f4 => ?_⟩
  have f4 : Fr K H4 v4 (fr p q (k % l)) := by
    rw [← divmul, ← fr_minus u]
    exact f4
  exact kk _ _ ((e12.trans e3).trans e4) f4
/-- all of the ones are one amount, by which all others leave one rest -/
def fitsB (as bs : List Int) : Bool := as.all (fun a => decide (a = as.headD 0)) && bs.all (fun b => decide (b % as.headD 0 = bs.headD 0 % as.headD 0))
theorem fitsB_iff {as bs : List Int} : fitsB as bs = true → Fits as bs := fun h => by
  obtain ⟨h1, h2⟩ := Bool.and_eq_true_iff.mp h
  exact ⟨as.headD 0, bs.headD 0 % as.headD 0, fun z hz => of_decide_eq_true (List.all_eq_true.mp h1 z hz), fun z hz => of_decide_eq_true (List.all_eq_true.mp h2 z hz)⟩
theorem fits_B {as bs : List Int} (na : as ≠ []) (nb : bs ≠ []) (h : Fits as bs) : fitsB as bs = true := by
  obtain ⟨u, r, h1, h2⟩ := h
  cases as with
  | nil => exact absurd rfl na
  | cons a as =>
    cases bs with
    | nil => exact absurd rfl nb
    | cons b bs =>
      have ea := h1 a (List.mem_cons_self ..)
      have eb := h2 b (List.mem_cons_self ..)
      refine Bool.and_eq_true_iff.mpr ⟨List.all_eq_true.mpr fun z hz => decide_eq_true ?_, List.all_eq_true.mpr fun z hz => decide_eq_true ?_⟩
      · show z = a
        rw [h1 z hz, ea]
      · show z % a = b % a
        rw [ea, h2 z hz, eb]
def sp_fits_unit (K : PySem.W.Frag) : Sp := fun vs H Q _ => ∃ (v w : V) (p q : Int) (as bs : List Int), vs = [v, w] ∧ Unit2 p q ∧ FrT K H v (as.map (fr p q)) ∧ FrT K H w (bs.map (fr p q)) ∧ (as ≠ [] ∧ bs ≠ []) ∧ (PosL as ∧ PosL bs) ∧ (as.sum < 2 ^ 39 ∧ bs.sum < 2 ^ 39) ∧ (as.length ≤ 50 ∧ bs.length ≤ 50) ∧ ∀ H', Same H H' → Q (.bl (fitsB as bs)) H'
theorem bools_of {ys : List V} {α : Type} {xs : List α} {f : α → Bool} (hl : ys.length = xs.length) (h : ∀ (i : Nat) y, ys[i]? = some y → ∀ x, xs[i]? = some x → y = .bl (f x)) : ys = (xs.map f).map V.bl := by
  rw [List.map_map]
  exact list_of_map hl fun i y x hy hx => h i y hy x hx
theorem all_map {α : Type} {xs : List α} {f : α → Bool} : (xs.map f).all id = xs.all f := by
  induction xs with
  | nil => rfl
  | cons x xs ih => rw [List.map_cons, List.all_cons, List.all_cons, ih, id]
theorem sc_fits_unit : FnScope ["ones", "others", "item", "rests", "rest"] ["ones", "others"] (defScope s_fits_unit) := ⟨rfl, rfl, rfl, by decide +kernel, rfl, by decide +kernel, by decide +kernel⟩
/-- the body of fits_unit -/
theorem ok_fits_unit {f : Addr} {fd : FuncData} (T : Txt K mg) (F : FnP K "fits_unit" "fits_unit" s_fits_unit f fd) (D_rest_by : Dn P w K mg base "rest_by" ["sum_here", "amount"] 4 (sp_rest_by K)) : FnOk P w K mg base CX0 5 f fd ["ones", "others"] (sp_fits_unit K) := by
  refine F.ok sc_fits_unit (fun vs H Q E h => ?_) (fun cdv A outer s H vs Q E hr h => ⟨_, PSs.nox (pss_cons (ps_set (i := 3) sc_fits_unit.nd rfl (Or.inr rfl) (pe_lc (own := [("item", 2)]) (g := gName 2) (tt := tYes) rfl sc_fits_unit.nd (pi_tup (pv 1)) (blkOk_by (N := ["ones", "others", "item", "rests", "rest"]) (sc := defScope s_fits_unit) (by decide +kernel)) (fun _ _ _ _ _ => pg_name (i := 2) sc_fits_unit.nd rfl (Or.inl rfl)) (fun _ _ _ _ _ => pts_nil) (fun _ _ _ _ _ => (pe_dn D_rest_by (hr.mono (by decide)) rfl (pa_cons (pv 2) (pa_cons (pe_ix (ixT K) (pv 0) pe_int (fun _ _ => rfl)) pa_nil))))))
    (pss_one (ps_ret (pe_and (pe_callB (cr_all rfl) (by rfl) T.all' (by decide +kernel) (pa_cons (pe_lc (own := [("item", 2)]) (g := gName 2) (tt := tYes) rfl sc_fits_unit.nd (pi_tup (pv 0)) (blkOk_by (N := ["ones", "others", "item", "rests", "rest"]) (sc := defScope s_fits_unit) (by decide +kernel)) (fun _ _ _ _ _ => pg_name (i := 2) sc_fits_unit.nd rfl (Or.inl rfl)) (fun _ _ _ _ _ => pts_nil) (fun _ _ _ _ _ => (pe_cmpR (eqD K hr.units) (pv 2) (pe_ix (ixT K) (pv 0) pe_int (fun _ _ => rfl)) (nomark _)))) pa_nil)) (pe_one (pe_callB (cr_all rfl) (by rfl) T.all' (by decide +kernel) (pa_cons (pe_lc (own := [("rest", 4)]) (g := gName 4) (tt := tYes) rfl sc_fits_unit.nd (pi_list (pv 3)) (blkOk_by (N := ["ones", "others", "item", "rests", "rest"]) (sc := defScope s_fits_unit) (by decide +kernel)) (fun _ _ _ _ _ => pg_name (i := 4) sc_fits_unit.nd rfl (Or.inl rfl)) (fun _ _ _ _ _ => pts_nil) (fun _ _ _ _ _ => (pe_cmpR (eqD K hr.units) (pv 4) (pe_ix (ixL K) (pv 3) pe_int (fun _ _ => rfl)) (nomark _)))) pa_nil))))))), ?_⟩)
  · first | (obtain ⟨_, rfl, _⟩ := h; rfl) | (obtain ⟨_, _, rfl, _⟩ := h; rfl) | (obtain ⟨_, _, _, rfl, _⟩ := h; rfl) | (obtain ⟨_, _, _, _, rfl, _⟩ := h; rfl) | (obtain ⟨_, _, _, _, _, rfl, _⟩ := h; rfl) | (obtain ⟨_, _, _, _, _, _, rfl, _⟩ := h; rfl) | (obtain ⟨_, _, _, _, _, _, _, rfl, _⟩ := h; rfl) | (obtain ⟨_, _, _, _, _, _, _, _, rfl, _⟩ := h; rfl) | (obtain ⟨_, _, _, _, _, _, _, _, _, rfl, _⟩ := h; rfl) | (obtain ⟨_, _, _, _, _, _, _, _, _, _, rfl, _⟩ := h; rfl) | (obtain ⟨_, _, _, _, _, _, _, _, _, _, _, rfl, _⟩ := h; rfl) | (obtain ⟨_, _, _, _, _, _, _, _, _, _, _, _, rfl, _⟩ := h; rfl)
  obtain ⟨v, w', p, q, as, bs, rfl, u, ⟨ao, xo, rfl, ho, r1⟩, ⟨ad, xd, rfl, hd, r2⟩, ⟨na, nb⟩, ⟨pa, pb⟩, ⟨sa, sb⟩, ⟨la, lb⟩, k⟩ := h
  have l1 : xo.length = as.length := by rw [Paired.length r1, List.length_map]
  have l2 : xd.length = bs.length := by rw [Paired.length r2, List.length_map]
  cases as with
  | nil => exact absurd rfl na
  | cons a0 as =>
  cases bs with
  | nil => exact absurd rfl nb
  | cons b0 bs =>
  obtain ⟨x0, xr, rfl⟩ : ∃ x0 xr, xo = x0 :: xr := by
    cases xo with
    | nil => simp at l1
    | cons a b => exact ⟨a, b, rfl⟩
  have f0 : Fr K H x0 (fr p q a0) := by
    cases r1 with
    | cons r _ => exact r
  have ka : Ks (a0 :: as) := ⟨fun k hk => by have := pa k hk; omega, by omega⟩
  have kb : Ks (b0 :: bs) := ⟨fun k hk => by have := pb k hk; omega, by omega⟩
  have a0p : 0 < a0 := pa a0 (List.mem_cons_self ..)
  have a0l : a0 < 2 ^ 40 := by
    have := mem_le_sum ka.nn (List.mem_cons_self (a := a0) (l := as))
    have := ka.bd
    omega
  refine ⟨_, rfl, ad, rfl, ⟨_, hd⟩, fun D1 hD1 => ?_⟩
  refine lc_tupR (K := K) (a := ad) (xs := xd) (fun i v H => ∀ k, (b0 :: bs)[i]? = some k → Fr K H v (fr p q (k % a0))) (fun i v H H' t r k hk => (r k hk).tame t) hD1 hd (szl (by omega)) (fun i x H2 hx e Q' hq => ?_) (fun ys H2 e2 hD2 hl hy => ?_)
  · obtain ⟨z, hz, hf⟩ := paired_at r2 hx
    rw [List.getElem?_map] at hz
    obtain ⟨n, hn, rfl⟩ := Option.map_eq_some_iff.mp hz
    have hm := List.mem_of_getElem? hn
    have n0 := kb.nn n hm
    have n1 := mem_le_sum kb.nn hm
    have n2 := kb.bd
    refine ⟨_, rfl, _, rfl, ao, _, _, _, rfl, rfl, e.t ho, at_of (j := 0) rfl rfl, x, x0, p, q, n, a0, rfl, u, hf.mono e, f0.mono e, a0p, n0, by omega, a0l, fun v3 H3 e3 h3 => hq _ _ e3 fun k hk => ?_⟩
    rw [hn] at hk
    cases hk
    exact h3
  · refine ⟨_, rfl, ao, rfl, ⟨_, e2.t ho⟩, fun D3 hD3 => ?_⟩
    refine lc_tupR (K := K) (a := ao) (xs := x0 :: xr) (fun i v H => ∀ k, (a0 :: as)[i]? = some k → v = .bl (decide (k = a0))) (fun i v H H' t r => r) hD3 (e2.t ho) (szl (by omega)) (fun i x H3 hx e Q' hq => ?_) (fun zs H3 e3 hD4 hl3 hz => ?_)
    · obtain ⟨z, hz, hf⟩ := paired_at r1 hx
      rw [List.getElem?_map] at hz
      obtain ⟨n, hn, rfl⟩ := Option.map_eq_some_iff.mp hz
      have e' := e2.trans e
      refine ⟨_, rfl, _, rfl, ao, _, _, _, rfl, rfl, e'.t ho, at_of (j := 0) rfl rfl, _, _, fr_dp (hf.mono e'), fr_dp (f0.mono e'), dq_shaped _, dq_shaped _, hq _ _ (Same.refl _) fun k hk => ?_⟩
      rw [hn] at hk
      cases hk
      rw [dq_eqv]
      congr 1
      refine decide_eq_decide.mpr ⟨fun h => fr_inj u h, fun h => by rw [h]⟩
    · have ez : zs = ((a0 :: as).map fun k => decide (k = a0)).map V.bl := bools_of (by omega) hz
      subst ez
      refine ⟨D3, _, rfl, sql hD4, _, rfl, ?_⟩
      refine ite2 (fun c => ?_) (fun c => ?_)
      · have hys : SqL K H3 D1 ys := e3.l (sql hD2)
        have ly : ys.length = (b0 :: bs).length := by omega
        obtain ⟨y0, yr, ey⟩ : ∃ y0 yr, ys = y0 :: yr := by
          cases ys with
          | nil => simp at ly
          | cons a b => exact ⟨a, b, rfl⟩
        have g0 : Fr K H3 y0 (fr p q (b0 % a0)) := (hy 0 y0 (by rw [ey]; rfl) b0 rfl).mono e3
        refine ⟨_, rfl, D1, rfl, ⟨_, hys⟩, fun D5 hD5 => ?_⟩
        refine lc_listR (K := K) (a := D1) (xs := ys) (fun i v H => ∀ k, (b0 :: bs)[i]? = some k → v = .bl (decide (k % a0 = b0 % a0))) (fun i v H H' t r => r) hD5 hys (szl (by omega)) (fun i x H4 hx e Q' hq => ?_) (fun us H4 e4 hD6 hl4 hu => ?_)
        · obtain ⟨n, hn⟩ : ∃ n, (b0 :: bs)[i]? = some n := ⟨_, List.getElem?_eq_getElem (by have := (List.getElem?_eq_some_iff.mp hx).1; omega)⟩
          have e' := e3.trans e
          refine ⟨_, rfl, _, rfl, D1, _, _, _, rfl, rfl, e.l hys, at_of (j := 0) rfl (by rw [ey]; rfl), _, _, fr_dp ((hy i x hx n hn).mono e'), fr_dp (g0.mono e), dq_shaped _, dq_shaped _, hq _ _ (Same.refl _) fun k hk => ?_⟩
          rw [hn] at hk
          cases hk
          rw [dq_eqv]
          congr 1
          refine decide_eq_decide.mpr ⟨fun h => fr_inj u h, fun h => by rw [h]⟩
        · have eu : us = ((b0 :: bs).map fun k => decide (k % a0 = b0 % a0)).map V.bl := bools_of (by omega) hu
          subst eu
          refine ⟨D5, _, rfl, sql hD6, ?_⟩
          have ek := k H4 ((e2.trans e3).trans e4)
          have ef : fitsB (a0 :: as) (b0 :: bs) = ((b0 :: bs).map fun k => decide (k % a0 = b0 % a0)).all id := by
            rw [all_map]
            rw [all_map] at c
            unfold fitsB
            show (((a0 :: as).all fun k => decide (k = a0)) && _) = _
            rw [c]
            rfl
          rw [ef] at ek
          exact ek
      · have ek := k H3 (e2.trans e3)
        have ef : fitsB (a0 :: as) (b0 :: bs) = false := by
          rw [all_map] at c
          unfold fitsB
          have c2 : ((a0 :: as).all fun k => decide (k = a0)) = false := by
            cases q : ((a0 :: as).all fun k => decide (k = a0)) with
            | false => rfl
            | true => exact absurd q c
          show (((a0 :: as).all fun k => decide (k = a0)) && _) = _
          rw [c2]
          rfl
        rw [ef] at ek
        exact ek
def sp_queue_unit (K : PySem.W.Frag) : Sp := spEv (fun p q os ds H Q => ∀ v H', Same H H' → (decide (v = V.non) = !(fitsB os ds || fitsB ds os)) → Q v H') K
theorem sc_queue_unit : FnScope ["evening"] ["evening"] (defScope s_queue_unit) := ⟨rfl, rfl, rfl, by decide +kernel, rfl, by decide +kernel, by decide +kernel⟩
/-- the body of queue_unit -/
theorem ok_queue_unit {f : Addr} {fd : FuncData} (T : Txt K mg) (F : FnP K "queue_unit" "queue_unit" s_queue_unit f fd) (D_fits_unit : Dn P w K mg base "fits_unit" ["ones", "others"] 5 (sp_fits_unit K)) : FnOk P w K mg base CX0 6 f fd ["evening"] (sp_queue_unit K) := by
  refine F.ok sc_queue_unit (fun vs H Q E h => ?_) (fun cdv A outer s H vs Q E hr h => ⟨_, PSs.nox (pss_cons (ps_if (pt_val (pe_dn D_fits_unit (hr.mono (by decide)) rfl (pa_cons (fldK K (pv 0) rfl) (pa_cons (fldK K (pv 0) rfl) pa_nil))))
      (pss_one (ps_ret (pe_tup (pa_cons pe_str (pa_cons (pe_ix (ixT K) (fldK K (pv 0) rfl) pe_int (fun _ _ => rfl)) pa_nil)))))
      pss_nil)
    (pss_one (ps_ret (pe_ifExp (pt_val (pe_dn D_fits_unit (hr.mono (by decide)) rfl (pa_cons (fldK K (pv 0) rfl) (pa_cons (fldK K (pv 0) rfl) pa_nil)))) (pe_tup (pa_cons pe_str (pa_cons (pe_ix (ixT K) (fldK K (pv 0) rfl) pe_int (fun _ _ => rfl)) pa_nil))) pe_non)))), ?_⟩)
  · first | (obtain ⟨_, rfl, _⟩ := h; rfl) | (obtain ⟨_, _, rfl, _⟩ := h; rfl) | (obtain ⟨_, _, _, rfl, _⟩ := h; rfl) | (obtain ⟨_, _, _, _, rfl, _⟩ := h; rfl) | (obtain ⟨_, _, _, _, _, rfl, _⟩ := h; rfl) | (obtain ⟨_, _, _, _, _, _, rfl, _⟩ := h; rfl) | (obtain ⟨_, _, _, _, _, _, _, rfl, _⟩ := h; rfl) | (obtain ⟨_, _, _, _, _, _, _, _, rfl, _⟩ := h; rfl) | (obtain ⟨_, _, _, _, _, _, _, _, _, rfl, _⟩ := h; rfl) | (obtain ⟨_, _, _, _, _, _, _, _, _, _, rfl, _⟩ := h; rfl) | (obtain ⟨_, _, _, _, _, _, _, _, _, _, _, rfl, _⟩ := h; rfl) | (obtain ⟨_, _, _, _, _, _, _, _, _, _, _, _, rfl, _⟩ := h; rfl)
  obtain ⟨v, p, q, os, ds, rfl, hE, D, k⟩ := h
  obtain ⟨a, dx, vo, vd, rfl, hE1, ho, hd⟩ := id hE
  have sd : ds.sum < 2 ^ 39 := by
    have := D.hs
    have := D.bd
    omega
  refine ⟨_, rfl, a, _, dx, _, _, rfl, hE1, T.cl_Evening, T.na_owed, ef_owed _ _, _, rfl, a, _, dx, _, _, rfl, hE1, T.cl_Evening, T.na_due, ef_due _ _, vo, vd, p, q, os, ds, rfl, D.u, ho, hd, ⟨D.no, D.nd⟩, ⟨D.po, D.pd⟩, ⟨D.bd, sd⟩, ⟨D.lo, D.ld⟩, fun H1 e1 => ⟨_, rfl, ?_⟩⟩
  have hE2 := e1 _ _ hE1
  refine ite2 (fun c => ?_) (fun c => ?_)
  · obtain ⟨ao, xo, rfl, ho1, r1⟩ := ho.mono e1
    obtain ⟨x0, hx0⟩ : ∃ x0, xo[0]? = some x0 := by
      have := Paired.length r1
      rw [List.length_map] at this
      exact ⟨_, List.getElem?_eq_getElem (by have := len1 D.no; omega)⟩
    refine ⟨_, rfl, a, _, dx, _, _, rfl, hE2, T.cl_Evening, T.na_owed, ef_owed _ _, ao, _, _, _, rfl, rfl, ho1, at_of (j := 0) rfl hx0, (by show 2 ≤ sizeLine; decide), fun t ht => ?_⟩
    refine k _ _ (e1.trans (Same.new ht)) ?_
    rw [c]
    rfl
  · have c1 : fitsB os ds = false := by
      cases q : fitsB os ds with
      | false => rfl
      | true => exact absurd q c
    refine ⟨_, rfl, a, _, dx, _, _, rfl, hE2, T.cl_Evening, T.na_due, ef_due _ _, _, rfl, a, _, dx, _, _, rfl, hE2, T.cl_Evening, T.na_owed, ef_owed _ _, vd, vo, p, q, ds, os, rfl, D.u, hd.mono e1, ho.mono e1, ⟨D.nd, D.no⟩, ⟨D.pd, D.po⟩, ⟨sd, D.bd⟩, ⟨D.ld, D.lo⟩, fun H2 e2 => ⟨_, rfl, ?_⟩⟩
    have hE3 := e2 _ _ hE2
    have e12 := e1.trans e2
    refine ite2 (fun c3 => ?_) (fun c3 => ?_)
    · obtain ⟨ao, xo, rfl, ho1, r1⟩ := hd.mono e12
      obtain ⟨x0, hx0⟩ : ∃ x0, xo[0]? = some x0 := by
        have := Paired.length r1
        rw [List.length_map] at this
        exact ⟨_, List.getElem?_eq_getElem (by have := len1 D.nd; omega)⟩
      refine ⟨_, rfl, a, _, dx, _, _, rfl, hE3, T.cl_Evening, T.na_due, ef_due _ _, ao, _, _, _, rfl, rfl, ho1, at_of (j := 0) rfl hx0, (by show 2 ≤ sizeLine; decide), fun t ht => ?_⟩
      refine k _ _ (e12.trans (Same.new ht)) ?_
      rw [c1, c3]
      rfl
    · have c4 : fitsB ds os = false := by
        cases q : fitsB ds os with
        | false => rfl
        | true => exact absurd q c3
      refine k _ _ e12 ?_
      rw [c1, c4]
      rfl
end
end K71
/-! The ways of queues as a function. -/
namespace K71
/-- what is owed and due behind a payment of i to j -/
def payM (o d : List Int) (i j : Nat) : List Int × List Int :=
  (o.set i (o.getD i 0 - min (o.getD i 0) (d.getD j 0)), d.set j (d.getD j 0 - min (o.getD i 0) (d.getD j 0)))
def wayM : Nat → List Int → List Int → List Nat → List Nat → List (Nat × Nat)
  | n + 1, o, d, i :: one, j :: other =>
    (i, j) :: wayM n (payM o d i j).1 (payM o d i j).2 (if (payM o d i j).1.getD i 0 = 0 then one else i :: one) (if (payM o d i j).2.getD j 0 = 0 then other else j :: other)
  | _, _, _, _, _ => []
/-- what the ones of an order have, in their order -/
def pick (o : List Int) (one : List Nat) : List Int := one.map fun i => o.getD i 0
structure Good (o d : List Int) (one other : List Nat) : Prop where
  n1 : one.Nodup
  n2 : other.Nodup
  b1 : ∀ i ∈ one, i < o.length
  b2 : ∀ j ∈ other, j < d.length
  p1 : PosL (pick o one)
  p2 : PosL (pick d other)
  hs : (pick o one).sum = (pick d other).sum
theorem pick_set {o : List Int} {i : Nat} {x : Int} {one : List Nat} (h : i ∉ one) : pick (o.set i x) one = pick o one := by
  unfold pick
  refine List.map_congr_left fun j hj => ?_
  have ne : i ≠ j := fun e => h (e ▸ hj)
  rw [List.getD_eq_getElem?_getD, List.getD_eq_getElem?_getD, List.getElem?_set_ne ne]
theorem getD_set {o : List Int} {i : Nat} {x : Int} (h : i < o.length) : (o.set i x).getD i 0 = x := by
  rw [List.getD_eq_getElem?_getD, List.getElem?_set_self h]
  rfl
theorem pick_cons (o : List Int) (i : Nat) (one : List Nat) : pick o (i :: one) = o.getD i 0 :: pick o one := rfl
section
variable {o d : List Int} {i j : Nat} {one other : List Nat}
theorem Good.front (g : Good o d (i :: one) (j :: other)) : 0 < o.getD i 0 ∧ 0 < d.getD j 0 ∧ i < o.length ∧ j < d.length :=
  ⟨g.p1 _ (List.mem_cons_self ..), g.p2 _ (List.mem_cons_self ..), g.b1 _ (List.mem_cons_self ..), g.b2 _ (List.mem_cons_self ..)⟩
theorem pay_1 (g : Good o d (i :: one) (j :: other)) : (payM o d i j).1.getD i 0 = o.getD i 0 - min (o.getD i 0) (d.getD j 0) := getD_set g.front.2.2.1
theorem pay_2 (g : Good o d (i :: one) (j :: other)) : (payM o d i j).2.getD j 0 = d.getD j 0 - min (o.getD i 0) (d.getD j 0) := getD_set g.front.2.2.2
/-- the queues behind the payment -/
def q1 (o d : List Int) (i j : Nat) (one : List Nat) : List Nat := if (payM o d i j).1.getD i 0 = 0 then one else i :: one
def q2 (o d : List Int) (i j : Nat) (other : List Nat) : List Nat := if (payM o d i j).2.getD j 0 = 0 then other else j :: other
theorem pick_q1 (g : Good o d (i :: one) (j :: other)) : pick (payM o d i j).1 (q1 o d i j one) = if o.getD i 0 ≤ d.getD j 0 then pick o one else (o.getD i 0 - d.getD j 0) :: pick o one := by
  have ni : i ∉ one := (List.nodup_cons.mp g.n1).1
  unfold q1
  rw [pay_1 g]
  by_cases h : o.getD i 0 ≤ d.getD j 0
  · rw [if_pos (by omega), if_pos h]
    exact pick_set ni
  · rw [if_neg (by omega), if_neg h, pick_cons, pay_1 g]
    congr 1
    · omega
    · exact pick_set ni
theorem pick_q2 (g : Good o d (i :: one) (j :: other)) : pick (payM o d i j).2 (q2 o d i j other) = if d.getD j 0 ≤ o.getD i 0 then pick d other else (d.getD j 0 - o.getD i 0) :: pick d other := by
  have ni : j ∉ other := (List.nodup_cons.mp g.n2).1
  unfold q2
  rw [pay_2 g]
  by_cases h : d.getD j 0 ≤ o.getD i 0
  · rw [if_pos (by omega), if_pos h]
    exact pick_set ni
  · rw [if_neg (by omega), if_neg h, pick_cons, pay_2 g]
    congr 1
    · omega
    · exact pick_set ni
theorem Good.pay (g : Good o d (i :: one) (j :: other)) : Good (payM o d i j).1 (payM o d i j).2 (q1 o d i j one) (q2 o d i j other) := by
  obtain ⟨f1, f2, f3, f4⟩ := g.front
  have hs := g.hs
  rw [pick_cons, pick_cons, List.sum_cons, List.sum_cons] at hs
  have t1 : PosL (pick o one) := g.p1.tail
  have t2 : PosL (pick d other) := g.p2.tail
  refine ⟨?_, ?_, ?_, ?_, ?_, ?_, ?_⟩
  · unfold q1
    split
    · exact (List.nodup_cons.mp g.n1).2
    · exact g.n1
  · unfold q2
    split
    · exact (List.nodup_cons.mp g.n2).2
    · exact g.n2
  · intro k hk
    show k < (o.set _ _).length
    rw [List.length_set]
    unfold q1 at hk
    split at hk
    · exact g.b1 k (List.mem_cons_of_mem _ hk)
    · exact g.b1 k hk
  · intro k hk
    show k < (d.set _ _).length
    rw [List.length_set]
    unfold q2 at hk
    split at hk
    · exact g.b2 k (List.mem_cons_of_mem _ hk)
    · exact g.b2 k hk
  · rw [pick_q1 g]
    split
    · exact t1
    · exact t1.cons (by omega)
  · rw [pick_q2 g]
    split
    · exact t2
    · exact t2.cons (by omega)
  · rw [pick_q1 g, pick_q2 g]
    by_cases h1 : o.getD i 0 ≤ d.getD j 0
    · rw [if_pos h1]
      by_cases h2 : d.getD j 0 ≤ o.getD i 0
      · rw [if_pos h2]
        omega
      · rw [if_neg h2, List.sum_cons]
        omega
    · rw [if_neg h1, if_pos (by omega), List.sum_cons]
      omega
theorem Good.ends {o d : List Int} {other : List Nat} (g : Good o d [] other) : other = [] := by
  cases other with
  | nil => rfl
  | cons j other =>
    have h1 := g.hs
    have h2 := g.p2.sum_pos (by simp [pick])
    rw [← h1] at h2
    cases h2
theorem Good.more {o d : List Int} {one : List Nat} (g : Good o d (i :: one) other) : ∃ j r, other = j :: r := by
  cases other with
  | nil =>
    have h1 := g.hs
    have h2 := g.p1.sum_pos (by simp [pick])
    rw [h1] at h2
    cases h2
  | cons j r => exact ⟨j, r, rfl⟩
theorem q_len (g : Good o d (i :: one) (j :: other)) : (q1 o d i j one).length + (q2 o d i j other).length ≤ one.length + other.length + 1 := by
  have h1 : (q1 o d i j one).length = (pick (payM o d i j).1 (q1 o d i j one)).length := by
    unfold pick
    rw [List.length_map]
  have h2 : (q2 o d i j other).length = (pick (payM o d i j).2 (q2 o d i j other)).length := by
    unfold pick
    rw [List.length_map]
  have l1 : (pick o one).length = one.length := by
    unfold pick
    rw [List.length_map]
  have l2 : (pick d other).length = other.length := by
    unfold pick
    rw [List.length_map]
  rw [h1, h2, pick_q1 g, pick_q2 g]
  by_cases c : o.getD i 0 ≤ d.getD j 0
  · rw [if_pos c, l1]
    split
    · omega
    · rw [List.length_cons, l2]
      omega
  · rw [if_neg c, if_pos (by omega), List.length_cons, l1, l2]
    omega
end
theorem wayM_cons (n : Nat) (o d : List Int) (i j : Nat) (one other : List Nat) : wayM (n + 1) o d (i :: one) (j :: other) = (i, j) :: wayM n (payM o d i j).1 (payM o d i j).2 (q1 o d i j one) (q2 o d i j other) := rfl
theorem wayM_nil (n : Nat) (o d : List Int) (other : List Nat) : wayM n o d [] other = [] := by
  cases n <;> rfl
/-- fuel enough is as good as more -/
theorem wayM_fuel : ∀ (n m : Nat) {o d : List Int} {one other : List Nat}, Good o d one other → one.length + other.length ≤ n → n ≤ m → wayM m o d one other = wayM n o d one other
  | n, m, o, d, [], other, g, h, hm => by rw [wayM_nil, wayM_nil]
  | n, m, o, d, i :: one, other, g, h, hm => by
    obtain ⟨j, r, rfl⟩ := g.more
    rw [List.length_cons, List.length_cons] at h
    obtain ⟨n', rfl⟩ : ∃ n', n = n' + 1 := ⟨n - 1, by omega⟩
    obtain ⟨m', rfl⟩ : ∃ m', m = m' + 1 := ⟨m - 1, by omega⟩
    have := q_len g
    rw [wayM_cons, wayM_cons, wayM_fuel n' m' g.pay (by omega) (by omega)]
theorem way_len : ∀ (n : Nat) {o d : List Int} {one other : List Nat}, Good o d one other → one.length + other.length ≤ n → (wayM n o d one other).length = steps (pick o one) (pick d other)
  | n, o, d, [], other, g, h => by
    rw [wayM_nil]
    show 0 = steps [] _
    rw [steps_nl]
  | n, o, d, i :: one, other, g, h => by
    obtain ⟨j, r, rfl⟩ := g.more
    rw [List.length_cons, List.length_cons] at h
    obtain ⟨n', rfl⟩ : ∃ n', n = n' + 1 := ⟨n - 1, by omega⟩
    have := q_len g
    rw [wayM_cons, List.length_cons, way_len n' g.pay (by omega), pick_q1 g, pick_q2 g, pick_cons, pick_cons, steps]
    by_cases h1 : o.getD i 0 < d.getD j 0
    · rw [if_pos h1, if_pos (by omega), if_neg (by omega)]
    · rw [if_neg h1]
      by_cases h2 : d.getD j 0 < o.getD i 0
      · rw [if_pos h2, if_neg (by omega), if_pos (by omega)]
      · rw [if_neg h2, if_pos (by omega), if_pos (by omega)]
theorem pick_range (o : List Int) : pick o (List.range o.length) = o := by
  unfold pick
  refine List.ext_getElem? fun i => ?_
  by_cases c : i < o.length
  · rw [List.getElem?_map, List.getElem?_range c, List.getElem?_eq_getElem c]
    show some (o.getD i 0) = some o[i]
    rw [List.getD_eq_getElem?_getD, List.getElem?_eq_getElem c]
    rfl
  · rw [List.getElem?_eq_none (by simp; omega), List.getElem?_eq_none (by omega)]
theorem pick_perm {o : List Int} {one : List Nat} (h : one.Perm (List.range o.length)) : (pick o one).Perm o := by
  have h1 : (pick o one).Perm (pick o (List.range o.length)) := h.map _
  rw [pick_range] at h1
  exact h1
theorem good_start {o d : List Int} {one other : List Nat} (p1 : PosL o) (p2 : PosL d) (hs : o.sum = d.sum) (h1 : one.Perm (List.range o.length)) (h2 : other.Perm (List.range d.length)) : Good o d one other where
  n1 := h1.nodup_iff.mpr List.nodup_range
  n2 := h2.nodup_iff.mpr List.nodup_range
  b1 := fun i hi => List.mem_range.mp (h1.mem_iff.mp hi)
  b2 := fun i hi => List.mem_range.mp (h2.mem_iff.mp hi)
  p1 := p1.perm (pick_perm h1).symm
  p2 := p2.perm (pick_perm h2).symm
  hs := by rw [perm_sum (pick_perm h1), perm_sum (pick_perm h2), hs]
/-- the way of two orders of all, its number of payments -/
def qway (o d : List Int) (one other : List Nat) : List (Nat × Nat) := wayM (one.length + other.length) o d one other
theorem qway_J {o d : List Int} {one other : List Nat} (p1 : PosL o) (p2 : PosL d) (hs : o.sum = d.sum) (h1 : one.Perm (List.range o.length)) (h2 : other.Perm (List.range d.length)) :
    (qway o d one other).length + J (pick o one) (pick d other) = o.length + d.length := by
  have g := good_start p1 p2 hs h1 h2
  unfold qway
  rw [way_len _ g (Nat.le_refl _), steps_J _ _ _ rfl g.p1 g.p2 g.hs, (pick_perm h1).length_eq, (pick_perm h2).length_eq]
/-- every arrangement of the amounts is that of some order -/
theorem perm_map_inv {α β : Type} {f : α → β} {l : List α} : ∀ {ys zs : List β}, ys.Perm zs → zs = l.map f → ∃ l' : List α, l'.Perm l ∧ ys = l'.map f := by
  intro ys zs h
  induction h generalizing l with
  | nil =>
    intro e
    have : l = [] := List.map_eq_nil_iff.mp e.symm
    subst this
    exact ⟨[], .nil, rfl⟩
  | cons x p ih =>
    intro e
    cases l with
    | nil => cases e
    | cons a l =>
      rw [List.map_cons] at e
      injection e with e1 e2
      obtain ⟨l', p', e'⟩ := ih e2
      exact ⟨a :: l', p'.cons a, by rw [List.map_cons, e', e1]⟩
  | swap x y t =>
    intro e
    cases l with
    | nil => cases e
    | cons a l =>
      cases l with
      | nil => cases e
      | cons b l =>
        rw [List.map_cons, List.map_cons] at e
        injection e with e1 e2
        injection e2 with e2 e3
        exact ⟨b :: a :: l, List.Perm.swap a b l, by rw [List.map_cons, List.map_cons, e1, e2, e3]⟩
  | trans p1 p2 ih1 ih2 =>
    intro e
    obtain ⟨l2, h2, e2⟩ := ih2 e
    obtain ⟨l1, h1, e1⟩ := ih1 e2
    exact ⟨l1, h1.trans h2, e1⟩
theorem order_of {o xs : List Int} (h : xs.Perm o) : ∃ one : List Nat, one.Perm (List.range o.length) ∧ xs = pick o one :=
  perm_map_inv (f := fun i => o.getD i 0) (l := List.range o.length) h (pick_range o).symm
/-! ### one measure less -/
theorem ps_scale (g : Int) : ∀ xs : List Int, ps (xs.map (g * ·)) = (ps xs).map (g * ·)
  | [] => rfl
  | x :: xs => by
    show g * x :: (ps (xs.map (g * ·))).map (g * x + ·) = g * x :: ((ps xs).map (x + ·)).map (g * ·)
    rw [ps_scale g xs, List.map_map, List.map_map]
    congr 1
    refine List.map_congr_left fun a _ => ?_
    show g * x + g * a = g * (x + a)
    rw [Int.mul_add]
theorem J_scale {g : Int} (hg : 0 < g) (xs ys : List Int) : J (xs.map (g * ·)) (ys.map (g * ·)) = J xs ys := by
  unfold J
  rw [ps_scale, ps_scale, List.countP_map]
  refine countP_congr' fun p _ => ?_
  show decide (g * p ∈ (ps ys).map (g * ·)) = decide (p ∈ ps ys)
  refine decide_eq_decide.mpr ⟨fun h => ?_, fun h => List.mem_map.mpr ⟨p, h, rfl⟩⟩
  obtain ⟨q, hq, e⟩ := List.mem_map.mp h
  have := Int.eq_of_mul_eq_mul_left (by omega) e
  rw [← this]
  exact hq
end K71
namespace K71
open PySem PySem.Spec PyProof.Rows L2
section
variable {P : Program} {w : World} {K : PySem.W.Frag} {mg : Str → Option Value} {base : Heap}
/-! ### the state of a way, queues -/
theorem paired_set {α β : Type} {F : α → β → Prop} {x : α} {y : β} (h : F x y) : ∀ {xs : List α} {ys : List β} (i : Nat), Paired F xs ys → Paired F (xs.set i x) (ys.set i y)
  | _, _, _, .nil => .nil
  | _, _, 0, .cons _ t => .cons h t
  | _, _, i + 1, .cons r t => .cons r (paired_set h i t)
theorem frs_at {H : Hp} {xs : List V} {o : List Int} {p q : Int} (h : Frs K H xs (o.map (fr p q))) {i : Nat} (hi : i < o.length) : ∃ x, xs[i]? = some x ∧ Fr K H x (fr p q (o.getD i 0)) := by
  have h1 : (o.map (fr p q))[i]? = some (fr p q (o.getD i 0)) := by
    rw [List.getElem?_map, List.getElem?_eq_getElem hi, List.getD_eq_getElem?_getD, List.getElem?_eq_getElem hi]
    rfl
  exact paired_at' h h1
theorem frs_set {H : Hp} {xs : List V} {o : List Int} {p q : Int} (h : Frs K H xs (o.map (fr p q))) {i : Nat} {x : V} {k : Int} (hx : Fr K H x (fr p q k)) : Frs K H (xs.set i x) ((o.set i k).map (fr p q)) := by
  rw [List.map_set]
  exact paired_set hx i h
theorem ixN_nat {n i : Nat} (h : i < n) : ixN n (i : Int) = some i := by
  unfold ixN
  rw [if_pos (by omega), if_pos (by omega), Int.toNat_natCast]
theorem six0 (n : Nat) : seqIndex? 0 (n + 1) = some 0 := by
  unfold seqIndex?
  simp
theorem kn_left : ¬ (("owed_left" : Str) = "due_left") := by decide +kernel
def sf (a b : V) : List (Str × V) := putF "due_left" b (putF "owed_left" a [])
theorem sf_o (a b : V) : (sf a b).lookup ("owed_left" : Str) = some a := by
  unfold sf
  rw [lookup_putF, if_neg kn_left, lookup_putF, if_pos rfl]
theorem sf_d (a b : V) : (sf a b).lookup ("due_left" : Str) = some b := by
  unfold sf
  rw [lookup_putF, if_pos rfl]
theorem sf_no (a b : V) {m : Str} (h1 : ¬ m = "due_left") (h2 : ¬ m = "owed_left") : (sf a b).lookup m = none := by
  unfold sf
  rw [lookup_putF, if_neg h1, lookup_putF, if_neg h2]
  rfl
/-- a State stands at a, its lists at lo and ld -/
structure StO (K : PySem.W.Frag) (H : Hp) (a dx lo ld : Addr) (p q : Int) (o d : List Int) : Prop where
  ob : H a = some (.ins (He.ga K "State") dx (sf (.ref lo) (.ref ld)))
  l1 : ∃ xs, H lo = some (.lst xs) ∧ Frs K H xs (o.map (fr p q))
  l2 : ∃ ys, H ld = some (.lst ys) ∧ Frs K H ys (d.map (fr p q))
  ne : lo ≠ ld
/-- what is left is from 0 on -/
def Bd (o : List Int) : Prop := ∀ k ∈ o, 0 ≤ k ∧ k < 2 ^ 40
theorem Bd.at {o : List Int} (h : Bd o) (i : Nat) : 0 ≤ o.getD i 0 ∧ o.getD i 0 < 2 ^ 40 := by
  rw [List.getD_eq_getElem?_getD]
  cases e : o[i]? with
  | none => exact ⟨Int.le_refl 0, by decide⟩
  | some k => exact h k (List.mem_of_getElem? e)
theorem Bd.set {o : List Int} (h : Bd o) {i : Nat} {k : Int} (hk : 0 ≤ k ∧ k < 2 ^ 40) : Bd (o.set i k) := fun z hz => by
  rcases List.mem_or_eq_of_mem_set hz with hz | hz
  · exact h z hz
  · rw [hz]
    exact hk
theorem Ks.bds {o : List Int} (h : Ks o) : Bd o := fun k hk => ⟨h.nn k hk, by have := mem_le_sum h.nn hk; have := h.bd; omega⟩
theorem Bd.pay {o d : List Int} (h1 : Bd o) (h2 : Bd d) (i j : Nat) : Bd (payM o d i j).1 ∧ Bd (payM o d i j).2 := by
  have a := h1.at i
  have b := h2.at j
  exact ⟨h1.set (by omega), h2.set (by omega)⟩
def sp_State_init (K : PySem.W.Frag) : Sp := fun vs H Q _ => ∃ (a dx : Addr) (v : V) (p q : Int) (os ds : List Int), vs = [.ref a, v] ∧ H a = some (.ins (He.ga K "State") dx []) ∧ EvAt K H v p q os ds ∧
  ∀ lo ld H', H lo = none → H ld = none → StO K H' a dx lo ld p q os ds → (∀ b o, H b = some o → b ≠ a → H' b = some o) → Q .non H'
theorem sc_State_init : FnScope ["self", "evening"] ["self", "evening"] (defScope s_State_init) := ⟨rfl, rfl, rfl, by decide +kernel, rfl, by decide +kernel, by decide +kernel⟩
/-- the body of State.__init__ -/
theorem ok_State_init {f : Addr} {fd : FuncData} (T : Txt K mg) (F : FnP K "__init__" "State.__init__" s_State_init f fd)  : FnOk P w K mg base CX0 1 f fd ["self", "evening"] (sp_State_init K) := by
  refine F.ok sc_State_init (fun vs H Q E h => ?_) (fun cdv A outer s H vs Q E hr h => ⟨_, PSs.nox (pss_cons (ps_fld (pv 0) (pe_callTy call_list_of (by rfl) T.list' (by decide +kernel) (pa_cons (fldK K (pv 1) rfl) pa_nil)) rfl)
    (pss_one (ps_fld (pv 0) (pe_callTy call_list_of (by rfl) T.list' (by decide +kernel) (pa_cons (fldK K (pv 1) rfl) pa_nil)) rfl))), ?_⟩)
  · first | (obtain ⟨_, rfl, _⟩ := h; rfl) | (obtain ⟨_, _, rfl, _⟩ := h; rfl) | (obtain ⟨_, _, _, rfl, _⟩ := h; rfl) | (obtain ⟨_, _, _, _, rfl, _⟩ := h; rfl) | (obtain ⟨_, _, _, _, _, rfl, _⟩ := h; rfl) | (obtain ⟨_, _, _, _, _, _, rfl, _⟩ := h; rfl) | (obtain ⟨_, _, _, _, _, _, _, rfl, _⟩ := h; rfl) | (obtain ⟨_, _, _, _, _, _, _, _, rfl, _⟩ := h; rfl) | (obtain ⟨_, _, _, _, _, _, _, _, _, rfl, _⟩ := h; rfl) | (obtain ⟨_, _, _, _, _, _, _, _, _, _, rfl, _⟩ := h; rfl) | (obtain ⟨_, _, _, _, _, _, _, _, _, _, _, rfl, _⟩ := h; rfl) | (obtain ⟨_, _, _, _, _, _, _, _, _, _, _, _, rfl, _⟩ := h; rfl)
  obtain ⟨a, dx, v, p, q, os, ds, rfl, ha, ⟨b, dy, vo, vd, rfl, hE, ⟨ao, xo, rfl, h1, r1⟩, ⟨ad, xd, rfl, h2, r2⟩⟩, k⟩ := h
  refine ⟨_, rfl, b, _, dy, _, _, rfl, hE, T.cl_Evening, T.na_owed, ef_owed _ _, ao, _, rfl, .inr h1, fun lo hlo => ?_⟩
  have nal : a ≠ lo := ne_of_none ha hlo
  have nab : b ≠ a := ne_of hE ha (by
    intro z
    injection z with z1 z2 z3
    have e := ef_owed (.ref ao) (.ref ad)
    rw [z3] at e
    cases e)
  have s1 : Same H (upd H lo (.lst xo)) := Same.new hlo
  refine ⟨_, rfl, a, _, dx, [], rfl, s1 _ _ ha, T.cl_State, T.na_owed_left, (by show 0 < 1000; decide), ?_⟩
  refine ⟨_, rfl, b, _, dy, _, _, rfl, (by rw [upd_ne nab]; exact s1 _ _ hE), T.cl_Evening, T.na_due, ef_due _ _, ad, xd, rfl, .inr ?_, fun ld hld => ?_⟩
  · refine Tame.t (fun x xs hx => ?_) (s1.t h2)
    have nx : x ≠ a := fun e => by
      subst e
      rcases hx with hx | ⟨o, hx⟩
      · rw [s1 _ _ ha] at hx
        cases hx
      · rw [s1 _ _ ha] at hx
        cases hx
    rcases hx with hx | ⟨o, hx⟩
    · exact .inl (by rw [upd_ne nx]; exact hx)
    · exact .inr ⟨o, by rw [upd_ne nx]; exact hx⟩
  · have nad : ld ≠ a := fun e => by
      rw [e, upd_same] at hld
      cases hld
    have hld1 : (upd H lo (.lst xo)) ld = none := by
      rw [upd_ne nad] at hld
      exact hld
    have nll : ld ≠ lo := fun e => by
      rw [e, upd_same] at hld1
      cases hld1
    have hld0 : H ld = none := s1.free hld1
    refine ⟨_, rfl, a, _, dx, _, rfl, (by rw [upd_ne nad.symm, upd_same]), T.cl_State, T.na_due_left, (by show 1 < 1000; decide), ?_⟩
    have kp : ∀ b o, H b = some o → b ≠ a → (upd (upd (upd (upd H lo (.lst xo)) a (.ins (He.ga K "State") dx (putF "owed_left" (.ref lo) []))) ld (.lst xd)) a (.ins (He.ga K "State") dx (sf (.ref lo) (.ref ld)))) b = some o := fun b o hb nb => by
      rw [upd_ne nb, upd_ne (ne_of_none hb hld0), upd_ne nb]
      exact s1 _ _ hb
    have tm : Tame H (upd (upd (upd (upd H lo (.lst xo)) a (.ins (He.ga K "State") dx (putF "owed_left" (.ref lo) []))) ld (.lst xd)) a (.ins (He.ga K "State") dx (sf (.ref lo) (.ref ld)))) := fun x xs hx => by
      have nx : x ≠ a := fun e => by
        subst e
        rcases hx with hx | ⟨o, hx⟩
        · rw [ha] at hx
          cases hx
        · rw [ha] at hx
          cases hx
      rcases hx with hx | ⟨o, hx⟩
      · exact .inl (kp _ _ hx nx)
      · exact .inr ⟨o, kp _ _ hx nx⟩
    exact k lo ld _ hlo hld0 ⟨upd_same, ⟨xo, by rw [upd_ne nal.symm, upd_ne nll.symm, upd_ne nal.symm, upd_same], r1.tame tm⟩, ⟨xd, by rw [upd_ne nad, upd_same], r2.tame tm⟩, nll.symm⟩ kp
def sp_State_amount_of (K : PySem.W.Frag) : Sp := fun vs H Q _ => ∃ (a dx lo ld : Addr) (v : V) (p q : Int) (o d : List Int) (i j : Nat), vs = [.ref a, v] ∧ Unit2 p q ∧ StO K H a dx lo ld p q o d ∧ IT K H v [(i : Int), (j : Int)] ∧ (i < o.length ∧ j < d.length) ∧ (Bd o ∧ Bd d) ∧
  ∀ x, Fr K H x (fr p q (min (o.getD i 0) (d.getD j 0))) → Q x H
theorem sc_State_amount_of : FnScope ["self", "pair"] ["self", "pair"] (defScope s_State_amount_of) := ⟨rfl, rfl, rfl, by decide +kernel, rfl, by decide +kernel, by decide +kernel⟩
/-- the body of State.amount_of -/
theorem ok_State_amount_of {f : Addr} {fd : FuncData} (T : Txt K mg) (F : FnP K "amount_of" "State.amount_of" s_State_amount_of f fd) (D_least_of : Dn P w K mg base "least_of" ["one", "other"] 2 (sp_least_of K)) : FnOk P w K mg base CX0 3 f fd ["self", "pair"] (sp_State_amount_of K) := by
  refine F.ok sc_State_amount_of (fun vs H Q E h => ?_) (fun cdv A outer s H vs Q E hr h => ⟨_, PSs.nox (pss_one (ps_ret (pe_dn D_least_of (hr.mono (by decide)) rfl (pa_cons (pe_ix (ixL K) (fldK K (pv 0) rfl) (pe_ix (ixT K) (pv 1) pe_int (fun _ _ => rfl)) (fun _ _ => rfl)) (pa_cons (pe_ix (ixL K) (fldK K (pv 0) rfl) (pe_ix (ixT K) (pv 1) pe_int (fun _ _ => rfl)) (fun _ _ => rfl)) pa_nil))))), ?_⟩)
  · first | (obtain ⟨_, rfl, _⟩ := h; rfl) | (obtain ⟨_, _, rfl, _⟩ := h; rfl) | (obtain ⟨_, _, _, rfl, _⟩ := h; rfl) | (obtain ⟨_, _, _, _, rfl, _⟩ := h; rfl) | (obtain ⟨_, _, _, _, _, rfl, _⟩ := h; rfl) | (obtain ⟨_, _, _, _, _, _, rfl, _⟩ := h; rfl) | (obtain ⟨_, _, _, _, _, _, _, rfl, _⟩ := h; rfl) | (obtain ⟨_, _, _, _, _, _, _, _, rfl, _⟩ := h; rfl) | (obtain ⟨_, _, _, _, _, _, _, _, _, rfl, _⟩ := h; rfl) | (obtain ⟨_, _, _, _, _, _, _, _, _, _, rfl, _⟩ := h; rfl) | (obtain ⟨_, _, _, _, _, _, _, _, _, _, _, rfl, _⟩ := h; rfl) | (obtain ⟨_, _, _, _, _, _, _, _, _, _, _, _, rfl, _⟩ := h; rfl)
  obtain ⟨a, dx, lo, ld, v, p, q, o, d, i, j, rfl, u, S, ⟨t, rfl, ht⟩, ⟨hi, hj⟩, ⟨bo, bd⟩, k⟩ := h
  obtain ⟨xs, h1, r1⟩ := S.l1
  obtain ⟨ys, h2, r2⟩ := S.l2
  obtain ⟨x, hx, fx⟩ := frs_at r1 hi
  obtain ⟨y, hy, fy⟩ := frs_at r2 hj
  have b1 := bo.at i
  have b2 := bd.at j
  refine ⟨_, rfl, a, _, dx, _, _, rfl, S.ob, T.cl_State, T.na_owed_left, sf_o _ _, _, rfl, _, _, _, _, rfl, rfl, ht, rfl, lo, _, _, x, rfl, rfl, sql h1, at_of rfl hx, _, rfl, a, _, dx, _, _, rfl, S.ob, T.cl_State, T.na_due_left, sf_d _ _, _, rfl, _, _, _, _, rfl, rfl, ht, rfl, ld, _, _, y, rfl, rfl, sql h2, at_of rfl hy,
    x, y, _, _, rfl, fx, fy, fr_bd u (by omega), fr_bd u (by omega), fun z hz => k z ?_⟩
  rw [fr_lt u] at hz
  by_cases c : d.getD j 0 < o.getD i 0
  · rw [if_pos (decide_eq_true c)] at hz
    rw [Int.min_eq_right (by omega)]
    exact hz
  · rw [if_neg (by simpa using c)] at hz
    rw [Int.min_eq_left (by omega)]
    exact hz
def sp_State_go (K : PySem.W.Frag) : Sp := fun vs H Q _ => ∃ (a dx lo ld : Addr) (v : V) (p q : Int) (o d : List Int) (i j : Nat), vs = [.ref a, v] ∧ Unit2 p q ∧ StO K H a dx lo ld p q o d ∧ IT K H v [(i : Int), (j : Int)] ∧ (i < o.length ∧ j < d.length) ∧ (Bd o ∧ Bd d) ∧
  ∀ x H', (∀ b o, H b = some o → b ≠ lo → b ≠ ld → H' b = some o) → StO K H' a dx lo ld p q (payM o d i j).1 (payM o d i j).2 → Q x H'
theorem not_dead {m : Str} (h1 : ¬ m = "due_left") (h2 : ¬ m = "owed_left") (a b : V) : (sf a b).lookup m = none := sf_no a b h1 h2
theorem sc_State_go : FnScope ["self", "pair", "amount"] ["self", "pair"] (defScope s_State_go) := ⟨rfl, rfl, rfl, by decide +kernel, rfl, by decide +kernel, by decide +kernel⟩
/-- the body of State.go -/
theorem ok_State_go {f : Addr} {fd : FuncData} (T : Txt K mg) (F : FnP K "go" "State.go" s_State_go f fd) (D_State_amount_of : Dm P w K mg base "State" "amount_of" ["self", "pair"] 3 (sp_State_amount_of K)) (D_minus : Dn P w K mg base "minus" ["one", "other"] 3 (sp_minus K)) : FnOk P w K mg base CX0 4 f fd ["self", "pair"] (sp_State_go K) := by
  refine F.ok sc_State_go (fun vs H Q E h => ?_) (fun cdv A outer s H vs Q E hr h => ⟨_, PSs.nox (pss_cons (ps_set (i := 2) sc_State_go.nd rfl (Or.inl rfl) (pe_mt D_State_amount_of T.cl_State (pv 0) (hr.mono (by decide)) (pa_cons (pv 1) pa_nil)))
    (pss_cons (ps_asg (pe_dn D_minus (hr.mono (by decide)) rfl (pa_cons (pe_ix (ixL K) (fldK K (pv 0) rfl) (pe_ix (ixT K) (pv 1) pe_int (fun _ _ => rfl)) (fun _ _ => rfl)) (pa_cons (pv 2) pa_nil))) (pg_sub (fldK K (pv 0) rfl) (pe_ix (ixT K) (pv 1) pe_int (fun _ _ => rfl)) set_list))
    (pss_cons (ps_asg (pe_dn D_minus (hr.mono (by decide)) rfl (pa_cons (pe_ix (ixL K) (fldK K (pv 0) rfl) (pe_ix (ixT K) (pv 1) pe_int (fun _ _ => rfl)) (fun _ _ => rfl)) (pa_cons (pv 2) pa_nil))) (pg_sub (fldK K (pv 0) rfl) (pe_ix (ixT K) (pv 1) pe_int (fun _ _ => rfl)) set_list))
    (pss_one (ps_ret (pv 2)))))), ?_⟩)
  · first | (obtain ⟨_, rfl, _⟩ := h; rfl) | (obtain ⟨_, _, rfl, _⟩ := h; rfl) | (obtain ⟨_, _, _, rfl, _⟩ := h; rfl) | (obtain ⟨_, _, _, _, rfl, _⟩ := h; rfl) | (obtain ⟨_, _, _, _, _, rfl, _⟩ := h; rfl) | (obtain ⟨_, _, _, _, _, _, rfl, _⟩ := h; rfl) | (obtain ⟨_, _, _, _, _, _, _, rfl, _⟩ := h; rfl) | (obtain ⟨_, _, _, _, _, _, _, _, rfl, _⟩ := h; rfl) | (obtain ⟨_, _, _, _, _, _, _, _, _, rfl, _⟩ := h; rfl) | (obtain ⟨_, _, _, _, _, _, _, _, _, _, rfl, _⟩ := h; rfl) | (obtain ⟨_, _, _, _, _, _, _, _, _, _, _, rfl, _⟩ := h; rfl) | (obtain ⟨_, _, _, _, _, _, _, _, _, _, _, _, rfl, _⟩ := h; rfl)
  obtain ⟨a, dx, lo, ld, v, p, q, o, d, i, j, rfl, u, S, ⟨t, rfl, ht⟩, ⟨hi, hj⟩, ⟨bo, bd⟩, k⟩ := h
  have b1 := bo.at i
  have b2 := bd.at j
  refine ⟨_, rfl, a, dx, _, rfl, S.ob, sf_no _ _ (by decide +kernel) (by decide +kernel), _, rfl, a, dx, lo, ld, _, p, q, o, d, i, j, rfl, u, S, ⟨t, rfl, ht⟩, ⟨hi, hj⟩, ⟨bo, bd⟩, fun m hm => ?_⟩
  obtain ⟨xs, h1, r1⟩ := S.l1
  obtain ⟨ys, h2, r2⟩ := S.l2
  obtain ⟨x, hx, fx⟩ := frs_at r1 hi
  refine ⟨_, rfl, a, _, dx, _, _, rfl, S.ob, T.cl_State, T.na_owed_left, sf_o _ _, _, rfl, _, _, _, _, rfl, rfl, ht, rfl, lo, _, _, x, rfl, rfl, sql h1, at_of rfl hx, _, rfl, x, m, _, _, rfl, fx, hm, ⟨fr_pos u, fr_pos u⟩, fr_bd u (by omega), fr_bd u (by omega), fun z H1 e1 hz => ?_⟩
  have hz : Fr K H1 z (fr p q (o.getD i 0 - min (o.getD i 0) (d.getD j 0))) := by
    rw [← fr_minus u]
    exact hz
  have li : xs.length = o.length := by rw [Paired.length r1, List.length_map]
  have lj : ys.length = d.length := by rw [Paired.length r2, List.length_map]
  refine ⟨_, rfl, a, _, dx, _, _, rfl, e1 _ _ S.ob, T.cl_State, T.na_owed_left, sf_o _ _, _, rfl, _, _, _, _, rfl, rfl, e1.t ht, rfl, lo, xs, _, i, rfl, rfl, e1 _ _ h1, ixN_nat (by omega), ?_⟩
  -- the other side
  have t2 : Tame H1 (upd H1 lo (.lst (xs.set i z))) := Tame.lst (e1 _ _ h1)
  have nal : a ≠ lo := ne_of S.ob h1 (by intro c; cases c)
  have nad : a ≠ ld := ne_of S.ob h2 (by intro c; cases c)
  have r2' : Frs K (upd H1 lo (.lst (xs.set i z))) ys (d.map (fr p q)) := (r2.mono e1).tame t2
  have h2' : (upd H1 lo (.lst (xs.set i z))) ld = some (.lst ys) := by
    rw [upd_ne S.ne.symm]
    exact e1 _ _ h2
  have ob' : (upd H1 lo (.lst (xs.set i z))) a = some (.ins (He.ga K "State") dx (sf (.ref lo) (.ref ld))) := by
    rw [upd_ne nal]
    exact e1 _ _ S.ob
  obtain ⟨y, hy, fy⟩ := frs_at r2' hj
  have ht' := t2.t (e1.t ht)
  refine ⟨_, rfl, a, _, dx, _, _, rfl, ob', T.cl_State, T.na_due_left, sf_d _ _, _, rfl, _, _, _, _, rfl, rfl, ht', rfl, ld, _, _, y, rfl, rfl, sql h2', at_of rfl hy, _, rfl, y, m, _, _, rfl, fy, (hm.mono e1).tame t2, ⟨fr_pos u, fr_pos u⟩, fr_bd u (by omega), fr_bd u (by omega), fun z2 H2 e2 hz2 => ?_⟩
  have hz2 : Fr K H2 z2 (fr p q (d.getD j 0 - min (o.getD i 0) (d.getD j 0))) := by
    rw [← fr_minus u]
    exact hz2
  refine ⟨_, rfl, a, _, dx, _, _, rfl, e2 _ _ ob', T.cl_State, T.na_due_left, sf_d _ _, _, rfl, _, _, _, _, rfl, rfl, e2.t ht', rfl, ld, ys, _, j, rfl, rfl, e2 _ _ h2', ixN_nat (by omega), _, rfl, ?_⟩
  have t3 : Tame H2 (upd H2 ld (.lst (ys.set j z2))) := Tame.lst (e2 _ _ h2')
  refine k m _ (fun b o hb n1 n2 => ?_) ⟨?_, ⟨xs.set i z, ?_, ?_⟩, ⟨ys.set j z2, upd_same, ?_⟩, S.ne⟩
  · rw [upd_ne n2]
    refine e2 _ _ ?_
    rw [upd_ne n1]
    exact e1 _ _ hb
  · rw [upd_ne nad]
    exact e2 _ _ ob'
  · rw [upd_ne S.ne]
    exact e2 _ _ upd_same
  · have q1 : Frs K H2 (xs.set i z) ((o.set i (o.getD i 0 - min (o.getD i 0) (d.getD j 0))).map (fr p q)) := (Frs.tame t2 (frs_set (r1.mono e1) hz)).mono e2
    exact q1.tame t3
  · exact (frs_set (r2'.mono e2) hz2).tame t3
end
end K71
namespace K71
open PySem PySem.Spec PyProof.Rows L2
section
variable {P : Program} {w : World} {K : PySem.W.Frag} {mg : Str → Option Value} {base : Heap}
/-! ### the way of two queues -/
/-- a list of places as ints -/
def nI (l : List Nat) : List Int := l.map fun (n : Nat) => (n : Int)
theorem nI_len (l : List Nat) : ((nI l).map V.int).length = l.length := by
  unfold nI
  rw [List.length_map, List.length_map]
theorem StO.same {H H' : Hp} {a dx lo ld : Addr} {p q : Int} {o d : List Int} (e : Same H H') (S : StO K H a dx lo ld p q o d) : StO K H' a dx lo ld p q o d := by
  obtain ⟨xs, h1, r1⟩ := S.l1
  obtain ⟨ys, h2, r2⟩ := S.l2
  exact ⟨e _ _ S.ob, ⟨xs, e _ _ h1, r1.mono e⟩, ⟨ys, e _ _ h2, r2.mono e⟩, S.ne⟩
/-- a list that is neither of the state's is changed -/
theorem StO.upd {H : Hp} {a dx lo ld l : Addr} {p q : Int} {o d : List Int} {xs : List V} {u : HO} (S : StO K H a dx lo ld p q o d) (h : H l = some (.lst xs)) (n1 : lo ≠ l) (n2 : ld ≠ l) : StO K (upd H l u) a dx lo ld p q o d := by
  obtain ⟨x1, h1, r1⟩ := S.l1
  obtain ⟨x2, h2, r2⟩ := S.l2
  have t : Tame H (L2.upd H l u) := Tame.lst h
  have na : a ≠ l := ne_of S.ob h (by intro c; cases c)
  exact ⟨by rw [upd_ne na]; exact S.ob, ⟨x1, by rw [upd_ne n1]; exact h1, r1.tame t⟩, ⟨x2, by rw [upd_ne n2]; exact h2, r2.tame t⟩, S.ne⟩
/-- the lists of the walk are new and stand apart -/
structure WS (H0 : Hp) (lo ld l1 l2 lw : Addr) : Prop where
  fo : H0 lo = none
  fd : H0 ld = none
  f1 : H0 l1 = none
  f2 : H0 l2 = none
  fw : H0 lw = none
  o1 : lo ≠ l1
  o2 : lo ≠ l2
  ow : lo ≠ lw
  d1 : ld ≠ l1
  d2 : ld ≠ l2
  dw : ld ≠ lw
  n12 : l1 ≠ l2
  n1w : l1 ≠ lw
  n2w : l2 ≠ lw
structure WI (K : PySem.W.Frag) (H0 H : Hp) (a dx lo ld l1 l2 lw : Addr) (p q : Int) (o d : List Int) (one other : List Nat) (ws : List V) : Prop where
  sm : Same H0 H
  st : StO K H a dx lo ld p q o d
  h1 : H l1 = some (.lst ((nI one).map V.int))
  h2 : H l2 = some (.lst ((nI other).map V.int))
  hw : H lw = some (.lst ws)
  b1 : Bd o
  b2 : Bd d
theorem wayM_le : ∀ (n : Nat) (o d : List Int) (one other : List Nat), (wayM n o d one other).length ≤ n
  | 0, _, _, _, _ => Nat.zero_le _
  | n + 1, o, d, [], other => by
    rw [wayM_nil]
    exact Nat.zero_le _
  | n + 1, o, d, i :: one, [] => Nat.zero_le _
  | n + 1, o, d, i :: one, j :: other => by
    have := wayM_le n (payM o d i j).1 (payM o d i j).2 (q1 o d i j one) (q2 o d i j other)
    rw [wayM_cons, List.length_cons]
    omega
section
variable {H0 H : Hp} {a dx lo ld l1 l2 lw : Addr} {p q : Int} {o d : List Int} {one other : List Nat} {ws : List V}
theorem WI.same {H' : Hp} (e : Same H H') (I : WI K H0 H a dx lo ld l1 l2 lw p q o d one other ws) : WI K H0 H' a dx lo ld l1 l2 lw p q o d one other ws :=
  ⟨I.sm.trans e, I.st.same e, e _ _ I.h1, e _ _ I.h2, e _ _ I.hw, I.b1, I.b2⟩
theorem WI.gone {H' : Hp} {i j : Nat} (X : WS H0 lo ld l1 l2 lw) (I : WI K H0 H a dx lo ld l1 l2 lw p q o d one other ws) (k : ∀ b u, H b = some u → b ≠ lo → b ≠ ld → H' b = some u) (S : StO K H' a dx lo ld p q (payM o d i j).1 (payM o d i j).2) :
    WI K H0 H' a dx lo ld l1 l2 lw p q (payM o d i j).1 (payM o d i j).2 one other ws :=
  ⟨fun b u hb => k _ _ (I.sm _ _ hb) (ne_of_none hb X.fo) (ne_of_none hb X.fd), S, k _ _ I.h1 X.o1.symm X.d1.symm, k _ _ I.h2 X.o2.symm X.d2.symm, k _ _ I.hw X.ow.symm X.dw.symm, (I.b1.pay I.b2 i j).1, (I.b1.pay I.b2 i j).2⟩
theorem WI.app (X : WS H0 lo ld l1 l2 lw) (I : WI K H0 H a dx lo ld l1 l2 lw p q o d one other ws) (v : V) : WI K H0 (upd H lw (.lst (ws ++ [v]))) a dx lo ld l1 l2 lw p q o d one other (ws ++ [v]) :=
  ⟨I.sm.mut X.fw, I.st.upd I.hw X.ow X.dw, by rw [upd_ne X.n1w]; exact I.h1, by rw [upd_ne X.n2w]; exact I.h2, upd_same, I.b1, I.b2⟩
theorem WI.pop1 {i : Nat} (X : WS H0 lo ld l1 l2 lw) (I : WI K H0 H a dx lo ld l1 l2 lw p q o d (i :: one) other ws) : WI K H0 (upd H l1 (.lst (((nI (i :: one)).map V.int).eraseIdx 0))) a dx lo ld l1 l2 lw p q o d one other ws :=
  ⟨I.sm.mut X.f1, I.st.upd I.h1 X.o1 X.d1, upd_same, by rw [upd_ne X.n12.symm]; exact I.h2, by rw [upd_ne X.n1w.symm]; exact I.hw, I.b1, I.b2⟩
theorem WI.pop2 {j : Nat} (X : WS H0 lo ld l1 l2 lw) (I : WI K H0 H a dx lo ld l1 l2 lw p q o d one (j :: other) ws) : WI K H0 (upd H l2 (.lst (((nI (j :: other)).map V.int).eraseIdx 0))) a dx lo ld l1 l2 lw p q o d one other ws :=
  ⟨I.sm.mut X.f2, I.st.upd I.h2 X.o2 X.d2, by rw [upd_ne X.n12]; exact I.h1, upd_same, by rw [upd_ne X.n2w.symm]; exact I.hw, I.b1, I.b2⟩
end
/-- how much the two queues hold -/
def mu2 (l1 l2 : Addr) (H : Hp) : Nat := match H l1, H l2 with
  | some (.lst xs), some (.lst ys) => xs.length + ys.length
  | _, _ => 0
theorem mu2_eq {l1 l2 : Addr} {H : Hp} {xs ys : List V} (h1 : H l1 = some (.lst xs)) (h2 : H l2 = some (.lst ys)) : mu2 l1 l2 H = xs.length + ys.length := by
  unfold mu2
  rw [h1, h2]
def sp_way_of_queues (K : PySem.W.Frag) : Sp := fun vs H Q _ => ∃ (v v1 v2 : V) (p q : Int) (os ds : List Int) (π τ : List Nat), vs = [v, v1, v2] ∧ EvAt K H v p q os ds ∧ EvD p q os ds ∧ IT K H v1 (nI π) ∧ IT K H v2 (nI τ) ∧ π.Perm (List.range os.length) ∧ τ.Perm (List.range ds.length) ∧
  ∀ t ws H', Same H H' → SqT K H' t ws → ws.length = (qway os ds π τ).length → Q (.ref t) H'
theorem sc_way_of_queues : FnScope ["evening", "owers", "takers", "state", "one", "other", "way", "pair"] ["evening", "owers", "takers"] (defScope s_way_of_queues) := ⟨rfl, rfl, rfl, by decide +kernel, rfl, by decide +kernel, by decide +kernel⟩
/-- the body of way_of_queues -/
theorem ok_way_of_queues {f : Addr} {fd : FuncData} (T : Txt K mg) (F : FnP K "way_of_queues" "way_of_queues" s_way_of_queues f fd) (D_State_init : Di P w K mg base "State" ["self", "evening"] 1 (sp_State_init K)) (D_State_go : Dm P w K mg base "State" "go" ["self", "pair"] 4 (sp_State_go K)) : FnOk P w K mg base CX0 5 f fd ["evening", "owers", "takers"] (sp_way_of_queues K) := by
  refine F.ok sc_way_of_queues (fun vs H Q E h => ?_) (fun cdv A outer s H vs Q E hr h => ⟨_, PSs.nox (pss_cons (ps_set (i := 3) sc_way_of_queues.nd rfl (Or.inl rfl) (pe_mk D_State_init (hr.mono (by decide)) rfl T.mg_State (pa_cons (pv 0) pa_nil)))
    (pss_cons (ps_par (i := 4) (j := 5) rfl sc_way_of_queues.nd rfl rfl (by decide) rfl rfl (pa_cons (pe_callTy call_list_of (by rfl) T.list' (by decide +kernel) (pa_cons (pv 1) pa_nil)) (pa_cons (pe_callTy call_list_of (by rfl) T.list' (by decide +kernel) (pa_cons (pv 2) pa_nil)) pa_nil)) (by rfl))
    (pss_cons (ps_set (i := 6) sc_way_of_queues.nd rfl (Or.inl rfl) (pe_lst pa_nil))
    (pss_cons (ps_while PassesOwn.never (pt_cmpR op_gt (pe_callB call_len_seq (by rfl) T.len' (by decide +kernel) (pa_cons (pv 4) pa_nil)) pe_int (nomark _))
      (pss_cons (ps_set (i := 7) sc_way_of_queues.nd rfl (Or.inl rfl) (pe_tup (pa_cons (pe_ix (ixL K) (pv 4) pe_int (fun _ _ => rfl)) (pa_cons (pe_ix (ixL K) (pv 5) pe_int (fun _ _ => rfl)) pa_nil))))
      (pss_cons (ps_expr (pe_mt D_State_go T.cl_State (pv 3) (hr.mono (by decide)) (pa_cons (pv 7) pa_nil)))
      (pss_cons (ps_expr (pe_bm PySem.F.plainAttrs_list PySem.F.slot_list_append PySem.F.type_list_append mt_append (pv 6) (pa_cons (pv 7) pa_nil)))
      (pss_cons (ps_if (pt_cmpR (eqD K hr.units) (pe_ix (ixL K) (fldK K (pv 3) rfl) (pe_ix (ixT K) (pv 7) pe_int (fun _ _ => rfl)) (fun _ _ => rfl)) (pe_globR T.c_ZERO (by rfl)) (nomark _))
        (pss_one (ps_expr (pe_bm PySem.F.plainAttrs_list PySem.F.slot_list_pop PySem.F.type_list_pop mt_popAt (pv 5) (pa_cons pe_int pa_nil))))
        pss_nil)
      (pss_one (ps_if (pt_cmpR (eqD K hr.units) (pe_ix (ixL K) (fldK K (pv 3) rfl) (pe_ix (ixT K) (pv 7) pe_int (fun _ _ => rfl)) (fun _ _ => rfl)) (pe_globR T.c_ZERO (by rfl)) (nomark _))
        (pss_one (ps_expr (pe_bm PySem.F.plainAttrs_list PySem.F.slot_list_pop PySem.F.type_list_pop mt_popAt (pv 4) (pa_cons pe_int pa_nil))))
        pss_nil)))))))
    (pss_one (ps_ret (pe_callTy call_tuple_of (by rfl) T.tuple' (by decide +kernel) (pa_cons (pv 6) pa_nil)))))))), ?_⟩)
  · first | (obtain ⟨_, rfl, _⟩ := h; rfl) | (obtain ⟨_, _, rfl, _⟩ := h; rfl) | (obtain ⟨_, _, _, rfl, _⟩ := h; rfl) | (obtain ⟨_, _, _, _, rfl, _⟩ := h; rfl) | (obtain ⟨_, _, _, _, _, rfl, _⟩ := h; rfl) | (obtain ⟨_, _, _, _, _, _, rfl, _⟩ := h; rfl) | (obtain ⟨_, _, _, _, _, _, _, rfl, _⟩ := h; rfl) | (obtain ⟨_, _, _, _, _, _, _, _, rfl, _⟩ := h; rfl) | (obtain ⟨_, _, _, _, _, _, _, _, _, rfl, _⟩ := h; rfl) | (obtain ⟨_, _, _, _, _, _, _, _, _, _, rfl, _⟩ := h; rfl) | (obtain ⟨_, _, _, _, _, _, _, _, _, _, _, rfl, _⟩ := h; rfl) | (obtain ⟨_, _, _, _, _, _, _, _, _, _, _, _, rfl, _⟩ := h; rfl)
  obtain ⟨v, v1, v2, p, q, os, ds, π, τ, rfl, hE, D, ⟨a1, rfl, ho⟩, ⟨a2, rfl, ht⟩, hπ, hτ, k⟩ := h
  refine ⟨_, rfl, fun a dx na ndx nad => ?_⟩
  have s0 : Same H (upd (upd H dx (.own a)) a (.ins (He.ga K "State") dx [])) := (Same.new ndx).trans (Same.new (by rw [upd_ne nad.symm]; exact na))
  refine ⟨a, dx, v, p, q, os, ds, rfl, upd_same, hE.mono s0, fun lo ld H1 hlo hld S1 kp => ⟨rfl, ?_⟩⟩
  have s1 : Same H H1 := Same.made na ndx kp
  obtain ⟨xo, eo, _⟩ := S1.l1
  obtain ⟨xd, ed, _⟩ := S1.l2
  refine ⟨_, rfl, a1, _, rfl, .inr (s1.t ho), fun l1 hl1 => ?_⟩
  have s2 := Same.new (o := .lst ((nI π).map V.int)) hl1
  refine ⟨_, rfl, a2, _, rfl, .inr (s2.t (s1.t ht)), fun l2 hl2 => ?_⟩
  have s3 := Same.new (o := .lst ((nI τ).map V.int)) hl2
  refine ⟨_, _, rfl, Nat.zero_le _, fun lw hlw => ?_⟩
  have s4 := Same.new (o := .lst []) hlw
  have X : WS H lo ld l1 l2 lw := {
    fo := s0.free hlo
    fd := s0.free hld
    f1 := s1.free hl1
    f2 := s1.free (s2.free hl2)
    fw := s1.free (s2.free (s3.free hlw))
    o1 := ne_of_none eo hl1
    o2 := ne_of_none (s2 _ _ eo) hl2
    ow := ne_of_none (s3 _ _ (s2 _ _ eo)) hlw
    d1 := ne_of_none ed hl1
    d2 := ne_of_none (s2 _ _ ed) hl2
    dw := ne_of_none (s3 _ _ (s2 _ _ ed)) hlw
    n12 := ne_of_none upd_same hl2
    n1w := ne_of_none (s3 _ _ upd_same) hlw
    n2w := ne_of_none upd_same hlw }
  have I0 := ((S1.same s2).same s3).same s4
  have lq : (qway os ds π τ).length ≤ 100 := by
    have h1 := wayM_le (π.length + τ.length) os ds π τ
    have h2 := hπ.length_eq
    have h3 := hτ.length_eq
    have := D.lo
    have := D.ld
    rw [List.length_range] at h2 h3
    unfold qway
    omega
  refine while_by (fun σ H' => ∃ (o d : List Int) (one other : List Nat) (ws : List V) (x : Option V), σ = [some v, some (.ref a1), some (.ref a2), some (.ref a), some (.ref l1), some (.ref l2), some (.ref lw), x] ∧
      WI K H H' a dx lo ld l1 l2 lw p q o d one other ws ∧ Good o d one other ∧ ws.length + (wayM (one.length + other.length) o d one other).length = (qway os ds π τ).length)
    (fun _ H' => mu2 l1 l2 H') ?_ ?_ ?_
  · refine ⟨os, ds, π, τ, [], none, rfl, ⟨((s1.trans s2).trans s3).trans s4, I0, s4 _ _ (s3 _ _ upd_same), s4 _ _ upd_same, upd_same, D.ko.bds, D.kd.bds⟩, good_start D.po D.pd D.hs hπ hτ, ?_⟩
    show 0 + _ = _
    rw [Nat.zero_add]
    rfl
  · rintro σ H' ⟨o, d, one, other, ws, x, rfl, I, gd, hl⟩
    refine ⟨_, rfl, l1, _, rfl, .inl (sql I.h1), _, _, rfl, rfl, _, rfl, ?_⟩
    rw [nI_len]
    refine ite2 (fun c => ?_) (fun c => ?_)
    · cases one with
      | nil =>
        have := of_decide_eq_true c
        simp at this
      | cons i one =>
      obtain ⟨j, r, rfl⟩ := gd.more
      have fr0 := gd.front
      have ql := q_len gd
      have hl' : ws.length + ((wayM (one.length + r.length + 1) (payM o d i j).1 (payM o d i j).2 (q1 o d i j one) (q2 o d i j r)).length + 1) = (qway os ds π τ).length := by
        rw [← hl]
        have e : (i :: one).length + (j :: r).length = (one.length + r.length + 1) + 1 := by
          rw [List.length_cons, List.length_cons]
          omega
        rw [e, wayM_cons, List.length_cons]
      refine ⟨_, rfl, l1, _, _, _, rfl, rfl, sql I.h1, at_of (j := 0) rfl rfl, _, rfl, l2, _, _, _, rfl, rfl, sql I.h2, at_of (j := 0) rfl rfl, (by show 2 ≤ sizeLine; decide), fun t ht => ?_⟩
      have I1 := I.same (Same.new (o := .tup [.int (i : Int), .int (j : Int)]) ht)
      have gt : SqT K (upd H' t (.tup [.int (i : Int), .int (j : Int)])) t ([(i : Int), (j : Int)].map V.int) := sqt upd_same
      generalize upd H' t (.tup [.int (i : Int), .int (j : Int)]) = H2 at I1 gt
      refine ⟨_, rfl, a, dx, _, rfl, I1.st.ob, sf_no _ _ (by decide +kernel) (by decide +kernel), _, rfl, a, dx, lo, ld, _, p, q, o, d, i, j, rfl, D.u, I1.st, ⟨t, rfl, gt⟩, ⟨fr0.2.2.1, fr0.2.2.2⟩, ⟨I1.b1, I1.b2⟩, fun x2 H3 kp3 S3 => ?_⟩
      have I3 := I1.gone X kp3 S3
      have gt3 : SqT K H3 t ([(i : Int), (j : Int)].map V.int) := by
        refine Tame.t (fun y ys hy => ?_) gt
        obtain ⟨z1, w1, _⟩ := I1.st.l1
        obtain ⟨z2, w2, _⟩ := I1.st.l2
        rcases hy with hy | ⟨u, hy⟩
        · exact .inl (kp3 _ _ hy (ne_of hy w1 (by intro c; cases c)) (ne_of hy w2 (by intro c; cases c)))
        · exact .inr ⟨u, kp3 _ _ hy (ne_of hy w1 (by intro c; cases c)) (ne_of hy w2 (by intro c; cases c))⟩
      refine ⟨_, rfl, .inl ⟨rfl, _, sql I3.hw⟩, _, rfl, lw, ws, _, rfl, rfl, I3.hw, szt (by omega), ?_⟩
      have I4 := I3.app X (.ref t)
      have gt4 := (Tame.lst (o := .lst (ws ++ [.ref t])) I3.hw).t gt3
      generalize upd H3 lw (.lst (ws ++ [.ref t])) = H4 at I4 gt4
      -- what is left to show behind both tests
      have fin : ∀ (H5 : Hp), WI K H H5 a dx lo ld l1 l2 lw p q (payM o d i j).1 (payM o d i j).2 (q1 o d i j one) (q2 o d i j r) (ws ++ [.ref t]) →
          (∃ (o' d' : List Int) (one' other' : List Nat) (ws' : List V) (x' : Option V), ([some v, some (.ref a1), some (.ref a2), some (.ref a), some (.ref l1), some (.ref l2), some (.ref lw), some (.ref t)] : L2.St) = [some v, some (.ref a1), some (.ref a2), some (.ref a), some (.ref l1), some (.ref l2), some (.ref lw), x'] ∧
            WI K H H5 a dx lo ld l1 l2 lw p q o' d' one' other' ws' ∧ Good o' d' one' other' ∧ ws'.length + (wayM (one'.length + other'.length) o' d' one' other').length = (qway os ds π τ).length) ∧ mu2 l1 l2 H5 < mu2 l1 l2 H' := fun H5 I5 => by
        refine ⟨⟨_, _, _, _, _, _, rfl, I5, gd.pay, ?_⟩, ?_⟩
        · rw [← wayM_fuel _ (one.length + r.length + 1) gd.pay (Nat.le_refl _) ql, List.length_append, List.length_singleton]
          omega
        · rw [mu2_eq I5.h1 I5.h2, mu2_eq I.h1 I.h2, nI_len, nI_len, nI_len, nI_len, List.length_cons, List.length_cons]
          omega
      obtain ⟨xs4, e4, r4⟩ := I4.st.l1
      obtain ⟨ys4, e5, r5⟩ := I4.st.l2
      have lo' : i < (payM o d i j).1.length := by
        show i < (o.set _ _).length
        rw [List.length_set]
        exact fr0.2.2.1
      have ld' : j < (payM o d i j).2.length := by
        show j < (d.set _ _).length
        rw [List.length_set]
        exact fr0.2.2.2
      obtain ⟨y, hy, fy⟩ := frs_at r5 ld'
      have fz : ∀ H5 : Hp, Fr K H5 (.ref (He.ga K "ZERO")) (0, 1) := fun H5 => ⟨_, rfl, T.zero H5⟩
      have zt : ∀ kk : Int, decide (fr p q kk = (0, 1)) = decide (kk = 0) := fun kk => by
        refine decide_eq_decide.mpr ⟨fun h => ?_, fun h => by rw [h, fr_zero D.u]⟩
        rw [← fr_zero D.u] at h
        exact fr_inj D.u h
      refine ⟨_, rfl, a, _, dx, _, _, rfl, I4.st.ob, T.cl_State, T.na_due_left, sf_d _ _, _, rfl, _, _, _, _, rfl, rfl, gt4, rfl, ld, _, _, y, rfl, rfl, sql e5, at_of rfl hy, _, _, fr_dp fy, fr_dp (fz _), dq_shaped _, dq_shaped _, _, rfl, ?_⟩
      rw [dq_eqv, zt]
      -- the second test, wherever the first one leads
      have second : ∀ (H5 : Hp) (oth : List Nat), WI K H H5 a dx lo ld l1 l2 lw p q (payM o d i j).1 (payM o d i j).2 (i :: one) oth (ws ++ [.ref t]) → SqT K H5 t ([(i : Int), (j : Int)].map V.int) →
          ∃ x, ∃ zs, H5 lo = some (.lst zs) ∧ zs[i]? = some x ∧ Fr K H5 x (fr p q ((payM o d i j).1.getD i 0)) := fun H5 oth I5 _ => by
        obtain ⟨zs, w1, r1⟩ := I5.st.l1
        obtain ⟨x, hx, fx⟩ := frs_at r1 lo'
        exact ⟨x, zs, w1, hx, fx⟩
      refine ite2 (fun c1 => ?_) (fun c1 => ?_)
      · have z1 := of_decide_eq_true c1
        have eq2 : q2 o d i j r = r := by
          unfold q2
          rw [if_pos z1]
        refine ⟨_, rfl, .inl ⟨rfl, _, sql I4.h2⟩, l2, _, 0, 0, _, rfl, rfl, I4.h2, by decide, by decide, six0 _, rfl, ?_⟩
        have I5 := I4.pop2 X
        have gt5 := (Tame.lst (o := .lst (((nI (j :: r)).map V.int).eraseIdx 0)) I4.h2).t gt4
        generalize upd H4 l2 (.lst (((nI (j :: r)).map V.int).eraseIdx 0)) = H5 at I5 gt5
        obtain ⟨x, zs, w1, hx, fx⟩ := second H5 _ I5 gt5
        refine ⟨_, rfl, a, _, dx, _, _, rfl, I5.st.ob, T.cl_State, T.na_owed_left, sf_o _ _, _, rfl, _, _, _, _, rfl, rfl, gt5, rfl, lo, _, _, x, rfl, rfl, sql w1, at_of rfl hx, _, _, fr_dp fx, fr_dp (fz _), dq_shaped _, dq_shaped _, _, rfl, ?_⟩
        rw [dq_eqv, zt]
        refine ite2 (fun c2 => ?_) (fun c2 => ?_)
        · have z2 := of_decide_eq_true c2
          have eq1 : q1 o d i j one = one := by
            unfold q1
            rw [if_pos z2]
          refine ⟨_, rfl, .inl ⟨rfl, _, sql I5.h1⟩, l1, _, 0, 0, _, rfl, rfl, I5.h1, by decide, by decide, six0 _, rfl, ?_⟩
          refine fin _ ?_
          rw [eq1, eq2]
          exact I5.pop1 X
        · have z2 : ¬ (payM o d i j).1.getD i 0 = 0 := fun z => c2 (decide_eq_true z)
          have eq1 : q1 o d i j one = i :: one := by
            unfold q1
            rw [if_neg z2]
          refine fin _ ?_
          rw [eq1, eq2]
          exact I5
      · have z1 : ¬ (payM o d i j).2.getD j 0 = 0 := fun z => c1 (decide_eq_true z)
        have eq2 : q2 o d i j r = j :: r := by
          unfold q2
          rw [if_neg z1]
        obtain ⟨x, zs, w1, hx, fx⟩ := second H4 _ I4 gt4
        refine ⟨_, rfl, a, _, dx, _, _, rfl, I4.st.ob, T.cl_State, T.na_owed_left, sf_o _ _, _, rfl, _, _, _, _, rfl, rfl, gt4, rfl, lo, _, _, x, rfl, rfl, sql w1, at_of rfl hx, _, _, fr_dp fx, fr_dp (fz _), dq_shaped _, dq_shaped _, _, rfl, ?_⟩
        rw [dq_eqv, zt]
        refine ite2 (fun c2 => ?_) (fun c2 => ?_)
        · have z2 := of_decide_eq_true c2
          have eq1 : q1 o d i j one = one := by
            unfold q1
            rw [if_pos z2]
          refine ⟨_, rfl, .inl ⟨rfl, _, sql I4.h1⟩, l1, _, 0, 0, _, rfl, rfl, I4.h1, by decide, by decide, six0 _, rfl, ?_⟩
          refine fin _ ?_
          rw [eq1, eq2]
          exact I4.pop1 X
        · have z2 : ¬ (payM o d i j).1.getD i 0 = 0 := fun z => c2 (decide_eq_true z)
          have eq1 : q1 o d i j one = i :: one := by
            unfold q1
            rw [if_neg z2]
          refine fin _ ?_
          rw [eq1, eq2]
          exact I4
    · cases one with
      | cons i one =>
        exact absurd (decide_eq_true (by simp)) c
      | nil =>
        rw [wayM_nil] at hl
        refine ⟨_, rfl, lw, ws, rfl, .inl ⟨sql I.hw, fun t ht => ?_⟩⟩
        exact k t ws _ (I.sm.trans (Same.new ht)) (sqt upd_same) (by simpa using hl)
  · rintro σ H' Q1 Q2 hq ⟨v, e, p1, ys, e1, hs, i, j, e2, e3, kk, e4, q1⟩
    exact ⟨v, e, p1, ys, e1, hs, i, j, e2, e3, kk, e4, hq _ _ q1⟩
end
end K71
namespace K71
open PySem PySem.Spec PyProof.Rows L2
section
variable {P : Program} {w : World} {K : PySem.W.Frag} {mg : Str → Option Value} {base : Heap}
/-! ### orders are judged, queues counted -/
def sp_sorted_numbers (K : PySem.W.Frag) : Sp := fun vs H Q _ => ∃ (v : V) (ns : List Int), vs = [v] ∧ IT K H v ns ∧ ns.length < 64 ∧ ∀ (l : Addr) (ns' : List Int) (H' : Hp), Same H H' → ns'.Perm ns → ns'.Pairwise (· ≤ ·) → H' l = some (.lst (ns'.map V.int)) → Q (.ref l) H'
theorem all_true {ys : List V} (h : ∀ (i : Nat) y, ys[i]? = some y → y = .bl true) : ys = (List.replicate ys.length true).map V.bl := by
  refine list_of_map (by simp) fun i y x hy' hx => ?_
  rw [h i y hy']
  have : x = true := List.eq_of_mem_replicate (List.mem_of_getElem? hx)
  rw [this]
theorem all_rep (n : Nat) : (List.replicate n true).all id = true := List.all_eq_true.mpr fun x hx => by rw [List.eq_of_mem_replicate hx]; rfl
theorem sc_sorted_numbers : FnScope ["things", "item"] ["things"] (defScope s_sorted_numbers) := ⟨rfl, rfl, rfl, by decide +kernel, rfl, by decide +kernel, by decide +kernel⟩
/-- the body of sorted_numbers -/
theorem ok_sorted_numbers {f : Addr} {fd : FuncData} (T : Txt K mg) (F : FnP K "sorted_numbers" "sorted_numbers" s_sorted_numbers f fd)  : FnOk P w K mg base CX0 1 f fd ["things"] (sp_sorted_numbers K) := by
  refine F.ok sc_sorted_numbers (fun vs H Q E h => ?_) (fun cdv A outer s H vs Q E hr h => ⟨_, PSs.nox (pss_one (ps_ret (pe_ifExp (pt_val (pe_callB (cr_all rfl) (by rfl) T.all' (by decide +kernel) (pa_cons (pe_lc (own := [("item", 1)]) (g := gName 1) (tt := tYes) rfl sc_sorted_numbers.nd (pi_tup (pv 0)) (blkOk_by (N := ["things", "item"]) (sc := defScope s_sorted_numbers) (by decide +kernel)) (fun _ _ _ _ _ => pg_name (i := 1) sc_sorted_numbers.nd rfl (Or.inl rfl)) (fun _ _ _ _ _ => pts_nil) (fun _ _ _ _ _ => (pe_callB (isi K) (by rfl) T.isinstance' (by decide +kernel) (pa_cons (pv 1) (pa_cons (pe_bltn (by rfl) T.int' (by decide +kernel) (show RelV (.ty "int") (.type "int") from rfl)) pa_nil))))) pa_nil))) (pe_callB cr_sortedTI (by rfl) T.sorted' (by decide +kernel) (pa_cons (pv 0) pa_nil)) (pe_callTy call_list_of (by rfl) T.list' (by decide +kernel) (pa_cons (pv 0) pa_nil))))), ?_⟩)
  · first | (obtain ⟨_, rfl, _⟩ := h; rfl) | (obtain ⟨_, _, rfl, _⟩ := h; rfl) | (obtain ⟨_, _, _, rfl, _⟩ := h; rfl) | (obtain ⟨_, _, _, _, rfl, _⟩ := h; rfl) | (obtain ⟨_, _, _, _, _, rfl, _⟩ := h; rfl) | (obtain ⟨_, _, _, _, _, _, rfl, _⟩ := h; rfl) | (obtain ⟨_, _, _, _, _, _, _, rfl, _⟩ := h; rfl) | (obtain ⟨_, _, _, _, _, _, _, _, rfl, _⟩ := h; rfl) | (obtain ⟨_, _, _, _, _, _, _, _, _, rfl, _⟩ := h; rfl) | (obtain ⟨_, _, _, _, _, _, _, _, _, _, rfl, _⟩ := h; rfl) | (obtain ⟨_, _, _, _, _, _, _, _, _, _, _, rfl, _⟩ := h; rfl) | (obtain ⟨_, _, _, _, _, _, _, _, _, _, _, _, rfl, _⟩ := h; rfl)
  obtain ⟨v, ns, rfl, ⟨p, rfl, h1⟩, hn, k⟩ := h
  refine ⟨_, rfl, p, rfl, ⟨_, h1⟩, fun D hD => ?_⟩
  refine lc_tupR (K := K) (a := p) (xs := ns.map V.int) (fun i v _ => v = .bl true) (fun _ _ _ _ _ r => r) hD h1 (by rw [List.length_map]; exact szl (by omega)) (fun i x H1 hx e Q' hq => ?_) (fun ys H1 e hD' hl hy => ?_)
  · obtain ⟨n, hn, rfl⟩ := at_map hx
    exact ⟨_, rfl, _, _, _, _, true, rfl, .ty "int", .base (.int n), kit_ty (by decide +kernel), hq _ _ (Same.refl _) rfl⟩
  · rw [all_true hy] at hD'
    refine ⟨D, _, rfl, sql hD', ?_⟩
    rw [all_rep]
    refine ⟨true, rfl, iteT ?_⟩
    refine ⟨_, rfl, p, ns, rfl, e.t h1, hn, fun ns' l hp hs hl => ?_⟩
    exact k l ns' _ (e.trans (Same.new hl)) hp hs upd_same
theorem lt_of_le_nodup {l : List Int} (h1 : l.Pairwise (· ≤ ·)) (h2 : l.Nodup) : l.Pairwise (· < ·) := by
  have h3 : l.Pairwise fun a b => a ≤ b ∧ a ≠ b := List.Pairwise.and h1 h2
  exact h3.imp fun h => by omega
theorem nI_perm {π : List Nat} {n : Nat} (h : π.Perm (List.range n)) : (nI π).Perm (nI (List.range n)) := h.map _
theorem nI_nodup {π : List Nat} (h : π.Nodup) : (nI π).Nodup := by
  unfold nI
  exact List.Pairwise.map _ (fun a b (hab : a ≠ b) => show (a : Int) ≠ (b : Int) by omega) h
def sp_is_order (K : PySem.W.Frag) : Sp := fun vs H Q _ => ∃ (v : V) (n : Nat) (π : List Nat), vs = [.int (n : Int), v] ∧ IT K H v (nI π) ∧ π.Perm (List.range n) ∧ n ≤ 60 ∧ ∀ H', Same H H' → Q (.bl true) H'
theorem sc_is_order : FnScope ["many", "thing"] ["many", "thing"] (defScope s_is_order) := ⟨rfl, rfl, rfl, by decide +kernel, rfl, by decide +kernel, by decide +kernel⟩
/-- the body of is_order -/
theorem ok_is_order {f : Addr} {fd : FuncData} (T : Txt K mg) (F : FnP K "is_order" "is_order" s_is_order f fd) (D_is_lot_below : Dn P w K mg base "is_lot_below" ["thing", "many"] 3 (sp_is_lot_below K)) (D_sorted_numbers : Dn P w K mg base "sorted_numbers" ["things"] 1 (sp_sorted_numbers K)) : FnOk P w K mg base CX0 4 f fd ["many", "thing"] (sp_is_order K) := by
  refine F.ok sc_is_order (fun vs H Q E h => ?_) (fun cdv A outer s H vs Q E hr h => ⟨_, PSs.nox (pss_one (ps_ret (pe_and (pe_callB (isi K) (by rfl) T.isinstance' (by decide +kernel) (pa_cons (pv 1) (pa_cons (pe_bltn (by rfl) T.tuple' (by decide +kernel) (show RelV (.ty "tuple") (.type "tuple") from rfl)) pa_nil))) (pe_and (pe_cmpR op_eq (pe_callB call_len_seq (by rfl) T.len' (by decide +kernel) (pa_cons (pv 1) pa_nil)) (pv 0) (nomark _)) (pe_one (pe_dn D_is_lot_below (hr.mono (by decide)) rfl (pa_cons (pe_callTy call_tuple_of (by rfl) T.tuple' (by decide +kernel) (pa_cons (pe_dn D_sorted_numbers (hr.mono (by decide)) rfl (pa_cons (pv 1) pa_nil)) pa_nil)) (pa_cons (pv 0) pa_nil)))))))), ?_⟩)
  · first | (obtain ⟨_, rfl, _⟩ := h; rfl) | (obtain ⟨_, _, rfl, _⟩ := h; rfl) | (obtain ⟨_, _, _, rfl, _⟩ := h; rfl) | (obtain ⟨_, _, _, _, rfl, _⟩ := h; rfl) | (obtain ⟨_, _, _, _, _, rfl, _⟩ := h; rfl) | (obtain ⟨_, _, _, _, _, _, rfl, _⟩ := h; rfl) | (obtain ⟨_, _, _, _, _, _, _, rfl, _⟩ := h; rfl) | (obtain ⟨_, _, _, _, _, _, _, _, rfl, _⟩ := h; rfl) | (obtain ⟨_, _, _, _, _, _, _, _, _, rfl, _⟩ := h; rfl) | (obtain ⟨_, _, _, _, _, _, _, _, _, _, rfl, _⟩ := h; rfl) | (obtain ⟨_, _, _, _, _, _, _, _, _, _, _, rfl, _⟩ := h; rfl) | (obtain ⟨_, _, _, _, _, _, _, _, _, _, _, _, rfl, _⟩ := h; rfl)
  obtain ⟨v, n, π, rfl, ⟨p, rfl, h1⟩, hp, hn, k⟩ := h
  have hl : π.length = n := by rw [hp.length_eq, List.length_range]
  refine ⟨_, rfl, _, _, _, _, true, rfl, .ty "tuple", ty_tup h1, kit_ty (by decide +kernel), true, rfl, iteT ?_⟩
  refine ⟨_, rfl, p, _, rfl, .inr h1, _, rfl, rfl, true, ?_, iteT ?_⟩
  · rw [nI_len, hl, decide_eq_true rfl]
  · refine ⟨_, rfl, _, nI π, rfl, ⟨p, rfl, h1⟩, by unfold nI; rw [List.length_map]; omega, fun l ns' H1 e hq hs hL => ?_⟩
    refine ⟨l, _, rfl, .inl ⟨sql hL, fun t ht => ?_⟩⟩
    have nd : ns'.Nodup := hq.nodup_iff.mpr (nI_nodup (hp.nodup_iff.mpr List.nodup_range))
    refine ⟨_, rfl, .ref t, ns', (n : Int), rfl, ⟨t, rfl, sqt upd_same⟩, lt_of_le_nodup hs nd, ?_, fun z hz => ?_, fun H2 e2 => k _ ((e.trans (Same.new ht)).trans e2)⟩
    · rw [hq.length_eq]
      unfold nI
      rw [List.length_map]
      omega
    · have hz2 := hq.mem_iff.mp hz
      obtain ⟨i, hi, rfl⟩ := List.mem_map.mp hz2
      have := List.mem_range.mp (hp.mem_iff.mp hi)
      omega
def spOrd (R : Int → Int → List Int → List Int → List Nat → List Nat → Hp → VK → Prop) (K : PySem.W.Frag) : Sp := fun vs H Q _ => ∃ (v v1 v2 : V) (p q : Int) (os ds : List Int) (π τ : List Nat), vs = [v, v1, v2] ∧ EvAt K H v p q os ds ∧ EvD p q os ds ∧ IT K H v1 (nI π) ∧ IT K H v2 (nI τ) ∧ π.Perm (List.range os.length) ∧ τ.Perm (List.range ds.length) ∧ R p q os ds π τ H Q
def sp_check_orders (K : PySem.W.Frag) : Sp := spOrd (fun p q os ds π τ H Q => ∀ H', Same H H' → Q .non H') K
theorem sc_check_orders : FnScope ["evening", "owers", "takers"] ["evening", "owers", "takers"] (defScope s_check_orders) := ⟨rfl, rfl, rfl, by decide +kernel, rfl, by decide +kernel, by decide +kernel⟩
/-- the body of check_orders -/
theorem ok_check_orders {f : Addr} {fd : FuncData} (T : Txt K mg) (F : FnP K "check_orders" "check_orders" s_check_orders f fd) (D_is_order : Dn P w K mg base "is_order" ["many", "thing"] 4 (sp_is_order K)) : FnOk P w K mg base CX0 5 f fd ["evening", "owers", "takers"] (sp_check_orders K) := by
  refine F.ok sc_check_orders (fun vs H Q E h => ?_) (fun cdv A outer s H vs Q E hr h => ⟨_, PSs.nox (pss_one (ps_if (PW.pt (pw_or (pt_not (pt_val (pe_dn D_is_order (hr.mono (by decide)) rfl (pa_cons (pe_callB call_len_seq (by rfl) T.len' (by decide +kernel) (pa_cons (fldK K (pv 0) rfl) pa_nil)) (pa_cons (pv 1) pa_nil))))) (pw_or1 (pt_not (pt_val (pe_dn D_is_order (hr.mono (by decide)) rfl (pa_cons (pe_callB call_len_seq (by rfl) T.len' (by decide +kernel) (pa_cons (fldK K (pv 0) rfl) pa_nil)) (pa_cons (pv 2) pa_nil))))))))
      (pss_one ps_never)
      pss_nil)), ?_⟩)
  · first | (obtain ⟨_, rfl, _⟩ := h; rfl) | (obtain ⟨_, _, rfl, _⟩ := h; rfl) | (obtain ⟨_, _, _, rfl, _⟩ := h; rfl) | (obtain ⟨_, _, _, _, rfl, _⟩ := h; rfl) | (obtain ⟨_, _, _, _, _, rfl, _⟩ := h; rfl) | (obtain ⟨_, _, _, _, _, _, rfl, _⟩ := h; rfl) | (obtain ⟨_, _, _, _, _, _, _, rfl, _⟩ := h; rfl) | (obtain ⟨_, _, _, _, _, _, _, _, rfl, _⟩ := h; rfl) | (obtain ⟨_, _, _, _, _, _, _, _, _, rfl, _⟩ := h; rfl) | (obtain ⟨_, _, _, _, _, _, _, _, _, _, rfl, _⟩ := h; rfl) | (obtain ⟨_, _, _, _, _, _, _, _, _, _, _, rfl, _⟩ := h; rfl) | (obtain ⟨_, _, _, _, _, _, _, _, _, _, _, _, rfl, _⟩ := h; rfl)
  obtain ⟨v, v1, v2, p, q, os, ds, π, τ, rfl, hE, D, h1, h2, hπ, hτ, k⟩ := h
  obtain ⟨a, dx, vo, vd, rfl, hE1, ⟨ao, xo, rfl, ho, r1⟩, ⟨ad, xd, rfl, hd, r2⟩⟩ := id hE
  have l1 : xo.length = os.length := by rw [Paired.length r1, List.length_map]
  have l2 : xd.length = ds.length := by rw [Paired.length r2, List.length_map]
  have b1 := D.lo
  have b2 := D.ld
  refine ⟨_, rfl, a, _, dx, _, _, rfl, hE1, T.cl_Evening, T.na_owed, ef_owed _ _, ao, _, rfl, .inr ho, _, rfl, v1, xo.length, π, rfl, h1, by rw [l1]; exact hπ, by omega, fun H1 e1 => ⟨true, rfl, iteF ?_⟩⟩
  refine ⟨_, rfl, a, _, dx, _, _, rfl, e1 _ _ hE1, T.cl_Evening, T.na_due, ef_due _ _, ad, _, rfl, .inr (e1.t hd), _, rfl, v2, xd.length, τ, rfl, h2.mono e1, by rw [l2]; exact hτ, by omega, fun H2 e2 => ⟨true, rfl, iteF ?_⟩⟩
  exact k _ (e1.trans e2)
def sp_queue_way (K : PySem.W.Frag) : Sp := spOrd (fun p q os ds π τ H Q => ∀ t ws H', Same H H' → SqT K H' t ws → ws.length = (qway os ds π τ).length → Q (.ref t) H') K
theorem sc_queue_way : FnScope ["evening", "owers", "takers"] ["evening", "owers", "takers"] (defScope s_queue_way) := ⟨rfl, rfl, rfl, by decide +kernel, rfl, by decide +kernel, by decide +kernel⟩
/-- the body of queue_way -/
theorem ok_queue_way {f : Addr} {fd : FuncData} (T : Txt K mg) (F : FnP K "queue_way" "queue_way" s_queue_way f fd) (D_check_orders : Dn P w K mg base "check_orders" ["evening", "owers", "takers"] 5 (sp_check_orders K)) (D_way_of_queues : Dn P w K mg base "way_of_queues" ["evening", "owers", "takers"] 5 (sp_way_of_queues K)) : FnOk P w K mg base CX0 6 f fd ["evening", "owers", "takers"] (sp_queue_way K) := by
  refine F.ok sc_queue_way (fun vs H Q E h => ?_) (fun cdv A outer s H vs Q E hr h => ⟨_, PSs.nox (pss_cons (ps_expr (pe_dn D_check_orders (hr.mono (by decide)) rfl (pa_cons (pv 0) (pa_cons (pv 1) (pa_cons (pv 2) pa_nil)))))
    (pss_one (ps_ret (pe_dn D_way_of_queues (hr.mono (by decide)) rfl (pa_cons (pv 0) (pa_cons (pv 1) (pa_cons (pv 2) pa_nil))))))), ?_⟩)
  · first | (obtain ⟨_, rfl, _⟩ := h; rfl) | (obtain ⟨_, _, rfl, _⟩ := h; rfl) | (obtain ⟨_, _, _, rfl, _⟩ := h; rfl) | (obtain ⟨_, _, _, _, rfl, _⟩ := h; rfl) | (obtain ⟨_, _, _, _, _, rfl, _⟩ := h; rfl) | (obtain ⟨_, _, _, _, _, _, rfl, _⟩ := h; rfl) | (obtain ⟨_, _, _, _, _, _, _, rfl, _⟩ := h; rfl) | (obtain ⟨_, _, _, _, _, _, _, _, rfl, _⟩ := h; rfl) | (obtain ⟨_, _, _, _, _, _, _, _, _, rfl, _⟩ := h; rfl) | (obtain ⟨_, _, _, _, _, _, _, _, _, _, rfl, _⟩ := h; rfl) | (obtain ⟨_, _, _, _, _, _, _, _, _, _, _, rfl, _⟩ := h; rfl) | (obtain ⟨_, _, _, _, _, _, _, _, _, _, _, _, rfl, _⟩ := h; rfl)
  obtain ⟨v, v1, v2, p, q, os, ds, π, τ, rfl, hE, D, h1, h2, hπ, hτ, k⟩ := h
  refine ⟨_, rfl, _, rfl, _, rfl, v, v1, v2, p, q, os, ds, π, τ, rfl, hE, D, h1, h2, hπ, hτ, fun H1 e1 => ?_⟩
  exact ⟨_, rfl, _, rfl, _, rfl, v, v1, v2, p, q, os, ds, π, τ, rfl, hE.mono e1, D, h1.mono e1, h2.mono e1, hπ, hτ, fun t ws H2 e2 => k t ws _ (e1.trans e2)⟩
def sp_queue_number (K : PySem.W.Frag) : Sp := spOrd (fun p q os ds π τ H Q => ∀ H', Same H H' → Q (.int ((qway os ds π τ).length : Int)) H') K
theorem sc_queue_number : FnScope ["evening", "owers", "takers"] ["evening", "owers", "takers"] (defScope s_queue_number) := ⟨rfl, rfl, rfl, by decide +kernel, rfl, by decide +kernel, by decide +kernel⟩
/-- the body of queue_number -/
theorem ok_queue_number {f : Addr} {fd : FuncData} (T : Txt K mg) (F : FnP K "queue_number" "queue_number" s_queue_number f fd) (D_queue_way : Dn P w K mg base "queue_way" ["evening", "owers", "takers"] 6 (sp_queue_way K)) : FnOk P w K mg base CX0 7 f fd ["evening", "owers", "takers"] (sp_queue_number K) := by
  refine F.ok sc_queue_number (fun vs H Q E h => ?_) (fun cdv A outer s H vs Q E hr h => ⟨_, PSs.nox (pss_one (ps_ret (pe_callB call_len_seq (by rfl) T.len' (by decide +kernel) (pa_cons (pe_dn D_queue_way (hr.mono (by decide)) rfl (pa_cons (pv 0) (pa_cons (pv 1) (pa_cons (pv 2) pa_nil)))) pa_nil)))), ?_⟩)
  · first | (obtain ⟨_, rfl, _⟩ := h; rfl) | (obtain ⟨_, _, rfl, _⟩ := h; rfl) | (obtain ⟨_, _, _, rfl, _⟩ := h; rfl) | (obtain ⟨_, _, _, _, rfl, _⟩ := h; rfl) | (obtain ⟨_, _, _, _, _, rfl, _⟩ := h; rfl) | (obtain ⟨_, _, _, _, _, _, rfl, _⟩ := h; rfl) | (obtain ⟨_, _, _, _, _, _, _, rfl, _⟩ := h; rfl) | (obtain ⟨_, _, _, _, _, _, _, _, rfl, _⟩ := h; rfl) | (obtain ⟨_, _, _, _, _, _, _, _, _, rfl, _⟩ := h; rfl) | (obtain ⟨_, _, _, _, _, _, _, _, _, _, rfl, _⟩ := h; rfl) | (obtain ⟨_, _, _, _, _, _, _, _, _, _, _, rfl, _⟩ := h; rfl) | (obtain ⟨_, _, _, _, _, _, _, _, _, _, _, _, rfl, _⟩ := h; rfl)
  obtain ⟨v, v1, v2, p, q, os, ds, π, τ, rfl, hE, D, h1, h2, hπ, hτ, k⟩ := h
  refine ⟨_, rfl, _, rfl, _, rfl, v, v1, v2, p, q, os, ds, π, τ, rfl, hE, D, h1, h2, hπ, hτ, fun t ws H1 e1 ht hl => ?_⟩
  refine ⟨t, ws, rfl, .inr ht, ?_⟩
  rw [hl]
  exact k _ e1
end
end K71
/-! Lots: what the people of a lot owe less what they are due. -/
namespace K71
/-- the sum of those that b tells -/
def lsB : List Int → (Nat → Bool) → Int
  | [], _ => 0
  | x :: xs, b => (if b 0 then x else 0) + lsB xs (fun i => b (i + 1))
theorem lsB_congr : ∀ {xs : List Int} {b c : Nat → Bool}, (∀ i, i < xs.length → b i = c i) → lsB xs b = lsB xs c
  | [], _, _, _ => rfl
  | x :: xs, b, c, h => by
    show (if b 0 then x else 0) + _ = (if c 0 then x else 0) + _
    rw [h 0 (by simp), lsB_congr (xs := xs) (c := fun i => c (i + 1)) fun i hi => h (i + 1) (by simp; omega)]
theorem lsB_add : ∀ {xs : List Int} {b : Nat → Bool} {j : Nat}, j < xs.length → b j = false → lsB xs (fun i => b i || decide (i = j)) = lsB xs b + xs.getD j 0
  | [], _, _, h, _ => by simp at h
  | x :: xs, b, 0, _, hb => by
    show (if (b 0 || decide (0 = 0)) then x else 0) + _ = (if b 0 then x else 0) + _ + x
    rw [hb]
    have e : lsB xs (fun i => b (i + 1) || decide (i + 1 = 0)) = lsB xs (fun i => b (i + 1)) := lsB_congr fun i _ => by simp
    rw [e]
    simp
    omega
  | x :: xs, b, j + 1, h, hb => by
    have ih := lsB_add (xs := xs) (b := fun i => b (i + 1)) (j := j) (by simpa using h) hb
    show (if (b 0 || decide (0 = j + 1)) then x else 0) + lsB xs (fun i => b (i + 1) || decide (i + 1 = j + 1)) = (if b 0 then x else 0) + _ + (x :: xs).getD (j + 1) 0
    have e : lsB xs (fun i => b (i + 1) || decide (i + 1 = j + 1)) = lsB xs (fun i => b (i + 1) || decide (i = j)) := lsB_congr fun i _ => by simp
    rw [e, ih]
    simp
    omega
theorem lsB_append : ∀ {xs ys : List Int} {b : Nat → Bool}, lsB (xs ++ ys) b = lsB xs b + lsB ys (fun i => b (xs.length + i))
  | [], ys, b => by
    show lsB ys b = 0 + _
    rw [Int.zero_add]
    exact lsB_congr fun i _ => by simp
  | x :: xs, ys, b => by
    show (if b 0 then x else 0) + lsB (xs ++ ys) _ = (if b 0 then x else 0) + lsB xs _ + _
    rw [lsB_append (xs := xs) (ys := ys), Int.add_assoc]
    congr 2
    refine lsB_congr fun i _ => ?_
    show b (xs.length + i + 1) = b ((x :: xs).length + i)
    rw [List.length_cons]
    congr 1
    omega
theorem lsB_neg : ∀ {xs : List Int} {b : Nat → Bool}, lsB (xs.map fun x => -x) b = - lsB xs b
  | [], _ => rfl
  | x :: xs, b => by
    show (if b 0 then -x else 0) + lsB (xs.map fun x => -x) _ = -((if b 0 then x else 0) + _)
    rw [lsB_neg]
    split <;> omega
theorem lsB_none : ∀ {xs : List Int} {b : Nat → Bool}, (∀ i, i < xs.length → b i = false) → lsB xs b = 0
  | [], _, _ => rfl
  | x :: xs, b, h => by
    show (if b 0 then x else 0) + _ = 0
    rw [h 0 (by simp), lsB_none (xs := xs) fun i hi => h (i + 1) (by simp; omega)]
    rfl
theorem lsB_all : ∀ {xs : List Int} {b : Nat → Bool}, (∀ i, i < xs.length → b i = true) → lsB xs b = xs.sum
  | [], _, _ => rfl
  | x :: xs, b, h => by
    show (if b 0 then x else 0) + _ = _
    rw [h 0 (by simp), lsB_all (xs := xs) fun i hi => h (i + 1) (by simp; omega), List.sum_cons]
    rfl
theorem lsB_bd : ∀ {xs : List Int} {b : Nat → Bool}, PosL xs → 0 ≤ lsB xs b ∧ lsB xs b ≤ xs.sum
  | [], _, _ => by simp [lsB]
  | x :: xs, b, h => by
    have h1 := lsB_bd (xs := xs) (b := fun i => b (i + 1)) h.tail
    have h2 := h.head
    show 0 ≤ (if b 0 then x else 0) + _ ∧ (if b 0 then x else 0) + _ ≤ _
    rw [List.sum_cons]
    split <;> omega
theorem lsB_full : ∀ {xs : List Int} {b : Nat → Bool}, PosL xs → xs.sum ≤ lsB xs b → ∀ i, i < xs.length → b i = true
  | [], _, _, _, i, hi => by simp at hi
  | x :: xs, b, h, hs, i, hi => by
    have h1 := lsB_bd (xs := xs) (b := fun i => b (i + 1)) h.tail
    have h2 := h.head
    have hs' : (x :: xs).sum ≤ (if b 0 then x else 0) + lsB xs (fun i => b (i + 1)) := hs
    rw [List.sum_cons] at hs'
    have b0 : b 0 = true := by
      cases q : b 0 with
      | true => rfl
      | false =>
        rw [q] at hs'
        simp at hs'
        omega
    rw [b0] at hs'
    simp at hs'
    cases i with
    | zero => exact b0
    | succ i => exact lsB_full (xs := xs) (b := fun i => b (i + 1)) h.tail (by omega) i (by simpa using hi)
/-- those that b tells -/
def selB : List Int → (Nat → Bool) → List Int
  | [], _ => []
  | x :: xs, b => (if b 0 then [x] else []) ++ selB xs (fun i => b (i + 1))
theorem selB_sum : ∀ {xs : List Int} {b : Nat → Bool}, (selB xs b).sum = lsB xs b
  | [], _ => rfl
  | x :: xs, b => by
    show ((if b 0 then [x] else []) ++ selB xs _).sum = (if b 0 then x else 0) + _
    rw [List.sum_append, selB_sum]
    split <;> simp
theorem selB_perm : ∀ {xs : List Int} {b : Nat → Bool}, (selB xs b ++ selB xs (fun i => !b i)).Perm xs
  | [], _ => List.Perm.refl _
  | x :: xs, b => by
    have ih := selB_perm (xs := xs) (b := fun i => b (i + 1))
    show (((if b 0 then [x] else []) ++ selB xs (fun i => b (i + 1))) ++ ((if (!b 0) then [x] else []) ++ selB xs (fun i => !b (i + 1)))).Perm (x :: xs)
    cases b 0 with
    | true => exact ih.cons x
    | false =>
      show (selB xs (fun i => b (i + 1)) ++ (x :: selB xs (fun i => !b (i + 1)))).Perm (x :: xs)
      exact List.perm_middle.trans (ih.cons x)
theorem selB_ne : ∀ {xs : List Int} {b : Nat → Bool} {i : Nat}, i < xs.length → b i = true → selB xs b ≠ []
  | [], _, _, h, _ => by simp at h
  | x :: xs, b, 0, _, hb => by
    show ((if b 0 then [x] else []) ++ _) ≠ []
    rw [hb]
    simp
  | x :: xs, b, i + 1, h, hb => by
    have ih := selB_ne (xs := xs) (b := fun i => b (i + 1)) (i := i) (by simpa using h) hb
    show ((if b 0 then [x] else []) ++ _) ≠ []
    intro e
    exact ih (List.append_eq_nil_iff.mp e).2

/-- the gap of a lot -/
def lsum (nums : List Int) (lot : Nat) : Int := lsB nums lot.testBit
def gapsL (nums : List Int) : List Int := (List.range (2 ^ nums.length)).map (lsum nums)
theorem gapsL_nil : gapsL [] = [0] := rfl
theorem gapsL_len (nums : List Int) : (gapsL nums).length = 2 ^ nums.length := by
  unfold gapsL
  rw [List.length_map, List.length_range]
theorem gapsL_at {nums : List Int} {lot : Nat} (h : lot < 2 ^ nums.length) : (gapsL nums)[lot]? = some (lsum nums lot) := by
  unfold gapsL
  rw [List.getElem?_map, List.getElem?_range h]
  rfl
theorem tb_hi {k r i : Nat} (hr : r < 2 ^ k) (hi : i < k) : (2 ^ k + r).testBit i = r.testBit i := by
  rw [Nat.testBit_two_pow_add_gt hi]
theorem tb_top {k r : Nat} (hr : r < 2 ^ k) : (2 ^ k + r).testBit k = true := by
  rw [Nat.testBit_two_pow_add_eq, Nat.testBit_lt_two_pow hr]
  rfl
theorem gapsL_snoc (nums : List Int) (x : Int) : gapsL (nums ++ [x]) = gapsL nums ++ (gapsL nums).map (· + x) := by
  refine List.ext_getElem? fun lot => ?_
  have el : (nums ++ [x]).length = nums.length + 1 := by simp
  have e2 : 2 ^ (nums ++ [x]).length = 2 ^ nums.length + 2 ^ nums.length := by
    rw [el, Nat.pow_succ]
    omega
  have key : lsum (nums ++ [x]) lot = lsum nums lot + (if lot.testBit nums.length then x else 0) := by
    unfold lsum
    rw [lsB_append]
    congr 1
    show (if lot.testBit (nums.length + 0) then x else 0) + 0 = _
    rw [Nat.add_zero, Int.add_zero]
  by_cases c : lot < 2 ^ nums.length
  · rw [gapsL_at (by omega), List.getElem?_append_left (by rw [gapsL_len]; exact c), gapsL_at c, key, Nat.testBit_lt_two_pow c]
    simp
  · by_cases c2 : lot < 2 ^ nums.length + 2 ^ nums.length
    · obtain ⟨r, rfl⟩ : ∃ r, lot = 2 ^ nums.length + r := ⟨lot - 2 ^ nums.length, by omega⟩
      have hr : r < 2 ^ nums.length := by omega
      rw [gapsL_at (by omega), List.getElem?_append_right (by rw [gapsL_len]; omega), gapsL_len, List.getElem?_map, show 2 ^ nums.length + r - 2 ^ nums.length = r by omega, gapsL_at hr, key, tb_top hr]
      show some (lsum nums (2 ^ nums.length + r) + x) = some (lsum nums r + x)
      congr 2
      exact lsB_congr fun i hi => tb_hi hr hi
    · rw [List.getElem?_eq_none (by rw [gapsL_len]; omega), List.getElem?_eq_none (by rw [List.length_append, List.length_map, gapsL_len]; omega)]
theorem tb_or (lot j i : Nat) : (lot ||| 2 ^ j).testBit i = (lot.testBit i || decide (i = j)) := by
  rw [Nat.testBit_or, Nat.testBit_two_pow]
  congr 1
  exact decide_eq_decide.mpr eq_comm
theorem lsum_add {nums : List Int} {lot j : Nat} (hj : j < nums.length) (hb : lot.testBit j = false) : lsum nums (lot ||| 2 ^ j) = lsum nums lot + nums.getD j 0 := by
  have e : lsum nums (lot ||| 2 ^ j) = lsB nums (fun i => lot.testBit i || decide (i = j)) := lsB_congr fun i _ => tb_or lot j i
  rw [e, lsB_add hj hb]
  rfl
theorem lsum_zero (nums : List Int) : lsum nums 0 = 0 := lsB_none fun i _ => Nat.zero_testBit i
theorem or_lt {lot j N : Nat} (h : lot < 2 ^ N) (hj : j < N) : lot ||| 2 ^ j < 2 ^ N := Nat.or_lt_two_pow h (Nat.pow_lt_pow_right (by decide) hj)
theorem or_gt {lot j : Nat} (hb : lot.testBit j = false) : lot < lot ||| 2 ^ j := by
  have h1 : lot ≤ lot ||| 2 ^ j := Nat.left_le_or
  by_cases c : lot = lot ||| 2 ^ j
  · have h2 := tb_or lot j j
    rw [← c, hb] at h2
    simp at h2
  · omega
/-- all bits: everybody -/
theorem all_bits {lot N : Nat} (h : lot < 2 ^ N) (hb : ∀ i, i < N → lot.testBit i = true) : lot = 2 ^ N - 1 := by
  refine Nat.eq_of_testBit_eq fun i => ?_
  rw [Nat.testBit_two_pow_sub_one]
  by_cases c : i < N
  · rw [hb i c, decide_eq_true c]
  · rw [decide_eq_false c]
    exact Nat.testBit_lt_two_pow (Nat.lt_of_lt_of_le h (Nat.pow_le_pow_right (by decide) (by omega)))
end K71
/-! How many joints can follow behind each lot. -/
namespace K71
def one0 (g : Int) : Int := if g = 0 then 1 else 0
/-- how many joints come, g being what the owers are ahead -/
def mergeJ (g : Int) (xs ys : List Int) : Int :=
  if g ≤ 0 then (match xs with
    | [] => 0
    | x :: xs' => one0 (g + x) + mergeJ (g + x) xs' ys) else (match ys with
    | [] => 0
    | y :: ys' => one0 (g - y) + mergeJ (g - y) xs ys')
termination_by xs.length + ys.length
theorem mergeJ_o {g : Int} (h : g ≤ 0) (x : Int) (xs ys : List Int) : mergeJ g (x :: xs) ys = one0 (g + x) + mergeJ (g + x) xs ys := by
  rw [mergeJ.eq_def, if_pos h]
theorem mergeJ_o0 {g : Int} (h : g ≤ 0) (ys : List Int) : mergeJ g [] ys = 0 := by
  rw [mergeJ.eq_def, if_pos h]
theorem mergeJ_t {g : Int} (h : ¬ g ≤ 0) (y : Int) (xs ys : List Int) : mergeJ g xs (y :: ys) = one0 (g - y) + mergeJ (g - y) xs ys := by
  rw [mergeJ.eq_def, if_neg h]
theorem mergeJ_t0 {g : Int} (h : ¬ g ≤ 0) (xs : List Int) : mergeJ g xs [] = 0 := by
  rw [mergeJ.eq_def, if_neg h]
/-- the payments to come -/
def tsteps (g : Int) (xs ys : List Int) : Nat := if 0 < g then steps (g :: xs) ys else if g < 0 then steps xs (-g :: ys) else steps xs ys
theorem merge_steps : ∀ (n : Nat) (g : Int) (xs ys : List Int), xs.length + ys.length = n → PosL xs → PosL ys → g + xs.sum = ys.sum → (tsteps g xs ys : Int) + mergeJ g xs ys = xs.length + ys.length + (if g = 0 then 0 else 1) := by
  intro n
  induction n with
  | zero =>
    intro g xs ys hn px py hs
    have hx : xs = [] := List.eq_nil_of_length_eq_zero (by omega)
    have hy : ys = [] := List.eq_nil_of_length_eq_zero (by omega)
    subst hx hy
    have g0 : g = 0 := by simpa using hs
    subst g0
    rw [mergeJ_o0 (Int.le_refl 0)]
    show ((steps [] [] : Nat) : Int) + 0 = _
    rw [steps_nl]
    simp
  | succ n ih =>
    intro g xs ys hn px py hs
    by_cases hg : g ≤ 0
    · cases xs with
      | nil =>
        have h1 := py.sum_nonneg
        rw [List.sum_nil] at hs
        have g0 : g = 0 := by omega
        cases ys with
        | nil => simp at hn
        | cons y ys =>
          have h2 := py.sum_pos (by simp)
          omega
      | cons x xs =>
        rw [List.sum_cons] at hs
        have hx := px.head
        have e := ih (g + x) xs ys (by simp at hn; omega) px.tail py (by omega)
        rw [mergeJ_o hg, List.length_cons]
        by_cases g0 : g = 0
        · subst g0
          rw [Int.zero_add] at e ⊢
          have e1 : tsteps 0 (x :: xs) ys = tsteps x xs ys := by
            unfold tsteps
            rw [if_neg (by omega), if_neg (by omega), if_pos hx]
          have e2 : one0 x = 0 := if_neg (by omega)
          rw [e1, e2]
          rw [if_neg (show ¬ x = 0 by omega)] at e
          simp
          omega
        · have gn : g < 0 := by omega
          have e1 : tsteps g (x :: xs) ys = tsteps (g + x) xs ys + 1 := by
            unfold tsteps
            rw [if_neg (by omega), if_pos gn, steps]
            by_cases c1 : x < -g
            · rw [if_pos c1, if_neg (by omega), if_pos (by omega)]
              congr 3
              omega
            · rw [if_neg c1]
              by_cases c2 : -g < x
              · rw [if_pos c2, if_pos (by omega)]
                congr 3
                omega
              · rw [if_neg c2, if_neg (by omega), if_neg (by omega)]
          rw [e1, if_neg g0]
          unfold one0
          by_cases c : g + x = 0
          · rw [if_pos c]
            rw [if_pos c] at e
            simp
            omega
          · rw [if_neg c]
            rw [if_neg c] at e
            simp
            omega
    · cases ys with
      | nil =>
        have h1 := px.sum_nonneg
        rw [List.sum_nil] at hs
        omega
      | cons y ys =>
        rw [List.sum_cons] at hs
        have hy := py.head
        have e := ih (g - y) xs ys (by simp at hn; omega) px py.tail (by omega)
        rw [mergeJ_t hg, List.length_cons]
        have e1 : tsteps g xs (y :: ys) = tsteps (g - y) xs ys + 1 := by
          unfold tsteps
          rw [if_pos (by omega), steps]
          by_cases c1 : g < y
          · rw [if_pos c1, if_neg (by omega), if_pos (by omega)]
            congr 3
            omega
          · rw [if_neg c1]
            by_cases c2 : y < g
            · rw [if_pos c2, if_pos (by omega)]
            · rw [if_neg c2, if_neg (by omega), if_neg (by omega)]
        rw [e1, if_neg (show ¬ g = 0 by omega)]
        unfold one0
        by_cases c : g - y = 0
        · rw [if_pos c]
          rw [if_pos c] at e
          simp
          omega
        · rw [if_neg c]
          rw [if_neg c] at e
          simp
          omega
theorem merge_J {xs ys : List Int} (px : PosL xs) (py : PosL ys) (hs : xs.sum = ys.sum) : mergeJ 0 xs ys = J xs ys := by
  have a := merge_steps _ 0 xs ys rfl px py (by omega)
  have b := steps_J _ xs ys rfl px py hs
  have c : tsteps 0 xs ys = steps xs ys := by
    unfold tsteps
    rw [if_neg (by omega), if_neg (by omega)]
  rw [c, if_pos rfl] at a
  omega

/-- the least, the greatest -/
def optL (few : Bool) : List Int → Int
  | [] => 0
  | x :: xs => xs.foldl (fun a y => if few then min a y else max a y) x
theorem opt_mem : ∀ {few : Bool} {xs : List Int} {x : Int}, xs.foldl (fun a y => if few then min a y else max a y) x ∈ x :: xs
  | few, [], x => List.mem_cons_self ..
  | few, y :: xs, x => by
    have ih := opt_mem (few := few) (xs := xs) (x := if few then min x y else max x y)
    rw [List.foldl_cons]
    rcases List.mem_cons.mp ih with e | h
    · rw [e]
      cases few with
      | true =>
        show min x y ∈ _
        rcases Int.le_total x y with h | h
        · rw [Int.min_eq_left h]
          exact List.mem_cons_self ..
        · rw [Int.min_eq_right h]
          exact List.mem_cons_of_mem _ (List.mem_cons_self ..)
      | false =>
        show max x y ∈ _
        rcases Int.le_total x y with h | h
        · rw [Int.max_eq_right h]
          exact List.mem_cons_of_mem _ (List.mem_cons_self ..)
        · rw [Int.max_eq_left h]
          exact List.mem_cons_self ..
    · exact List.mem_cons_of_mem _ (List.mem_cons_of_mem _ h)
theorem optL_mem {few : Bool} {xs : List Int} (h : xs ≠ []) : optL few xs ∈ xs := by
  cases xs with
  | nil => exact absurd rfl h
  | cons x xs => exact opt_mem
theorem opt_le : ∀ {xs : List Int} {x : Int}, ∀ y ∈ x :: xs, xs.foldl (fun a y => if true = true then min a y else max a y) x ≤ y
  | [], x, y, hy => by
    rcases List.mem_cons.mp hy with e | hy
    · rw [e]
      exact Int.le_refl _
    · cases hy
  | z :: xs, x, y, hy => by
    rw [List.foldl_cons]
    have ih := opt_le (xs := xs) (x := min x z)
    have h0 := ih (min x z) (List.mem_cons_self ..)
    rcases List.mem_cons.mp hy with e | hy
    · rw [e]
      exact Int.le_trans h0 (Int.min_le_left ..)
    · rcases List.mem_cons.mp hy with e | hy
      · rw [e]
        exact Int.le_trans h0 (Int.min_le_right ..)
      · exact ih y (List.mem_cons_of_mem _ hy)
theorem opt_ge : ∀ {xs : List Int} {x : Int}, ∀ y ∈ x :: xs, y ≤ xs.foldl (fun a y => if false = true then min a y else max a y) x
  | [], x, y, hy => by
    rcases List.mem_cons.mp hy with e | hy
    · rw [e]
      exact Int.le_refl _
    · cases hy
  | z :: xs, x, y, hy => by
    rw [List.foldl_cons]
    have ih := opt_ge (xs := xs) (x := max x z)
    have h0 := ih (max x z) (List.mem_cons_self ..)
    rcases List.mem_cons.mp hy with e | hy
    · rw [e]
      exact Int.le_trans (Int.le_max_left ..) h0
    · rcases List.mem_cons.mp hy with e | hy
      · rw [e]
        exact Int.le_trans (Int.le_max_right ..) h0
      · exact ih y (List.mem_cons_of_mem _ hy)
theorem optL_le {xs : List Int} {y : Int} (h : y ∈ xs) : optL true xs ≤ y := by
  cases xs with
  | nil => cases h
  | cons x xs => exact opt_le y h
theorem optL_ge {xs : List Int} {y : Int} (h : y ∈ xs) : y ≤ optL false xs := by
  cases xs with
  | nil => cases h
  | cons x xs => exact opt_ge y h
theorem optL_min {xs : List Int} {m : Int} (h : m ∈ xs) (hl : ∀ y ∈ xs, m ≤ y) : m = optL true xs :=
  Int.le_antisymm (hl _ (optL_mem (List.ne_nil_of_mem h))) (optL_le h)
theorem optL_max {xs : List Int} {m : Int} (h : m ∈ xs) (hl : ∀ y ∈ xs, y ≤ m) : m = optL false xs :=
  Int.le_antisymm (optL_ge h) (hl _ (optL_mem (List.ne_nil_of_mem h)))

section
variable (ow du : List Int)
def nums : List Int := ow ++ du.map fun x => -x
def G (lot : Nat) : Int := lsum (nums ow du) lot
def NN : Nat := ow.length + du.length
/-- the first place, and the one behind the last one, of who may come next -/
def fe (lot : Nat) : Nat × Nat := if G ow du lot ≤ 0 then (0, ow.length) else (ow.length, NN ow du)
def placesM (lot : Nat) : List Nat := ((List.range ((fe ow du lot).2 - (fe ow du lot).1)).map ((fe ow du lot).1 + ·)).filter fun pl => !lot.testBit pl
def laterM (lot : Nat) : List Nat := (placesM ow du lot).map fun pl => lot ||| 2 ^ pl
def numL (found : List Int) (lot : Nat) : List Int := (laterM ow du lot).map fun l => found.getD l 0 + one0 (G ow du l)
def stepF (few : Bool) (found : List Int) (lot : Nat) : List Int := if numL ow du found lot = [] then found else found.set lot (optL few (numL ow du found lot))
def folF (few : Bool) : Nat → List Int
  | 0 => List.replicate (2 ^ NN ow du) 0
  | i + 1 => stepF ow du few (folF few i) (2 ^ NN ow du - 1 - 1 - i)
def followM (few : Bool) : List Int := folF ow du few (2 ^ NN ow du - 1)
def val (few : Bool) (lot : Nat) : Int := (followM ow du few).getD lot 0
def goodP (few : Bool) (lot pl : Nat) : Bool := decide (val ow du few (lot ||| 2 ^ pl) + one0 (G ow du (lot ||| 2 ^ pl)) = val ow du few lot)
def ordM (few : Bool) : Nat → Nat → List Nat × List Nat
  | 0, _ => ([], [])
  | k + 1, lot => match (placesM ow du lot).find? (goodP ow du few lot) with
    | none => ([], [])
    | some pl => if pl < ow.length then (pl :: (ordM few k (lot ||| 2 ^ pl)).1, (ordM few k (lot ||| 2 ^ pl)).2) else ((ordM few k (lot ||| 2 ^ pl)).1, (pl - ow.length) :: (ordM few k (lot ||| 2 ^ pl)).2)
end
section
variable {ow du : List Int} {few : Bool}
theorem nums_len : (nums ow du).length = NN ow du := by
  unfold nums NN
  rw [List.length_append, List.length_map]
theorem mem_places {lot pl : Nat} : pl ∈ placesM ow du lot ↔ (lot.testBit pl = false ∧ ((G ow du lot ≤ 0 ∧ pl < ow.length) ∨ (0 < G ow du lot ∧ ow.length ≤ pl ∧ pl < NN ow du))) := by
  unfold placesM fe
  rw [List.mem_filter, List.mem_map]
  by_cases h : G ow du lot ≤ 0
  · rw [if_pos h]
    constructor
    · rintro ⟨⟨i, hi, e⟩, hb⟩
      have hi := List.mem_range.mp hi
      exact ⟨by simpa using hb, .inl ⟨h, by simp at hi e; omega⟩⟩
    · rintro ⟨hb, ⟨_, hp⟩ | ⟨h2, _⟩⟩
      · exact ⟨⟨pl, List.mem_range.mpr (by simpa using hp), by simp⟩, by simp [hb]⟩
      · omega
  · rw [if_neg h]
    constructor
    · rintro ⟨⟨i, hi, e⟩, hb⟩
      have hi := List.mem_range.mp hi
      exact ⟨by simpa using hb, .inr ⟨by omega, by simp at hi e; omega, by simp at hi e; omega⟩⟩
    · rintro ⟨hb, ⟨h2, _⟩ | ⟨_, hp, hq⟩⟩
      · omega
      · exact ⟨⟨pl - ow.length, List.mem_range.mpr (by simp; omega), by simp; omega⟩, by simp [hb]⟩
theorem places_lt {lot pl : Nat} (h : pl ∈ placesM ow du lot) : pl < NN ow du := by
  rcases (mem_places.mp h).2 with ⟨_, h⟩ | ⟨_, _, h⟩
  · unfold NN
    omega
  · exact h
theorem folF_len : ∀ i, (folF ow du few i).length = 2 ^ NN ow du
  | 0 => by
    show (List.replicate _ _).length = _
    rw [List.length_replicate]
  | i + 1 => by
    show (stepF ow du few (folF ow du few i) _).length = _
    unfold stepF
    split
    · exact folF_len i
    · rw [List.length_set]
      exact folF_len i
theorem stepF_other {found : List Int} {lot l : Nat} (h : l ≠ lot) : (stepF ow du few found lot).getD l 0 = found.getD l 0 := by
  unfold stepF
  split
  · rfl
  · rw [List.getD_eq_getElem?_getD, List.getElem?_set_ne h.symm, ← List.getD_eq_getElem?_getD]
theorem numL_congr {f1 f2 : List Int} {lot : Nat} (h : ∀ l, lot < l → f1.getD l 0 = f2.getD l 0) : numL ow du f1 lot = numL ow du f2 lot := by
  unfold numL
  refine List.map_congr_left fun l hl => ?_
  obtain ⟨pl, hp, rfl⟩ := List.mem_map.mp hl
  rw [h _ (or_gt (mem_places.mp hp).1)]
theorem folF_inv : ∀ i, i ≤ 2 ^ NN ow du - 1 → (∀ lot, lot < 2 ^ NN ow du - 1 - i → (folF ow du few i).getD lot 0 = 0) ∧ (folF ow du few i).getD (2 ^ NN ow du - 1) 0 = 0 ∧
    ∀ lot, 2 ^ NN ow du - 1 - i ≤ lot → lot < 2 ^ NN ow du - 1 → (folF ow du few i).getD lot 0 = optL few (numL ow du (folF ow du few i) lot)
  | 0, _ => by
    have z : ∀ lot, (folF ow du few 0).getD lot 0 = 0 := fun lot => by
      show (List.replicate _ 0).getD lot 0 = 0
      rw [List.getD_eq_getElem?_getD, List.getElem?_replicate]
      split <;> rfl
    exact ⟨fun lot _ => z lot, z _, fun lot h1 h2 => by omega⟩
  | i + 1, h => by
    obtain ⟨h1, h2, h3⟩ := folF_inv i (by omega)
    have len := folF_len (ow := ow) (du := du) (few := few) i
    have hE : 0 < 2 ^ NN ow du := Nat.two_pow_pos _
    generalize hlot : 2 ^ NN ow du - 1 - 1 - i = lot0
    have e0 : folF ow du few (i + 1) = stepF ow du few (folF ow du few i) lot0 := by
      show stepF ow du few (folF ow du few i) _ = _
      rw [hlot]
    have other : ∀ l, l ≠ lot0 → (folF ow du few (i + 1)).getD l 0 = (folF ow du few i).getD l 0 := fun l hl => by
      rw [e0]
      exact stepF_other hl
    have cg : ∀ lot, lot0 ≤ lot → numL ow du (folF ow du few (i + 1)) lot = numL ow du (folF ow du few i) lot := fun lot hl => numL_congr fun l hl2 => other l (by omega)
    refine ⟨fun lot hl => ?_, ?_, fun lot hl1 hl2 => ?_⟩
    · rw [other lot (by omega)]
      exact h1 lot (by omega)
    · rw [other _ (by omega)]
      exact h2
    · rw [cg lot (by omega)]
      by_cases c : lot = lot0
      · subst c
        rw [e0]
        unfold stepF
        by_cases q : numL ow du (folF ow du few i) lot = []
        · rw [if_pos q, q, h1 lot (by omega)]
          rfl
        · rw [if_neg q, List.getD_eq_getElem?_getD, List.getElem?_set_self (by omega)]
          rfl
      · rw [other lot c]
        exact h3 lot (by omega) hl2
theorem val_last : val ow du few (2 ^ NN ow du - 1) = 0 := (folF_inv _ (Nat.le_refl _)).2.1
theorem val_eq {lot : Nat} (h : lot < 2 ^ NN ow du - 1) : val ow du few lot = optL few ((laterM ow du lot).map fun l => val ow du few l + one0 (G ow du l)) :=
  (folF_inv (ow := ow) (du := du) (few := few) _ (Nat.le_refl _)).2.2 lot (by omega) h

/-- who is left behind a lot -/
structure Rem (ow du : List Int) (lot : Nat) (π τ : List Nat) : Prop where
  n1 : π.Nodup
  n2 : τ.Nodup
  o : ∀ i, i ∈ π ↔ i < ow.length ∧ lot.testBit i = false
  t : ∀ j, j ∈ τ ↔ j < du.length ∧ lot.testBit (ow.length + j) = false
  lt : lot < 2 ^ NN ow du
section
variable {lot i j : Nat} {π τ : List Nat}
theorem Rem.takeO (r : Rem ow du lot (i :: π) τ) : Rem ow du (lot ||| 2 ^ i) π τ := by
  obtain ⟨a, b⟩ := List.nodup_cons.mp r.n1
  have hi := (r.o i).mp (List.mem_cons_self ..)
  refine ⟨b, r.n2, fun k => ?_, fun k => ?_, or_lt r.lt (by unfold NN; omega)⟩
  · rw [tb_or]
    constructor
    · intro hk
      have h1 := (r.o k).mp (List.mem_cons_of_mem _ hk)
      have ne : k ≠ i := fun e => a (e ▸ hk)
      exact ⟨h1.1, by simp [h1.2, ne]⟩
    · rintro ⟨h1, h2⟩
      simp at h2
      have h3 := (r.o k).mpr ⟨h1, h2.1⟩
      rcases List.mem_cons.mp h3 with e | h3
      · exact absurd e h2.2
      · exact h3
  · rw [tb_or, r.t k]
    have ne : ow.length + k ≠ i := by omega
    simp [ne]
theorem Rem.takeT (r : Rem ow du lot π (j :: τ)) : Rem ow du (lot ||| 2 ^ (ow.length + j)) π τ := by
  obtain ⟨a, b⟩ := List.nodup_cons.mp r.n2
  have hj := (r.t j).mp (List.mem_cons_self ..)
  refine ⟨r.n1, b, fun k => ?_, fun k => ?_, or_lt r.lt (by unfold NN; omega)⟩
  · rw [tb_or, r.o k]
    constructor
    · rintro ⟨h1, h2⟩
      have ne : k ≠ ow.length + j := by omega
      exact ⟨h1, by simp [h2, ne]⟩
    · rintro ⟨h1, h2⟩
      simp at h2
      exact ⟨h1, h2.1⟩
  · rw [tb_or]
    constructor
    · intro hk
      have h1 := (r.t k).mp (List.mem_cons_of_mem _ hk)
      have ne : k ≠ j := fun e => a (e ▸ hk)
      exact ⟨h1.1, by simp [h1.2, ne]⟩
    · rintro ⟨h1, h2⟩
      simp at h2
      have h3 := (r.t k).mpr ⟨h1, h2.1⟩
      rcases List.mem_cons.mp h3 with e | h3
      · exact absurd e h2.2
      · exact h3
theorem Rem.takeO' (hl : lot < 2 ^ NN ow du) (h1 : i < ow.length) (h2 : lot.testBit i = false) (r : Rem ow du (lot ||| 2 ^ i) π τ) : Rem ow du lot (i :: π) τ := by
  refine ⟨List.nodup_cons.mpr ⟨fun h => ?_, r.n1⟩, r.n2, fun k => ?_, fun k => ?_, hl⟩
  · have := ((r.o i).mp h).2
    rw [tb_or] at this
    simp at this
  · rw [List.mem_cons, r.o k, tb_or]
    constructor
    · rintro (e | ⟨h3, h4⟩)
      · rw [e]
        exact ⟨h1, h2⟩
      · simp at h4
        exact ⟨h3, h4.1⟩
    · rintro ⟨h3, h4⟩
      by_cases e : k = i
      · exact .inl e
      · exact .inr ⟨h3, by simp [h4, e]⟩
  · rw [r.t k, tb_or]
    have ne : ow.length + k ≠ i := by omega
    simp [ne]
theorem Rem.takeT' (hl : lot < 2 ^ NN ow du) (h1 : j < du.length) (h2 : lot.testBit (ow.length + j) = false) (r : Rem ow du (lot ||| 2 ^ (ow.length + j)) π τ) : Rem ow du lot π (j :: τ) := by
  refine ⟨r.n1, List.nodup_cons.mpr ⟨fun h => ?_, r.n2⟩, fun k => ?_, fun k => ?_, hl⟩
  · have := ((r.t j).mp h).2
    rw [tb_or] at this
    simp at this
  · rw [r.o k, tb_or]
    constructor
    · rintro ⟨h3, h4⟩
      simp at h4
      exact ⟨h3, h4.1⟩
    · rintro ⟨h3, h4⟩
      have ne : k ≠ ow.length + j := by omega
      exact ⟨h3, by simp [h4, ne]⟩
  · rw [List.mem_cons, r.t k, tb_or]
    constructor
    · rintro (e | ⟨h3, h4⟩)
      · rw [e]
        exact ⟨h1, h2⟩
      · simp at h4
        exact ⟨h3, h4.1⟩
    · rintro ⟨h3, h4⟩
      by_cases e : k = j
      · exact .inl e
      · exact .inr ⟨h3, by simp [h4, e]⟩
end
theorem G_ow {lot i : Nat} (h1 : i < ow.length) (h2 : lot.testBit i = false) : G ow du (lot ||| 2 ^ i) = G ow du lot + ow.getD i 0 := by
  unfold G
  rw [lsum_add (by rw [nums_len]; unfold NN; omega) h2]
  congr 1
  unfold nums
  rw [List.getD_eq_getElem?_getD, List.getElem?_append_left h1, ← List.getD_eq_getElem?_getD]
theorem G_tk {lot j : Nat} (h1 : j < du.length) (h2 : lot.testBit (ow.length + j) = false) : G ow du (lot ||| 2 ^ (ow.length + j)) = G ow du lot - du.getD j 0 := by
  unfold G
  rw [lsum_add (by rw [nums_len]; unfold NN; omega) h2, Int.sub_eq_add_neg]
  congr 1
  unfold nums
  rw [List.getD_eq_getElem?_getD, List.getElem?_append_right (by omega), show ow.length + j - ow.length = j by omega, List.getElem?_map, List.getD_eq_getElem?_getD, List.getElem?_eq_getElem h1]
  rfl
/-- no order has fewer joints than the least number tells, nor more than the greatest -/
theorem val_bounds : ∀ (k : Nat) {lot : Nat} {π τ : List Nat}, π.length + τ.length = k → Rem ow du lot π τ →
    val ow du true lot ≤ mergeJ (G ow du lot) (pick ow π) (pick du τ) ∧ mergeJ (G ow du lot) (pick ow π) (pick du τ) ≤ val ow du false lot := by
  intro k
  induction k with
  | zero =>
    intro lot π τ hk r
    have hx : π = [] := List.eq_nil_of_length_eq_zero (by omega)
    have hy : τ = [] := List.eq_nil_of_length_eq_zero (by omega)
    subst hx hy
    have hE : lot = 2 ^ NN ow du - 1 := by
      refine all_bits r.lt fun i hi => ?_
      cases q : lot.testBit i with
      | true => rfl
      | false =>
        by_cases c : i < ow.length
        · have := (r.o i).mpr ⟨c, q⟩
          cases this
        · have := (r.t (i - ow.length)).mpr ⟨by unfold NN at hi; omega, by rw [show ow.length + (i - ow.length) = i by omega]; exact q⟩
          cases this
    have hm : mergeJ (G ow du lot) (pick ow []) (pick du []) = 0 := by
      show mergeJ _ [] [] = 0
      by_cases c : G ow du lot ≤ 0
      · exact mergeJ_o0 c _
      · exact mergeJ_t0 c _
    rw [hm, hE, val_last, val_last]
    omega
  | succ k ih =>
    intro lot π τ hk r
    have hlt : lot < 2 ^ NN ow du - 1 := by
      have h1 := r.lt
      by_cases c : lot = 2 ^ NN ow du - 1
      · have hb : ∀ i, i < NN ow du → lot.testBit i = true := fun i hi => by
          rw [c, Nat.testBit_two_pow_sub_one, decide_eq_true hi]
        cases π with
        | cons i π =>
          have h2 := (r.o i).mp (List.mem_cons_self ..)
          rw [hb i (by unfold NN; omega)] at h2
          cases h2.2
        | nil =>
          cases τ with
          | nil => simp at hk
          | cons j τ =>
            have h2 := (r.t j).mp (List.mem_cons_self ..)
            rw [hb _ (by unfold NN; omega)] at h2
            cases h2.2
      · omega
    -- one more place
    have key : ∀ (pl : Nat) (v : Int), pl ∈ placesM ow du lot → val ow du true (lot ||| 2 ^ pl) ≤ v → v ≤ val ow du false (lot ||| 2 ^ pl) →
        val ow du true lot ≤ one0 (G ow du (lot ||| 2 ^ pl)) + v ∧ one0 (G ow du (lot ||| 2 ^ pl)) + v ≤ val ow du false lot := fun pl v hp h1 h2 => by
      have m1 : ∀ few, val ow du few (lot ||| 2 ^ pl) + one0 (G ow du (lot ||| 2 ^ pl)) ∈ (laterM ow du lot).map fun l => val ow du few l + one0 (G ow du l) := fun few => List.mem_map.mpr ⟨_, List.mem_map.mpr ⟨pl, hp, rfl⟩, rfl⟩
      have a := optL_le (m1 true)
      have b := optL_ge (m1 false)
      rw [← val_eq hlt] at a b
      omega
    -- no place: nothing more
    have none : placesM ow du lot = [] → ∀ few, val ow du few lot = 0 := fun hn few => by
      rw [val_eq hlt]
      unfold laterM
      rw [hn]
      rfl
    by_cases hg : G ow du lot ≤ 0
    · cases π with
      | nil =>
        have hn : placesM ow du lot = [] := by
          refine List.eq_nil_iff_forall_not_mem.mpr fun pl hp => ?_
          obtain ⟨hb, ⟨_, h1⟩ | ⟨h1, _⟩⟩ := mem_places.mp hp
          · have := (r.o pl).mpr ⟨h1, hb⟩
            cases this
          · omega
        show _ ≤ mergeJ _ [] _ ∧ mergeJ _ [] _ ≤ _
        rw [mergeJ_o0 hg, none hn, none hn]
        omega
      | cons i π =>
        have hi := (r.o i).mp (List.mem_cons_self ..)
        have hp : i ∈ placesM ow du lot := mem_places.mpr ⟨hi.2, .inl ⟨hg, hi.1⟩⟩
        obtain ⟨a, b⟩ := ih (by simp at hk; omega) r.takeO
        rw [pick_cons, mergeJ_o hg, ← G_ow hi.1 hi.2]
        exact key i _ hp a b
    · cases τ with
      | nil =>
        have hn : placesM ow du lot = [] := by
          refine List.eq_nil_iff_forall_not_mem.mpr fun pl hp => ?_
          obtain ⟨hb, ⟨h1, _⟩ | ⟨_, h1, h2⟩⟩ := mem_places.mp hp
          · omega
          · have := (r.t (pl - ow.length)).mpr ⟨by unfold NN at h2; omega, by rw [show ow.length + (pl - ow.length) = pl by omega]; exact hb⟩
            cases this
        show _ ≤ mergeJ _ _ [] ∧ mergeJ _ _ [] ≤ _
        rw [mergeJ_t0 hg, none hn, none hn]
        omega
      | cons j τ =>
        have hj := (r.t j).mp (List.mem_cons_self ..)
        have hp : ow.length + j ∈ placesM ow du lot := mem_places.mpr ⟨hj.2, .inr ⟨by omega, by omega, by unfold NN; omega⟩⟩
        obtain ⟨a, b⟩ := ih (by simp at hk; omega) r.takeT
        rw [pick_cons, mergeJ_t hg, ← G_tk hj.1 hj.2]
        exact key _ _ hp a b
/-- somebody may come next, unless all have come -/
theorem places_ne (po : PosL ow) (pd : PosL du) (hs : ow.sum = du.sum) {lot : Nat} (h : lot < 2 ^ NN ow du) (hE : lot ≠ 2 ^ NN ow du - 1) : placesM ow du lot ≠ [] := by
  intro hn
  have no : ∀ pl, pl ∉ placesM ow du lot := List.eq_nil_iff_forall_not_mem.mp hn
  have eg : G ow du lot = lsB ow lot.testBit - lsB du (fun i => lot.testBit (ow.length + i)) := by
    unfold G lsum nums
    rw [lsB_append, lsB_neg, Int.sub_eq_add_neg]
  by_cases hg : G ow du lot ≤ 0
  · have ho : ∀ i, i < ow.length → lot.testBit i = true := fun i hi => by
      cases q : lot.testBit i with
      | true => rfl
      | false => exact absurd (mem_places.mpr ⟨q, .inl ⟨hg, hi⟩⟩) (no i)
    rw [lsB_all ho] at eg
    have ht := lsB_full (b := fun i => lot.testBit (ow.length + i)) pd (by omega)
    refine hE (all_bits h fun i hi => ?_)
    by_cases c : i < ow.length
    · exact ho i c
    · have := ht (i - ow.length) (by unfold NN at hi; omega)
      rw [show ow.length + (i - ow.length) = i by omega] at this
      exact this
  · have ht : ∀ j, j < du.length → lot.testBit (ow.length + j) = true := fun j hj => by
      cases q : lot.testBit (ow.length + j) with
      | true => rfl
      | false => exact absurd (mem_places.mpr ⟨q, .inr ⟨by omega, by omega, by unfold NN; omega⟩⟩) (no _)
    have e2 : lsB du (fun i => lot.testBit (ow.length + i)) = du.sum := lsB_all ht
    have := lsB_bd (b := lot.testBit) po
    omega
theorem find_some (po : PosL ow) (pd : PosL du) (hs : ow.sum = du.sum) {lot : Nat} (h : lot < 2 ^ NN ow du) (hE : lot ≠ 2 ^ NN ow du - 1) : ∃ pl, (placesM ow du lot).find? (goodP ow du few lot) = some pl := by
  have hlt : lot < 2 ^ NN ow du - 1 := by omega
  have ne := places_ne po pd hs h hE
  have m := optL_mem (few := few) (xs := (laterM ow du lot).map fun l => val ow du few l + one0 (G ow du l)) (by
    unfold laterM
    simpa using ne)
  rw [← val_eq hlt] at m
  obtain ⟨l, hl, e⟩ := List.mem_map.mp m
  obtain ⟨pl, hp, rfl⟩ := List.mem_map.mp hl
  cases q : (placesM ow du lot).find? (goodP ow du few lot) with
  | some pl => exact ⟨pl, rfl⟩
  | none =>
    have := List.find?_eq_none.mp q pl hp
    exact absurd (decide_eq_true e) this
theorem ordM_ok (po : PosL ow) (pd : PosL du) (hs : ow.sum = du.sum) : ∀ (k : Nat) {lot : Nat}, lot < 2 ^ NN ow du → 2 ^ NN ow du - 1 - lot ≤ k →
    Rem ow du lot (ordM ow du few k lot).1 (ordM ow du few k lot).2 ∧ mergeJ (G ow du lot) (pick ow (ordM ow du few k lot).1) (pick du (ordM ow du few k lot).2) = val ow du few lot := by
  have last : Rem ow du (2 ^ NN ow du - 1) [] [] ∧ mergeJ (G ow du (2 ^ NN ow du - 1)) (pick ow []) (pick du []) = val ow du few (2 ^ NN ow du - 1) := by
    have hb : ∀ i, i < NN ow du → (2 ^ NN ow du - 1).testBit i = true := fun i hi => by
      rw [Nat.testBit_two_pow_sub_one, decide_eq_true hi]
    refine ⟨⟨List.nodup_nil, List.nodup_nil, fun i => ?_, fun j => ?_, by have := Nat.two_pow_pos (NN ow du); omega⟩, ?_⟩
    · constructor
      · intro h
        cases h
      · rintro ⟨h1, h2⟩
        rw [hb i (by unfold NN; omega)] at h2
        cases h2
    · constructor
      · intro h
        cases h
      · rintro ⟨h1, h2⟩
        rw [hb _ (by unfold NN; omega)] at h2
        cases h2
    · rw [val_last]
      show mergeJ _ [] [] = 0
      by_cases c : G ow du (2 ^ NN ow du - 1) ≤ 0
      · exact mergeJ_o0 c _
      · exact mergeJ_t0 c _
  intro k
  induction k with
  | zero =>
    intro lot h hk
    have e : lot = 2 ^ NN ow du - 1 := by omega
    rw [e]
    exact last
  | succ k ih =>
    intro lot h hk
    by_cases hE : lot = 2 ^ NN ow du - 1
    · have hn : (placesM ow du lot).find? (goodP ow du few lot) = none := by
        refine List.find?_eq_none.mpr fun pl hp => ?_
        have h1 := (mem_places.mp hp).1
        rw [hE, Nat.testBit_two_pow_sub_one, decide_eq_true (places_lt hp)] at h1
        cases h1
      have e : ordM ow du few (k + 1) lot = ([], []) := by
        show (match (placesM ow du lot).find? (goodP ow du few lot) with
          | none => ([], [])
          | some pl => _) = _
        rw [hn]
      rw [e, hE]
      exact last
    · obtain ⟨pl, hf⟩ := find_some (few := few) po pd hs h hE
      have hg := List.find?_some hf
      have hp := List.mem_of_find?_eq_some hf
      have hv : val ow du few (lot ||| 2 ^ pl) + one0 (G ow du (lot ||| 2 ^ pl)) = val ow du few lot := of_decide_eq_true hg
      have hgt := or_gt (mem_places.mp hp).1
      obtain ⟨r, hm⟩ := ih (lot := lot ||| 2 ^ pl) (or_lt h (places_lt hp)) (by omega)
      have e : ordM ow du few (k + 1) lot = if pl < ow.length then (pl :: (ordM ow du few k (lot ||| 2 ^ pl)).1, (ordM ow du few k (lot ||| 2 ^ pl)).2) else ((ordM ow du few k (lot ||| 2 ^ pl)).1, (pl - ow.length) :: (ordM ow du few k (lot ||| 2 ^ pl)).2) := by
        show (match (placesM ow du lot).find? (goodP ow du few lot) with
          | none => ([], [])
          | some pl => _) = _
        rw [hf]
      rw [e]
      obtain ⟨hb, ⟨h1, h2⟩ | ⟨h1, h2, h3⟩⟩ := mem_places.mp hp
      · rw [if_pos h2]
        refine ⟨Rem.takeO' h h2 hb r, ?_⟩
        show mergeJ _ (pick ow (pl :: _)) _ = _
        rw [pick_cons, mergeJ_o h1, ← G_ow h2 hb, hm]
        omega
      · rw [if_neg (by omega)]
        have e2 : ow.length + (pl - ow.length) = pl := by omega
        have h4 : pl - ow.length < du.length := by
          unfold NN at h3
          omega
        refine ⟨Rem.takeT' h h4 (by rw [e2]; exact hb) (by rw [e2]; exact r), ?_⟩
        show mergeJ _ _ (pick du ((pl - ow.length) :: _)) = _
        have e3 := G_tk (ow := ow) (du := du) (lot := lot) h4 (by rw [e2]; exact hb)
        rw [e2] at e3
        rw [pick_cons, mergeJ_t (by omega), ← e3, hm]
        omega
theorem perm_range {π : List Nat} {n : Nat} (nd : π.Nodup) (h : ∀ i, i ∈ π ↔ i < n) : π.Perm (List.range n) := by
  rw [List.perm_iff_count]
  intro a
  by_cases c : a ∈ π
  · rw [List.Nodup.count nd, List.Nodup.count List.nodup_range]
    have := List.mem_range.mpr ((h a).mp c)
    simp [c, (h a).mp c]
  · have : a ∉ List.range n := fun hr => c ((h a).mpr (List.mem_range.mp hr))
    rw [List.count_eq_zero_of_not_mem c, List.count_eq_zero_of_not_mem this]
theorem rem_start {π τ : List Nat} : Rem ow du 0 π τ ↔ π.Perm (List.range ow.length) ∧ τ.Perm (List.range du.length) := by
  constructor
  · intro r
    exact ⟨perm_range r.n1 fun i => by rw [r.o i]; simp, perm_range r.n2 fun i => by rw [r.t i]; simp⟩
  · rintro ⟨h1, h2⟩
    refine ⟨h1.nodup_iff.mpr List.nodup_range, h2.nodup_iff.mpr List.nodup_range, fun i => ?_, fun i => ?_, Nat.two_pow_pos _⟩
    · rw [h1.mem_iff, List.mem_range]
      simp
    · rw [h2.mem_iff, List.mem_range]
      simp
end
end K71
/-! What unlike_queues tells. -/
namespace K71
/-- what the program tells: None, or two pairs of orders -/
def unlikeM (os ds : List Int) : Option ((List Nat × List Nat) × (List Nat × List Nat)) :=
  if (fitsB os ds || fitsB ds os) = true then none
  else if val (wh os ds os) (wh os ds ds) true 0 = val (wh os ds os) (wh os ds ds) false 0 then none
  else some (ordM (wh os ds os) (wh os ds ds) false (2 ^ NN (wh os ds os) (wh os ds ds)) 0, ordM (wh os ds os) (wh os ds ds) true (2 ^ NN (wh os ds os) (wh os ds ds)) 0)
section
variable {p q : Int} {os ds : List Int}
theorem wh_back {ks : List Int} (D : EvD p q os ds) (h : ∀ k ∈ ks, k ∈ os ++ ds) : ks = (wh os ds ks).map (gE os ds * ·) := by
  unfold wh
  rw [List.map_map]
  have e : ks.map ((gE os ds * ·) ∘ (· / gE os ds)) = ks.map id := List.map_congr_left fun k hk => by
    show gE os ds * (k / gE os ds) = k
    exact Int.mul_ediv_cancel' (gcdL_dvd (h k hk))
  rw [e, List.map_id]
theorem wh_len (ks : List Int) : (wh os ds ks).length = ks.length := by
  unfold wh
  rw [List.length_map]
theorem wh_pos {ks : List Int} (D : EvD p q os ds) (h : ∀ k ∈ ks, k ∈ os ++ ds) : PosL (wh os ds ks) := fun z hz => by
  unfold wh at hz
  obtain ⟨k, hk, rfl⟩ := List.mem_map.mp hz
  have h1 := D.pos k (h k hk)
  obtain ⟨c, hc⟩ := gcdL_dvd (h k hk)
  have hg := D.g.1
  have e : k = gE os ds * c := hc
  rw [e, Int.mul_ediv_cancel_left c (by omega)]
  by_cases c0 : 0 < c
  · exact c0
  · have : gE os ds * c ≤ 0 := Int.mul_nonpos_of_nonneg_of_nonpos (by omega) (by omega)
    omega
theorem sum_scale (g : Int) : ∀ ks : List Int, (ks.map (g * ·)).sum = g * ks.sum
  | [] => by simp
  | k :: ks => by
    rw [List.map_cons, List.sum_cons, List.sum_cons, sum_scale g ks, Int.mul_add]
theorem mo {k : Int} (h : k ∈ os) : k ∈ os ++ ds := List.mem_append_left _ h
theorem md {k : Int} (h : k ∈ ds) : k ∈ os ++ ds := List.mem_append_right _ h
theorem wh_sum (D : EvD p q os ds) : (wh os ds os).sum = (wh os ds ds).sum := by
  have h1 := congrArg List.sum (wh_back D (ks := os) fun k h => mo h)
  have h2 := congrArg List.sum (wh_back D (ks := ds) fun k h => md h)
  rw [sum_scale] at h1 h2
  rw [D.hs, h2] at h1
  exact (Int.eq_of_mul_eq_mul_left (by have := D.g.1; omega) h1).symm
theorem pick_scale {g : Int} {ks : List Int} {π : List Nat} : pick (ks.map (g * ·)) π = (pick ks π).map (g * ·) := by
  unfold pick
  rw [List.map_map]
  refine List.map_congr_left fun i _ => ?_
  show (ks.map (g * ·)).getD i 0 = g * ks.getD i 0
  rw [List.getD_eq_getElem?_getD, List.getD_eq_getElem?_getD, List.getElem?_map]
  cases ks[i]? with
  | none => simp
  | some k => rfl
theorem J_wh (D : EvD p q os ds) (π τ : List Nat) : J (pick os π) (pick ds τ) = J (pick (wh os ds os) π) (pick (wh os ds ds) τ) := by
  have h1 := wh_back D (ks := os) fun k h => mo h
  have h2 := wh_back D (ks := ds) fun k h => md h
  have e1 : pick os π = (pick (wh os ds os) π).map (gE os ds * ·) := by
    rw [← pick_scale, ← h1]
  have e2 : pick ds τ = (pick (wh os ds ds) τ).map (gE os ds * ·) := by
    rw [← pick_scale, ← h2]
  rw [e1, e2, J_scale D.g.1]
variable {π τ π' τ' : List Nat}
theorem val_J (D : EvD p q os ds) (hπ : π.Perm (List.range os.length)) (hτ : τ.Perm (List.range ds.length)) :
    val (wh os ds os) (wh os ds ds) true 0 ≤ J (pick os π) (pick ds τ) ∧ (J (pick os π) (pick ds τ) : Int) ≤ val (wh os ds os) (wh os ds ds) false 0 := by
  have po := wh_pos D (ks := os) fun k h => mo h
  have pd := wh_pos D (ks := ds) fun k h => md h
  have r : Rem (wh os ds os) (wh os ds ds) 0 π τ := rem_start.mpr ⟨by rw [wh_len]; exact hπ, by rw [wh_len]; exact hτ⟩
  have h := val_bounds _ rfl r
  have g := good_start po pd (wh_sum D) (rem_start.mp r).1 (rem_start.mp r).2
  have e0 : G (wh os ds os) (wh os ds ds) 0 = 0 := lsum_zero _
  rw [e0, merge_J g.p1 g.p2 g.hs, ← J_wh D] at h
  exact h
/-- None: all orders have equally many -/
theorem told_none (D : EvD p q os ds) (h : unlikeM os ds = none) (hπ : π.Perm (List.range os.length)) (hτ : τ.Perm (List.range ds.length)) (hπ' : π'.Perm (List.range os.length)) (hτ' : τ'.Perm (List.range ds.length)) :
    J (pick os π) (pick ds τ) = J (pick os π') (pick ds τ') := by
  unfold unlikeM at h
  by_cases c : (fitsB os ds || fitsB ds os) = true
  · have f : Fits ds os ∨ Fits os ds := by
      rcases Bool.or_eq_true_iff.mp c with c | c
      · exact .inr (fitsB_iff c)
      · exact .inl (fitsB_iff c)
    exact fits_const D.po D.pd D.hs D.no D.nd f (pick_perm hπ) (pick_perm hπ') (pick_perm hτ) (pick_perm hτ')
  · rw [if_neg c] at h
    by_cases c2 : val (wh os ds os) (wh os ds ds) true 0 = val (wh os ds os) (wh os ds ds) false 0
    · have a := val_J D hπ hτ
      have b := val_J D hπ' hτ'
      omega
    · rw [if_neg c2] at h
      cases h
theorem none_len (D : EvD p q os ds) (h : unlikeM os ds = none) (hπ : π.Perm (List.range os.length)) (hτ : τ.Perm (List.range ds.length)) (hπ' : π'.Perm (List.range os.length)) (hτ' : τ'.Perm (List.range ds.length)) :
    (qway os ds π τ).length = (qway os ds π' τ').length := by
  have a := qway_J D.po D.pd D.hs hπ hτ
  have b := qway_J D.po D.pd D.hs hπ' hτ'
  have c := told_none D h hπ hτ hπ' hτ'
  omega
/-- a pair: two pairs of orders whose ways have unlike numbers of payments -/
theorem told_some (D : EvD p q os ds) {r1 r2 : List Nat × List Nat} (h : unlikeM os ds = some (r1, r2)) :
    (r1.1.Perm (List.range os.length) ∧ r1.2.Perm (List.range ds.length)) ∧ (r2.1.Perm (List.range os.length) ∧ r2.2.Perm (List.range ds.length)) ∧ (qway os ds r1.1 r1.2).length ≠ (qway os ds r2.1 r2.2).length := by
  unfold unlikeM at h
  by_cases c : (fitsB os ds || fitsB ds os) = true
  · rw [if_pos c] at h
    cases h
  · rw [if_neg c] at h
    by_cases c2 : val (wh os ds os) (wh os ds ds) true 0 = val (wh os ds os) (wh os ds ds) false 0
    · rw [if_pos c2] at h
      cases h
    · rw [if_neg c2] at h
      have h := Option.some.inj h
      obtain ⟨e1, e2⟩ := Prod.mk.inj h
      have po := wh_pos D (ks := os) fun k h => mo h
      have pd := wh_pos D (ks := ds) fun k h => md h
      have key : ∀ few, ((ordM (wh os ds os) (wh os ds ds) few (2 ^ NN (wh os ds os) (wh os ds ds)) 0).1.Perm (List.range os.length) ∧ (ordM (wh os ds os) (wh os ds ds) few (2 ^ NN (wh os ds os) (wh os ds ds)) 0).2.Perm (List.range ds.length)) ∧
          (J (pick os (ordM (wh os ds os) (wh os ds ds) few (2 ^ NN (wh os ds os) (wh os ds ds)) 0).1) (pick ds (ordM (wh os ds os) (wh os ds ds) few (2 ^ NN (wh os ds os) (wh os ds ds)) 0).2) : Int) = val (wh os ds os) (wh os ds ds) few 0 := fun few => by
        obtain ⟨r, hm⟩ := ordM_ok (few := few) po pd (wh_sum D) (2 ^ NN (wh os ds os) (wh os ds ds)) (lot := 0) (Nat.two_pow_pos _) (by have := Nat.two_pow_pos (NN (wh os ds os) (wh os ds ds)); omega)
        have r' := rem_start.mp r
        have g := good_start po pd (wh_sum D) r'.1 r'.2
        have e0 : G (wh os ds os) (wh os ds ds) 0 = 0 := lsum_zero _
        rw [e0, merge_J g.p1 g.p2 g.hs, ← J_wh D] at hm
        rw [wh_len, wh_len] at r'
        exact ⟨r', hm⟩
      obtain ⟨k1, j1⟩ := key false
      obtain ⟨k2, j2⟩ := key true
      rw [e1] at k1 j1
      rw [e2] at k2 j2
      refine ⟨k1, k2, fun e => ?_⟩
      have a := qway_J D.po D.pd D.hs k1.1 k1.2
      have b := qway_J D.po D.pd D.hs k2.1 k2.2
      omega
/-- None without a unit: no lot but all is even -/
theorem told_part {I0 I1 J0 J1 : List Int} (D : EvD p q os ds) (h : unlikeM os ds = none) (P : Part os ds I0 I1 J0 J1) : fitsB os ds = true ∨ fitsB ds os = true := by
  have k : Const os ds (J os ds) := fun xs ys hx hy => by
    obtain ⟨π, hπ, rfl⟩ := order_of hx
    obtain ⟨τ, hτ, rfl⟩ := order_of hy
    have e := told_none D h hπ hτ (List.Perm.refl _) (List.Perm.refl _)
    rw [pick_range, pick_range] at e
    exact e
  rcases ninth P k with f | f
  · exact .inr (fits_B D.nd D.no f)
  · exact .inl (fits_B D.no D.nd f)
end
end K71
/-! The most even parts: what the law's own table tells. -/
namespace K71
theorem sub_bit : ∀ (pl lot i : Nat), lot.testBit pl = true → (lot - 2 ^ pl).testBit i = true → lot.testBit i = true
  | 0, lot, 0, h, _ => h
  | 0, lot, i + 1, h, hi => by
    rw [Nat.testBit_add_one] at hi ⊢
    rw [Nat.testBit_zero] at h
    have h := of_decide_eq_true h
    have e : (lot - 2 ^ 0) / 2 = lot / 2 := by
      rw [Nat.pow_zero]
      omega
    rw [e] at hi
    exact hi
  | pl + 1, lot, 0, h, hi => by
    have g := Nat.ge_two_pow_of_testBit h
    rw [Nat.testBit_zero] at hi ⊢
    have hi := of_decide_eq_true hi
    rw [Nat.pow_succ] at g hi
    exact decide_eq_true (by omega)
  | pl + 1, lot, i + 1, h, hi => by
    have g := Nat.ge_two_pow_of_testBit h
    rw [Nat.testBit_add_one] at h hi ⊢
    have e : (lot - 2 ^ (pl + 1)) / 2 = lot / 2 - 2 ^ pl := by
      rw [Nat.pow_succ] at g ⊢
      omega
    rw [e] at hi
    exact sub_bit pl (lot / 2) i h hi
theorem sub_off {pl lot : Nat} (h : lot.testBit pl = true) : (lot - 2 ^ pl).testBit pl = false := by
  have g := Nat.ge_two_pow_of_testBit h
  have e : lot = 2 ^ pl + (lot - 2 ^ pl) := by omega
  have h2 := Nat.testBit_two_pow_add_eq (lot - 2 ^ pl) pl
  rw [← e, h] at h2
  cases q : (lot - 2 ^ pl).testBit pl with
  | false => rfl
  | true =>
    rw [q] at h2
    cases h2
/-- an even lot within a lot -/
def SubZ (g : Nat → Int) (s lot : Nat) : Prop := s ≠ 0 ∧ (∀ i, s.testBit i = true → lot.testBit i = true) ∧ g s = 0
theorem SubZ.down {g : Nat → Int} {s lot pl : Nat} (h : lot.testBit pl = true) (z : SubZ g s (lot - 2 ^ pl)) : SubZ g s lot ∧ s ≠ lot := by
  refine ⟨⟨z.1, fun i hi => sub_bit pl lot i h (z.2.1 i hi), z.2.2⟩, fun e => ?_⟩
  subst e
  have := z.2.1 pl h
  rw [sub_off h] at this
  cases this
/-- what is told of a number here -/
def HereI (g : Nat → Int) (lot : Nat) (x : Int) : Prop := 0 ≤ x ∧ (1 ≤ x → ∃ s, SubZ g s lot ∧ s ≠ lot)
structure BInv (g : Nat → Int) (n c : Nat) (b : List Int) : Prop where
  ln : b.length = n
  a : ∀ lot x, b[lot]? = some x → 0 ≤ x ∧ (1 ≤ x → ∃ s, SubZ g s lot)
  b : ∀ lot x, lot < c → lot ≠ 0 → b[lot]? = some x → g lot = 0 → x = 1 ∨ ∃ s, SubZ g s lot ∧ s ≠ lot
theorem BInv.start (g : Nat → Int) (n : Nat) : BInv g n 1 (List.replicate n 0) where
  ln := List.length_replicate
  a := fun lot x h => by
    rw [List.eq_of_mem_replicate (List.mem_of_getElem? h)]
    exact ⟨Int.le_refl _, fun h => absurd h (by decide)⟩
  b := fun lot x h h0 => by omega
theorem BInv.here {g : Nat → Int} {n c lot pl : Nat} {b : List Int} {x y : Int} (B : BInv g n c b) (hb : lot.testBit pl = true) (hx : HereI g lot x) (hy : b[lot - 2 ^ pl]? = some y) : HereI g lot (if y > x then y else x) := by
  obtain ⟨y0, y1⟩ := B.a _ _ hy
  split
  · refine ⟨y0, fun h => ?_⟩
    obtain ⟨s, hs⟩ := y1 h
    exact ⟨s, hs.down hb⟩
  · exact hx
theorem BInv.put {g : Nat → Int} {n lot : Nat} {b : List Int} {x z : Int} (B : BInv g n lot b) (h0 : lot ≠ 0) (hl : lot < n) (hx : HereI g lot x) (hz : z = x + (if g lot = 0 then 1 else 0)) : BInv g n (lot + 1) (b.set lot z) where
  ln := by rw [List.length_set, B.ln]
  a := fun l w h => by
    by_cases e : lot = l
    · subst e
      rw [List.getElem?_set_self (by rw [B.ln]; exact hl)] at h
      have h := Option.some.inj h
      subst h hz
      obtain ⟨x0, x1⟩ := hx
      by_cases c : g lot = 0
      · rw [if_pos c]
        exact ⟨by omega, fun _ => ⟨lot, h0, fun _ h => h, c⟩⟩
      · rw [if_neg c]
        refine ⟨by omega, fun h => ?_⟩
        obtain ⟨s, hs, _⟩ := x1 (by omega)
        exact ⟨s, hs⟩
    · rw [List.getElem?_set_ne e] at h
      exact B.a l w h
  b := fun l w hc hl0 h hg => by
    by_cases e : lot = l
    · subst e
      rw [List.getElem?_set_self (by rw [B.ln]; exact hl)] at h
      have h := Option.some.inj h
      subst h hz
      obtain ⟨x0, x1⟩ := hx
      rw [if_pos hg]
      by_cases c : 1 ≤ x
      · exact .inr (x1 c)
      · exact .inl (by omega)
    · rw [List.getElem?_set_ne e] at h
      exact B.b l w (by omega) hl0 h hg
section
variable {os ds : List Int}
theorem lsB_zero {xs : List Int} {b : Nat → Bool} (hp : PosL xs) (h : lsB xs b = 0) : ∀ i, i < xs.length → b i = false := by
  have e : lsB xs b + lsB xs (fun i => !b i) = xs.sum := by
    rw [← selB_sum, ← selB_sum, ← List.sum_append]
    exact perm_sum selB_perm
  have h2 := lsB_full hp (b := fun i => !b i) (by omega)
  intro i hi
  have := h2 i hi
  simpa using this
theorem selB_nil {xs : List Int} {b : Nat → Bool} (h : selB xs b = []) : ∀ i, i < xs.length → b i = false := fun i hi => by
  cases q : b i with
  | false => rfl
  | true => exact absurd h (selB_ne hi q)
theorem G_parts (lot : Nat) : G os ds lot = lsB os lot.testBit - lsB ds (fun i => lot.testBit (os.length + i)) := by
  show lsB (os ++ ds.map fun x => -x) lot.testBit = _
  rw [lsB_append, lsB_neg]
  omega
theorem part_of (po : PosL os) (pd : PosL ds) (hs : os.sum = ds.sum) {s : Nat} (z : SubZ (G os ds) s (2 ^ NN os ds - 1)) (ns : s ≠ 2 ^ NN os ds - 1) : ∃ I0 I1 J0 J1, Part os ds I0 I1 J0 J1 := by
  obtain ⟨s0, hb, hg⟩ := z
  have out : ∀ i, ¬ i < NN os ds → s.testBit i = false := fun i hi => by
    cases q : s.testBit i with
    | false => rfl
    | true =>
      have := hb i q
      rw [Nat.testBit_two_pow_sub_one] at this
      exact absurd (of_decide_eq_true this) hi
  rw [G_parts] at hg
  have N : NN os ds = os.length + ds.length := rfl
  -- nobody
  have none : (∀ i, i < os.length → s.testBit i = false) → (∀ i, i < ds.length → s.testBit (os.length + i) = false) → False := fun h1 h2 => by
    refine s0 (Nat.eq_of_testBit_eq fun i => ?_)
    rw [Nat.zero_testBit]
    by_cases c : i < os.length
    · exact h1 i c
    · by_cases c2 : i < NN os ds
      · have := h2 (i - os.length) (by omega)
        rw [show os.length + (i - os.length) = i by omega] at this
        exact this
      · exact out i c2
  -- everybody
  have all : (∀ i, i < os.length → s.testBit i = true) → (∀ i, i < ds.length → s.testBit (os.length + i) = true) → False := fun h1 h2 => by
    refine ns (Nat.eq_of_testBit_eq fun i => ?_)
    rw [Nat.testBit_two_pow_sub_one]
    by_cases c : i < os.length
    · rw [h1 i c, decide_eq_true (by omega)]
    · by_cases c2 : i < NN os ds
      · have := h2 (i - os.length) (by omega)
        rw [show os.length + (i - os.length) = i by omega] at this
        rw [this, decide_eq_true c2]
      · rw [out i c2, decide_eq_false c2]
  refine ⟨selB os s.testBit, selB os (fun i => !s.testBit i), selB ds (fun i => s.testBit (os.length + i)), selB ds (fun i => !s.testBit (os.length + i)), po, pd, hs, selB_perm, selB_perm, by rw [selB_sum, selB_sum]; omega, fun e => ?_, fun e => ?_, fun e => ?_, fun e => ?_⟩
  · have h1 := selB_nil e
    rw [lsB_none h1] at hg
    exact none h1 (lsB_zero pd (by omega))
  · have h1 : ∀ i, i < os.length → s.testBit i = true := fun i hi => by simpa using selB_nil e i hi
    rw [lsB_all h1] at hg
    exact all h1 (lsB_full pd (by omega))
  · have h1 := selB_nil e
    rw [lsB_none h1] at hg
    exact none (lsB_zero po (by omega)) h1
  · have h1 : ∀ i, i < ds.length → s.testBit (os.length + i) = true := fun i hi => by simpa using selB_nil e i hi
    rw [lsB_all h1] at hg
    exact all (lsB_full po (by omega)) h1
theorem BInv.fin (po : PosL os) (pd : PosL ds) (hs : os.sum = ds.sum) (ne : os ≠ []) {b : List Int} (B : BInv (G os ds) (2 ^ NN os ds) (2 ^ NN os ds) b) {x : Int} (h : b[2 ^ NN os ds - 1]? = some x) : x = 1 ∨ ∃ I0 I1 J0 J1, Part os ds I0 I1 J0 J1 := by
  have p := Nat.two_pow_pos (NN os ds)
  have l1 := List.length_pos_iff.mpr ne
  have two : 2 ^ 1 ≤ 2 ^ NN os ds := Nat.pow_le_pow_right (by decide) (by unfold NN; omega)
  have hg : G os ds (2 ^ NN os ds - 1) = 0 := by
    rw [G_parts, lsB_all (fun i hi => by rw [Nat.testBit_two_pow_sub_one]; exact decide_eq_true (by unfold NN; omega)), lsB_all (fun i hi => by rw [Nat.testBit_two_pow_sub_one]; exact decide_eq_true (by unfold NN; omega))]
    omega
  rcases B.b _ x (by omega) (by omega) h hg with h | ⟨s, z, ns⟩
  · exact .inl h
  · exact .inr (part_of po pd hs z ns)
end
end K71
namespace K71
open PySem PySem.Spec PyProof.Rows L2
section
variable {P : Program} {w : World} {K : PySem.W.Frag} {mg : Str → Option Value} {base : Heap}
/-! ### Joints -/
theorem putF_len (f : Str) (v : V) : ∀ l : List (Str × V), (putF f v l).length ≤ l.length + 1
  | [] => Nat.le_refl _
  | (g, u) :: r => by
    have ih := putF_len f v r
    unfold putF
    split
    · simp
    · rw [List.length_cons, List.length_cons]
      omega
theorem putF_twice (f : Str) (v u : V) : ∀ l : List (Str × V), putF f u (putF f v l) = putF f u l
  | [] => by
    show putF f u [(f, v)] = [(f, u)]
    unfold putF
    simp
  | (g, z) :: r => by
    have ih := putF_twice f v u r
    by_cases h : g = f
    · have e : putF f v ((g, z) :: r) = (f, v) :: r := by
        unfold putF
        simp [h]
      rw [e]
      have e2 : putF f u ((g, z) :: r) = (f, u) :: r := by
        unfold putF
        simp [h]
      rw [e2]
      unfold putF
      simp
    · have e : putF f v ((g, z) :: r) = (g, z) :: putF f v r := by
        rw [putF]
        simp [h]
      have e2 : putF f u ((g, z) :: r) = (g, z) :: putF f u r := by
        rw [putF]
        simp [h]
      have e3 : putF f u ((g, z) :: putF f v r) = (g, z) :: putF f u (putF f v r) := by
        rw [putF]
        simp [h]
      rw [e, e2, e3, ih]
def j3 (m n : Int) (g : V) : List (Str × V) := putF "gaps" g (putF "everyone" (.int n) (putF "many" (.int m) []))
def jf (m n : Int) (g : V) (e : Int) : List (Str × V) := putF "everybody" (.int e) (j3 m n g)
theorem j3_put (m n : Int) (g g' : V) : putF "gaps" g' (j3 m n g) = j3 m n g' := putF_twice _ _ _ _
theorem j3_len (m n : Int) (g : V) : (j3 m n g).length < 1000 := by
  unfold j3
  have h1 := putF_len "gaps" g (putF "everyone" (.int n) (putF "many" (.int m) []))
  have h2 := putF_len "everyone" (.int n) (putF "many" (.int m) [])
  have h3 := putF_len "many" (.int m) []
  simp at h3
  omega
theorem kj1 : ¬ (("many" : Str) = "everybody") := by decide +kernel
theorem kj2 : ¬ (("many" : Str) = "gaps") := by decide +kernel
theorem kj3 : ¬ (("many" : Str) = "everyone") := by decide +kernel
theorem kj4 : ¬ (("everyone" : Str) = "everybody") := by decide +kernel
theorem kj5 : ¬ (("everyone" : Str) = "gaps") := by decide +kernel
theorem kj6 : ¬ (("gaps" : Str) = "everybody") := by decide +kernel
theorem j3_gaps (m n : Int) (g : V) : (j3 m n g).lookup ("gaps" : Str) = some g := by
  unfold j3
  rw [lookup_putF, if_pos rfl]
theorem jf_gaps (m n : Int) (g : V) (e : Int) : (jf m n g e).lookup ("gaps" : Str) = some g := by
  unfold jf
  rw [lookup_putF, if_neg kj6, j3_gaps]
theorem jf_many (m n : Int) (g : V) (e : Int) : (jf m n g e).lookup ("many" : Str) = some (.int m) := by
  unfold jf j3
  rw [lookup_putF, if_neg kj1, lookup_putF, if_neg kj2, lookup_putF, if_neg kj3, lookup_putF, if_pos rfl]
theorem jf_everyone (m n : Int) (g : V) (e : Int) : (jf m n g e).lookup ("everyone" : Str) = some (.int n) := by
  unfold jf j3
  rw [lookup_putF, if_neg kj4, lookup_putF, if_neg kj5, lookup_putF, if_pos rfl]
theorem jf_everybody (m n : Int) (g : V) (e : Int) : (jf m n g e).lookup ("everybody" : Str) = some (.int e) := by
  unfold jf
  rw [lookup_putF, if_pos rfl]
theorem jf_no (m n : Int) (g : V) (e : Int) {f : Str} (h1 : ¬ f = "everybody") (h2 : ¬ f = "gaps") (h3 : ¬ f = "everyone") (h4 : ¬ f = "many") : (jf m n g e).lookup f = none := by
  unfold jf j3
  rw [lookup_putF, if_neg h1, lookup_putF, if_neg h2, lookup_putF, if_neg h3, lookup_putF, if_neg h4]
  rfl
/-- a Joints stands there -/
def JoAt (K : PySem.W.Frag) (H : Hp) (v : V) (ow du : List Int) : Prop := ∃ a dx lg, v = .ref a ∧ H a = some (.ins (He.ga K "Joints") dx (jf ow.length (NN ow du : Nat) (.ref lg) ((2 ^ NN ow du - 1 : Nat) : Int))) ∧ H lg = some (.lst ((gapsL (nums ow du)).map V.int))
theorem JoAt.mono {H H' : Hp} {v : V} {ow du : List Int} (e : Same H H') (h : JoAt K H v ow du) : JoAt K H' v ow du := by
  obtain ⟨a, dx, lg, h1, h2, h3⟩ := h
  exact ⟨a, dx, lg, h1, e _ _ h2, e _ _ h3⟩
/-- all but the object at a stands -/
def FrA (a : Addr) (H H' : Hp) : Prop := ∀ b o, H b = some o → b ≠ a → H' b = some o
theorem FrA.refl (a : Addr) (H : Hp) : FrA a H H := fun _ _ h _ => h
theorem FrA.same {a : Addr} {H H1 H2 : Hp} (f : FrA a H H1) (e : Same H1 H2) : FrA a H H2 := fun b o h n => e _ _ (f b o h n)
theorem FrA.put {a : Addr} {H H1 : Hp} {u : HO} (f : FrA a H H1) : FrA a H (upd H1 a u) := fun b o h n => by
  rw [upd_ne n]
  exact f b o h n
/-- behind a store: the object, all else as it was -/
theorem upd_then {H : Hp} {a : Addr} {o : HO} {R : Hp → Prop} (h : ∀ H', H' a = some o → FrA a H H' → R H') : R (upd H a o) := h _ upd_same (FrA.refl a H).put
theorem FrA.trans {a : Addr} {H H1 H2 : Hp} (f : FrA a H H1) (g : FrA a H1 H2) : FrA a H H2 := fun b o h n => g _ _ (f _ _ h n) n
def sp_Joints_init (K : PySem.W.Frag) : Sp := fun vs H Q _ => ∃ (a dx : Addr) (v : V) (p q : Int) (os ds : List Int), vs = [.ref a, v] ∧ H a = some (.ins (He.ga K "Joints") dx []) ∧ EvAt K H v p q os ds ∧ EvD p q os ds ∧ os.length + ds.length ≤ 14 ∧
  ∀ H', FrA a H H' → JoAt K H' (.ref a) (wh os ds os) (wh os ds ds) → Q .non H'
theorem pow14 {i : Nat} (h : i ≤ 14) : 2 ^ i ≤ 16384 := Nat.le_trans (Nat.pow_le_pow_right (by decide) h) (by decide)
theorem sc_Joints_init : FnScope ["self", "evening", "owed", "due", "item", "number", "gap"] ["self", "evening"] (defScope s_Joints_init) := ⟨rfl, rfl, rfl, by decide +kernel, rfl, by decide +kernel, by decide +kernel⟩
/-- the body of Joints.__init__ -/
theorem ok_Joints_init {f : Addr} {fd : FuncData} (T : Txt K mg) (F : FnP K "__init__" "Joints.__init__" s_Joints_init f fd) (D_whole_sums : Dn P w K mg base "whole_sums" ["evening"] 5 (sp_whole_sums K)) : FnOk P w K mg base CX0 6 f fd ["self", "evening"] (sp_Joints_init K) := by
  refine F.ok sc_Joints_init (fun vs H Q E h => ?_) (fun cdv A outer s H vs Q E hr h => ⟨_, PSs.nox (pss_cons (ps_asg (pe_dn D_whole_sums (hr.mono (by decide)) rfl (pa_cons (pv 1) pa_nil)) (pg_tup rfl (pgs_cons (pg_name (i := 2) sc_Joints_init.nd rfl (Or.inl rfl)) (pgs_cons (pg_name (i := 3) sc_Joints_init.nd rfl (Or.inl rfl)) pgs_nil))))
    (pss_cons (ps_fld (pv 0) (pe_callB call_len_seq (by rfl) T.len' (by decide +kernel) (pa_cons (pv 2) pa_nil)) rfl)
    (pss_cons (ps_fld (pv 0) (pe_op op_add (pe_callB call_len_seq (by rfl) T.len' (by decide +kernel) (pa_cons (pv 2) pa_nil)) (pe_callB call_len_seq (by rfl) T.len' (by decide +kernel) (pa_cons (pv 3) pa_nil))) rfl)
    (pss_cons (ps_fld (pv 0) (pe_lst (pa_cons pe_int pa_nil)) rfl)
    (pss_cons (ps_for PassesOwn.never rfl (pi_list (pe_op op_cat (pv 2) (pe_lc (own := [("item", 4)]) (g := gName 4) (tt := tYes) rfl sc_Joints_init.nd (pi_list (pv 3)) (blkOk_by (N := ["self", "evening", "owed", "due", "item", "number", "gap"]) (sc := defScope s_Joints_init) (by decide +kernel)) (fun _ _ _ _ _ => pg_name (i := 4) sc_Joints_init.nd rfl (Or.inl rfl)) (fun _ _ _ _ _ => pts_nil) (fun _ _ _ _ _ => (pe_un un_neg (pv 4)))))) (pg_name (i := 5) sc_Joints_init.nd rfl (Or.inr rfl))
      (pss_one (ps_fld (pv 0) (pe_op op_cat (fldK K (pv 0) rfl) (pe_lc (own := [("gap", 6)]) (g := gName 6) (tt := tYes) rfl sc_Joints_init.nd (pi_list (fldK K (pv 0) rfl)) (blkOk_by (N := ["self", "evening", "owed", "due", "item", "number", "gap"]) (sc := defScope s_Joints_init) (by decide +kernel)) (fun _ _ _ _ _ => pg_name (i := 6) sc_Joints_init.nd rfl (Or.inl rfl)) (fun _ _ _ _ _ => pts_nil) (fun _ _ _ _ _ => (pe_op op_add (pv 6) (pv 5))))) rfl)))
    (pss_one (ps_fld (pv 0) (pe_op op_sub (pe_callB call_len_seq (by rfl) T.len' (by decide +kernel) (pa_cons (fldK K (pv 0) rfl) pa_nil)) pe_int) rfl))))))), ?_⟩)
  · first | (obtain ⟨_, rfl, _⟩ := h; rfl) | (obtain ⟨_, _, rfl, _⟩ := h; rfl) | (obtain ⟨_, _, _, rfl, _⟩ := h; rfl) | (obtain ⟨_, _, _, _, rfl, _⟩ := h; rfl) | (obtain ⟨_, _, _, _, _, rfl, _⟩ := h; rfl) | (obtain ⟨_, _, _, _, _, _, rfl, _⟩ := h; rfl) | (obtain ⟨_, _, _, _, _, _, _, rfl, _⟩ := h; rfl) | (obtain ⟨_, _, _, _, _, _, _, _, rfl, _⟩ := h; rfl) | (obtain ⟨_, _, _, _, _, _, _, _, _, rfl, _⟩ := h; rfl) | (obtain ⟨_, _, _, _, _, _, _, _, _, _, rfl, _⟩ := h; rfl) | (obtain ⟨_, _, _, _, _, _, _, _, _, _, _, rfl, _⟩ := h; rfl) | (obtain ⟨_, _, _, _, _, _, _, _, _, _, _, _, rfl, _⟩ := h; rfl)
  obtain ⟨a, dx, v, p, q, os, ds, rfl, ha, hE, D, h14, k⟩ := h
  refine ⟨_, rfl, v, p, q, os, ds, rfl, hE, D, fun t l1 l2 H1 e1 ht h1 h2 => ⟨t, _, rfl, sqt ht, rfl, _, _, rfl, _, _, rfl, rfl, ?_⟩⟩
  have n1 : l1 ≠ a := ne_of h1 (e1 _ _ ha) (by intro c; cases c)
  have n2 : l2 ≠ a := ne_of h2 (e1 _ _ ha) (by intro c; cases c)
  have w1 : (wh os ds os).length = os.length := wh_len os
  have w2 : (wh os ds ds).length = ds.length := wh_len ds
  generalize wh os ds os = ow at h1 k w1
  generalize wh os ds ds = du at h2 k w2
  have m1 : (ow.map V.int).length = ow.length := List.length_map ..
  have m2 : (du.map V.int).length = du.length := List.length_map ..
  refine ⟨_, rfl, l1, _, rfl, .inl (sql h1), _, rfl, a, _, dx, [], rfl, e1 _ _ ha, T.cl_Joints, T.na_many, (by show 0 < 1000; decide), upd_then fun H1' a1 f1 => ?_⟩
  rw [m1] at a1
  refine ⟨_, rfl, l1, _, rfl, .inl (sql (f1 _ _ h1 n1)), _, rfl, l2, _, rfl, .inl (sql (f1 _ _ h2 n2)), _, _, rfl, rfl, _, rfl, a, _, dx, _, rfl, a1, T.cl_Joints, T.na_everyone, (by have := putF_len "many" (.int (ow.length : Int)) []; simp at this; omega), upd_then fun H2 a2 g2 => ?_⟩
  have f2 := f1.trans g2
  rw [m1, m2] at a2
  dsimp only at a2
  refine ⟨(by show 1 ≤ sizeLine; decide), fun g0 hg0 => ?_⟩
  have s3 := Same.new (o := .lst [.int 0]) hg0
  have ng : g0 ≠ a := (ne_of_none a2 hg0).symm
  refine ⟨_, rfl, a, _, dx, _, rfl, s3 _ _ a2, T.cl_Joints, T.na_gaps, (by have h1 := putF_len "many" (.int (ow.length : Int)) []; have h2 := putF_len "everyone" (.int ((ow.length : Int) + (du.length : Int))) (putF "many" (.int (ow.length : Int)) []); simp at h1; omega), upd_then fun H3 a3 g3 => ?_⟩
  have f3 := (f2.same s3).trans g3
  have b3 : H3 g0 = some (.lst [.int 0]) := g3 _ _ upd_same ng
  have a3 : H3 a = some (.ins (He.ga K "Joints") dx (j3 (ow.length : Int) ((ow.length : Int) + (du.length : Int)) (.ref g0))) := a3
  refine ⟨_, rfl, _, rfl, l2, rfl, ⟨_, sql (f3 _ _ h2 n2)⟩, fun D1 hD1 => ?_⟩
  refine lc_listR (K := K) (a := l2) (xs := du.map V.int) (fun i v _ => ∀ x, du[i]? = some x → v = .int (-x)) (fun _ _ _ _ _ r => r) hD1 (sql (f3 _ _ h2 n2)) (szl (by omega)) (fun i x H4 hx e Q' hq => ?_) (fun ys H4 e4 hD4 hl hy => ?_)
  · obtain ⟨n, hn, rfl⟩ := at_map hx
    refine ⟨_, rfl, n, rfl, hq _ _ (Same.refl _) fun x hx => ?_⟩
    rw [hn] at hx
    cases hx
    rfl
  · have ey : ys = (du.map fun x => -x).map V.int := by
      rw [List.map_map]
      exact list_of_map (by omega) fun i y x hy' hx => hy i y hy' x hx
    subst ey
    refine ⟨l1, D1, _, _, rfl, rfl, e4 _ _ (f3 _ _ h1 n1), hD4, szl (by rw [m1, List.length_map, List.length_map]; omega), fun L hL => ?_⟩
    rw [← List.map_append]
    have s5 := Same.new (o := .lst ((ow ++ du.map fun x => -x).map V.int)) hL
    have nL : L ≠ a := (ne_of_none (e4 _ _ a3) hL).symm
    refine ⟨L, rfl, ⟨_, sql upd_same⟩, for_list (K := K) (a := L) (xs := (ow ++ du.map fun x => -x).map V.int) (fun i σ H' => ∃ lg z1 z2 z3, σ = [some (.ref a), some v, some (.ref l1), some (.ref l2), z1, z2, z3] ∧
      FrA a (upd H4 L (.lst ((ow ++ du.map fun x => -x).map V.int))) H' ∧ H' a = some (.ins (He.ga K "Joints") dx (j3 (ow.length : Int) ((ow.length : Int) + (du.length : Int)) (.ref lg))) ∧ H' lg = some (.lst ((gapsL ((nums ow du).take i)).map V.int))) ?_ ?_ ?_ ?_⟩
    · refine ⟨g0, none, none, none, rfl, FrA.refl a _, s5 _ _ (e4 _ _ a3), ?_⟩
      rw [List.take_zero, gapsL_nil]
      exact s5 _ _ (e4 _ _ b3)
    · rintro i σ H' _ ⟨lg, z1, z2, z3, rfl, f, _, _⟩
      exact sql (f _ _ upd_same nL)
    · rintro i x σ H' hx ⟨lg, z1, z2, z3, rfl, f, ha', hg⟩
      obtain ⟨n, hn, rfl⟩ := at_map hx
      have hn' : (nums ow du)[i]? = some n := hn
      have hi : i < NN ow du := by
        have := (List.getElem?_eq_some_iff.mp hn').1
        rw [nums_len] at this
        exact this
      have h13 : i ≤ 13 := by
        unfold NN at hi
        omega
      have lt : ((nums ow du).take i).length = i := by
        rw [List.length_take, nums_len]
        omega
      have lg' : ((gapsL ((nums ow du).take i)).map V.int).length = 2 ^ i := by rw [List.length_map, gapsL_len, lt]
      have p13 : 2 ^ i ≤ 8192 := Nat.le_trans (Nat.pow_le_pow_right (by decide) h13) (by decide)
      refine ⟨_, rfl, a, _, dx, _, _, rfl, ha', T.cl_Joints, T.na_gaps, j3_gaps _ _ _, _, rfl, a, _, dx, _, _, rfl, ha', T.cl_Joints, T.na_gaps, j3_gaps _ _ _, lg, rfl, ⟨_, sql hg⟩, fun D2 hD2 => ?_⟩
      refine lc_listR (K := K) (a := lg) (xs := (gapsL ((nums ow du).take i)).map V.int) (fun j v _ => ∀ x, (gapsL ((nums ow du).take i))[j]? = some x → v = .int (x + n)) (fun _ _ _ _ _ r => r) hD2 (sql hg) (szl (by omega)) (fun j x H5 hx e Q' hq => ?_) (fun ys H5 e5 hD5 hl hy => ?_)
      · obtain ⟨y, hy, rfl⟩ := at_map hx
        refine ⟨_, rfl, _, rfl, _, _, rfl, rfl, hq _ _ (Same.refl _) fun x hx => ?_⟩
        rw [hy] at hx
        cases hx
        rfl
      · have ey : ys = ((gapsL ((nums ow du).take i)).map (· + n)).map V.int := by
          rw [List.map_map]
          exact list_of_map (by rw [hl, List.length_map]) fun i y x hy' hx => hy i y hy' x hx
        subst ey
        refine ⟨lg, D2, _, _, rfl, rfl, e5 _ _ hg, hD5, szl (by rw [lg', List.length_map, List.length_map, gapsL_len, lt]; omega), fun pn hpn => ?_⟩
        rw [← List.map_append, ← gapsL_snoc]
        have s6 := Same.new (o := .lst ((gapsL ((nums ow du).take i ++ [n])).map V.int)) hpn
        have np : pn ≠ a := (ne_of_none (e5 _ _ ha') hpn).symm
        refine ⟨_, rfl, a, _, dx, _, rfl, s6 _ _ (e5 _ _ ha'), T.cl_Joints, T.na_gaps, j3_len _ _ _, ?_⟩
        rw [j3_put]
        refine ⟨pn, _, _, _, rfl, ((f.same e5).same s6).put, upd_same, ?_⟩
        rw [upd_ne np, upd_same, List.take_add_one, hn']
        rfl
    · rintro σ H' ⟨lg, z1, z2, z3, rfl, f, ha', hg⟩
      have el : ((ow ++ du.map fun x => -x).map V.int).length = (nums ow du).length := by rw [List.length_map]; rfl
      rw [el, List.take_length] at hg
      have gl : ((gapsL (nums ow du)).map V.int).length = 2 ^ NN ow du := by rw [List.length_map, gapsL_len, nums_len]
      refine ⟨_, rfl, a, _, dx, _, _, rfl, ha', T.cl_Joints, T.na_gaps, j3_gaps _ _ _, lg, _, rfl, .inl (sql hg), _, _, rfl, rfl, _, rfl, a, _, dx, _, rfl, ha', T.cl_Joints, T.na_everybody, j3_len _ _ _, ?_⟩
      rw [gl]
      have nlg : lg ≠ a := ne_of hg ha' (by intro c; cases c)
      refine k _ ?_ ⟨a, dx, lg, rfl, ?_, by rw [upd_ne nlg]; exact hg⟩
      · intro b o hb nb
        rw [upd_ne nb]
        exact f _ _ (s5 _ _ (e4 _ _ (f3 _ _ (e1 _ _ hb) nb))) nb
      · rw [upd_same]
        have e1 : ((2 ^ NN ow du : Nat) : Int) - 1 = ((2 ^ NN ow du - 1 : Nat) : Int) := by
          have := Nat.two_pow_pos (NN ow du)
          omega
        have e2 : (ow.length : Int) + (du.length : Int) = ((NN ow du : Nat) : Int) := by
          unfold NN
          omega
        show some (HO.ins (He.ga K "Joints") dx (jf (ow.length : Int) ((ow.length : Int) + (du.length : Int)) (.ref lg) (((2 ^ NN ow du : Nat) : Int) - 1))) = _
        rw [e1, e2]
end
end K71
namespace K71
open PySem PySem.Spec PyProof.Rows L2
section
variable {P : Program} {w : World} {K : PySem.W.Frag} {mg : Str → Option Value} {base : Heap}
/-! ### who comes next, the joints that follow -/
/-- a comprehension over a range that keeps what f tells -/
def LcF (H1 : Hp) (D : Addr) (lo : Int) (f : Nat → Bool) (i : Nat) (H : Hp) : Prop := Same H1 H ∧ H D = some (.lst (((List.range i).filter f).map fun (i : Nat) => V.int (lo + (i : Int))))
def lc_rangeF {lo : Int} {n : Nat} {tt : TT} {s : Nat} {σ : L2.St} {H1 : Hp} {D : Addr} {Qd : Hp → Prop} (f : Nat → Bool) (hD : H1 D = none) (hn : n ≤ 100000) (hs : s < σ.length)
    (ht : ∀ (i : Nat) (H : Hp), i < n → Same H1 H → ∀ Q : Bool → Hp → Prop, Q (f i) H → tt ((σ.set s none).set s (some (.int (lo + (i : Int))))) H Q)
    (hd : ∀ H, Same H1 H → H D = some (.lst (((List.range n).filter f).map fun (i : Nat) => V.int (lo + (i : Int)))) → Qd H) :=
  lc_range (lo := lo) (n := n) (g := gName s) (tt := tt) (te := tVar s) (vs := [s]) (σ := σ) (H1 := H1) (D := D) (Qd := Qd) (LcF H1 D lo f) ⟨Same.new hD, upd_same⟩ (fun i H hi p => by
    refine ⟨wipe1, ?_⟩
    refine ht i H hi p.1 _ ?_
    have er : (List.range (i + 1)).filter f = (List.range i).filter f ++ (if f i = true then [i] else []) := by
      rw [List.range_succ, List.filter_append]
      congr 1
      cases q : f i <;> simp [q]
    cases q : f i with
    | true =>
      refine iteT (B := LcF H1 D lo f (i + 1) H) ?_
      refine ⟨.int (lo + (i : Int)), ?_, _, p.2, ?_, p.1.mut hD, ?_⟩
      · exact List.getElem?_set_self (by rw [wipe_length]; exact hs)
      · have := List.length_filter_le f (List.range i)
        rw [List.length_range] at this
        rw [List.length_map]
        exact szt (by omega)
      · rw [upd_same, er, q]
        simp
    | false =>
      have g : LcF H1 D lo f (i + 1) H := ⟨p.1, by rw [er, q]; simpa using p.2⟩
      exact g) (fun H p => hd H p.1 p.2)
theorem bit1 (lot pl : Nat) : Builtin.bitAnd ((lot : Int) / 2 ^ ((pl : Int)).toNat) 1 = if lot.testBit pl = true then 1 else 0 := by
  have e1 : (lot : Int) / 2 ^ ((pl : Int)).toNat = ((lot / 2 ^ pl : Nat) : Int) := by
    rw [Int.toNat_natCast, Int.natCast_ediv, Int.natCast_pow]
    rfl
  rw [e1, bitAnd_pp (Int.natCast_nonneg _) (by decide), Int.toNat_natCast]
  show ((lot / 2 ^ pl &&& 1 : Nat) : Int) = _
  rw [Nat.and_one_is_mod, Nat.testBit_eq_decide_div_mod_eq]
  by_cases c : lot / 2 ^ pl % 2 = 1
  · rw [if_pos (decide_eq_true c), c]
    rfl
  · rw [if_neg (by simpa using c)]
    omega
theorem bit0 (lot pl : Nat) : decide (V.int (Builtin.bitAnd ((lot : Int) / 2 ^ ((pl : Int)).toNat) 1) = V.int 0) = !lot.testBit pl := by
  rw [bit1]
  cases lot.testBit pl <;> rfl
theorem or1 (lot pl : Nat) : Builtin.bitOr (lot : Int) (1 * 2 ^ ((pl : Int)).toNat) = ((lot ||| 2 ^ pl : Nat) : Int) := by
  have e1 : (1 : Int) * 2 ^ ((pl : Int)).toNat = ((2 ^ pl : Nat) : Int) := by
    rw [Int.one_mul, Int.toNat_natCast, Int.natCast_pow]
    rfl
  rw [e1, Bits.bitOr_pp (Int.natCast_nonneg _) (Int.natCast_nonneg _), Int.toNat_natCast, Int.toNat_natCast]
theorem gaps_at {ow du : List Int} {lot : Nat} (h : lot < 2 ^ NN ow du) : ((gapsL (nums ow du)).map V.int)[lot]? = some (.int (G ow du lot)) := by
  rw [List.getElem?_map, gapsL_at (by rw [nums_len]; exact h)]
  rfl
def spJo (R : List Int → List Int → Nat → Hp → VK → Prop) (K : PySem.W.Frag) : Sp := fun vs H Q _ => ∃ (v : V) (ow du : List Int) (lot : Nat), vs = [v, .int (lot : Int)] ∧ JoAt K H v ow du ∧ NN ow du ≤ 14 ∧ lot < 2 ^ NN ow du ∧ R ow du lot H Q
def sp_Joints_next_ones (K : PySem.W.Frag) : Sp := spJo (fun ow du lot H Q => ∀ l H', Same H H' → H' l = some (.lst ((nI (placesM ow du lot)).map V.int)) → Q (.ref l) H') K
theorem places_V {ow du : List Int} {lot f n : Nat} (hf : (fe ow du lot).1 = f) (hn : (fe ow du lot).2 - (fe ow du lot).1 = n) :
    (((List.range n).filter fun i => !lot.testBit (f + i)).map fun (i : Nat) => V.int ((f : Int) + (i : Int))) = (nI (placesM ow du lot)).map V.int := by
  unfold placesM nI
  rw [hn, hf, List.filter_map, List.map_map, List.map_map]
  refine List.map_congr_left fun i _ => ?_
  show V.int ((f : Int) + (i : Int)) = V.int ((f + i : Nat) : Int)
  rw [Int.natCast_add]
theorem sc_Joints_next_ones : FnScope ["self", "lot", "first", "end", "place"] ["self", "lot"] (defScope s_Joints_next_ones) := ⟨rfl, rfl, rfl, by decide +kernel, rfl, by decide +kernel, by decide +kernel⟩
/-- the body of Joints.next_ones -/
theorem ok_Joints_next_ones {f : Addr} {fd : FuncData} (T : Txt K mg) (F : FnP K "next_ones" "Joints.next_ones" s_Joints_next_ones f fd)  : FnOk P w K mg base CX0 1 f fd ["self", "lot"] (sp_Joints_next_ones K) := by
  refine F.ok sc_Joints_next_ones (fun vs H Q E h => ?_) (fun cdv A outer s H vs Q E hr h => ⟨_, PSs.nox (pss_cons (ps_asg (pe_ifExp (pt_cmpR op_le (pe_ix (ixL K) (fldK K (pv 0) rfl) (pv 1) (fun _ _ => rfl)) pe_int (nomark _)) (pe_tup (pa_cons pe_int (pa_cons (fldK K (pv 0) rfl) pa_nil))) (pe_tup (pa_cons (fldK K (pv 0) rfl) (pa_cons (fldK K (pv 0) rfl) pa_nil)))) (pg_tup rfl (pgs_cons (pg_name (i := 2) sc_Joints_next_ones.nd rfl (Or.inl rfl)) (pgs_cons (pg_name (i := 3) sc_Joints_next_ones.nd rfl (Or.inl rfl)) pgs_nil))))
    (pss_one (ps_ret (pe_lc (own := [("place", 4)]) (g := gName 4) rfl sc_Joints_next_ones.nd (pi_range2 (by rfl) T.range (pa_cons (pv 2) (pa_cons (pv 3) pa_nil))) (blkOk_by (N := ["self", "lot", "first", "end", "place"]) (sc := defScope s_Joints_next_ones) (by decide +kernel)) (fun _ _ _ _ _ => pg_name (i := 4) sc_Joints_next_ones.nd rfl (Or.inl rfl)) (fun _ _ _ _ _ => (pts_one (pt_cmpR op_eq (pe_op op_and (pe_op op_shr (pv 1) (pv 4)) pe_int) pe_int (nomark _)))) (fun _ _ _ _ _ => (pv 4)))))), ?_⟩)
  · first | (obtain ⟨_, rfl, _⟩ := h; rfl) | (obtain ⟨_, _, rfl, _⟩ := h; rfl) | (obtain ⟨_, _, _, rfl, _⟩ := h; rfl) | (obtain ⟨_, _, _, _, rfl, _⟩ := h; rfl) | (obtain ⟨_, _, _, _, _, rfl, _⟩ := h; rfl) | (obtain ⟨_, _, _, _, _, _, rfl, _⟩ := h; rfl) | (obtain ⟨_, _, _, _, _, _, _, rfl, _⟩ := h; rfl) | (obtain ⟨_, _, _, _, _, _, _, _, rfl, _⟩ := h; rfl) | (obtain ⟨_, _, _, _, _, _, _, _, _, rfl, _⟩ := h; rfl) | (obtain ⟨_, _, _, _, _, _, _, _, _, _, rfl, _⟩ := h; rfl) | (obtain ⟨_, _, _, _, _, _, _, _, _, _, _, rfl, _⟩ := h; rfl) | (obtain ⟨_, _, _, _, _, _, _, _, _, _, _, _, rfl, _⟩ := h; rfl)
  obtain ⟨v, ow, du, lot, rfl, ⟨a, dx, lg, rfl, ha, hg⟩, h14, hl, k⟩ := h
  have hm : ow.length ≤ NN ow du := by
    unfold NN
    omega
  refine ⟨_, rfl, a, _, dx, _, _, rfl, ha, T.cl_Joints, T.na_gaps, jf_gaps _ _ _ _, _, rfl, lg, _, _, _, rfl, rfl, sql hg, at_of rfl (gaps_at hl), _, _, rfl, rfl, _, rfl, ?_⟩
  refine ite2 (fun c => ?_) (fun c => ?_)
  · have c := of_decide_eq_true c
    have e1 : (fe ow du lot).1 = 0 := by
      unfold fe
      rw [if_pos c]
    have e2 : (fe ow du lot).2 - (fe ow du lot).1 = ow.length := by
      unfold fe
      rw [if_pos c]
      rfl
    refine ⟨_, rfl, a, _, dx, _, _, rfl, ha, T.cl_Joints, T.na_many, jf_many _ _ _ _, (by show 2 ≤ sizeLine; decide), fun t ht => ⟨t, _, rfl, sqt upd_same, rfl, _, _, rfl, _, _, rfl, rfl, ?_⟩⟩
    refine ⟨_, rfl, _, rfl, 0, (ow.length : Int), rfl, ⟨by decide, by decide, by omega, by omega⟩, fun D hD => ?_⟩
    have s1 := Same.new (o := .tup [.int 0, .int (ow.length : Int)]) ht
    refine lc_rangeF (lo := 0) (fun i => !lot.testBit (0 + i)) hD (by omega) (by show 4 < 5; decide) (fun i H2 hi e Q' hq => ?_) (fun H2 e hD2 => ?_)
    · rw [Int.zero_add]
      refine ⟨_, rfl, _, rfl, _, _, rfl, rfl, by omega, _, _, rfl, rfl, rfl, _, rfl, ?_⟩
      show Q' (decide (V.int (Builtin.bitAnd ((lot : Int) / 2 ^ ((i : Int)).toNat) 1) = V.int 0)) H2
      rw [bit0]
      rw [Nat.zero_add] at hq
      exact hq
    · have en : ((ow.length : Int) - 0).toNat = ow.length := by omega
      rw [en] at hD2
      exact k D H2 (s1.trans e) (hD2.trans (congrArg (fun l => some (HO.lst l)) (places_V e1 e2)))
  · have c : ¬ G ow du lot ≤ 0 := fun z => c (decide_eq_true z)
    have e1 : (fe ow du lot).1 = ow.length := by
      unfold fe
      rw [if_neg c]
    have e2 : (fe ow du lot).2 - (fe ow du lot).1 = du.length := by
      unfold fe NN
      rw [if_neg c]
      show ow.length + du.length - ow.length = _
      omega
    refine ⟨_, rfl, a, _, dx, _, _, rfl, ha, T.cl_Joints, T.na_many, jf_many _ _ _ _, _, rfl, a, _, dx, _, _, rfl, ha, T.cl_Joints, T.na_everyone, jf_everyone _ _ _ _, (by show 2 ≤ sizeLine; decide), fun t ht => ⟨t, _, rfl, sqt upd_same, rfl, _, _, rfl, _, _, rfl, rfl, ?_⟩⟩
    refine ⟨_, rfl, _, rfl, (ow.length : Int), ((NN ow du : Nat) : Int), rfl, ⟨by omega, by omega, by omega, by omega⟩, fun D hD => ?_⟩
    have s1 := Same.new (o := .tup [.int (ow.length : Int), .int ((NN ow du : Nat) : Int)]) ht
    refine lc_rangeF (lo := (ow.length : Int)) (fun i => !lot.testBit (ow.length + i)) hD (by omega) (by show 4 < 5; decide) (fun i H2 hi e Q' hq => ?_) (fun H2 e hD2 => ?_)
    · rw [← Int.natCast_add]
      refine ⟨_, rfl, _, rfl, _, _, rfl, rfl, by omega, _, _, rfl, rfl, rfl, _, rfl, ?_⟩
      show Q' (decide (V.int (Builtin.bitAnd ((lot : Int) / 2 ^ (((ow.length + i : Nat) : Int)).toNat) 1) = V.int 0)) H2
      rw [bit0]
      exact hq
    · have en : (((NN ow du : Nat) : Int) - (ow.length : Int)).toNat = du.length := by
        unfold NN
        omega
      rw [en] at hD2
      exact k D H2 (s1.trans e) (hD2.trans (congrArg (fun l => some (HO.lst l)) (places_V e1 e2)))
def sp_Joints_later_lots (K : PySem.W.Frag) : Sp := spJo (fun ow du lot H Q => ∀ l H', Same H H' → H' l = some (.lst ((nI (laterM ow du lot)).map V.int)) → Q (.ref l) H') K
theorem places_le {ow du : List Int} {lot : Nat} : (placesM ow du lot).length ≤ NN ow du := by
  unfold placesM
  refine Nat.le_trans (List.length_filter_le _ _) ?_
  rw [List.length_map, List.length_range]
  unfold fe NN
  split
  · show ow.length - 0 ≤ _
    omega
  · show ow.length + du.length - ow.length ≤ _
    omega
theorem nI_at {l : List Nat} {i : Nat} {x : V} (h : ((nI l).map V.int)[i]? = some x) : ∃ n, l[i]? = some n ∧ x = .int (n : Int) := by
  obtain ⟨z, hz, rfl⟩ := at_map h
  unfold nI at hz
  rw [List.getElem?_map] at hz
  obtain ⟨n, hn, rfl⟩ := Option.map_eq_some_iff.mp hz
  exact ⟨n, hn, rfl⟩
theorem nI_V {ys : List V} {l : List Nat} (hl : ys.length = l.length) (h : ∀ (i : Nat) y, ys[i]? = some y → ∀ n, l[i]? = some n → y = .int (n : Int)) : ys = (nI l).map V.int := by
  unfold nI
  rw [List.map_map]
  exact list_of_map hl fun i y x hy hx => h i y hy x hx
theorem shl_ok {pl : Nat} (h : pl < 14) : CPow 1 (pl : Int) := ⟨by omega, by omega, by decide⟩
theorem sc_Joints_later_lots : FnScope ["self", "lot", "place"] ["self", "lot"] (defScope s_Joints_later_lots) := ⟨rfl, rfl, rfl, by decide +kernel, rfl, by decide +kernel, by decide +kernel⟩
/-- the body of Joints.later_lots -/
theorem ok_Joints_later_lots {f : Addr} {fd : FuncData} (T : Txt K mg) (F : FnP K "later_lots" "Joints.later_lots" s_Joints_later_lots f fd) (D_Joints_next_ones : Dm P w K mg base "Joints" "next_ones" ["self", "lot"] 1 (sp_Joints_next_ones K)) : FnOk P w K mg base CX0 2 f fd ["self", "lot"] (sp_Joints_later_lots K) := by
  refine F.ok sc_Joints_later_lots (fun vs H Q E h => ?_) (fun cdv A outer s H vs Q E hr h => ⟨_, PSs.nox (pss_one (ps_ret (pe_lc (own := [("place", 2)]) (g := gName 2) (tt := tYes) rfl sc_Joints_later_lots.nd (pi_list (pe_mt D_Joints_next_ones T.cl_Joints (pv 0) (hr.mono (by decide)) (pa_cons (pv 1) pa_nil))) (blkOk_by (N := ["self", "lot", "place"]) (sc := defScope s_Joints_later_lots) (by decide +kernel)) (fun _ _ _ _ _ => pg_name (i := 2) sc_Joints_later_lots.nd rfl (Or.inl rfl)) (fun _ _ _ _ _ => pts_nil) (fun _ _ _ _ _ => (pe_op op_or (pv 1) (pe_op op_shl pe_int (pv 2))))))), ?_⟩)
  · first | (obtain ⟨_, rfl, _⟩ := h; rfl) | (obtain ⟨_, _, rfl, _⟩ := h; rfl) | (obtain ⟨_, _, _, rfl, _⟩ := h; rfl) | (obtain ⟨_, _, _, _, rfl, _⟩ := h; rfl) | (obtain ⟨_, _, _, _, _, rfl, _⟩ := h; rfl) | (obtain ⟨_, _, _, _, _, _, rfl, _⟩ := h; rfl) | (obtain ⟨_, _, _, _, _, _, _, rfl, _⟩ := h; rfl) | (obtain ⟨_, _, _, _, _, _, _, _, rfl, _⟩ := h; rfl) | (obtain ⟨_, _, _, _, _, _, _, _, _, rfl, _⟩ := h; rfl) | (obtain ⟨_, _, _, _, _, _, _, _, _, _, rfl, _⟩ := h; rfl) | (obtain ⟨_, _, _, _, _, _, _, _, _, _, _, rfl, _⟩ := h; rfl) | (obtain ⟨_, _, _, _, _, _, _, _, _, _, _, _, rfl, _⟩ := h; rfl)
  obtain ⟨v, ow, du, lot, rfl, hJ, h14, hl, k⟩ := h
  obtain ⟨a, dx, lg, rfl, ha, hg⟩ := id hJ
  refine ⟨_, rfl, a, dx, _, rfl, ha, jf_no _ _ _ _ (by decide +kernel) (by decide +kernel) (by decide +kernel) (by decide +kernel), _, rfl, _, ow, du, lot, rfl, hJ, h14, hl, fun l H1 e1 h1 => ?_⟩
  have pl := places_le (ow := ow) (du := du) (lot := lot)
  refine ⟨l, rfl, ⟨_, sql h1⟩, fun D hD => ?_⟩
  refine lc_listR (K := K) (a := l) (xs := (nI (placesM ow du lot)).map V.int) (fun i v _ => ∀ n, (laterM ow du lot)[i]? = some n → v = .int (n : Int)) (fun _ _ _ _ _ r => r) hD (sql h1) (szl (by rw [nI_len]; omega)) (fun i x H2 hx e Q' hq => ?_) (fun ys H2 e2 hD2 hl2 hy => ?_)
  · obtain ⟨n, hn, rfl⟩ := nI_at hx
    have nlt := places_lt (List.mem_of_getElem? hn)
    refine ⟨_, rfl, _, rfl, _, _, rfl, rfl, shl_ok (by omega), _, _, rfl, rfl, ?_⟩
    dsimp only
    rw [or1]
    refine hq _ _ (Same.refl _) fun z hz => ?_
    unfold laterM at hz
    rw [List.getElem?_map, hn] at hz
    cases hz
    rfl
  · have ey : ys = (nI (laterM ow du lot)).map V.int := nI_V (by rw [hl2, nI_len]; unfold laterM; rw [List.length_map]) hy
    rw [ey] at hD2
    exact k D H2 (e1.trans e2) hD2
def sp_Joints_follow (K : PySem.W.Frag) : Sp := fun vs H Q _ => ∃ (v : V) (ow du : List Int) (few : Bool), vs = [v, .bl few] ∧ JoAt K H v ow du ∧ NN ow du ≤ 14 ∧ ∀ l H', Same H H' → H' l = some (.lst ((followM ow du few).map V.int)) → Q (.ref l) H'
theorem fol_at {l : List Int} {i : Nat} (h : i < l.length) : (l.map V.int)[i]? = some (.int (l.getD i 0)) := by
  rw [List.getElem?_map, List.getElem?_eq_getElem h, List.getD_eq_getElem?_getD, List.getElem?_eq_getElem h]
  rfl
theorem later_lt {ow du : List Int} {lot n : Nat} (h : lot < 2 ^ NN ow du) (hn : n ∈ laterM ow du lot) : n < 2 ^ NN ow du := by
  obtain ⟨pl, hp, rfl⟩ := List.mem_map.mp hn
  exact or_lt h (places_lt hp)
theorem sc_Joints_follow : FnScope ["self", "wants_few", "gap", "found", "lot", "later", "numbers"] ["self", "wants_few"] (defScope s_Joints_follow) := ⟨rfl, rfl, rfl, by decide +kernel, rfl, by decide +kernel, by decide +kernel⟩
/-- the body of Joints.follow -/
theorem ok_Joints_follow {f : Addr} {fd : FuncData} (T : Txt K mg) (F : FnP K "follow" "Joints.follow" s_Joints_follow f fd) (D_Joints_later_lots : Dm P w K mg base "Joints" "later_lots" ["self", "lot"] 2 (sp_Joints_later_lots K)) : FnOk P w K mg base CX0 3 f fd ["self", "wants_few"] (sp_Joints_follow K) := by
  refine F.ok sc_Joints_follow (fun vs H Q E h => ?_) (fun cdv A outer s H vs Q E hr h => ⟨_, PSs.nox (pss_cons (ps_set (i := 3) sc_Joints_follow.nd rfl (Or.inr rfl) (pe_lc (own := [("gap", 2)]) (g := gName 2) (tt := tYes) rfl sc_Joints_follow.nd (pi_list (fldK K (pv 0) rfl)) (blkOk_by (N := ["self", "wants_few", "gap", "found", "lot", "later", "numbers"]) (sc := defScope s_Joints_follow) (by decide +kernel)) (fun _ _ _ _ _ => pg_name (i := 2) sc_Joints_follow.nd rfl (Or.inl rfl)) (fun _ _ _ _ _ => pts_nil) (fun _ _ _ _ _ => pe_int)))
    (pss_cons (ps_for PassesOwn.never rfl (pi_range3 rfl T.range (pa_cons (pe_op op_sub (fldK K (pv 0) rfl) pe_int) (pa_cons (pe_un un_neg pe_int) (pa_cons (pe_un un_neg pe_int) pa_nil)))) (pg_name (i := 4) sc_Joints_follow.nd rfl (Or.inl rfl))
      (pss_cons (ps_setLc (i := 6) (own := [("later", 5)]) (g := gName 5) (tt := tYes) rfl sc_Joints_follow.nd rfl rfl (sw_true rfl rfl rfl (by decide +kernel)) (pi_list (pe_mt D_Joints_later_lots T.cl_Joints (pv 0) (hr.mono (by decide)) (pa_cons (pv 4) pa_nil))) (blkOk_by (N := ["self", "wants_few", "gap", "found", "lot", "later", "numbers"]) (sc := defScope s_Joints_follow) (by decide +kernel)) (fun _ _ _ _ _ => pg_name (i := 5) sc_Joints_follow.nd rfl (Or.inl rfl)) (fun _ _ _ _ _ => pts_nil) (fun _ _ _ _ _ => (pe_op op_add (pe_ix (ixL K) (pv 3) (pv 5) (fun _ _ => rfl)) (pe_callTy call_int1 (by rfl) T.int' (by decide +kernel) (pa_cons (pe_cmpR op_eq (pe_ix (ixL K) (fldK K (pv 0) rfl) (pv 5) (fun _ _ => rfl)) pe_int (nomark _)) pa_nil)))))
      (pss_one (ps_if (pt_cmpR op_gt (pe_callB call_len_seq (by rfl) T.len' (by decide +kernel) (pa_cons (pv 6) pa_nil)) pe_int (nomark _))
        (pss_one (ps_asg (pe_ifExp (pt_val (pv 1)) (pe_callB (cr_min rfl) (by rfl) T.min' (by decide +kernel) (pa_cons (pv 6) pa_nil)) (pe_callB (cr_max rfl) (by rfl) T.max' (by decide +kernel) (pa_cons (pv 6) pa_nil))) (pg_sub (pv 3) (pv 4) set_list)))
        pss_nil))))
    (pss_one (ps_ret (pv 3))))), ?_⟩)
  · first | (obtain ⟨_, rfl, _⟩ := h; rfl) | (obtain ⟨_, _, rfl, _⟩ := h; rfl) | (obtain ⟨_, _, _, rfl, _⟩ := h; rfl) | (obtain ⟨_, _, _, _, rfl, _⟩ := h; rfl) | (obtain ⟨_, _, _, _, _, rfl, _⟩ := h; rfl) | (obtain ⟨_, _, _, _, _, _, rfl, _⟩ := h; rfl) | (obtain ⟨_, _, _, _, _, _, _, rfl, _⟩ := h; rfl) | (obtain ⟨_, _, _, _, _, _, _, _, rfl, _⟩ := h; rfl) | (obtain ⟨_, _, _, _, _, _, _, _, _, rfl, _⟩ := h; rfl) | (obtain ⟨_, _, _, _, _, _, _, _, _, _, rfl, _⟩ := h; rfl) | (obtain ⟨_, _, _, _, _, _, _, _, _, _, _, rfl, _⟩ := h; rfl) | (obtain ⟨_, _, _, _, _, _, _, _, _, _, _, _, rfl, _⟩ := h; rfl)
  obtain ⟨v, ow, du, few, rfl, hJ, h14, k⟩ := h
  obtain ⟨a, dx, lg, rfl, ha, hg⟩ := id hJ
  have pN := pow14 h14
  have pp := Nat.two_pow_pos (NN ow du)
  have gl : ((gapsL (nums ow du)).map V.int).length = 2 ^ NN ow du := by rw [List.length_map, gapsL_len, nums_len]
  refine ⟨_, rfl, a, _, dx, _, _, rfl, ha, T.cl_Joints, T.na_gaps, jf_gaps _ _ _ _, lg, rfl, ⟨_, sql hg⟩, fun fo hfo => ?_⟩
  refine lc_listR (K := K) (a := lg) (xs := (gapsL (nums ow du)).map V.int) (fun i v _ => v = .int 0) (fun _ _ _ _ _ r => r) hfo (sql hg) (szl (by omega)) (fun i x H2 hx e Q' hq => hq _ _ (Same.refl _) rfl) (fun ys H1 e1 hf1 hl hy => ?_)
  have ey : ys = (folF ow du few 0).map V.int := by
    show ys = (List.replicate (2 ^ NN ow du) 0).map V.int
    refine list_of_map (by rw [hl, gl, List.length_replicate]) fun i y x hy' hx => ?_
    rw [hy i y hy']
    have : x = 0 := List.eq_of_mem_replicate (List.mem_of_getElem? hx)
    rw [this]
  subst ey
  refine ⟨_, rfl, a, _, dx, _, _, rfl, e1 _ _ ha, T.cl_Joints, T.na_everybody, jf_everybody _ _ _ _, _, _, rfl, rfl, 1, rfl, 1, rfl, ((2 ^ NN ow du - 1 : Nat) : Int) - 1, -1, -1, 2 ^ NN ow du - 1, rfl, ?_, for_rangeC (lo := ((2 ^ NN ow du - 1 : Nat) : Int) - 1) (c := -1) (n := 2 ^ NN ow du - 1)
    (fun i σ H' => ∃ x y z, σ = [some (.ref a), some (.bl few), x, some (.ref fo), y, z, (σ[6]?).getD none] ∧ σ.length = 7 ∧ Same H H' ∧ H' fo = some (.lst ((folF ow du few i).map V.int))) ?_ ?_ ?_⟩
  · have h := RgC.neg (i := ((2 ^ NN ow du - 1 : Nat) : Int) - 1) (j := -1) (by omega) (by omega) (by decide) (by decide)
    have e : (((2 ^ NN ow du - 1 : Nat) : Int) - 1 - -1).toNat = 2 ^ NN ow du - 1 := by omega
    rw [e] at h
    exact h
  · exact ⟨none, none, none, rfl, rfl, e1, hf1⟩
  · rintro i σ H' hi ⟨x, y, z, hσ, hlen, e, hf⟩
    generalize (σ[6]?).getD none = u at hσ
    subst hσ
    have el : (((2 ^ NN ow du - 1 : Nat) : Int) - 1 + (i : Nat) * -1) = ((2 ^ NN ow du - 1 - 1 - i : Nat) : Int) := by omega
    rw [el]
    have lotlt : 2 ^ NN ow du - 1 - 1 - i < 2 ^ NN ow du := by omega
    have fl : (folF ow du few i).length = 2 ^ NN ow du := folF_len i
    have en : folF ow du few (i + 1) = stepF ow du few (folF ow du few i) (2 ^ NN ow du - 1 - 1 - i) := rfl
    generalize 2 ^ NN ow du - 1 - 1 - i = lot at lotlt en ⊢
    have hJ' := hJ.mono e
    refine ⟨_, rfl, a, dx, _, rfl, e _ _ ha, jf_no _ _ _ _ (by decide +kernel) (by decide +kernel) (by decide +kernel) (by decide +kernel), _, rfl, _, ow, du, lot, rfl, hJ', h14, lotlt, fun l H2 e2 h2 => ?_⟩
    have e02 := e.trans e2
    have ll : (laterM ow du lot).length ≤ 14 := by
      unfold laterM
      rw [List.length_map]
      exact Nat.le_trans places_le h14
    refine ⟨l, rfl, ⟨_, sql h2⟩, fun D hD => ?_⟩
    refine lc_listR (K := K) (a := l) (xs := (nI (laterM ow du lot)).map V.int) (fun j v _ => ∀ n, (numL ow du (folF ow du few i) lot)[j]? = some n → v = .int n) (fun _ _ _ _ _ r => r) hD (sql h2) (szl (by rw [nI_len]; omega)) (fun j x H3 hx e3 Q' hq => ?_) (fun ys H3 e3 hD3 hl3 hy3 => ?_)
    · obtain ⟨n, hn, rfl⟩ := nI_at hx
      have nlt := later_lt lotlt (List.mem_of_getElem? hn)
      refine ⟨_, rfl, _, rfl, fo, _, _, _, rfl, rfl, sql (e3 _ _ (e2 _ _ hf)), at_of rfl (fol_at (by omega)), _, rfl, a, _, dx, _, _, rfl, e3 _ _ (e02 _ _ ha), T.cl_Joints, T.na_gaps, jf_gaps _ _ _ _, _, rfl, lg, _, _, _, rfl, rfl, sql (e3 _ _ (e02 _ _ hg)), at_of rfl (gaps_at nlt), rfl, .inr ⟨_, rfl, _, _, rfl, rfl, ?_⟩⟩
      refine hq _ _ (Same.refl _) fun z hz => ?_
      unfold numL at hz
      rw [List.getElem?_map, hn] at hz
      cases hz
      show V.int ((folF ow du few i).getD n 0 + (if decide (V.int (G ow du n) = V.int 0) = true then 1 else 0)) = V.int ((folF ow du few i).getD n 0 + one0 (G ow du n))
      unfold one0
      congr 2
      by_cases c : G ow du n = 0
      · rw [c, if_pos rfl, if_pos (decide_eq_true rfl)]
      · rw [if_neg c, if_neg (by simpa using c)]
    · have ey : ys = (numL ow du (folF ow du few i) lot).map V.int := list_of_map (by rw [hl3, nI_len]; unfold numL; rw [List.length_map]) fun j y n hy' hn => hy3 j y hy' n hn
      subst ey
      refine ⟨_, rfl, D, _, rfl, .inl (sql hD3), _, _, rfl, rfl, _, rfl, ?_⟩
      have e03 := e02.trans e3
      have hf3 := e3 _ _ (e2 _ _ hf)
      refine ite2 (fun c => ?_) (fun c => ?_)
      · have ne : numL ow du (folF ow du few i) lot ≠ [] := fun z => by
          rw [z] at c
          have := of_decide_eq_true c
          simp at this
        have pos : 0 < (numL ow du (folF ow du few i) lot).length := List.length_pos_iff.mpr ne
        -- the store, whatever is told
        have fin : ∀ m : Int, m = optL few (numL ow du (folF ow du few i) lot) → upd H3 fo (.lst (((folF ow du few i).map V.int).set lot (.int m))) fo = some (.lst ((folF ow du few (i + 1)).map V.int)) := fun m hm => by
          rw [upd_same, en, hm]
          unfold stepF
          rw [if_neg ne, List.map_set]
        have sm : ∀ m : V, Same H (upd H3 fo (.lst (((folF ow du few i).map V.int).set lot m))) := fun m => e03.mut hfo
        refine ⟨_, rfl, few, rfl, ?_⟩
        cases few with
        | true =>
          refine iteT ⟨_, rfl, D, _, rfl, sql hD3, pos, fun m hm hle => ?_⟩
          exact ⟨_, rfl, _, rfl, fo, _, _, lot, rfl, rfl, hf3, ixN_nat (by rw [List.length_map]; omega), _, _, _, rfl, rfl, sm _, fin m (optL_min hm hle)⟩
        | false =>
          refine iteF ⟨_, rfl, D, _, rfl, sql hD3, pos, fun m hm hle => ?_⟩
          exact ⟨_, rfl, _, rfl, fo, _, _, lot, rfl, rfl, hf3, ixN_nat (by rw [List.length_map]; omega), _, _, _, rfl, rfl, sm _, fin m (optL_max hm hle)⟩
      · have e0 : numL ow du (folF ow du few i) lot = [] := by
          cases q : numL ow du (folF ow du few i) lot with
          | nil => rfl
          | cons x xs =>
            refine absurd (decide_eq_true ?_) c
            rw [q]
            simp
        refine ⟨_, _, _, rfl, rfl, e03, ?_⟩
        rw [hf3, en]
        unfold stepF
        rw [if_pos e0]
  · rintro σ H' ⟨x, y, z, hσ, hlen, e, hf⟩
    generalize (σ[6]?).getD none = u at hσ
    subst hσ
    exact ⟨_, rfl, k _ _ e hf⟩
end
end K71
namespace K71
open PySem PySem.Spec PyProof.Rows L2
section
variable {P : Program} {w : World} {K : PySem.W.Frag} {mg : Str → Option Value} {base : Heap}
/-! ### orders, unlike queues -/
/-- a pair of orders stands there -/
def Ords (K : PySem.W.Frag) (H : Hp) (v : V) (r : List Nat × List Nat) : Prop := ∃ t va vb, v = .ref t ∧ SqT K H t [va, vb] ∧ IT K H va (nI r.1) ∧ IT K H vb (nI r.2)
theorem Ords.mono {H H' : Hp} {v : V} {r : List Nat × List Nat} (e : Same H H') (h : Ords K H v r) : Ords K H' v r := by
  obtain ⟨t, va, vb, h1, h2, h3, h4⟩ := h
  exact ⟨t, va, vb, h1, e.t h2, h3.mono e, h4.mono e⟩
def sp_Joints_orders (K : PySem.W.Frag) : Sp := fun vs H Q _ => ∃ (v : V) (ow du : List Int) (few : Bool), vs = [v, .bl few] ∧ JoAt K H v ow du ∧ NN ow du ≤ 14 ∧ PosL ow ∧ PosL du ∧ ow.sum = du.sum ∧
  ∀ u H', Same H H' → Ords K H' u (ordM ow du few (2 ^ NN ow du) 0) → Q u H'
/-- a value told otherwise -/
theorem val_then {R : V → Hp → Prop} {x y : V} {H : Hp} (e : x = y) (h : R y H) : R x H := e ▸ h
/-- the first that p tells -/
theorem find_ix {α : Type} {p : α → Bool} : ∀ {l : List α} {i : Nat} {a : α}, l[i]? = some a → p a = true → (∀ j b, j < i → l[j]? = some b → p b = false) → l.find? p = some a
  | [], i, a, h, _, _ => by cases h
  | x :: l, 0, a, h, ha, _ => by
    have e := Option.some.inj h
    subst e
    rw [List.find?_cons_of_pos ha]
  | x :: l, i + 1, a, h, ha, hn => by
    have hx := hn 0 x (by omega) rfl
    rw [List.find?_cons_of_neg (by rw [hx]; simp)]
    exact find_ix (i := i) (by simpa using h) ha fun j b hj hb => hn (j + 1) b (by omega) (by simpa using hb)
theorem ordM_step {ow du : List Int} {few : Bool} {k lot pl : Nat} (hf : (placesM ow du lot).find? (goodP ow du few lot) = some pl) :
    ordM ow du few (k + 1) lot = if pl < ow.length then (pl :: (ordM ow du few k (lot ||| 2 ^ pl)).1, (ordM ow du few k (lot ||| 2 ^ pl)).2) else ((ordM ow du few k (lot ||| 2 ^ pl)).1, (pl - ow.length) :: (ordM ow du few k (lot ||| 2 ^ pl)).2) := by
  show (match (placesM ow du lot).find? (goodP ow du few lot) with
    | none => ([], [])
    | some pl => _) = _
  rw [hf]
theorem ordM_last {ow du : List Int} {few : Bool} {k : Nat} : ordM ow du few k (2 ^ NN ow du - 1) = ([], []) := by
  cases k with
  | zero => rfl
  | succ k =>
    have hn : (placesM ow du (2 ^ NN ow du - 1)).find? (goodP ow du few (2 ^ NN ow du - 1)) = none := by
      refine List.find?_eq_none.mpr fun pl hp => ?_
      have h1 := (mem_places.mp hp).1
      rw [Nat.testBit_two_pow_sub_one, decide_eq_true (places_lt hp)] at h1
      cases h1
    show (match (placesM ow du (2 ^ NN ow du - 1)).find? (goodP ow du few (2 ^ NN ow du - 1)) with
      | none => ([], [])
      | some pl => _) = _
    rw [hn]
/-- what is kept behind each turn: the lots come, the orders so far -/
structure OI (H H' : Hp) (fl lo lt : Addr) (ow du : List Int) (few : Bool) (lot : Nat) (o t : List Nat) : Prop where
  sm : Same H H'
  fl : H' fl = some (.lst ((followM ow du few).map V.int))
  ho : H' lo = some (.lst ((nI o).map V.int))
  ht : H' lt = some (.lst ((nI t).map V.int))
  lt : lot < 2 ^ NN ow du
  k : ∃ k, 2 ^ NN ow du - 1 - lot ≤ k ∧ o ++ (ordM ow du few k lot).1 = (ordM ow du few (2 ^ NN ow du) 0).1 ∧ t ++ (ordM ow du few k lot).2 = (ordM ow du few (2 ^ NN ow du) 0).2
theorem nI_snoc (l : List Nat) (n : Nat) : (nI l).map V.int ++ [.int (n : Int)] = (nI (l ++ [n])).map V.int := by
  unfold nI
  rw [List.map_append, List.map_append]
  rfl
theorem goodP_V {ow du : List Int} {few : Bool} {lot l : Nat} : decide (V.int ((followM ow du few).getD l 0 + (if decide (V.int (G ow du l) = V.int 0) = true then 1 else 0)) = V.int ((followM ow du few).getD lot 0)) =
    decide (val ow du few l + one0 (G ow du l) = val ow du few lot) := by
  have e : (if decide (V.int (G ow du l) = V.int 0) = true then (1 : Int) else 0) = one0 (G ow du l) := by
    unfold one0
    by_cases c : G ow du l = 0
    · rw [c, if_pos rfl, if_pos (decide_eq_true rfl)]
    · rw [if_neg c, if_neg (by simpa using c)]
  rw [e]
  exact decide_eq_decide.mpr ⟨fun h => V.int.inj h, fun h => congrArg V.int h⟩
def muO (E : Nat) (σ : L2.St) : Nat := match σ with
  | [_, _, _, some (.int l), _, _, _, _] => E - l.toNat
  | _ => 0
theorem sc_Joints_orders : FnScope ["self", "wants_few", "follow", "lot", "owers", "takers", "place", "later"] ["self", "wants_few"] (defScope s_Joints_orders) := ⟨rfl, rfl, rfl, by decide +kernel, rfl, by decide +kernel, by decide +kernel⟩
/-- the body of Joints.orders -/
theorem ok_Joints_orders {f : Addr} {fd : FuncData} (T : Txt K mg) (F : FnP K "orders" "Joints.orders" s_Joints_orders f fd) (D_Joints_follow : Dm P w K mg base "Joints" "follow" ["self", "wants_few"] 3 (sp_Joints_follow K)) (D_Joints_next_ones : Dm P w K mg base "Joints" "next_ones" ["self", "lot"] 1 (sp_Joints_next_ones K)) : FnOk P w K mg base CX0 4 f fd ["self", "wants_few"] (sp_Joints_orders K) := by
  refine F.ok sc_Joints_orders (fun vs H Q E h => ?_) (fun cdv A outer s H vs Q E hr h => ⟨_, PSs.nox (pss_cons (ps_set (i := 2) sc_Joints_orders.nd rfl (Or.inl rfl) (pe_mt D_Joints_follow T.cl_Joints (pv 0) (hr.mono (by decide)) (pa_cons (pv 1) pa_nil)))
    (pss_cons (ps_set (i := 3) sc_Joints_orders.nd rfl (Or.inl rfl) pe_int)
    (pss_cons (ps_set (i := 4) sc_Joints_orders.nd rfl (Or.inl rfl) (pe_lst pa_nil))
    (pss_cons (ps_set (i := 5) sc_Joints_orders.nd rfl (Or.inl rfl) (pe_lst pa_nil))
    (pss_cons (ps_while PassesOwn.never (pt_cmpR op_ne (pv 3) (fldK K (pv 0) rfl) (nomark _))
      (pss_one (ps_for PassesOwn.never rfl (pi_list (pe_mt D_Joints_next_ones T.cl_Joints (pv 0) (hr.mono (by decide)) (pa_cons (pv 3) pa_nil))) (pg_name (i := 6) sc_Joints_orders.nd rfl (Or.inl rfl))
        (pss_cons (ps_set (i := 7) sc_Joints_orders.nd rfl (Or.inl rfl) (pe_op op_or (pv 3) (pe_op op_shl pe_int (pv 6))))
        (pss_one (ps_if (pt_cmpR op_eq (pe_op op_add (pe_ix (ixL K) (pv 2) (pv 7) (fun _ _ => rfl)) (pe_callTy call_int1 (by rfl) T.int' (by decide +kernel) (pa_cons (pe_cmpR op_eq (pe_ix (ixL K) (fldK K (pv 0) rfl) (pv 7) (fun _ _ => rfl)) pe_int (nomark _)) pa_nil))) (pe_ix (ixL K) (pv 2) (pv 3) (fun _ _ => rfl)) (nomark _))
          (pss_cons (ps_if (pt_cmpR op_lt (pv 6) (fldK K (pv 0) rfl) (nomark _))
            (pss_one (ps_expr (pe_bm PySem.F.plainAttrs_list PySem.F.slot_list_append PySem.F.type_list_append mt_append (pv 4) (pa_cons (pv 6) pa_nil))))
            (pss_one (ps_expr (pe_bm PySem.F.plainAttrs_list PySem.F.slot_list_append PySem.F.type_list_append mt_append (pv 5) (pa_cons (pe_op op_sub (pv 6) (fldK K (pv 0) rfl)) pa_nil)))))
          (pss_cons (ps_set (i := 3) sc_Joints_orders.nd rfl (Or.inl rfl) (pv 7))
          (pss_one ps_break)))
          pss_nil))))))
    (pss_one (ps_ret (pe_tup (pa_cons (pe_callTy call_tuple_of (by rfl) T.tuple' (by decide +kernel) (pa_cons (pv 4) pa_nil)) (pa_cons (pe_callTy call_tuple_of (by rfl) T.tuple' (by decide +kernel) (pa_cons (pv 5) pa_nil)) pa_nil)))))))))), ?_⟩)
  · first | (obtain ⟨_, rfl, _⟩ := h; rfl) | (obtain ⟨_, _, rfl, _⟩ := h; rfl) | (obtain ⟨_, _, _, rfl, _⟩ := h; rfl) | (obtain ⟨_, _, _, _, rfl, _⟩ := h; rfl) | (obtain ⟨_, _, _, _, _, rfl, _⟩ := h; rfl) | (obtain ⟨_, _, _, _, _, _, rfl, _⟩ := h; rfl) | (obtain ⟨_, _, _, _, _, _, _, rfl, _⟩ := h; rfl) | (obtain ⟨_, _, _, _, _, _, _, _, rfl, _⟩ := h; rfl) | (obtain ⟨_, _, _, _, _, _, _, _, _, rfl, _⟩ := h; rfl) | (obtain ⟨_, _, _, _, _, _, _, _, _, _, rfl, _⟩ := h; rfl) | (obtain ⟨_, _, _, _, _, _, _, _, _, _, _, rfl, _⟩ := h; rfl) | (obtain ⟨_, _, _, _, _, _, _, _, _, _, _, _, rfl, _⟩ := h; rfl)
  obtain ⟨v, ow, du, few, rfl, hJ, h14, po, pd, hs, k⟩ := h
  obtain ⟨a, dx, lg, rfl, ha, hg⟩ := id hJ
  have pN := pow14 h14
  have pp := Nat.two_pow_pos (NN ow du)
  have nof : ∀ {f : Str}, ¬ f = "everybody" → ¬ f = "gaps" → ¬ f = "everyone" → ¬ f = "many" → (jf (ow.length : Int) ((NN ow du : Nat) : Int) (.ref lg) ((2 ^ NN ow du - 1 : Nat) : Int)).lookup f = none := fun h1 h2 h3 h4 => jf_no _ _ _ _ h1 h2 h3 h4
  refine ⟨_, rfl, a, dx, _, rfl, ha, nof (by decide +kernel) (by decide +kernel) (by decide +kernel) (by decide +kernel), _, rfl, _, ow, du, few, rfl, hJ, h14, fun fl H1 e1 hfl => ?_⟩
  refine ⟨Nat.zero_le _, fun lo hlo => ⟨Nat.zero_le _, fun lt hlt => ?_⟩⟩
  have s2 := Same.new (o := .lst []) hlo
  have s3 := Same.new (o := .lst []) hlt
  have flo : H lo = none := e1.free hlo
  have flt : H lt = none := e1.free (s2.free hlt)
  have n1 : fl ≠ lo := ne_of_none hfl hlo
  have n2 : fl ≠ lt := ne_of_none (s2 _ _ hfl) hlt
  have n3 : lo ≠ lt := ne_of_none upd_same hlt
  have len := folF_len (ow := ow) (du := du) (few := few) (2 ^ NN ow du - 1)
  have len : (followM ow du few).length = 2 ^ NN ow du := len
  -- the orders are short
  have short := ordM_ok (few := few) po pd hs (2 ^ NN ow du) (lot := 0) pp (by omega)
  have sh := rem_start.mp short.1
  have sh1 : (ordM ow du few (2 ^ NN ow du) 0).1.length ≤ 14 := by
    rw [sh.1.length_eq, List.length_range]
    unfold NN at h14
    omega
  have sh2 : (ordM ow du few (2 ^ NN ow du) 0).2.length ≤ 14 := by
    rw [sh.2.length_eq, List.length_range]
    unfold NN at h14
    omega
  refine while_by (fun σ H' => ∃ (lot : Nat) (o t : List Nat) (x y : Option V), σ = [some (.ref a), some (.bl few), some (.ref fl), some (.int (lot : Int)), some (.ref lo), some (.ref lt), x, y] ∧ OI H H' fl lo lt ow du few lot o t)
    (fun σ _ => muO (2 ^ NN ow du - 1) σ) ?_ ?_ ?_
  · exact ⟨0, [], [], none, none, rfl, (e1.trans s2).trans s3, s3 _ _ (s2 _ _ hfl), s3 _ _ upd_same, upd_same, pp, _, by omega, rfl, rfl⟩
  · rintro σ H' ⟨lot, o, t, x, y, rfl, I⟩
    refine ⟨_, rfl, _, rfl, a, _, dx, _, _, rfl, I.sm _ _ ha, T.cl_Joints, T.na_everybody, jf_everybody _ _ _ _, rfl, _, rfl, ?_⟩
    refine ite2 (fun c => ?_) (fun c => ?_)
    · have hE : lot ≠ 2 ^ NN ow du - 1 := fun z => by
        rw [z] at c
        simp at c
      obtain ⟨pl0, hf0⟩ := find_some (few := few) po pd hs I.lt hE
      refine ⟨_, rfl, a, dx, _, rfl, I.sm _ _ ha, nof (by decide +kernel) (by decide +kernel) (by decide +kernel) (by decide +kernel), _, rfl, _, ow, du, lot, rfl, hJ.mono I.sm, h14, I.lt, fun lp H2 e2 hlp => ?_⟩
      refine ⟨lp, rfl, ⟨_, sql hlp⟩, for_list (K := K) (a := lp) (xs := (nI (placesM ow du lot)).map V.int) (fun i σ H3 => H3 = H2 ∧ (∃ x y, σ = [some (.ref a), some (.bl few), some (.ref fl), some (.int (lot : Int)), some (.ref lo), some (.ref lt), x, y]) ∧
        ∀ j b, j < i → (placesM ow du lot)[j]? = some b → goodP ow du few lot b = false) ?_ ?_ ?_ ?_⟩
      · exact ⟨rfl, ⟨_, _, rfl⟩, fun j b hj => by omega⟩
      · rintro i σ H3 _ ⟨rfl, _⟩
        exact sql hlp
      · rintro i z σ H3 hz ⟨rfl, ⟨x, y, rfl⟩, hno⟩
        obtain ⟨pl, hpl, rfl⟩ := nI_at hz
        have hmem := List.mem_of_getElem? hpl
        have plt := places_lt hmem
        have hb := (mem_places.mp hmem).1
        have hl' := or_lt I.lt plt
        have hgt := or_gt hb
        have eJ := I.sm.trans e2
        refine ⟨_, rfl, _, rfl, _, _, rfl, rfl, shl_ok (by omega), _, _, rfl, rfl, ?_⟩
        dsimp only
        rw [or1]
        refine ⟨_, rfl, _, rfl, fl, _, _, _, rfl, rfl, sql (e2 _ _ I.fl), at_of rfl (fol_at (by omega)), _, rfl, a, _, dx, _, _, rfl, eJ _ _ ha, T.cl_Joints, T.na_gaps, jf_gaps _ _ _ _, _, rfl, lg, _, _, _, rfl, rfl, sql (eJ _ _ hg), at_of rfl (gaps_at hl'), rfl, .inr ⟨_, rfl, _, _, rfl, rfl, ?_⟩⟩
        refine ⟨_, rfl, _, rfl, fl, _, _, _, rfl, rfl, sql (e2 _ _ I.fl), at_of rfl (fol_at (by have := I.lt; omega)), rfl, _, rfl, ?_⟩
        rw [goodP_V]
        refine ite2 (fun cg => ?_) (fun cg => ?_)
        · -- found
          have hf : (placesM ow du lot).find? (goodP ow du few lot) = some pl := find_ix hpl cg hno
          obtain ⟨kk, hk, q1, q2⟩ := I.k
          have hlt := I.lt
          obtain ⟨k', rfl⟩ : ∃ k', kk = k' + 1 := ⟨kk - 1, by omega⟩
          rw [ordM_step hf] at q1 q2
          refine ⟨_, rfl, _, rfl, a, _, dx, _, _, rfl, eJ _ _ ha, T.cl_Joints, T.na_many, jf_many _ _ _ _, _, _, rfl, rfl, _, rfl, ?_⟩
          have mu : muO (2 ^ NN ow du - 1) [some (.ref a), some (.bl few), some (.ref fl), some (.int ((lot ||| 2 ^ pl : Nat) : Int)), some (.ref lo), some (.ref lt), some (.int (pl : Int)), some (.int ((lot ||| 2 ^ pl : Nat) : Int))] <
              muO (2 ^ NN ow du - 1) [some (.ref a), some (.bl few), some (.ref fl), some (.int (lot : Int)), some (.ref lo), some (.ref lt), x, y] := by
            show 2 ^ NN ow du - 1 - ((lot ||| 2 ^ pl : Nat) : Int).toNat < 2 ^ NN ow du - 1 - ((lot : Nat) : Int).toNat
            rw [Int.toNat_natCast, Int.toNat_natCast]
            omega
          refine ite2 (fun cm => ?_) (fun cm => ?_)
          · have cm : pl < ow.length := by
              have := of_decide_eq_true cm
              omega
            rw [if_pos cm] at q1 q2
            have ol : o.length ≤ 14 := by
              have := congrArg List.length q1
              rw [List.length_append] at this
              omega
            refine ⟨_, rfl, .inl ⟨rfl, _, sql (e2 _ _ I.ho)⟩, _, rfl, lo, _, _, rfl, rfl, e2 _ _ I.ho, szt (by rw [nI_len]; omega), ?_⟩
            rw [nI_snoc]
            refine ⟨_, rfl, ⟨⟨lot ||| 2 ^ pl, o ++ [pl], t, _, _, rfl, eJ.mut flo, ?_, upd_same, ?_, hl', k', by omega, ?_, q2⟩, mu⟩⟩
            · rw [upd_ne n1]
              exact e2 _ _ I.fl
            · rw [upd_ne n3.symm]
              exact e2 _ _ I.ht
            · rw [List.append_assoc]
              exact q1
          · have cm : ¬ pl < ow.length := fun z => cm (decide_eq_true (by omega))
            rw [if_neg cm] at q1 q2
            have tl : t.length ≤ 14 := by
              have := congrArg List.length q2
              rw [List.length_append] at this
              omega
            refine ⟨_, rfl, .inl ⟨rfl, _, sql (e2 _ _ I.ht)⟩, _, rfl, _, rfl, a, _, dx, _, _, rfl, eJ _ _ ha, T.cl_Joints, T.na_many, jf_many _ _ _ _, _, _, rfl, rfl, lt, _, _, rfl, rfl, e2 _ _ I.ht, szt (by rw [nI_len]; omega), ?_⟩
            have es : ((pl : Int) - (ow.length : Int)) = ((pl - ow.length : Nat) : Int) := by omega
            dsimp only
            rw [es, nI_snoc]
            refine ⟨_, rfl, ⟨⟨lot ||| 2 ^ pl, o, t ++ [pl - ow.length], _, _, rfl, eJ.mut flt, ?_, ?_, upd_same, hl', k', by omega, q1, ?_⟩, mu⟩⟩
            · rw [upd_ne n2]
              exact e2 _ _ I.fl
            · rw [upd_ne n3]
              exact e2 _ _ I.ho
            · rw [List.append_assoc]
              exact q2
        · refine ⟨rfl, ⟨_, _, rfl⟩, fun j b hj hb2 => ?_⟩
          by_cases cj : j < i
          · exact hno j b cj hb2
          · have ej : j = i := by omega
            subst ej
            rw [hpl] at hb2
            cases hb2
            cases q : goodP ow du few lot pl with
            | false => rfl
            | true => exact absurd q cg
      · rintro σ H3 ⟨rfl, _, hno⟩
        exfalso
        have hgd := List.find?_some hf0
        obtain ⟨j, hj⟩ := List.getElem?_of_mem (List.mem_of_find?_eq_some hf0)
        have hjl := (List.getElem?_eq_some_iff.mp hj).1
        rw [hno j pl0 (by rw [nI_len]; exact hjl) hj] at hgd
        cases hgd
    · have hE : lot = 2 ^ NN ow du - 1 := by
        by_cases z : lot = 2 ^ NN ow du - 1
        · exact z
        · refine absurd ?_ c
          rw [decide_eq_false (fun h => z (by have := V.int.inj h; omega))]
          rfl
      obtain ⟨kk, hk, q1, q2⟩ := I.k
      rw [hE, ordM_last, List.append_nil] at q1 q2
      refine ⟨_, rfl, lo, _, rfl, .inl ⟨sql I.ho, fun p1 hp1 => ?_⟩⟩
      have z1 := Same.new (o := .tup ((nI o).map V.int)) hp1
      refine ⟨_, rfl, lt, _, rfl, .inl ⟨sql (z1 _ _ I.ht), fun p2 hp2 => ?_⟩⟩
      have z2 := Same.new (o := .tup ((nI t).map V.int)) hp2
      refine ⟨(by show 2 ≤ sizeLine; decide), fun p3 hp3 => ?_⟩
      have z3 := Same.new (o := .tup [.ref p1, .ref p2]) hp3
      refine k _ _ (((I.sm.trans z1).trans z2).trans z3) ⟨p3, _, _, rfl, sqt upd_same, ⟨p1, rfl, ?_⟩, ⟨p2, rfl, ?_⟩⟩
      · rw [← q1]
        exact z3.t (z2.t (sqt upd_same))
      · rw [← q2]
        exact z3.t (sqt upd_same)
  · rintro σ H' Q1 Q2 hq ⟨v, e, v2, e2, b, C, dy, fs, z, h1, h2, h3, h4, h5, h6, kk, e4, q1⟩
    exact ⟨v, e, v2, e2, b, C, dy, fs, z, h1, h2, h3, h4, h5, h6, kk, e4, hq _ _ q1⟩
/-- what unlike_queues gives stands there -/
def Told (K : PySem.W.Frag) (H : Hp) (v : V) : Option ((List Nat × List Nat) × (List Nat × List Nat)) → Prop
  | none => v = .non
  | some r => ∃ t v1 v2, v = .ref t ∧ SqT K H t [v1, v2] ∧ Ords K H v1 r.1 ∧ Ords K H v2 r.2
theorem Told.mono {H H' : Hp} {v : V} {r : Option ((List Nat × List Nat) × (List Nat × List Nat))} (e : Same H H') (h : Told K H v r) : Told K H' v r := by
  cases r with
  | none => exact h
  | some r =>
    obtain ⟨t, v1, v2, h1, h2, h3, h4⟩ := h
    exact ⟨t, v1, v2, h1, e.t h2, h3.mono e, h4.mono e⟩
theorem Told.non {H : Hp} {v : V} {r : Option ((List Nat × List Nat) × (List Nat × List Nat))} (h : Told K H v r) : decide (v = .non) = r.isNone := by
  cases r with
  | none =>
    rw [show v = .non from h]
    rfl
  | some r =>
    obtain ⟨t, v1, v2, rfl, _⟩ := h
    rfl
def sp_unlike_queues (K : PySem.W.Frag) : Sp := fun vs H Q _ => ∃ (v : V) (p q : Int) (os ds : List Int), vs = [v] ∧ EvAt K H v p q os ds ∧ EvD p q os ds ∧ os.length + ds.length ≤ 14 ∧ ∀ u H', Same H H' → Told K H' u (unlikeM os ds) → Q u H'
theorem sc_unlike_queues : FnScope ["evening", "joints"] ["evening"] (defScope s_unlike_queues) := ⟨rfl, rfl, rfl, by decide +kernel, rfl, by decide +kernel, by decide +kernel⟩
/-- the body of unlike_queues -/
theorem ok_unlike_queues {f : Addr} {fd : FuncData} (T : Txt K mg) (F : FnP K "unlike_queues" "unlike_queues" s_unlike_queues f fd) (D_check_most : Dn P w K mg base "check_most" ["many", "most"] 1 (sp_check_most K)) (D_Joints_init : Di P w K mg base "Joints" ["self", "evening"] 6 (sp_Joints_init K)) (D_queue_unit : Dn P w K mg base "queue_unit" ["evening"] 6 (sp_queue_unit K)) (D_people : Dn P w K mg base "people" ["evening"] 1 (sp_people K)) (D_Joints_orders : Dm P w K mg base "Joints" "orders" ["self", "wants_few"] 4 (sp_Joints_orders K)) (D_Joints_follow : Dm P w K mg base "Joints" "follow" ["self", "wants_few"] 3 (sp_Joints_follow K)) : FnOk P w K mg base CX0 8 f fd ["evening"] (sp_unlike_queues K) := by
  refine F.ok sc_unlike_queues (fun vs H Q E h => ?_) (fun cdv A outer s H vs Q E hr h => ⟨_, PSs.nox (pss_cons (ps_if (pt_cmpR op_notN (pe_dn D_queue_unit (hr.mono (by decide)) rfl (pa_cons (pv 0) pa_nil)) pe_non (nomark _))
      (pss_one (ps_ret pe_non))
      pss_nil)
    (pss_cons (ps_expr (pe_dn D_check_most (hr.mono (by decide)) rfl (pa_cons (pe_dn D_people (hr.mono (by decide)) rfl (pa_cons (pv 0) pa_nil)) (pa_cons (pe_globI T.c_MOST_JOINED (by rfl)) pa_nil))))
    (pss_cons (ps_set (i := 1) sc_unlike_queues.nd rfl (Or.inl rfl) (pe_mk D_Joints_init (hr.mono (by decide)) rfl T.mg_Joints (pa_cons (pv 0) pa_nil)))
    (pss_cons (ps_if (pt_cmpR op_eq (pe_ix (ixL K) (pe_mt D_Joints_follow T.cl_Joints (pv 1) (hr.mono (by decide)) (pa_cons pe_bl pa_nil)) pe_int (fun _ _ => rfl)) (pe_ix (ixL K) (pe_mt D_Joints_follow T.cl_Joints (pv 1) (hr.mono (by decide)) (pa_cons pe_bl pa_nil)) pe_int (fun _ _ => rfl)) (nomark _))
      (pss_one (ps_ret pe_non))
      pss_nil)
    (pss_one (ps_ret (pe_tup (pa_cons (pe_mt D_Joints_orders T.cl_Joints (pv 1) (hr.mono (by decide)) (pa_cons pe_bl pa_nil)) (pa_cons (pe_mt D_Joints_orders T.cl_Joints (pv 1) (hr.mono (by decide)) (pa_cons pe_bl pa_nil)) pa_nil))))))))), ?_⟩)
  · first | (obtain ⟨_, rfl, _⟩ := h; rfl) | (obtain ⟨_, _, rfl, _⟩ := h; rfl) | (obtain ⟨_, _, _, rfl, _⟩ := h; rfl) | (obtain ⟨_, _, _, _, rfl, _⟩ := h; rfl) | (obtain ⟨_, _, _, _, _, rfl, _⟩ := h; rfl) | (obtain ⟨_, _, _, _, _, _, rfl, _⟩ := h; rfl) | (obtain ⟨_, _, _, _, _, _, _, rfl, _⟩ := h; rfl) | (obtain ⟨_, _, _, _, _, _, _, _, rfl, _⟩ := h; rfl) | (obtain ⟨_, _, _, _, _, _, _, _, _, rfl, _⟩ := h; rfl) | (obtain ⟨_, _, _, _, _, _, _, _, _, _, rfl, _⟩ := h; rfl) | (obtain ⟨_, _, _, _, _, _, _, _, _, _, _, rfl, _⟩ := h; rfl) | (obtain ⟨_, _, _, _, _, _, _, _, _, _, _, _, rfl, _⟩ := h; rfl)
  obtain ⟨v, p, q, os, ds, rfl, hE, D, h14, k⟩ := h
  have hN : NN (wh os ds os) (wh os ds ds) ≤ 14 := by
    unfold NN
    rw [wh_len, wh_len]
    exact h14
  have po := wh_pos D (ks := os) fun k h => mo h
  have pd := wh_pos D (ks := ds) fun k h => md h
  have hs := wh_sum D
  refine ⟨_, rfl, v, p, q, os, ds, rfl, hE, D, fun u H1 e1 hu => ⟨rfl, _, rfl, ?_⟩⟩
  rw [hu, Bool.not_not]
  refine ite2 (fun c => ?_) (fun c => ?_)
  · refine k _ _ e1 ?_
    unfold unlikeM
    rw [if_pos c]
    exact rfl
  · refine ⟨_, rfl, v, p, q, os, ds, rfl, hE.mono e1, D, _, _, rfl, by omega, ?_⟩
    refine ⟨_, rfl, fun a dx na ndx nad => ?_⟩
    have s0 : Same H1 (upd (upd H1 dx (.own a)) a (.ins (He.ga K "Joints") dx [])) := (Same.new ndx).trans (Same.new (by rw [upd_ne nad.symm]; exact na))
    refine ⟨a, dx, v, p, q, os, ds, rfl, upd_same, (hE.mono e1).mono s0, D, h14, fun H2 f2 hJ => ⟨rfl, ?_⟩⟩
    have s2 : Same H1 H2 := Same.made na ndx f2
    have e2 := e1.trans s2
    have c' : ¬ (fitsB os ds || fitsB ds os) = true := c
    obtain ⟨a', dx', lg, ea, ha, hg⟩ := hJ
    cases ea
    have pp := Nat.two_pow_pos (NN (wh os ds os) (wh os ds ds))
    have len : ∀ few, (followM (wh os ds os) (wh os ds ds) few).length = 2 ^ NN (wh os ds os) (wh os ds ds) := fun few => folF_len _
    have hJ : ∀ {H' : Hp}, Same H2 H' → JoAt K H' (.ref a) (wh os ds os) (wh os ds ds) := fun e => ⟨a, dx', lg, rfl, e _ _ ha, e _ _ hg⟩
    have nof : ∀ {f : Str}, ¬ f = "everybody" → ¬ f = "gaps" → ¬ f = "everyone" → ¬ f = "many" → (jf ((wh os ds os).length : Int) ((NN (wh os ds os) (wh os ds ds) : Nat) : Int) (.ref lg) ((2 ^ NN (wh os ds os) (wh os ds ds) - 1 : Nat) : Int)).lookup f = none := fun h1 h2 h3 h4 => jf_no _ _ _ _ h1 h2 h3 h4
    refine ⟨_, rfl, a, dx', _, rfl, ha, nof (by decide +kernel) (by decide +kernel) (by decide +kernel) (by decide +kernel), _, wh os ds os, wh os ds ds, true, rfl, hJ (Same.refl _), hN, fun f1 H3 e3 h3 => ?_⟩
    refine ⟨f1, _, _, _, rfl, rfl, sql h3, at_of (j := 0) rfl (fol_at (by rw [len]; exact pp)), ?_⟩
    refine ⟨_, rfl, a, dx', _, rfl, e3 _ _ ha, nof (by decide +kernel) (by decide +kernel) (by decide +kernel) (by decide +kernel), _, wh os ds os, wh os ds ds, false, rfl, hJ e3, hN, fun f2 H4 e4 h4 => ?_⟩
    refine ⟨f2, _, _, _, rfl, rfl, sql h4, at_of (j := 0) rfl (fol_at (by rw [len]; exact pp)), rfl, _, rfl, ?_⟩
    have ev : decide (V.int ((followM (wh os ds os) (wh os ds ds) true).getD 0 0) = V.int ((followM (wh os ds os) (wh os ds ds) false).getD 0 0)) = decide (val (wh os ds os) (wh os ds ds) true 0 = val (wh os ds os) (wh os ds ds) false 0) :=
      decide_eq_decide.mpr ⟨fun h => V.int.inj h, fun h => congrArg V.int h⟩
    rw [ev]
    have e24 := (e3.trans e4)
    refine ite2 (fun c2 => ?_) (fun c2 => ?_)
    · refine k _ _ (e2.trans e24) ?_
      unfold unlikeM
      rw [if_neg c', if_pos (of_decide_eq_true c2)]
      exact rfl
    · refine ⟨_, rfl, a, dx', _, rfl, e24 _ _ ha, nof (by decide +kernel) (by decide +kernel) (by decide +kernel) (by decide +kernel), _, wh os ds os, wh os ds ds, false, rfl, hJ e24, hN, po, pd, hs, fun u1 H5 e5 h5 => ?_⟩
      have e25 := e24.trans e5
      refine ⟨_, rfl, a, dx', _, rfl, e25 _ _ ha, nof (by decide +kernel) (by decide +kernel) (by decide +kernel) (by decide +kernel), _, wh os ds os, wh os ds ds, true, rfl, hJ e25, hN, po, pd, hs, fun u2 H6 e6 h6 => ?_⟩
      refine ⟨(by show 2 ≤ sizeLine; decide), fun t ht => ?_⟩
      have z := Same.new (o := .tup [u1, u2]) ht
      refine k _ _ ((e2.trans (e25.trans e6)).trans z) ?_
      unfold unlikeM
      rw [if_neg c', if_neg (fun h => c2 (decide_eq_true h))]
      exact ⟨t, u1, u2, rfl, sqt upd_same, (h5.mono e6).mono z, h6.mono z⟩
def sp_queues_alike (K : PySem.W.Frag) : Sp := fun vs H Q _ => ∃ (v : V) (p q : Int) (os ds : List Int), vs = [v] ∧ EvAt K H v p q os ds ∧ EvD p q os ds ∧ os.length + ds.length ≤ 14 ∧ ∀ H', Same H H' → Q (.bl (unlikeM os ds).isNone) H'
theorem sc_queues_alike : FnScope ["evening"] ["evening"] (defScope s_queues_alike) := ⟨rfl, rfl, rfl, by decide +kernel, rfl, by decide +kernel, by decide +kernel⟩
/-- the body of queues_alike -/
theorem ok_queues_alike {f : Addr} {fd : FuncData} (T : Txt K mg) (F : FnP K "queues_alike" "queues_alike" s_queues_alike f fd) (D_unlike_queues : Dn P w K mg base "unlike_queues" ["evening"] 8 (sp_unlike_queues K)) : FnOk P w K mg base CX0 9 f fd ["evening"] (sp_queues_alike K) := by
  refine F.ok sc_queues_alike (fun vs H Q E h => ?_) (fun cdv A outer s H vs Q E hr h => ⟨_, PSs.nox (pss_one (ps_ret (pe_cmpR op_isN (pe_dn D_unlike_queues (hr.mono (by decide)) rfl (pa_cons (pv 0) pa_nil)) pe_non (nomark _)))), ?_⟩)
  · first | (obtain ⟨_, rfl, _⟩ := h; rfl) | (obtain ⟨_, _, rfl, _⟩ := h; rfl) | (obtain ⟨_, _, _, rfl, _⟩ := h; rfl) | (obtain ⟨_, _, _, _, rfl, _⟩ := h; rfl) | (obtain ⟨_, _, _, _, _, rfl, _⟩ := h; rfl) | (obtain ⟨_, _, _, _, _, _, rfl, _⟩ := h; rfl) | (obtain ⟨_, _, _, _, _, _, _, rfl, _⟩ := h; rfl) | (obtain ⟨_, _, _, _, _, _, _, _, rfl, _⟩ := h; rfl) | (obtain ⟨_, _, _, _, _, _, _, _, _, rfl, _⟩ := h; rfl) | (obtain ⟨_, _, _, _, _, _, _, _, _, _, rfl, _⟩ := h; rfl) | (obtain ⟨_, _, _, _, _, _, _, _, _, _, _, rfl, _⟩ := h; rfl) | (obtain ⟨_, _, _, _, _, _, _, _, _, _, _, _, rfl, _⟩ := h; rfl)
  obtain ⟨v, p, q, os, ds, rfl, hE, D, h14, k⟩ := h
  refine ⟨_, rfl, v, p, q, os, ds, rfl, hE, D, h14, fun u H1 e1 hu => ⟨rfl, ?_⟩⟩
  rw [hu.non]
  exact k _ e1
end
end K71
namespace K71
open PySem PySem.Spec PyProof.Rows L2
section
variable {P : Program} {w : World} {K : PySem.W.Frag} {mg : Str → Option Value} {base : Heap}
/-! ### the law's own: sources, draws, units -/
def sp_l_is_integer (K : PySem.W.Frag) : Sp := fun vs H Q _ => ∃ i : Int, vs = [.int i] ∧ Q (.bl true) H
theorem sc_l_is_integer : FnScope ["_law_thing"] ["_law_thing"] (defScope s_l_is_integer) := ⟨rfl, rfl, rfl, by decide +kernel, rfl, by decide +kernel, by decide +kernel⟩
/-- the body of _law_is_integer -/
theorem ok_l_is_integer {f : Addr} {fd : FuncData} (T : Txt K mg) (F : FnP K "_law_is_integer" "_law_is_integer" s_l_is_integer f fd)  : FnOk P w K mg base CX0 1 f fd ["_law_thing"] (sp_l_is_integer K) := by
  refine F.ok sc_l_is_integer (fun vs H Q E h => ?_) (fun cdv A outer s H vs Q E hr h => ⟨_, PSs.nox (pss_one (ps_ret (pe_and (pe_callB (isi K) (by rfl) T.isinstance' (by decide +kernel) (pa_cons (pv 0) (pa_cons (pe_bltn (by rfl) T.int' (by decide +kernel) (show RelV (.ty "int") (.type "int") from rfl)) pa_nil))) (pe_one (pe_not (pe_callB (isi K) (by rfl) T.isinstance' (by decide +kernel) (pa_cons (pv 0) (pa_cons (pe_bltn (by rfl) T.bool' (by decide +kernel) (show RelV (.ty "bool") (.type "bool") from rfl)) pa_nil)))))))), ?_⟩)
  · first | (obtain ⟨_, rfl, _⟩ := h; rfl) | (obtain ⟨_, _, rfl, _⟩ := h; rfl) | (obtain ⟨_, _, _, rfl, _⟩ := h; rfl) | (obtain ⟨_, _, _, _, rfl, _⟩ := h; rfl) | (obtain ⟨_, _, _, _, _, rfl, _⟩ := h; rfl) | (obtain ⟨_, _, _, _, _, _, rfl, _⟩ := h; rfl) | (obtain ⟨_, _, _, _, _, _, _, rfl, _⟩ := h; rfl) | (obtain ⟨_, _, _, _, _, _, _, _, rfl, _⟩ := h; rfl) | (obtain ⟨_, _, _, _, _, _, _, _, _, rfl, _⟩ := h; rfl) | (obtain ⟨_, _, _, _, _, _, _, _, _, _, rfl, _⟩ := h; rfl) | (obtain ⟨_, _, _, _, _, _, _, _, _, _, _, rfl, _⟩ := h; rfl) | (obtain ⟨_, _, _, _, _, _, _, _, _, _, _, _, rfl, _⟩ := h; rfl)
  obtain ⟨i, rfl, k⟩ := h
  exact ⟨_, rfl, _, _, _, _, true, rfl, .ty "int", .base (.int i), kit_ty (by decide +kernel), true, rfl, iteT ⟨_, rfl, _, _, _, _, false, rfl, .ty "bool", .base (.int i), kit_ty (by decide +kernel), false, rfl, k⟩⟩
def sp_l_flag (K : PySem.W.Frag) : Sp := fun vs H Q _ => ∃ a b : Bool, vs = [.bl a, .bl b] ∧ Q (.bl (decide (V.bl a = V.bl b))) H
theorem sc_l_flag : FnScope ["_law_told", "_law_due"] ["_law_told", "_law_due"] (defScope s_l_flag) := ⟨rfl, rfl, rfl, by decide +kernel, rfl, by decide +kernel, by decide +kernel⟩
/-- the body of _law_flag -/
theorem ok_l_flag {f : Addr} {fd : FuncData} (T : Txt K mg) (F : FnP K "_law_flag" "_law_flag" s_l_flag f fd)  : FnOk P w K mg base CX0 1 f fd ["_law_told", "_law_due"] (sp_l_flag K) := by
  refine F.ok sc_l_flag (fun vs H Q E h => ?_) (fun cdv A outer s H vs Q E hr h => ⟨_, PSs.nox (pss_one (ps_ret (pe_and (pe_callB (isi K) (by rfl) T.isinstance' (by decide +kernel) (pa_cons (pv 0) (pa_cons (pe_bltn (by rfl) T.bool' (by decide +kernel) (show RelV (.ty "bool") (.type "bool") from rfl)) pa_nil))) (pe_one (pe_cmpR op_eq (pv 0) (pv 1) (nomark _)))))), ?_⟩)
  · first | (obtain ⟨_, rfl, _⟩ := h; rfl) | (obtain ⟨_, _, rfl, _⟩ := h; rfl) | (obtain ⟨_, _, _, rfl, _⟩ := h; rfl) | (obtain ⟨_, _, _, _, rfl, _⟩ := h; rfl) | (obtain ⟨_, _, _, _, _, rfl, _⟩ := h; rfl) | (obtain ⟨_, _, _, _, _, _, rfl, _⟩ := h; rfl) | (obtain ⟨_, _, _, _, _, _, _, rfl, _⟩ := h; rfl) | (obtain ⟨_, _, _, _, _, _, _, _, rfl, _⟩ := h; rfl) | (obtain ⟨_, _, _, _, _, _, _, _, _, rfl, _⟩ := h; rfl) | (obtain ⟨_, _, _, _, _, _, _, _, _, _, rfl, _⟩ := h; rfl) | (obtain ⟨_, _, _, _, _, _, _, _, _, _, _, rfl, _⟩ := h; rfl) | (obtain ⟨_, _, _, _, _, _, _, _, _, _, _, _, rfl, _⟩ := h; rfl)
  obtain ⟨a, b, rfl, k⟩ := h
  exact ⟨_, rfl, _, _, _, _, true, rfl, .ty "bool", .base (.bl a), kit_ty (by decide +kernel), true, rfl, iteT ⟨_, rfl, _, rfl, rfl, k⟩⟩
/-- a source: a list of five ints -/
def Src (H : Hp) (a : Addr) : Prop := ∃ x0 x1 x2 x3 x4 : Int, H a = some (.lst [.int x0, .int x1, .int x2, .int x3, .int x4])
theorem Src.same {H H' : Hp} {a : Addr} (e : Same H H') (h : Src H a) : Src H' a := by
  obtain ⟨x0, x1, x2, x3, x4, h⟩ := h
  exact ⟨x0, x1, x2, x3, x4, e _ _ h⟩
theorem Src.lst {H : Hp} {a : Addr} (h : Src H a) : ∃ xs, H a = some (.lst xs) := by
  obtain ⟨x0, x1, x2, x3, x4, h⟩ := h
  exact ⟨_, h⟩
theorem FrA.tame {a : Addr} {H H' : Hp} (s : Src H a) (f : FrA a H H') : Tame H H' := fun x xs hx => by
  obtain ⟨ys, h⟩ := s.lst
  have ne : x ≠ a := fun e => by
    subst e
    rcases hx with hx | ⟨o, hx⟩
    · rw [h] at hx
      cases hx
    · rw [h] at hx
      cases hx
  rcases hx with hx | ⟨o, hx⟩
  · exact .inl (f _ _ hx ne)
  · exact .inr ⟨o, f _ _ hx ne⟩
/-- what stood before the source was made stands -/
theorem FrA.out {a : Addr} {H0 H H' : Hp} (e : Same H0 H) (n : H0 a = none) (f : FrA a H H') : Same H0 H' := fun b o hb => f _ _ (e _ _ hb) (ne_of_none hb n)
def sp_l_source (K : PySem.W.Frag) : Sp := fun vs H Q _ => ∃ (s : Addr) (ns : List Int) (j : Nat), vs = [.ref s, .int (j : Int)] ∧ SqL K H s (ns.map V.int) ∧ ns.length ≤ 63 ∧ ∀ a H', H a = none → Same H H' → Src H' a → Q (.ref a) H'
theorem z1 : (0 : Int) < 2147483647 := by decide
theorem z2 : (0 : Int) < 2147483399 := by decide
theorem z3 : (0 : Int) < 2147483629 := by decide
theorem sc_l_source : FnScope ["_law_script", "_law_k", "_law_fold", "_law_item", "_law_cell"] ["_law_script", "_law_k"] (defScope s_l_source) := ⟨rfl, rfl, rfl, by decide +kernel, rfl, by decide +kernel, by decide +kernel⟩
/-- the body of _law_source -/
theorem ok_l_source {f : Addr} {fd : FuncData} (T : Txt K mg) (F : FnP K "_law_source" "_law_source" s_l_source f fd)  : FnOk P w K mg base CX0 1 f fd ["_law_script", "_law_k"] (sp_l_source K) := by
  refine F.ok sc_l_source (fun vs H Q E h => ?_) (fun cdv A outer s H vs Q E hr h => ⟨_, PSs.nox (pss_cons (ps_set (i := 2) sc_l_source.nd rfl (Or.inl rfl) pe_int)
    (pss_cons (ps_for PassesOwn.never rfl (pi_list (pe_slice sl_list (pv 0) po_none (po_some pe_int))) (pg_name (i := 3) sc_l_source.nd rfl (Or.inl rfl))
      (pss_one (ps_set (i := 2) sc_l_source.nd rfl (Or.inl rfl) (pe_op op_mod (pe_callTy call_int1 (by rfl) T.int' (by decide +kernel) (pa_cons (pe_op op_add (pe_op op_add (pe_op op_mul (pv 2) pe_int) (pe_op op_mod (pe_callTy call_int1 (by rfl) T.int' (by decide +kernel) (pa_cons (pv 3) pa_nil)) pe_int)) pe_int) pa_nil)) pe_int))))
    (pss_cons (ps_set (i := 4) sc_l_source.nd rfl (Or.inl rfl) (pe_ifExp (pt_cmpR op_lt (pv 1) (pe_callB call_len_seq (by rfl) T.len' (by decide +kernel) (pa_cons (pv 0) pa_nil)) (nomark _)) (pe_callTy call_int1 (by rfl) T.int' (by decide +kernel) (pa_cons (pe_ix (ixL K) (pv 0) (pv 1) (fun _ _ => rfl)) pa_nil)) pe_int))
    (pss_one (ps_ret (pe_lst (pa_cons (pe_ifExp (pt_cmpR op_ge (pv 4) (pe_op op_pow pe_int pe_int) (nomark _)) (pv 4) pe_int) (pa_cons (pe_op op_mod (pe_callTy call_int1 (by rfl) T.int' (by decide +kernel) (pa_cons (pv 4) pa_nil)) pe_int) (pa_cons (pv 2) (pa_cons (pe_op op_add (pv 1) pe_int) (pa_cons pe_int pa_nil))))))))))), ?_⟩)
  · first | (obtain ⟨_, rfl, _⟩ := h; rfl) | (obtain ⟨_, _, rfl, _⟩ := h; rfl) | (obtain ⟨_, _, _, rfl, _⟩ := h; rfl) | (obtain ⟨_, _, _, _, rfl, _⟩ := h; rfl) | (obtain ⟨_, _, _, _, _, rfl, _⟩ := h; rfl) | (obtain ⟨_, _, _, _, _, _, rfl, _⟩ := h; rfl) | (obtain ⟨_, _, _, _, _, _, _, rfl, _⟩ := h; rfl) | (obtain ⟨_, _, _, _, _, _, _, _, rfl, _⟩ := h; rfl) | (obtain ⟨_, _, _, _, _, _, _, _, _, rfl, _⟩ := h; rfl) | (obtain ⟨_, _, _, _, _, _, _, _, _, _, rfl, _⟩ := h; rfl) | (obtain ⟨_, _, _, _, _, _, _, _, _, _, _, rfl, _⟩ := h; rfl) | (obtain ⟨_, _, _, _, _, _, _, _, _, _, _, _, rfl, _⟩ := h; rfl)
  obtain ⟨s', ns, j, rfl, hS, h63, k⟩ := h
  refine ⟨_, rfl, 63, rfl, s', _, rfl, hS, fun c hc => ?_⟩
  have e1 : Same H (upd H c (.lst (cutV (ns.map V.int) none (some 63)))) := Same.new hc
  obtain ⟨ms, em⟩ : ∃ ms : List Int, cutV (ns.map V.int) none (some 63) = ms.map V.int := by
    unfold cutV
    rw [← List.map_drop, ← List.map_take]
    exact ⟨_, rfl⟩
  rw [em] at e1 ⊢
  refine ⟨c, rfl, ⟨_, sql upd_same⟩, for_list (K := K) (a := c) (xs := ms.map V.int) (fun i σ H' => H' = upd H c (.lst (ms.map V.int)) ∧ ∃ (x : Int) (y z : Option V), σ = [some (.ref s'), some (.int (j : Int)), some (.int x), y, z]) ?_ ?_ ?_ ?_⟩
  · exact ⟨rfl, 23, none, none, rfl⟩
  · rintro i σ H' _ ⟨rfl, _⟩
    exact sql upd_same
  · rintro i v σ H' hv ⟨rfl, x, y, z, rfl⟩
    obtain ⟨n, hn, rfl⟩ := at_map hv
    refine ⟨_, rfl, _, _, rfl, rfl, .inr ⟨by decide, by decide⟩, _, rfl, .inl ⟨_, rfl, _, _, rfl, rfl, z3, _, _, rfl, rfl, _, _, rfl, rfl, .inl ⟨_, rfl, _, _, rfl, rfl, z1, ?_⟩⟩⟩
    exact ⟨rfl, _, _, _, rfl⟩
  · rintro σ H' ⟨rfl, x, y, z, rfl⟩
    refine ⟨_, rfl, _, rfl, s', _, rfl, .inl (e1.l hS), _, _, rfl, rfl, _, rfl, ?_⟩
    refine ite2 (fun cj => ?_) (fun cj => ?_)
    · have cj := of_decide_eq_true cj
      rw [List.length_map] at cj
      obtain ⟨n, hn⟩ : ∃ n, ns[j]? = some n := ⟨_, List.getElem?_eq_getElem (by omega)⟩
      refine ⟨_, rfl, _, rfl, s', _, _, V.int n, rfl, rfl, e1.l hS, at_of rfl (by rw [List.getElem?_map, hn]; rfl), .inl ⟨_, rfl, ?_⟩⟩
      refine ⟨_, rfl, _, _, rfl, rfl, ⟨by decide, by decide, by decide⟩, _, _, rfl, rfl, _, rfl, ?_⟩
      refine ite2 (fun c0 => ?_) (fun c0 => ?_)
      · exact ⟨_, rfl, _, rfl, .inl ⟨_, rfl, _, _, rfl, rfl, z3, _, rfl, _, rfl, _, _, rfl, rfl, by show 5 ≤ sizeLine; decide, fun a ha => k a _ (e1.free ha) (e1.trans (Same.new ha)) ⟨_, _, _, _, _, upd_same⟩⟩⟩
      · exact ⟨_, rfl, .inl ⟨_, rfl, _, _, rfl, rfl, z3, _, rfl, _, rfl, _, _, rfl, rfl, by show 5 ≤ sizeLine; decide, fun a ha => k a _ (e1.free ha) (e1.trans (Same.new ha)) ⟨_, _, _, _, _, upd_same⟩⟩⟩
    · refine ⟨_, rfl, _, _, rfl, rfl, ⟨by decide, by decide, by decide⟩, _, _, rfl, rfl, _, rfl, ?_⟩
      refine ite2 (fun c0 => ?_) (fun c0 => ?_)
      · exact ⟨_, rfl, _, rfl, .inl ⟨_, rfl, _, _, rfl, rfl, z3, _, rfl, _, rfl, _, _, rfl, rfl, by show 5 ≤ sizeLine; decide, fun a ha => k a _ (e1.free ha) (e1.trans (Same.new ha)) ⟨_, _, _, _, _, upd_same⟩⟩⟩
      · exact ⟨_, rfl, .inl ⟨_, rfl, _, _, rfl, rfl, z3, _, rfl, _, rfl, _, _, rfl, rfl, by show 5 ≤ sizeLine; decide, fun a ha => k a _ (e1.free ha) (e1.trans (Same.new ha)) ⟨_, _, _, _, _, upd_same⟩⟩⟩
def sp_l_draw (K : PySem.W.Frag) : Sp := fun vs H Q _ => ∃ (a : Addr) (m : Int), vs = [.ref a, .int m] ∧ Src H a ∧ 0 < m ∧ m < 2 ^ 30 ∧ ∀ (d : Int) H', 0 ≤ d → d < m → FrA a H H' → Src H' a → Q (.int d) H'
theorem wd {i j : Int} (h0 : 0 < j) (h : j < 2 ^ 30) : CDivW i j := wide_div (b := 30) h0 (by omega) (by decide) (by decide)
theorem sc_l_draw : FnScope ["_law_source_here", "_law_many", "_law_got", "_law_number"] ["_law_source_here", "_law_many"] (defScope s_l_draw) := ⟨rfl, rfl, rfl, by decide +kernel, rfl, by decide +kernel, by decide +kernel⟩
/-- the body of _law_draw -/
theorem ok_l_draw {f : Addr} {fd : FuncData} (T : Txt K mg) (F : FnP K "_law_draw" "_law_draw" s_l_draw f fd)  : FnOk P w K mg base CX0 1 f fd ["_law_source_here", "_law_many"] (sp_l_draw K) := by
  refine F.ok sc_l_draw (fun vs H Q E h => ?_) (fun cdv A outer s H vs Q E hr h => ⟨_, PSs.nox (pss_cons (ps_if (pt_cmpR op_gt (pe_ix (ixL K) (pv 0) pe_int (fun _ _ => rfl)) pe_int (nomark _))
      (pss_cons (ps_set (i := 2) sc_l_draw.nd rfl (Or.inl rfl) (pe_op op_mod (pe_callTy call_int1 (by rfl) T.int' (by decide +kernel) (pa_cons (pe_ix (ixL K) (pv 0) pe_int (fun _ _ => rfl)) pa_nil)) (pv 1)))
      (pss_cons (ps_asg (pe_op op_fdivW (pe_ix (ixL K) (pv 0) pe_int (fun _ _ => rfl)) (pv 1)) (pg_sub (pv 0) pe_int set_list))
      (pss_one (ps_ret (pv 2)))))
      pss_nil)
    (pss_cons (ps_asg (pe_op op_add (pe_ix (ixL K) (pv 0) pe_int (fun _ _ => rfl)) pe_int) (pg_sub (pv 0) pe_int set_list))
    (pss_cons (ps_set (i := 3) sc_l_draw.nd rfl (Or.inl rfl) (pe_op op_mod (pe_callTy call_int1 (by rfl) T.int' (by decide +kernel) (pa_cons (pe_op op_mul (pe_op op_add (pe_op op_add (pe_op op_add (pe_ix (ixL K) (pv 0) pe_int (fun _ _ => rfl)) (pe_ix (ixL K) (pv 0) pe_int (fun _ _ => rfl))) (pe_op op_mul pe_int (pe_ix (ixL K) (pv 0) pe_int (fun _ _ => rfl)))) (pe_op op_mul pe_int (pe_ix (ixL K) (pv 0) pe_int (fun _ _ => rfl)))) pe_int) pa_nil)) pe_int))
    (pss_cons (ps_set (i := 3) sc_l_draw.nd rfl (Or.inl rfl) (pe_op op_mod (pe_callTy call_int1 (by rfl) T.int' (by decide +kernel) (pa_cons (pe_op op_mul (pv 3) (pe_op op_add (pe_op op_fdivW (pv 3) pe_int) pe_int)) pa_nil)) pe_int))
    (pss_cons (ps_set (i := 3) sc_l_draw.nd rfl (Or.inl rfl) (pe_op op_mod (pe_callTy call_int1 (by rfl) T.int' (by decide +kernel) (pa_cons (pe_op op_mul (pv 3) (pe_op op_add (pe_op op_fdivW (pv 3) pe_int) pe_int)) pa_nil)) pe_int))
    (pss_one (ps_ret (pe_op op_mod (pe_callTy call_int1 (by rfl) T.int' (by decide +kernel) (pa_cons (pe_op op_fdivW (pv 3) pe_int) pa_nil)) (pv 1))))))))), ?_⟩)
  · first | (obtain ⟨_, rfl, _⟩ := h; rfl) | (obtain ⟨_, _, rfl, _⟩ := h; rfl) | (obtain ⟨_, _, _, rfl, _⟩ := h; rfl) | (obtain ⟨_, _, _, _, rfl, _⟩ := h; rfl) | (obtain ⟨_, _, _, _, _, rfl, _⟩ := h; rfl) | (obtain ⟨_, _, _, _, _, _, rfl, _⟩ := h; rfl) | (obtain ⟨_, _, _, _, _, _, _, rfl, _⟩ := h; rfl) | (obtain ⟨_, _, _, _, _, _, _, _, rfl, _⟩ := h; rfl) | (obtain ⟨_, _, _, _, _, _, _, _, _, rfl, _⟩ := h; rfl) | (obtain ⟨_, _, _, _, _, _, _, _, _, _, rfl, _⟩ := h; rfl) | (obtain ⟨_, _, _, _, _, _, _, _, _, _, _, rfl, _⟩ := h; rfl) | (obtain ⟨_, _, _, _, _, _, _, _, _, _, _, _, rfl, _⟩ := h; rfl)
  obtain ⟨a, m, rfl, ⟨x0, x1, x2, x3, x4, h⟩, hm, hm2, k⟩ := h
  refine ⟨_, rfl, _, _, _, _, rfl, rfl, sql h, rfl, _, _, rfl, rfl, _, rfl, ?_⟩
  refine ite2 (fun c => ?_) (fun c => ?_)
  · refine ⟨_, rfl, _, _, _, _, rfl, rfl, sql h, rfl, .inl ⟨_, rfl, _, rfl, _, _, rfl, rfl, hm, _, rfl, _, _, _, _, rfl, rfl, sql h, rfl, _, rfl, _, _, rfl, rfl, wd hm hm2, _, rfl, a, _, _, 0, rfl, rfl, h, rfl, _, rfl, ?_⟩⟩
    exact k _ _ (Int.emod_nonneg _ (by omega)) (Int.emod_lt_of_pos _ hm) ((FrA.refl a H).put) ⟨_, _, _, _, _, upd_same⟩
  · refine ⟨_, rfl, _, _, _, _, rfl, rfl, sql h, rfl, _, _, rfl, rfl, _, rfl, a, _, _, 4, rfl, rfl, h, rfl, upd_then fun H1 h1 f1 => ?_⟩
    refine ⟨_, rfl, _, _, _, _, rfl, rfl, sql h1, rfl, _, rfl, _, _, _, _, rfl, rfl, sql h1, rfl, _, _, rfl, rfl, _, rfl, _, _, _, _, rfl, rfl, sql h1, rfl, _, _, rfl, rfl, .inl ⟨by decide, by decide⟩, _, _, rfl, rfl, _, rfl, _, _, _, _, rfl, rfl, sql h1, rfl, _, _, rfl, rfl, .inl ⟨by decide, by decide⟩, _, _, rfl, rfl, _, _, rfl, rfl, .inr ⟨by decide, by decide⟩, .inl ⟨_, rfl, _, _, rfl, rfl, z1, ?_⟩⟩
    dsimp only
    generalize hn : _ % (2147483647 : Int) = n
    have n0 : 0 ≤ n := by
      rw [← hn]
      exact Int.emod_nonneg _ (by decide)
    have n1 : n < 2147483647 := by
      rw [← hn]
      exact Int.emod_lt_of_pos _ (by decide)
    refine ⟨_, rfl, _, rfl, _, _, rfl, rfl, wd (by decide) (by decide), _, _, rfl, rfl, _, _, rfl, rfl, .inl ⟨by omega, by omega⟩, .inl ⟨_, rfl, _, _, rfl, rfl, z1, ?_⟩⟩
    dsimp only
    generalize ho : _ % (2147483647 : Int) = o
    have o0 : 0 ≤ o := by
      rw [← ho]
      exact Int.emod_nonneg _ (by decide)
    have o1 : o < 2147483647 := by
      rw [← ho]
      exact Int.emod_lt_of_pos _ (by decide)
    refine ⟨_, rfl, _, rfl, _, _, rfl, rfl, wd (by decide) (by decide), _, _, rfl, rfl, _, _, rfl, rfl, .inl ⟨by omega, by omega⟩, .inl ⟨_, rfl, _, _, rfl, rfl, z2, ?_⟩⟩
    refine ⟨_, rfl, _, _, rfl, rfl, wd (by decide) (by decide), .inl ⟨_, rfl, _, rfl, _, _, rfl, rfl, hm, ?_⟩⟩
    exact k _ _ (Int.emod_nonneg _ (by omega)) (Int.emod_lt_of_pos _ hm) f1 ⟨_, _, _, _, _, h1⟩
def sp_l_made (K : PySem.W.Frag) : Sp := fun vs H Q _ => ∃ a b : Int, vs = [.int a, .int b] ∧ 0 < b ∧ b.natAbs < 2 ^ 600 ∧ newFr K H Q (mkQ a b)
theorem sc_l_made : FnScope ["_law_top", "_law_bottom", "_law_one", "_law_other"] ["_law_top", "_law_bottom"] (defScope s_l_made) := ⟨rfl, rfl, rfl, by decide +kernel, rfl, by decide +kernel, by decide +kernel⟩
/-- the body of _law_made -/
theorem ok_l_made {f : Addr} {fd : FuncData} (T : Txt K mg) (F : FnP K "_law_made" "_law_made" s_l_made f fd)  : FnOk P w K mg base CX0 1 f fd ["_law_top", "_law_bottom"] (sp_l_made K) := by
  refine F.ok sc_l_made (fun vs H Q E h => ?_) (fun cdv A outer s H vs Q E hr h => ⟨_, PSs.nox (pss_cons (ps_set (i := 2) sc_l_made.nd rfl (Or.inl rfl) (pe_callB call_abs (by rfl) T.abs' (by decide +kernel) (pa_cons (pv 0) pa_nil)))
    (pss_cons (ps_set (i := 3) sc_l_made.nd rfl (Or.inl rfl) (pv 1))
    (pss_cons (ps_while PassesOwn.never (pt_cmpR op_gt (pv 3) pe_int (nomark _))
      (pss_one (ps_par (i := 2) (j := 3) rfl sc_l_made.nd rfl rfl (by decide) rfl rfl (pa_cons (pv 3) (pa_cons (pe_op op_mod (pe_callTy call_int1 (by rfl) T.int' (by decide +kernel) (pa_cons (pv 2) pa_nil)) (pv 3)) pa_nil)) (by rfl))))
    (pss_one (ps_ret (pe_tup (pa_cons (pe_op op_fdivW (pv 0) (pv 2)) (pa_cons (pe_op op_fdivW (pv 1) (pv 2)) pa_nil)))))))), ?_⟩)
  · first | (obtain ⟨_, rfl, _⟩ := h; rfl) | (obtain ⟨_, _, rfl, _⟩ := h; rfl) | (obtain ⟨_, _, _, rfl, _⟩ := h; rfl) | (obtain ⟨_, _, _, _, rfl, _⟩ := h; rfl) | (obtain ⟨_, _, _, _, _, rfl, _⟩ := h; rfl) | (obtain ⟨_, _, _, _, _, _, rfl, _⟩ := h; rfl) | (obtain ⟨_, _, _, _, _, _, _, rfl, _⟩ := h; rfl) | (obtain ⟨_, _, _, _, _, _, _, _, rfl, _⟩ := h; rfl) | (obtain ⟨_, _, _, _, _, _, _, _, _, rfl, _⟩ := h; rfl) | (obtain ⟨_, _, _, _, _, _, _, _, _, _, rfl, _⟩ := h; rfl) | (obtain ⟨_, _, _, _, _, _, _, _, _, _, _, rfl, _⟩ := h; rfl) | (obtain ⟨_, _, _, _, _, _, _, _, _, _, _, _, rfl, _⟩ := h; rfl)
  obtain ⟨a, b, rfl, h0, hb, k⟩ := h
  obtain ⟨g0, g1⟩ := gcd_lt (a := a) h0 hb
  refine ⟨_, rfl, _, rfl, _, rfl, ?_⟩
  refine while_by (fun σ H' => H' = H ∧ ∃ x y : Int, σ = [some (.int a), some (.int b), some (.int x), some (.int y)] ∧ 0 ≤ x ∧ 0 ≤ y ∧ Int.gcd x y = Int.gcd a b)
    (fun σ _ => match σ with | [_, _, _, some (.int y)] => y.toNat | _ => 0) ?_ ?_ ?_
  · refine ⟨rfl, _, _, rfl, ?_, by omega, ?_⟩
    · split <;> omega
    · have e1 : (if a < 0 then -a else a) = ((a.natAbs : Nat) : Int) := by split <;> omega
      rw [e1, igcd, igcd, Int.natAbs_natCast]
  · rintro σ H' ⟨rfl, x, y, rfl, hx, hy, hg⟩
    refine ⟨_, rfl, _, _, rfl, rfl, _, rfl, ?_⟩
    refine ite2 (fun h0 => ?_) (fun h0 => ?_)
    · have h0 := of_decide_eq_true h0
      refine ⟨_, rfl, _, rfl, .inl ⟨_, rfl, _, rfl, _, _, rfl, rfl, h0, _, _, rfl, ⟨rfl, _, _, rfl, by omega, Int.emod_nonneg _ (by omega), gcd_step hx h0 hg⟩, ?_⟩⟩
      show (x % y).toNat < y.toNat
      have := Int.emod_lt_of_pos x h0
      omega
    · have e : y = 0 := by
        have : ¬ 0 < y := fun z => h0 (decide_eq_true z)
        omega
      subst e
      have e2 : x = ((Int.gcd a b : Nat) : Int) := by
        rw [← hg, Int.gcd_zero_right]
        omega
      subst e2
      refine ⟨_, rfl, _, rfl, _, _, rfl, rfl, wide_div g0 g1 (by decide) (by decide), _, rfl, _, rfl, _, _, rfl, rfl, wide_div g0 g1 (by decide) (by decide), (by show 2 ≤ sizeLine; decide), fun p hp => ?_⟩
      exact k _ _ (Same.new hp) ⟨p, rfl, sqt upd_same⟩
  · rintro σ H' Q1 Q2 hq ⟨v, e, i, j, e1, e2, kk, e3, q⟩
    exact ⟨v, e, i, j, e1, e2, kk, e3, hq _ _ q⟩
def sp_l_times (K : PySem.W.Frag) : Sp := fun vs H Q _ => ∃ (n : Int) (v : V) (p q : Int), vs = [.int n, v] ∧ Fr K H v (p, q) ∧ Unit2 p q ∧ n.natAbs < 2 ^ 50 ∧ newFr K H Q (fr p q n)
theorem sc_l_times : FnScope ["_law_number", "_law_unit_here"] ["_law_number", "_law_unit_here"] (defScope s_l_times) := ⟨rfl, rfl, rfl, by decide +kernel, rfl, by decide +kernel, by decide +kernel⟩
/-- the body of _law_times -/
theorem ok_l_times {f : Addr} {fd : FuncData} (T : Txt K mg) (F : FnP K "_law_times" "_law_times" s_l_times f fd) (D_l_made : Dn P w K mg base "_law_made" ["_law_top", "_law_bottom"] 1 (sp_l_made K)) : FnOk P w K mg base CX0 2 f fd ["_law_number", "_law_unit_here"] (sp_l_times K) := by
  refine F.ok sc_l_times (fun vs H Q E h => ?_) (fun cdv A outer s H vs Q E hr h => ⟨_, PSs.nox (pss_one (ps_ret (pe_dn D_l_made (hr.mono (by decide)) rfl (pa_cons (pe_op op_mul (pv 0) (pe_ix (ixT K) (pv 1) pe_int (fun _ _ => rfl))) (pa_cons (pe_ix (ixT K) (pv 1) pe_int (fun _ _ => rfl)) pa_nil))))), ?_⟩)
  · first | (obtain ⟨_, rfl, _⟩ := h; rfl) | (obtain ⟨_, _, rfl, _⟩ := h; rfl) | (obtain ⟨_, _, _, rfl, _⟩ := h; rfl) | (obtain ⟨_, _, _, _, rfl, _⟩ := h; rfl) | (obtain ⟨_, _, _, _, _, rfl, _⟩ := h; rfl) | (obtain ⟨_, _, _, _, _, _, rfl, _⟩ := h; rfl) | (obtain ⟨_, _, _, _, _, _, _, rfl, _⟩ := h; rfl) | (obtain ⟨_, _, _, _, _, _, _, _, rfl, _⟩ := h; rfl) | (obtain ⟨_, _, _, _, _, _, _, _, _, rfl, _⟩ := h; rfl) | (obtain ⟨_, _, _, _, _, _, _, _, _, _, rfl, _⟩ := h; rfl) | (obtain ⟨_, _, _, _, _, _, _, _, _, _, _, rfl, _⟩ := h; rfl) | (obtain ⟨_, _, _, _, _, _, _, _, _, _, _, _, rfl, _⟩ := h; rfl)
  obtain ⟨n, v, p, q, rfl, ⟨a, rfl, h1⟩, u, hn, k⟩ := h
  have hq := u.ql
  have p6 : (2 : Nat) ^ 100 ≤ 2 ^ 600 := Nat.pow_le_pow_right (by decide) (by decide)
  exact ⟨_, rfl, _, rfl, _, _, _, _, rfl, rfl, h1, rfl, _, _, rfl, rfl, .inl ⟨by omega, by omega⟩, _, rfl, _, _, _, _, rfl, rfl, h1, rfl, _, _, rfl, u.q0, Nat.lt_of_lt_of_le hq p6, k⟩
def sp_l_unit (K : PySem.W.Frag) : Sp := fun vs H Q _ => ∃ a : Addr, vs = [.ref a] ∧ Src H a ∧ ∀ v p q H', FrA a H H' → Src H' a → Unit2 p q → Fr K H' v (p, q) → Q v H'
theorem unit_of {p q : Int} (h0 : 0 < p) (h1 : 0 < q) (h2 : p.natAbs < 2 ^ 100) (h3 : q.natAbs < 2 ^ 100) : Unit2 p q := ⟨h0, h1, h2, h3⟩
theorem sc_l_unit : FnScope ["_law_source_here"] ["_law_source_here"] (defScope s_l_unit) := ⟨rfl, rfl, rfl, by decide +kernel, rfl, by decide +kernel, by decide +kernel⟩
/-- the body of _law_unit -/
theorem ok_l_unit {f : Addr} {fd : FuncData} (T : Txt K mg) (F : FnP K "_law_unit" "_law_unit" s_l_unit f fd) (D_l_draw : Dn P w K mg base "_law_draw" ["_law_source_here", "_law_many"] 1 (sp_l_draw K)) : FnOk P w K mg base CX0 2 f fd ["_law_source_here"] (sp_l_unit K) := by
  refine F.ok sc_l_unit (fun vs H Q E h => ?_) (fun cdv A outer s H vs Q E hr h => ⟨_, PSs.nox (pss_one (ps_ret (pe_ix (ixT K) (pe_tup (pa_cons (pe_tup (pa_cons pe_int (pa_cons pe_int pa_nil))) (pa_cons (pe_tup (pa_cons pe_int (pa_cons pe_int pa_nil))) (pa_cons (pe_tup (pa_cons pe_int (pa_cons pe_int pa_nil))) (pa_cons (pe_tup (pa_cons pe_int (pa_cons pe_int pa_nil))) (pa_cons (pe_tup (pa_cons pe_int (pa_cons pe_int pa_nil))) (pa_cons (pe_tup (pa_cons pe_int (pa_cons pe_int pa_nil))) (pa_cons (pe_tup (pa_cons (pe_op op_pow pe_int pe_int) (pa_cons pe_int pa_nil))) (pa_cons (pe_tup (pa_cons pe_int (pa_cons (pe_op op_pow pe_int pe_int) pa_nil))) pa_nil))))))))) (pe_dn D_l_draw (hr.mono (by decide)) rfl (pa_cons (pv 0) (pa_cons pe_int pa_nil))) (fun _ _ => rfl)))), ?_⟩)
  · first | (obtain ⟨_, rfl, _⟩ := h; rfl) | (obtain ⟨_, _, rfl, _⟩ := h; rfl) | (obtain ⟨_, _, _, rfl, _⟩ := h; rfl) | (obtain ⟨_, _, _, _, rfl, _⟩ := h; rfl) | (obtain ⟨_, _, _, _, _, rfl, _⟩ := h; rfl) | (obtain ⟨_, _, _, _, _, _, rfl, _⟩ := h; rfl) | (obtain ⟨_, _, _, _, _, _, _, rfl, _⟩ := h; rfl) | (obtain ⟨_, _, _, _, _, _, _, _, rfl, _⟩ := h; rfl) | (obtain ⟨_, _, _, _, _, _, _, _, _, rfl, _⟩ := h; rfl) | (obtain ⟨_, _, _, _, _, _, _, _, _, _, rfl, _⟩ := h; rfl) | (obtain ⟨_, _, _, _, _, _, _, _, _, _, _, rfl, _⟩ := h; rfl) | (obtain ⟨_, _, _, _, _, _, _, _, _, _, _, _, rfl, _⟩ := h; rfl)
  obtain ⟨a, rfl, hS, k⟩ := h
  have c2 : (2 : Nat) ≤ sizeLine := by decide
  refine ⟨c2, fun t1 n1 => ⟨c2, fun t2 n2 => ⟨c2, fun t3 n3 => ⟨c2, fun t4 n4 => ⟨c2, fun t5 n5 => ⟨c2, fun t6 n6 => ?_⟩⟩⟩⟩⟩⟩
  refine ⟨_, _, rfl, rfl, ⟨by decide, by decide, by decide⟩, c2, fun t7 n7 => ?_⟩
  refine ⟨_, _, rfl, rfl, ⟨by decide, by decide, by decide⟩, c2, fun t8 n8 => ?_⟩
  refine ⟨(by show 8 ≤ sizeLine; decide), fun t9 n9 => ?_⟩
  have s1 := Same.new (o := .tup [.int 1, .int 1]) n1
  have s2 := Same.new (o := .tup [.int 1, .int 1]) n2
  have s3 := Same.new (o := .tup [.int 1, .int 2]) n3
  have s4 := Same.new (o := .tup [.int 3, .int 1]) n4
  have s5 := Same.new (o := .tup [.int 2, .int 3]) n5
  have s6 := Same.new (o := .tup [.int 7, .int 10]) n6
  have s7 := Same.new (o := .tup [.int (10 ^ (12 : Int).toNat), .int 7]) n7
  have s8 := Same.new (o := .tup [.int 1, .int (10 ^ (30 : Int).toNat)]) n8
  have s9 := Same.new (o := .tup [.ref t1, .ref t2, .ref t3, .ref t4, .ref t5, .ref t6, .ref t7, .ref t8]) n9
  have e8 := s8.trans s9
  have e7 := s7.trans e8
  have e6 := s6.trans e7
  have e5 := s5.trans e6
  have e4 := s4.trans e5
  have e3 := s3.trans e4
  have e2 := s2.trans e3
  have e1 := s1.trans e2
  refine ⟨_, rfl, a, 8, rfl, hS.same e1, by decide, by decide, fun d H2 d0 d1 f2 S2 => ?_⟩
  have tm := f2.tame (hS.same e1)
  have fr : FrA a H H2 := fun b o hb nb => f2 _ _ (e1 _ _ hb) nb
  have g9 : SqT K H2 t9 [.ref t1, .ref t2, .ref t3, .ref t4, .ref t5, .ref t6, .ref t7, .ref t8] := tm.t (sqt upd_same)
  have g1 : SqT K H2 t1 (P2 (1, 1)) := tm.t (e2.t (sqt upd_same))
  have g2 : SqT K H2 t2 (P2 (1, 1)) := tm.t (e3.t (sqt upd_same))
  have g3 : SqT K H2 t3 (P2 (1, 2)) := tm.t (e4.t (sqt upd_same))
  have g4 : SqT K H2 t4 (P2 (3, 1)) := tm.t (e5.t (sqt upd_same))
  have g5 : SqT K H2 t5 (P2 (2, 3)) := tm.t (e6.t (sqt upd_same))
  have g6 : SqT K H2 t6 (P2 (7, 10)) := tm.t (e7.t (sqt upd_same))
  have g7 : SqT K H2 t7 (P2 (10 ^ (12 : Int).toNat, 7)) := tm.t (e8.t (sqt upd_same))
  have g8 : SqT K H2 t8 (P2 (1, 10 ^ (30 : Int).toNat)) := tm.t (s9.t (sqt upd_same))
  have cs : d = 0 ∨ d = 1 ∨ d = 2 ∨ d = 3 ∨ d = 4 ∨ d = 5 ∨ d = 6 ∨ d = 7 := by omega
  rcases cs with rfl | rfl | rfl | rfl | rfl | rfl | rfl | rfl
  · exact ⟨t9, _, _, _, rfl, rfl, g9, rfl, k _ _ _ _ fr S2 (unit_of (by decide) (by decide) (by decide) (by decide)) ⟨t1, rfl, g1⟩⟩
  · exact ⟨t9, _, _, _, rfl, rfl, g9, rfl, k _ _ _ _ fr S2 (unit_of (by decide) (by decide) (by decide) (by decide)) ⟨t2, rfl, g2⟩⟩
  · exact ⟨t9, _, _, _, rfl, rfl, g9, rfl, k _ _ _ _ fr S2 (unit_of (by decide) (by decide) (by decide) (by decide)) ⟨t3, rfl, g3⟩⟩
  · exact ⟨t9, _, _, _, rfl, rfl, g9, rfl, k _ _ _ _ fr S2 (unit_of (by decide) (by decide) (by decide) (by decide)) ⟨t4, rfl, g4⟩⟩
  · exact ⟨t9, _, _, _, rfl, rfl, g9, rfl, k _ _ _ _ fr S2 (unit_of (by decide) (by decide) (by decide) (by decide)) ⟨t5, rfl, g5⟩⟩
  · exact ⟨t9, _, _, _, rfl, rfl, g9, rfl, k _ _ _ _ fr S2 (unit_of (by decide) (by decide) (by decide) (by decide)) ⟨t6, rfl, g6⟩⟩
  · exact ⟨t9, _, _, _, rfl, rfl, g9, rfl, k _ _ _ _ fr S2 (unit_of (by decide) (by decide) (by decide) (by decide)) ⟨t7, rfl, g7⟩⟩
  · exact ⟨t9, _, _, _, rfl, rfl, g9, rfl, k _ _ _ _ fr S2 (unit_of (by decide) (by decide) (by decide) (by decide)) ⟨t8, rfl, g8⟩⟩
end
end K71
namespace K71
open PySem PySem.Spec PyProof.Rows L2
section
variable {P : Program} {w : World} {K : PySem.W.Frag} {mg : Str → Option Value} {base : Heap}
/-! ### the law's own: permutations, sums, crowds -/
theorem perm_erase {α : Type} : ∀ {l : List α} {k : Nat} {x : α}, l[k]? = some x → (x :: l.eraseIdx k).Perm l
  | [], _, _, h => by cases h
  | y :: l, 0, x, h => by
    have e := Option.some.inj h
    subst e
    exact List.Perm.refl _
  | y :: l, k + 1, x, h => by
    have ih := perm_erase (l := l) (k := k) (x := x) (by simpa using h)
    rw [List.eraseIdx_cons_succ]
    exact (List.Perm.swap y x _).trans (ih.cons y)
theorem map_erase {α β : Type} (f : α → β) : ∀ (l : List α) (k : Nat), (l.map f).eraseIdx k = (l.eraseIdx k).map f
  | [], _ => rfl
  | _ :: _, 0 => rfl
  | y :: l, k + 1 => by
    rw [List.map_cons, List.eraseIdx_cons_succ, List.eraseIdx_cons_succ, List.map_cons, map_erase f l k]
theorem nI_erase (l : List Nat) (k : Nat) : ((nI l).map V.int).eraseIdx k = (nI (l.eraseIdx k)).map V.int := by
  unfold nI
  rw [map_erase, map_erase]
theorem nI_get {l : List Nat} {k n : Nat} (h : l[k]? = some n) : ((nI l).map V.int)[k]? = some (.int (n : Int)) := by
  unfold nI
  rw [List.getElem?_map, List.getElem?_map, h]
  rfl
theorem six {n k : Nat} (h : k < n) : seqIndex? (k : Int) n = some k := by
  unfold seqIndex?
  have e : ¬ ((k : Int) < 0) := by omega
  simp only [e, if_false]
  simp [h]
theorem rgV_nI (m : Nat) : rgV 0 (m : Int) = (nI (List.range m)).map V.int := by
  unfold rgV nI
  rw [List.map_map]
  have e : ((m : Int) - 0).toNat = m := by omega
  rw [e]
  refine List.map_congr_left fun i _ => ?_
  show V.int (0 + (i : Int)) = V.int (i : Int)
  rw [Int.zero_add]
theorem Src.upd {H : Hp} {a l : Addr} {o : HO} (h : Src H a) (n : l ≠ a) : Src (upd H l o) a := by
  obtain ⟨x0, x1, x2, x3, x4, h⟩ := h
  exact ⟨x0, x1, x2, x3, x4, by rw [upd_ne n.symm]; exact h⟩
theorem FrA.mut {a l : Addr} {o : HO} {H H' : Hp} (f : FrA a H H') (n : H l = none) : FrA a H (L2.upd H' l o) := fun b u hb nb => by
  rw [upd_ne (ne_of_none hb n)]
  exact f _ _ hb nb
def sp_l_perm (K : PySem.W.Frag) : Sp := fun vs H Q _ => ∃ (a : Addr) (m : Nat), vs = [.ref a, .int (m : Int)] ∧ Src H a ∧ m ≤ 50 ∧ ∀ v π H', FrA a H H' → Src H' a → IT K H' v (nI π) → π.Perm (List.range m) → Q v H'
theorem sc_l_perm : FnScope ["_law_source_here", "_law_many", "_law_left", "_law_found", "_law_k"] ["_law_source_here", "_law_many"] (defScope s_l_perm) := ⟨rfl, rfl, rfl, by decide +kernel, rfl, by decide +kernel, by decide +kernel⟩
/-- the body of _law_perm -/
theorem ok_l_perm {f : Addr} {fd : FuncData} (T : Txt K mg) (F : FnP K "_law_perm" "_law_perm" s_l_perm f fd) (D_l_draw : Dn P w K mg base "_law_draw" ["_law_source_here", "_law_many"] 1 (sp_l_draw K)) : FnOk P w K mg base CX0 2 f fd ["_law_source_here", "_law_many"] (sp_l_perm K) := by
  refine F.ok sc_l_perm (fun vs H Q E h => ?_) (fun cdv A outer s H vs Q E hr h => ⟨_, PSs.nox (pss_cons (ps_set (i := 2) sc_l_perm.nd rfl (Or.inl rfl) (pe_listRg rfl rfl T.list' (prg_1 rfl T.range (pv 1))))
    (pss_cons (ps_set (i := 3) sc_l_perm.nd rfl (Or.inl rfl) (pe_lst pa_nil))
    (pss_cons (ps_for PassesOwn.never rfl (pi_range1 rfl T.range (pa_cons (pv 1) pa_nil)) (pg_name (i := 4) sc_l_perm.nd rfl (Or.inl rfl))
      (pss_one (ps_expr (pe_bm PySem.F.plainAttrs_list PySem.F.slot_list_append PySem.F.type_list_append mt_append (pv 3) (pa_cons (pe_bm PySem.F.plainAttrs_list PySem.F.slot_list_pop PySem.F.type_list_pop mt_popAt (pv 2) (pa_cons (pe_dn D_l_draw (hr.mono (by decide)) rfl (pa_cons (pv 0) (pa_cons (pe_callB call_len_seq (by rfl) T.len' (by decide +kernel) (pa_cons (pv 2) pa_nil)) pa_nil))) pa_nil)) pa_nil)))))
    (pss_one (ps_ret (pe_callTy call_tuple_of (by rfl) T.tuple' (by decide +kernel) (pa_cons (pv 3) pa_nil))))))), ?_⟩)
  · first | (obtain ⟨_, rfl, _⟩ := h; rfl) | (obtain ⟨_, _, rfl, _⟩ := h; rfl) | (obtain ⟨_, _, _, rfl, _⟩ := h; rfl) | (obtain ⟨_, _, _, _, rfl, _⟩ := h; rfl) | (obtain ⟨_, _, _, _, _, rfl, _⟩ := h; rfl) | (obtain ⟨_, _, _, _, _, _, rfl, _⟩ := h; rfl) | (obtain ⟨_, _, _, _, _, _, _, rfl, _⟩ := h; rfl) | (obtain ⟨_, _, _, _, _, _, _, _, rfl, _⟩ := h; rfl) | (obtain ⟨_, _, _, _, _, _, _, _, _, rfl, _⟩ := h; rfl) | (obtain ⟨_, _, _, _, _, _, _, _, _, _, rfl, _⟩ := h; rfl) | (obtain ⟨_, _, _, _, _, _, _, _, _, _, _, rfl, _⟩ := h; rfl) | (obtain ⟨_, _, _, _, _, _, _, _, _, _, _, _, rfl, _⟩ := h; rfl)
  obtain ⟨a, m, rfl, hS, hm, k⟩ := h
  refine ⟨_, rfl, (m : Int), rfl, RgOk.of_le (by decide) (by omega) (by decide) (by omega), fun l hl => ?_⟩
  rw [rgV_nI]
  have s1 := Same.new (o := .lst ((nI (List.range m)).map V.int)) hl
  refine ⟨Nat.zero_le _, fun fo hfo => ?_⟩
  have s2 := Same.new (o := .lst []) hfo
  have nla : l ≠ a := fun e => by
    obtain ⟨xs, h⟩ := hS.lst
    rw [← e, hl] at h
    cases h
  have hfo0 : H fo = none := s1.free hfo
  have nfa : fo ≠ a := fun e => by
    obtain ⟨xs, h⟩ := hS.lst
    rw [← e, hfo0] at h
    cases h
  have nlf : l ≠ fo := ne_of_none upd_same hfo
  refine ⟨_, rfl, (m : Int), rfl, by omega, by omega, for_range (lo := 0) (n := ((m : Int)).toNat) (fun i σ H' => ∃ (lf ff : List Nat) (x : Option V), σ = [some (.ref a), some (.int (m : Int)), some (.ref l), some (.ref fo), x] ∧ FrA a H H' ∧ Src H' a ∧
    H' l = some (.lst ((nI lf).map V.int)) ∧ H' fo = some (.lst ((nI ff).map V.int)) ∧ (ff ++ lf).Perm (List.range m) ∧ lf.length + i = m) ?_ ?_ ?_⟩
  · refine ⟨List.range m, [], none, rfl, fun b o hb _ => s2 _ _ (s1 _ _ hb), (hS.same s1).same s2, s2 _ _ upd_same, upd_same, List.Perm.refl _, by simp⟩
  · rintro i σ H' hi ⟨lf, ff, x, rfl, f, S, h1, h2, hp, hlen⟩
    have hi : i < m := by omega
    have lff : ff.length ≤ 50 := by
      have := hp.length_eq
      rw [List.length_append, List.length_range] at this
      omega
    refine ⟨_, rfl, .inl ⟨rfl, _, sql h2⟩, _, rfl, .inl ⟨rfl, _, sql h1⟩, _, rfl, _, rfl, l, _, rfl, .inl (sql h1), a, _, rfl, S, by rw [nI_len]; omega, by rw [nI_len]; omega, fun d H2 d0 d1 f2 S2 => ?_⟩
    rw [nI_len] at d1
    obtain ⟨kk, rfl⟩ := Int.eq_ofNat_of_zero_le d0
    have kl : kk < lf.length := by omega
    obtain ⟨n, hn⟩ : ∃ n, lf[kk]? = some n := ⟨_, List.getElem?_eq_getElem kl⟩
    have h1' := f2 _ _ h1 nla
    have h2' := f2 _ _ h2 nfa
    refine ⟨l, _, (kk : Int), kk, .int (n : Int), rfl, rfl, h1', by omega, by omega, six (by rw [nI_len]; exact kl), nI_get hn, ?_⟩
    refine ⟨fo, _, _, rfl, rfl, (by rw [upd_ne nlf.symm]; exact h2'), szt (by rw [nI_len]; omega), ?_⟩
    refine ⟨lf.eraseIdx kk, ff ++ [n], _, rfl, ((f.trans f2).mut hl).mut hfo0, (S2.upd nla).upd nfa, ?_, ?_, ?_, ?_⟩
    · rw [upd_ne nlf, upd_same, nI_erase]
    · rw [upd_same, nI_snoc]
    · rw [List.append_assoc]
      exact (List.Perm.append_left ff (perm_erase hn)).trans hp
    · rw [List.length_eraseIdx_of_lt kl]
      omega
  · rintro σ H' ⟨lf, ff, x, rfl, f, S, h1, h2, hp, hlen⟩
    have e : lf = [] := List.eq_nil_of_length_eq_zero (by omega)
    subst e
    rw [List.append_nil] at hp
    refine ⟨_, rfl, fo, _, rfl, .inl ⟨sql h2, fun t ht => ?_⟩⟩
    exact k _ ff _ (f.same (Same.new ht)) (S.same (Same.new ht)) ⟨t, rfl, sqt upd_same⟩ hp
/-- a comprehension over a range whose steps draw -/
def LcS (H1 : Hp) (D a : Addr) (P : Int → Prop) (i : Nat) (H : Hp) : Prop := FrA a H1 H ∧ Src H a ∧ ∃ zs : List Int, H D = some (.lst (zs.map V.int)) ∧ zs.length = i ∧ ∀ z ∈ zs, P z
def lc_rangeS {lo : Int} {n : Nat} {te : TE} {s : Nat} {σ : L2.St} {H1 : Hp} {D a : Addr} {Qd : Hp → Prop} (P : Int → Prop) (hD : H1 D = none) (hS : Src H1 a) (hn : n ≤ 100000)
    (hs : ∀ (i : Nat) (H : Hp), i < n → FrA a H1 H → Src H a → ∀ Q : VK, (∀ z H', FrA a H H' → Src H' a → P z → Q (.int z) H') → te ((σ.set s none).set s (some (.int (lo + (i : Int))))) H Q)
    (hd : ∀ (zs : List Int) (H : Hp), FrA a H1 H → Src H a → H D = some (.lst (zs.map V.int)) → zs.length = n → (∀ z ∈ zs, P z) → Qd H) :=
  have nD : D ≠ a := fun e => by
    obtain ⟨xs, h⟩ := hS.lst
    rw [← e, hD] at h
    cases h
  lc_range (lo := lo) (n := n) (g := gName s) (tt := tYes) (te := te) (vs := [s]) (σ := σ) (H1 := H1) (D := D) (Qd := Qd) (LcS H1 D a P) ⟨fun b o hb _ => Same.new hD _ _ hb, hS.same (Same.new hD), [], upd_same, rfl, fun z h => by cases h⟩ (fun i H hi p => by
    refine ⟨wipe1, ?_⟩
    refine iteT (B := LcS H1 D a P (i + 1) H) ?_
    obtain ⟨f, S, zs, h, hl, hP⟩ := p
    refine hs i H hi f S _ fun z H' f2 S2 hz => ?_
    refine ⟨zs.map V.int, f2 _ _ h nD, szt (by rw [List.length_map]; omega), (f.trans f2).mut hD, S2.upd nD, zs ++ [z], ?_, ?_, fun y hy => ?_⟩
    · rw [upd_same, List.map_append]
      rfl
    · rw [List.length_append, List.length_singleton, hl]
    · rcases List.mem_append.mp hy with hy | hy
      · exact hP y hy
      · rw [List.mem_singleton.mp hy]
        exact hz) (fun H p => by
    obtain ⟨f, S, zs, h, hl, hP⟩ := p
    exact hd zs H f S h hl hP)
def sp_l_side (K : PySem.W.Frag) : Sp := fun vs H Q _ => ∃ (a : Addr) (m : Nat), vs = [.ref a, .int (m : Int)] ∧ Src H a ∧ m ≤ 50 ∧ ∀ (l : Addr) (zs : List Int) (H' : Hp), H l = none → FrA a H H' → Src H' a → H' l = some (.lst (zs.map V.int)) → zs.length = m → (∀ z ∈ zs, 1 ≤ z ∧ z ≤ 7) → Q (.ref l) H'
theorem rep_flat (m : Nat) (x : V) : (List.replicate m [x]).flatten = List.replicate m x := by
  induction m with
  | zero => rfl
  | succ m ih => rw [List.replicate_succ, List.flatten_cons, ih, List.replicate_succ]; rfl
theorem FrA.free {a l : Addr} {H H' : Hp} (f : FrA a H H') (S : Src H' a) (h : H' l = none) : H l = none := by
  cases q : H l with
  | none => rfl
  | some o =>
    by_cases e : l = a
    · obtain ⟨xs, h2⟩ := S.lst
      rw [← e, h] at h2
      cases h2
    · rw [f l o q e] at h
      cases h
theorem sc_l_side : FnScope ["_law_source_here", "_law_many", "_law_style", "_law_k"] ["_law_source_here", "_law_many"] (defScope s_l_side) := ⟨rfl, rfl, rfl, by decide +kernel, rfl, by decide +kernel, by decide +kernel⟩
/-- the body of _law_side -/
theorem ok_l_side {f : Addr} {fd : FuncData} (T : Txt K mg) (F : FnP K "_law_side" "_law_side" s_l_side f fd) (D_l_draw : Dn P w K mg base "_law_draw" ["_law_source_here", "_law_many"] 1 (sp_l_draw K)) : FnOk P w K mg base CX0 2 f fd ["_law_source_here", "_law_many"] (sp_l_side K) := by
  refine F.ok sc_l_side (fun vs H Q E h => ?_) (fun cdv A outer s H vs Q E hr h => ⟨_, PSs.nox (pss_cons (ps_set (i := 2) sc_l_side.nd rfl (Or.inr rfl) (pe_dn D_l_draw (hr.mono (by decide)) rfl (pa_cons (pv 0) (pa_cons pe_int pa_nil))))
    (pss_cons (ps_if (pt_cmpR op_eq (pv 2) pe_int (nomark _))
      (pss_one (ps_ret (pe_op op_rep (pe_lst (pa_cons (pe_op op_add pe_int (pe_dn D_l_draw (hr.mono (by decide)) rfl (pa_cons (pv 0) (pa_cons pe_int pa_nil)))) pa_nil)) (pv 1))))
      pss_nil)
    (pss_one (ps_ret (pe_lc (own := [("_law_k", 3)]) (g := gName 3) (tt := tYes) rfl sc_l_side.nd (pi_range1 rfl T.range (pa_cons (pv 1) pa_nil)) (blkOk_by (N := ["_law_source_here", "_law_many", "_law_style", "_law_k"]) (sc := defScope s_l_side) (by decide +kernel)) (fun _ _ _ _ _ => pg_name (i := 3) sc_l_side.nd rfl (Or.inl rfl)) (fun _ _ _ _ _ => pts_nil) (fun _ _ _ _ _ => (pe_op op_add pe_int (pe_dn D_l_draw (hr.mono (by decide)) rfl (pa_cons (pv 0) (pa_cons (pe_ix (ixT K) (pe_tup (pa_cons pe_int (pa_cons pe_int (pa_cons pe_int pa_nil)))) (pe_op op_sub (pv 2) pe_int) (fun _ _ => rfl)) pa_nil)))))))))), ?_⟩)
  · first | (obtain ⟨_, rfl, _⟩ := h; rfl) | (obtain ⟨_, _, rfl, _⟩ := h; rfl) | (obtain ⟨_, _, _, rfl, _⟩ := h; rfl) | (obtain ⟨_, _, _, _, rfl, _⟩ := h; rfl) | (obtain ⟨_, _, _, _, _, rfl, _⟩ := h; rfl) | (obtain ⟨_, _, _, _, _, _, rfl, _⟩ := h; rfl) | (obtain ⟨_, _, _, _, _, _, _, rfl, _⟩ := h; rfl) | (obtain ⟨_, _, _, _, _, _, _, _, rfl, _⟩ := h; rfl) | (obtain ⟨_, _, _, _, _, _, _, _, _, rfl, _⟩ := h; rfl) | (obtain ⟨_, _, _, _, _, _, _, _, _, _, rfl, _⟩ := h; rfl) | (obtain ⟨_, _, _, _, _, _, _, _, _, _, _, rfl, _⟩ := h; rfl) | (obtain ⟨_, _, _, _, _, _, _, _, _, _, _, _, rfl, _⟩ := h; rfl)
  obtain ⟨a, m, rfl, hS, hm, k⟩ := h
  refine ⟨_, rfl, a, 4, rfl, hS, by decide, by decide, fun d H1 d0 d1 f1 S1 => ?_⟩
  refine ⟨_, rfl, rfl, _, rfl, ?_⟩
  refine ite2 (fun c => ?_) (fun c => ?_)
  · refine ⟨_, rfl, a, 3, rfl, S1, by decide, by decide, fun z H2 z0 z1 f2 S2 => ?_⟩
    refine ⟨_, _, rfl, rfl, (by show 1 ≤ sizeLine; decide), fun p hp => ?_⟩
    have e2 := Same.new (o := .lst [.int (1 + z)]) hp
    refine ⟨_, rfl, p, (m : Int), _, rfl, rfl, upd_same, by omega, by omega, szl (by simp; omega), fun l hl => ?_⟩
    have e3 := Same.new (o := .lst (List.replicate ((m : Int)).toNat [V.int (1 + z)]).flatten) hl
    have fr : FrA a H (upd H2 p (.lst [.int (1 + z)])) := (f1.trans f2).same e2
    refine k l (List.replicate m (1 + z)) _ (fr.free (S2.same e2) hl) (fr.same e3) ((S2.same e2).same e3) ?_ (by simp) fun y hy => ?_
    · rw [upd_same, Int.toNat_natCast, rep_flat, List.map_replicate]
    · have := List.eq_of_mem_replicate hy
      omega
  · have dn : d ≠ 0 := fun z => c (by rw [z]; rfl)
    refine ⟨_, rfl, (m : Int), rfl, by omega, by omega, fun D hD => ?_⟩
    refine lc_rangeS (lo := 0) (a := a) (fun z => 1 ≤ z ∧ z ≤ 7) hD S1 (by omega) (fun i H2 hi f2 S2 Q' hq => ?_) (fun zs H2 f2 S2 h2 hl hz => ?_)
    · refine ⟨_, rfl, (by show 3 ≤ sizeLine; decide), fun t ht => ?_⟩
      have e3 := Same.new (o := .tup [.int 2, .int 4, .int 7]) ht
      have fin : ∀ u : Int, 0 < u → u ≤ 7 → sp_l_draw K [.ref a, .int u] (upd H2 t (.tup [.int 2, .int 4, .int 7])) (fun v H' => ∃ i j, V.int 1 = .int i ∧ v = .int j ∧ Q' (.int (i + j)) H') E0 := fun u u0 u1 => by
        refine ⟨a, u, rfl, S2.same e3, u0, by omega, fun z H4 z0 z1 f4 S4 => ⟨1, z, rfl, rfl, ?_⟩⟩
        exact hq _ _ (fun b o hb nb => f4 _ _ (e3 _ _ hb) nb) S4 (by omega)
      have cs : d = 1 ∨ d = 2 ∨ d = 3 := by omega
      rcases cs with rfl | rfl | rfl
      · exact ⟨_, rfl, _, _, rfl, rfl, t, _, _, _, rfl, rfl, sqt upd_same, rfl, fin 2 (by decide) (by decide)⟩
      · exact ⟨_, rfl, _, _, rfl, rfl, t, _, _, _, rfl, rfl, sqt upd_same, rfl, fin 4 (by decide) (by decide)⟩
      · exact ⟨_, rfl, _, _, rfl, rfl, t, _, _, _, rfl, rfl, sqt upd_same, rfl, fin 7 (by decide) (by decide)⟩
    · exact k D zs H2 (f1.free S1 hD) (f1.trans f2) S2 h2 (by omega) hz
def sp_l_split (K : PySem.W.Frag) : Sp := fun vs H Q _ => ∃ (a : Addr) (wh : Int) (m : Nat), vs = [.ref a, .int wh, .int (m : Int)] ∧ Src H a ∧ 1 ≤ m ∧ m ≤ 50 ∧ (m : Int) ≤ wh ∧ wh ≤ 10000 ∧
  ∀ (l : Addr) (zs : List Int) (H' : Hp), H l = none → FrA a H H' → Src H' a → H' l = some (.lst (zs.map V.int)) → zs.length = m → PosL zs → zs.sum = wh → Q (.ref l) H'
theorem sum_rep1 (m : Nat) : (List.replicate m (1 : Int)).sum = (m : Int) := by
  induction m with
  | zero => rfl
  | succ m ih => rw [List.replicate_succ, List.sum_cons, ih]; omega
theorem pos_set {xs : List Int} {i : Nat} {z : Int} (h : PosL xs) (hz : 0 < z) : PosL (xs.set i z) := fun y hy => by
  rcases List.mem_or_eq_of_mem_set hy with hy | hy
  · exact h y hy
  · rw [hy]
    exact hz
theorem get_int {xs : List Int} {i : Nat} (h : i < xs.length) : ∃ z, xs[i]? = some z ∧ (xs.map V.int)[i]? = some (.int z) := by
  refine ⟨xs[i], List.getElem?_eq_getElem h, ?_⟩
  rw [List.getElem?_map, List.getElem?_eq_getElem h]
  rfl
theorem sc_l_split : FnScope ["_law_source_here", "_law_whole", "_law_many", "_law_found", "_law_left", "_law_k", "_law_part", "_law_order"] ["_law_source_here", "_law_whole", "_law_many"] (defScope s_l_split) := ⟨rfl, rfl, rfl, by decide +kernel, rfl, by decide +kernel, by decide +kernel⟩
/-- the body of _law_split -/
theorem ok_l_split {f : Addr} {fd : FuncData} (T : Txt K mg) (F : FnP K "_law_split" "_law_split" s_l_split f fd) (D_l_perm : Dn P w K mg base "_law_perm" ["_law_source_here", "_law_many"] 2 (sp_l_perm K)) (D_l_draw : Dn P w K mg base "_law_draw" ["_law_source_here", "_law_many"] 1 (sp_l_draw K)) : FnOk P w K mg base CX0 3 f fd ["_law_source_here", "_law_whole", "_law_many"] (sp_l_split K) := by
  refine F.ok sc_l_split (fun vs H Q E h => ?_) (fun cdv A outer s H vs Q E hr h => ⟨_, PSs.nox (pss_cons (ps_set (i := 3) sc_l_split.nd rfl (Or.inr rfl) (pe_op op_rep (pe_lst (pa_cons pe_int pa_nil)) (pv 2)))
    (pss_cons (ps_set (i := 4) sc_l_split.nd rfl (Or.inl rfl) (pe_op op_sub (pv 1) (pv 2)))
    (pss_cons (ps_for PassesOwn.never rfl (pi_range1 rfl T.range (pa_cons (pe_op op_sub (pv 2) pe_int) pa_nil)) (pg_name (i := 5) sc_l_split.nd rfl (Or.inl rfl))
      (pss_cons (ps_set (i := 6) sc_l_split.nd rfl (Or.inl rfl) (pe_dn D_l_draw (hr.mono (by decide)) rfl (pa_cons (pv 0) (pa_cons (pe_op op_add (pe_callB (call_min2 rfl) (by rfl) T.min' (by decide +kernel) (pa_cons (pv 4) (pa_cons pe_int pa_nil))) pe_int) pa_nil))))
      (pss_cons (ps_asg (pe_op op_add (pe_ix (ixL K) (pv 3) (pv 5) (fun _ _ => rfl)) (pv 6)) (pg_sub (pv 3) (pv 5) set_list))
      (pss_one (ps_set (i := 4) sc_l_split.nd rfl (Or.inl rfl) (pe_op op_sub (pv 4) (pv 6)))))))
    (pss_cons (ps_asg (pe_op op_add (pe_ix (ixL K) (pv 3) (pe_op op_sub (pv 2) pe_int) (fun _ _ => rfl)) (pv 4)) (pg_sub (pv 3) (pe_op op_sub (pv 2) pe_int) set_list))
    (pss_cons (ps_set (i := 7) sc_l_split.nd rfl (Or.inl rfl) (pe_dn D_l_perm (hr.mono (by decide)) rfl (pa_cons (pv 0) (pa_cons (pv 2) pa_nil))))
    (pss_one (ps_ret (pe_lc (own := [("_law_k", 5)]) (g := gName 5) (tt := tYes) rfl sc_l_split.nd (pi_tup (pv 7)) (blkOk_by (N := ["_law_source_here", "_law_whole", "_law_many", "_law_found", "_law_left", "_law_k", "_law_part", "_law_order"]) (sc := defScope s_l_split) (by decide +kernel)) (fun _ _ _ _ _ => pg_name (i := 5) sc_l_split.nd rfl (Or.inl rfl)) (fun _ _ _ _ _ => pts_nil) (fun _ _ _ _ _ => (pe_ix (ixL K) (pv 3) (pv 5) (fun _ _ => rfl))))))))))), ?_⟩)
  · first | (obtain ⟨_, rfl, _⟩ := h; rfl) | (obtain ⟨_, _, rfl, _⟩ := h; rfl) | (obtain ⟨_, _, _, rfl, _⟩ := h; rfl) | (obtain ⟨_, _, _, _, rfl, _⟩ := h; rfl) | (obtain ⟨_, _, _, _, _, rfl, _⟩ := h; rfl) | (obtain ⟨_, _, _, _, _, _, rfl, _⟩ := h; rfl) | (obtain ⟨_, _, _, _, _, _, _, rfl, _⟩ := h; rfl) | (obtain ⟨_, _, _, _, _, _, _, _, rfl, _⟩ := h; rfl) | (obtain ⟨_, _, _, _, _, _, _, _, _, rfl, _⟩ := h; rfl) | (obtain ⟨_, _, _, _, _, _, _, _, _, _, rfl, _⟩ := h; rfl) | (obtain ⟨_, _, _, _, _, _, _, _, _, _, _, rfl, _⟩ := h; rfl) | (obtain ⟨_, _, _, _, _, _, _, _, _, _, _, _, rfl, _⟩ := h; rfl)
  obtain ⟨a, wl, m, rfl, hS, hm1, hm, hw, hw2, k⟩ := h
  refine ⟨(by show 1 ≤ sizeLine; decide), fun p hp => ?_⟩
  have e1 := Same.new (o := .lst [.int 1]) hp
  refine ⟨_, rfl, p, (m : Int), _, rfl, rfl, upd_same, by omega, by omega, szl (by simp; omega), fun l hl => ?_⟩
  have e2 := Same.new (o := .lst (List.replicate ((m : Int)).toNat [V.int 1]).flatten) hl
  have e12 := e1.trans e2
  have hl0 : H l = none := e1.free hl
  have nla : l ≠ a := fun e => by
    obtain ⟨xs, h⟩ := hS.lst
    rw [← e, hl0] at h
    cases h
  have hL : (upd (upd H p (.lst [.int 1])) l (.lst (List.replicate ((m : Int)).toNat [V.int 1]).flatten)) l = some (.lst ((List.replicate m (1 : Int)).map V.int)) := by
    rw [upd_same, Int.toNat_natCast, rep_flat, List.map_replicate]
  have S2 := hS.same e12
  generalize upd (upd H p (.lst [.int 1])) l (.lst (List.replicate ((m : Int)).toNat [V.int 1]).flatten) = H2 at e12 hL S2
  refine ⟨_, rfl, _, rfl, _, _, rfl, rfl, _, rfl, _, _, rfl, rfl, (m : Int) - 1, rfl, by omega, by omega, for_range (lo := 0) (n := ((m : Int) - 1).toNat) (fun i σ H' => ∃ (xs : List Int) (left : Int) (x y z : Option V), σ = [some (.ref a), some (.int wl), some (.int (m : Int)), some (.ref l), some (.int left), x, y, z] ∧
    FrA a H H' ∧ Src H' a ∧ H' l = some (.lst (xs.map V.int)) ∧ xs.length = m ∧ PosL xs ∧ xs.sum + left = wl ∧ 0 ≤ left) ?_ ?_ ?_⟩
  · refine ⟨List.replicate m 1, wl - (m : Int), none, none, none, rfl, fun b o hb _ => e12 _ _ hb, S2, hL, by simp, fun z hz => by rw [List.eq_of_mem_replicate hz]; decide, by rw [sum_rep1]; omega, by omega⟩
  · rintro i σ H' hi ⟨xs, left, x, y, z, rfl, f, S, h1, hlen, hp, hs, h0⟩
    have hi : i < m := by omega
    refine ⟨_, rfl, _, rfl, _, _, rfl, _, _, rfl, rfl, a, _, rfl, S, ?_, ?_, fun d H3 d0 d1 f3 S3 => ?_⟩
    · split <;> omega
    · split <;> omega
    · have dl : d ≤ left := by
        split at d1 <;> omega
      obtain ⟨c, hc, hc2⟩ := get_int (xs := xs) (i := i) (by omega)
      have cp := hp c (List.mem_of_getElem? hc)
      have h3 := f3 _ _ h1 nla
      have ei : (0 : Int) + (i : Int) = ((i : Nat) : Int) := by omega
      rw [ei]
      refine ⟨_, rfl, _, rfl, l, _, _, .int c, rfl, rfl, sql h3, at_of rfl hc2, _, rfl, _, _, rfl, rfl, _, rfl, _, rfl, l, _, _, i, rfl, rfl, h3, ixN_nat (by rw [List.length_map]; omega), _, rfl, _, rfl, _, _, rfl, rfl, ?_⟩
      refine ⟨xs.set i (c + d), left - d, _, _, z, rfl, (f.trans f3).mut hl0, S3.upd nla, ?_, by rw [List.length_set]; exact hlen, pos_set hp (by omega), ?_, by omega⟩
      · rw [upd_same, List.map_set]
      · rw [sum_set hc]
        omega
  · rintro σ H' ⟨xs, left, x, y, z, rfl, f, S, h1, hlen, hp, hs, h0⟩
    obtain ⟨c, hc, hc2⟩ := get_int (xs := xs) (i := m - 1) (by omega)
    have cp := hp c (List.mem_of_getElem? hc)
    have ei : (m : Int) - 1 = ((m - 1 : Nat) : Int) := by omega
    refine ⟨_, rfl, _, rfl, _, _, rfl, rfl, l, _, _, .int c, rfl, rfl, sql h1, at_of ei hc2, _, rfl, _, _, rfl, rfl, _, rfl, _, rfl, _, _, rfl, rfl, l, _, _, m - 1, rfl, rfl, h1, ?_, upd_then fun H4 h4 f4 => ?_⟩
    · rw [ei]
      exact ixN_nat (by rw [List.length_map]; omega)
    · have h4 : H4 l = some (.lst ((xs.set (m - 1) (c + left)).map V.int)) := by
        rw [h4, List.map_set]
      have S4 : Src H4 a := by
        obtain ⟨y0, y1, y2, y3, y4, h⟩ := S
        exact ⟨y0, y1, y2, y3, y4, f4 _ _ h nla.symm⟩
      have f40 : FrA a H H4 := fun b o hb nb => f4 _ _ (f _ _ hb nb) (ne_of_none hb hl0)
      have hlen4 : (xs.set (m - 1) (c + left)).length = m := by rw [List.length_set]; exact hlen
      have hp4 : PosL (xs.set (m - 1) (c + left)) := pos_set hp (by omega)
      have hs4 : (xs.set (m - 1) (c + left)).sum = wl := by
        rw [sum_set hc]
        omega
      generalize xs.set (m - 1) (c + left) = ys at h4 hlen4 hp4 hs4
      refine ⟨_, rfl, _, rfl, a, m, rfl, S4, hm, fun v π H5 f5 S5 hv hπ => ?_⟩
      have h5 := f5 _ _ h4 nla
      have f50 := f40.trans f5
      obtain ⟨t, rfl, ht⟩ := hv
      refine ⟨_, rfl, t, rfl, ⟨_, ht⟩, fun D hD => ?_⟩
      refine lc_tupR (K := K) (a := t) (xs := (nI π).map V.int) (fun i v _ => ∀ n, π[i]? = some n → v = .int (ys.getD n 0)) (fun _ _ _ _ _ r => r) hD ht (szl (by rw [nI_len, hπ.length_eq, List.length_range]; omega)) (fun i x H6 hx e Q' hq => ?_) (fun us H6 e6 hD6 hl6 hu => ?_)
      · obtain ⟨n, hn, rfl⟩ := nI_at hx
        have nm := List.mem_range.mp (hπ.mem_iff.mp (List.mem_of_getElem? hn))
        refine ⟨_, rfl, _, rfl, l, _, _, _, rfl, rfl, sql (e _ _ h5), at_of rfl (fol_at (by omega)), hq _ _ (Same.refl _) fun z hz => ?_⟩
        rw [hn] at hz
        cases hz
        rfl
      · have eu : us = (pick ys π).map V.int := by
          unfold pick
          rw [List.map_map]
          exact list_of_map (by rw [hl6, nI_len]) fun i y x hy' hx => hu i y hy' x hx
        subst eu
        have hπ' : π.Perm (List.range ys.length) := by rw [hlen4]; exact hπ
        have pp := pick_perm hπ'
        exact k D (pick ys π) H6 (f50.free S5 hD) (f50.same e6) (S5.same e6) hD6 (by rw [pp.length_eq, hlen4]) (hp4.perm pp.symm) (by rw [perm_sum pp, hs4])
end
end K71
namespace K71
open PySem PySem.Spec PyProof.Rows L2
section
variable {P : Program} {w : World} {K : PySem.W.Frag} {mg : Str → Option Value} {base : Heap}
/-! ### sums of evenings -/
/-- a pair of tuples of ints -/
def SumsT (K : PySem.W.Frag) (H : Hp) (v : V) (os ds : List Int) : Prop := ∃ t va vb, v = .ref t ∧ SqT K H t [va, vb] ∧ IT K H va os ∧ IT K H vb ds
theorem SumsT.mono {H H' : Hp} {v : V} {os ds : List Int} (e : Same H H') (h : SumsT K H v os ds) : SumsT K H' v os ds := by
  obtain ⟨t, va, vb, h1, h2, h3, h4⟩ := h
  exact ⟨t, va, vb, h1, e.t h2, h3.mono e, h4.mono e⟩
theorem SumsT.tame {H H' : Hp} {v : V} {os ds : List Int} (e : Tame H H') (h : SumsT K H v os ds) : SumsT K H' v os ds := by
  obtain ⟨t, va, vb, h1, h2, h3, h4⟩ := h
  exact ⟨t, va, vb, h1, e.t h2, h3.tame e, h4.tame e⟩
/-- sums of at most n people -/
structure SumD (os ds : List Int) (n : Nat) : Prop where
  no : os ≠ []
  nd : ds ≠ []
  po : PosL os
  pd : PosL ds
  hs : os.sum = ds.sum
  ln : os.length + ds.length ≤ n
  bd : os.sum ≤ 7 * n
def sp_l_sums (K : PySem.W.Frag) : Sp := fun vs H Q _ => ∃ (a : Addr) (o t : Nat), vs = [.ref a, .int (o : Int), .int (t : Int)] ∧ Src H a ∧ (1 ≤ o ∧ 1 ≤ t) ∧ o + t ≤ 50 ∧ ∀ (v : V) (os ds : List Int) (H' : Hp), FrA a H H' → Src H' a → SumsT K H' v os ds → SumD os ds (o + t) → Q v H'
theorem sum_le7 : ∀ {zs : List Int}, (∀ z ∈ zs, 1 ≤ z ∧ z ≤ 7) → (zs.length : Int) ≤ zs.sum ∧ zs.sum ≤ 7 * zs.length
  | [], _ => by simp
  | z :: zs, h => by
    have h1 := sum_le7 (zs := zs) fun y hy => h y (List.mem_cons_of_mem _ hy)
    have h2 := h z (List.mem_cons_self ..)
    rw [List.sum_cons, List.length_cons]
    omega
theorem sc_l_sums : FnScope ["_law_source_here", "_law_owers", "_law_takers", "_law_owed", "_law_due", "_law_k"] ["_law_source_here", "_law_owers", "_law_takers"] (defScope s_l_sums) := ⟨rfl, rfl, rfl, by decide +kernel, rfl, by decide +kernel, by decide +kernel⟩
/-- the body of _law_sums -/
theorem ok_l_sums {f : Addr} {fd : FuncData} (T : Txt K mg) (F : FnP K "_law_sums" "_law_sums" s_l_sums f fd) (D_l_side : Dn P w K mg base "_law_side" ["_law_source_here", "_law_many"] 2 (sp_l_side K)) (D_l_split : Dn P w K mg base "_law_split" ["_law_source_here", "_law_whole", "_law_many"] 3 (sp_l_split K)) (D_l_draw : Dn P w K mg base "_law_draw" ["_law_source_here", "_law_many"] 1 (sp_l_draw K)) (D_l_perm : Dn P w K mg base "_law_perm" ["_law_source_here", "_law_many"] 2 (sp_l_perm K)) : FnOk P w K mg base CX0 4 f fd ["_law_source_here", "_law_owers", "_law_takers"] (sp_l_sums K) := by
  refine F.ok sc_l_sums (fun vs H Q E h => ?_) (fun cdv A outer s H vs Q E hr h => ⟨_, PSs.nox (pss_cons (ps_set (i := 3) sc_l_sums.nd rfl (Or.inr rfl) (pe_dn D_l_side (hr.mono (by decide)) rfl (pa_cons (pv 0) (pa_cons (pv 1) pa_nil))))
    (C8.pss_cut (ps_if (pt_cmpR op_lt (pe_callB (cr_sum rfl) (by rfl) T.sum' (by decide +kernel) (pa_cons (pv 3) pa_nil)) (pv 2) (nomark _))
      (pss_one (ps_asg (pe_op op_sub (pe_op op_add (pe_ix (ixL K) (pv 3) pe_int (fun _ _ => rfl)) (pv 2)) (pe_callB (cr_sum rfl) (by rfl) T.sum' (by decide +kernel) (pa_cons (pv 3) pa_nil))) (pg_sub (pv 3) pe_int set_list)))
      pss_nil)
    (pss_cons (ps_set (i := 4) sc_l_sums.nd rfl (Or.inl rfl) (pe_dn D_l_split (hr.mono (by decide)) rfl (pa_cons (pv 0) (pa_cons (pe_callB (cr_sum rfl) (by rfl) T.sum' (by decide +kernel) (pa_cons (pv 3) pa_nil)) (pa_cons (pv 2) pa_nil)))))
    (C8.pss_cut (ps_if (PW.pt (pw_and (pt_cmpR op_eq (pe_dn D_l_draw (hr.mono (by decide)) rfl (pa_cons (pv 0) (pa_cons pe_int pa_nil))) pe_int (nomark _)) (pw_and1 (pt_cmpR op_eq (pv 1) (pv 2) (nomark _)))))
      (pss_one (ps_setLc (i := 4) (own := [("_law_k", 5)]) (g := gName 5) (tt := tYes) rfl sc_l_sums.nd rfl rfl (sw_true rfl rfl rfl (by decide +kernel)) (pi_tup (pe_dn D_l_perm (hr.mono (by decide)) rfl (pa_cons (pv 0) (pa_cons (pv 1) pa_nil)))) (blkOk_by (N := ["_law_source_here", "_law_owers", "_law_takers", "_law_owed", "_law_due", "_law_k"]) (sc := defScope s_l_sums) (by decide +kernel)) (fun _ _ _ _ _ => pg_name (i := 5) sc_l_sums.nd rfl (Or.inl rfl)) (fun _ _ _ _ _ => pts_nil) (fun _ _ _ _ _ => (pe_ix (ixL K) (pv 3) (pv 5) (fun _ _ => rfl)))))
      pss_nil)
    (pss_cons (ps_if (pt_cmpR op_eq (pe_dn D_l_draw (hr.mono (by decide)) rfl (pa_cons (pv 0) (pa_cons pe_int pa_nil))) pe_int (nomark _))
      (pss_one (ps_ret (pe_tup (pa_cons (pe_callTy call_tuple_of (by rfl) T.tuple' (by decide +kernel) (pa_cons (pv 3) pa_nil)) (pa_cons (pe_callTy call_tuple_of (by rfl) T.tuple' (by decide +kernel) (pa_cons (pv 4) pa_nil)) pa_nil)))))
      pss_nil)
    (pss_one (ps_ret (pe_tup (pa_cons (pe_callTy call_tuple_of (by rfl) T.tuple' (by decide +kernel) (pa_cons (pv 4) pa_nil)) (pa_cons (pe_callTy call_tuple_of (by rfl) T.tuple' (by decide +kernel) (pa_cons (pv 3) pa_nil)) pa_nil)))))))))), ?_⟩)
  · first | (obtain ⟨_, rfl, _⟩ := h; rfl) | (obtain ⟨_, _, rfl, _⟩ := h; rfl) | (obtain ⟨_, _, _, rfl, _⟩ := h; rfl) | (obtain ⟨_, _, _, _, rfl, _⟩ := h; rfl) | (obtain ⟨_, _, _, _, _, rfl, _⟩ := h; rfl) | (obtain ⟨_, _, _, _, _, _, rfl, _⟩ := h; rfl) | (obtain ⟨_, _, _, _, _, _, _, rfl, _⟩ := h; rfl) | (obtain ⟨_, _, _, _, _, _, _, _, rfl, _⟩ := h; rfl) | (obtain ⟨_, _, _, _, _, _, _, _, _, rfl, _⟩ := h; rfl) | (obtain ⟨_, _, _, _, _, _, _, _, _, _, rfl, _⟩ := h; rfl) | (obtain ⟨_, _, _, _, _, _, _, _, _, _, _, rfl, _⟩ := h; rfl) | (obtain ⟨_, _, _, _, _, _, _, _, _, _, _, _, rfl, _⟩ := h; rfl)
  obtain ⟨a, o, t, rfl, hS, ⟨ho, ht⟩, hn, k⟩ := h
  refine ⟨_, rfl, _, rfl, a, o, rfl, hS, by omega, fun lo zs H1 hlo f1 S1 h1 hz1 hz2 => ?_⟩
  have nla : lo ≠ a := fun e => by
    obtain ⟨xs, h⟩ := hS.lst
    rw [← e, hlo] at h
    cases h
  have s1 := sum_le7 hz2
  refine ⟨fun σ H' => ∃ zs : List Int, σ = [some (.ref a), some (.int (o : Int)), some (.int (t : Int)), some (.ref lo), none, none] ∧ FrA a H H' ∧ Src H' a ∧ H' lo = some (.lst (zs.map V.int)) ∧ zs.length = o ∧ PosL zs ∧ (t : Int) ≤ zs.sum ∧ zs.sum ≤ 7 * ((o : Int) + t), ?_, ?_⟩
  · refine ⟨_, rfl, lo, zs, rfl, sql h1, _, rfl, _, _, rfl, rfl, _, rfl, ?_⟩
    refine ite2 (fun c => ?_) (fun c => ?_)
    · have c := of_decide_eq_true c
      obtain ⟨z, hz, hz'⟩ := get_int (xs := zs) (i := 0) (by omega)
      have zp := hz2 z (List.mem_of_getElem? hz)
      refine ⟨_, rfl, lo, _, _, .int z, rfl, rfl, sql h1, at_of (j := 0) rfl hz', _, rfl, _, _, rfl, rfl, _, rfl, lo, zs, rfl, sql h1, _, _, rfl, rfl, _, rfl, lo, _, _, 0, rfl, rfl, h1, ixN_nat (i := 0) (by rw [List.length_map]; omega), ?_⟩
      refine ⟨zs.set 0 (z + (t : Int) - zs.sum), rfl, f1.mut hlo, S1.upd nla, ?_, by rw [List.length_set]; exact hz1, pos_set (fun y hy => by have := hz2 y hy; omega) (by omega), ?_, ?_⟩
      · rw [upd_same, List.map_set]
      · rw [sum_set hz]
        omega
      · rw [sum_set hz]
        omega
    · have c : ¬ zs.sum < (t : Int) := fun z => c (decide_eq_true z)
      exact ⟨zs, rfl, f1, S1, h1, hz1, fun y hy => by have := hz2 y hy; omega, by omega, by omega⟩
  · rintro σ H2 ⟨zs, rfl, f2, S2, h2, hl, hp, hs1, hs2⟩
    refine ⟨_, rfl, _, rfl, lo, zs, rfl, sql h2, _, rfl, a, _, t, rfl, S2, ht, by omega, hs1, by omega, fun ld ys H3 hld f3 S3 h3 hyl hyp hys => ?_⟩
    have h3o := f3 _ _ h2 nla
    have f03 := f2.trans f3
    refine ⟨fun σ H' => ∃ (ld : Addr) (ys : List Int) (x : Option V), σ = [some (.ref a), some (.int (o : Int)), some (.int (t : Int)), some (.ref lo), some (.ref ld), x] ∧ FrA a H H' ∧ Src H' a ∧ H' lo = some (.lst (zs.map V.int)) ∧ H' ld = some (.lst (ys.map V.int)) ∧ ys.length = t ∧ PosL ys ∧ ys.sum = zs.sum ∧ ld ≠ a, ?_, ?_⟩
    · refine ⟨_, rfl, a, 3, rfl, S3, by decide, by decide, fun d H4 d0 d1 f4 S4 => ⟨rfl, _, rfl, ?_⟩⟩
      have nlda : ld ≠ a := fun e => by
        obtain ⟨xs, h⟩ := S2.lst
        rw [← e, hld] at h
        cases h
      have h4o := f4 _ _ h3o nla
      have f04 := f03.trans f4
      refine ite2 (fun c => ?_) (fun c => ?_)
      · refine ⟨_, rfl, _, rfl, rfl, _, rfl, ?_⟩
        refine ite2 (fun c2 => ?_) (fun c2 => ?_)
        · have eot : o = t := by
            have := of_decide_eq_true c2
            injection this with this
            omega
          refine ⟨_, rfl, _, rfl, a, o, rfl, S4, by omega, fun v π H5 f5 S5 hv hπ => ?_⟩
          obtain ⟨tp, rfl, htp⟩ := hv
          have h5o := f5 _ _ h4o nla
          refine ⟨tp, rfl, ⟨_, htp⟩, fun D hD => ?_⟩
          refine lc_tupR (K := K) (a := tp) (xs := (nI π).map V.int) (fun i v _ => ∀ n, π[i]? = some n → v = .int (zs.getD n 0)) (fun _ _ _ _ _ r => r) hD htp (szl (by rw [nI_len, hπ.length_eq, List.length_range]; omega)) (fun i x H6 hx e Q' hq => ?_) (fun us H6 e6 hD6 hl6 hu => ?_)
          · obtain ⟨n, hn, rfl⟩ := nI_at hx
            have nm := List.mem_range.mp (hπ.mem_iff.mp (List.mem_of_getElem? hn))
            refine ⟨_, rfl, _, rfl, lo, _, _, _, rfl, rfl, sql (e _ _ h5o), at_of rfl (fol_at (by omega)), hq _ _ (Same.refl _) fun z hz => ?_⟩
            rw [hn] at hz
            cases hz
            rfl
          · have eu : us = (pick zs π).map V.int := by
              unfold pick
              rw [List.map_map]
              exact list_of_map (by rw [hl6, nI_len]) fun i y x hy' hx => hu i y hy' x hx
            subst eu
            have hπ' : π.Perm (List.range zs.length) := by rw [hl]; exact hπ
            have pp := pick_perm hπ'
            exact ⟨D, pick zs π, _, rfl, (f04.trans f5).same e6, S5.same e6, e6 _ _ h5o, hD6, by rw [pp.length_eq, hl, eot], hp.perm pp.symm, perm_sum pp, fun e => by
              obtain ⟨xs, h⟩ := S5.lst
              rw [← e, hD] at h
              cases h⟩
        · exact ⟨ld, ys, _, rfl, f04, S4, h4o, f4 _ _ h3 nlda, hyl, hyp, hys, nlda⟩
      · exact ⟨ld, ys, _, rfl, f04, S4, h4o, f4 _ _ h3 nlda, hyl, hyp, hys, nlda⟩
    · rintro σ H4 ⟨ld, ys, x, rfl, f4, S4, h4o, h4d, hyl, hyp, hys, nlda⟩
      refine ⟨_, rfl, a, 2, rfl, S4, by decide, by decide, fun d H5 d0 d1 f5 S5 => ⟨rfl, _, rfl, ?_⟩⟩
      have h5o := f5 _ _ h4o nla
      have h5d := f5 _ _ h4d nlda
      have f05 := f4.trans f5
      have nz : zs ≠ [] := fun e => by
        rw [e] at hl
        simp at hl
        omega
      have ny : ys ≠ [] := fun e => by
        rw [e] at hyl
        simp at hyl
        omega
      -- a pair of the tuples of two lists
      have pair : ∀ (l1 l2 : Addr) (xs1 xs2 : List Int), H5 l1 = some (.lst (xs1.map V.int)) → H5 l2 = some (.lst (xs2.map V.int)) → SumD xs1 xs2 (o + t) → ∀ p1 p2 p3, H5 p1 = none → (upd H5 p1 (.tup (xs1.map V.int))) p2 = none → (upd (upd H5 p1 (.tup (xs1.map V.int))) p2 (.tup (xs2.map V.int))) p3 = none →
          Q (.ref p3) (upd (upd (upd H5 p1 (.tup (xs1.map V.int))) p2 (.tup (xs2.map V.int))) p3 (.tup [.ref p1, .ref p2])) := fun l1 l2 xs1 xs2 e1 e2 D p1 p2 p3 n1 n2 n3 => by
        have z1 := Same.new (o := .tup (xs1.map V.int)) n1
        have z2 := Same.new (o := .tup (xs2.map V.int)) n2
        have z3 := Same.new (o := .tup [.ref p1, .ref p2]) n3
        exact k _ xs1 xs2 _ (f05.same ((z1.trans z2).trans z3)) (S5.same ((z1.trans z2).trans z3)) ⟨p3, _, _, rfl, sqt upd_same, ⟨p1, rfl, (z2.trans z3).t (sqt upd_same)⟩, ⟨p2, rfl, z3.t (sqt upd_same)⟩⟩ D
      refine ite2 (fun c => ?_) (fun c => ?_)
      · refine ⟨_, rfl, lo, _, rfl, .inl ⟨sql h5o, fun p1 n1 => ?_⟩⟩
        refine ⟨_, rfl, ld, _, rfl, .inl ⟨sql (Same.new n1 _ _ h5d), fun p2 n2 => ?_⟩⟩
        refine ⟨(by show 2 ≤ sizeLine; decide), fun p3 n3 => ?_⟩
        exact pair lo ld zs ys h5o h5d ⟨nz, ny, hp, hyp, hys.symm, by omega, by omega⟩ p1 p2 p3 n1 n2 n3
      · refine ⟨_, rfl, ld, _, rfl, .inl ⟨sql h5d, fun p1 n1 => ?_⟩⟩
        refine ⟨_, rfl, lo, _, rfl, .inl ⟨sql (Same.new n1 _ _ h5o), fun p2 n2 => ?_⟩⟩
        refine ⟨(by show 2 ≤ sizeLine; decide), fun p3 n3 => ?_⟩
        exact pair ld lo ys zs h5d h5o ⟨ny, nz, hyp, hp, hys, by omega, by omega⟩ p1 p2 p3 n1 n2 n3
def sp_l_crowd (K : PySem.W.Frag) : Sp := fun vs H Q _ => ∃ (a : Addr) (n : Nat), vs = [.ref a, .int (n : Int)] ∧ Src H a ∧ 3 ≤ n ∧ n ≤ 7 ∧ ∀ (v : V) (os ds : List Int) (H' : Hp), FrA a H H' → Src H' a → SumsT K H' v os ds → SumD os ds n → Q v H'
theorem SumD.le {os ds : List Int} {m n : Nat} (h : SumD os ds m) (e : m ≤ n) : SumD os ds n := ⟨h.no, h.nd, h.po, h.pd, h.hs, by have := h.ln; omega, by have := h.bd; omega⟩
theorem sc_l_crowd : FnScope ["_law_source_here", "_law_most", "_law_many", "_law_owers"] ["_law_source_here", "_law_most"] (defScope s_l_crowd) := ⟨rfl, rfl, rfl, by decide +kernel, rfl, by decide +kernel, by decide +kernel⟩
/-- the body of _law_crowd -/
theorem ok_l_crowd {f : Addr} {fd : FuncData} (T : Txt K mg) (F : FnP K "_law_crowd" "_law_crowd" s_l_crowd f fd) (D_l_sums : Dn P w K mg base "_law_sums" ["_law_source_here", "_law_owers", "_law_takers"] 4 (sp_l_sums K)) (D_l_draw : Dn P w K mg base "_law_draw" ["_law_source_here", "_law_many"] 1 (sp_l_draw K)) : FnOk P w K mg base CX0 5 f fd ["_law_source_here", "_law_most"] (sp_l_crowd K) := by
  refine F.ok sc_l_crowd (fun vs H Q E h => ?_) (fun cdv A outer s H vs Q E hr h => ⟨_, PSs.nox (C8.pss_cut (ps_set (i := 2) sc_l_crowd.nd rfl (Or.inl rfl) (pe_ifExp (pt_cmpR op_gt (pe_dn D_l_draw (hr.mono (by decide)) rfl (pa_cons (pv 0) (pa_cons pe_int pa_nil))) pe_int (nomark _)) (pe_op op_sub (pv 1) (pe_dn D_l_draw (hr.mono (by decide)) rfl (pa_cons (pv 0) (pa_cons pe_int pa_nil)))) (pe_op op_add pe_int (pe_dn D_l_draw (hr.mono (by decide)) rfl (pa_cons (pv 0) (pa_cons (pe_op op_sub (pv 1) pe_int) pa_nil))))))
    (C8.pss_cut (ps_set (i := 3) sc_l_crowd.nd rfl (Or.inl rfl) (pe_ifExp (pt_cmpR op_gt (pe_dn D_l_draw (hr.mono (by decide)) rfl (pa_cons (pv 0) (pa_cons pe_int pa_nil))) pe_int (nomark _)) (pe_callB (call_max2 rfl) (by rfl) T.max' (by decide +kernel) (pa_cons pe_int (pa_cons (pe_op op_sub (pe_op op_fdivW (pv 2) pe_int) (pe_dn D_l_draw (hr.mono (by decide)) rfl (pa_cons (pv 0) (pa_cons pe_int pa_nil)))) pa_nil))) (pe_op op_add pe_int (pe_dn D_l_draw (hr.mono (by decide)) rfl (pa_cons (pv 0) (pa_cons (pe_op op_sub (pv 2) pe_int) pa_nil))))))
    (pss_one (ps_ret (pe_dn D_l_sums (hr.mono (by decide)) rfl (pa_cons (pv 0) (pa_cons (pv 3) (pa_cons (pe_op op_sub (pv 2) (pv 3)) pa_nil)))))))), ?_⟩)
  · first | (obtain ⟨_, rfl, _⟩ := h; rfl) | (obtain ⟨_, _, rfl, _⟩ := h; rfl) | (obtain ⟨_, _, _, rfl, _⟩ := h; rfl) | (obtain ⟨_, _, _, _, rfl, _⟩ := h; rfl) | (obtain ⟨_, _, _, _, _, rfl, _⟩ := h; rfl) | (obtain ⟨_, _, _, _, _, _, rfl, _⟩ := h; rfl) | (obtain ⟨_, _, _, _, _, _, _, rfl, _⟩ := h; rfl) | (obtain ⟨_, _, _, _, _, _, _, _, rfl, _⟩ := h; rfl) | (obtain ⟨_, _, _, _, _, _, _, _, _, rfl, _⟩ := h; rfl) | (obtain ⟨_, _, _, _, _, _, _, _, _, _, rfl, _⟩ := h; rfl) | (obtain ⟨_, _, _, _, _, _, _, _, _, _, _, rfl, _⟩ := h; rfl) | (obtain ⟨_, _, _, _, _, _, _, _, _, _, _, _, rfl, _⟩ := h; rfl)
  obtain ⟨a, n, rfl, hS, h3, h7, k⟩ := h
  refine ⟨fun σ H' => ∃ m : Nat, σ = [some (.ref a), some (.int (n : Int)), some (.int (m : Int)), none] ∧ FrA a H H' ∧ Src H' a ∧ 2 ≤ m ∧ m ≤ n, ?_, ?_⟩
  · refine ⟨_, rfl, a, 3, rfl, hS, by decide, by decide, fun d H1 d0 d1 f1 S1 => ⟨_, _, rfl, rfl, _, rfl, ?_⟩⟩
    refine ite2 (fun c => ?_) (fun c => ?_)
    · refine ⟨_, rfl, _, rfl, a, 2, rfl, S1, by decide, by decide, fun e H2 e0 e1 f2 S2 => ⟨_, _, rfl, rfl, (n : Int).toNat - e.toNat, ?_, f1.trans f2, S2, by omega, by omega⟩⟩
      have e : ((n : Int) - e) = (((n : Int).toNat - e.toNat : Nat) : Int) := by omega
      show [some (V.ref a), some (V.int (n : Int)), some (V.int ((n : Int) - _)), none] = _
      rw [e]
    · refine ⟨_, rfl, _, rfl, _, _, rfl, rfl, a, _, rfl, S1, by omega, by omega, fun e H2 e0 e1 f2 S2 => ⟨_, _, rfl, rfl, 2 + e.toNat, ?_, f1.trans f2, S2, by omega, by omega⟩⟩
      have e : (2 + e) = ((2 + e.toNat : Nat) : Int) := by omega
      show [some (V.ref a), some (V.int (n : Int)), some (V.int (2 + _)), none] = _
      rw [e]
  · rintro σ H1 ⟨m, rfl, f1, S1, m2, mn⟩
    refine ⟨fun σ H' => ∃ o : Nat, σ = [some (.ref a), some (.int (n : Int)), some (.int (m : Int)), some (.int (o : Int))] ∧ FrA a H H' ∧ Src H' a ∧ 1 ≤ o ∧ o < m, ?_, ?_⟩
    · refine ⟨_, rfl, a, 3, rfl, S1, by decide, by decide, fun d H2 d0 d1 f2 S2 => ⟨_, _, rfl, rfl, _, rfl, ?_⟩⟩
      refine ite2 (fun c => ?_) (fun c => ?_)
      · refine ⟨_, rfl, _, _, rfl, rfl, wd (by decide) (by decide), _, rfl, a, 2, rfl, S2, by decide, by decide, fun e H3 e0 e1 f3 S3 => ⟨_, _, rfl, rfl, _, _, rfl, (if ((m : Int) / 2 - e) > 1 then ((m : Int) / 2 - e) else 1).toNat, ?_, (f1.trans f2).trans f3, S3, by split <;> omega, by split <;> omega⟩⟩
        have e : (if ((m : Int) / 2 - e) > 1 then ((m : Int) / 2 - e) else 1) = (((if ((m : Int) / 2 - e) > 1 then ((m : Int) / 2 - e) else 1).toNat : Nat) : Int) := by split <;> omega
        show [some (V.ref a), some (V.int (n : Int)), some (V.int (m : Int)), some (V.int (if ((m : Int) / 2 - _) > 1 then ((m : Int) / 2 - _) else 1))] = _
        rw [← e]
      · refine ⟨_, rfl, _, rfl, _, _, rfl, rfl, a, _, rfl, S2, by omega, by omega, fun e H3 e0 e1 f3 S3 => ⟨_, _, rfl, rfl, 1 + e.toNat, ?_, (f1.trans f2).trans f3, S3, by omega, by omega⟩⟩
        have e : (1 + e) = ((1 + e.toNat : Nat) : Int) := by omega
        show [some (V.ref a), some (V.int (n : Int)), some (V.int (m : Int)), some (V.int (1 + _))] = _
        rw [e]
    · rintro σ H2 ⟨o, rfl, f2, S2, o1, om⟩
      have e : ((m : Int) - (o : Int)) = ((m - o : Nat) : Int) := by omega
      refine ⟨_, rfl, _, rfl, _, rfl, _, rfl, _, _, rfl, rfl, a, o, m - o, ?_, S2, ⟨o1, by omega⟩, by omega, fun v os ds H3 f3 S3 hv D => k v os ds H3 (f2.trans f3) S3 hv (D.le (by omega))⟩
      show [V.ref a, V.int (o : Int), V.int ((m : Int) - (o : Int))] = _
      rw [e]
def sp_l_evening (K : PySem.W.Frag) : Sp := fun vs H Q _ => ∃ (v u : V) (p q : Int) (os ds : List Int), vs = [v, u] ∧ SumsT K H v os ds ∧ Fr K H u (p, q) ∧ EvD p q os ds ∧ ∀ w H', Same H H' → EvAt K H' w p q os ds → Q w H'
theorem sc_l_evening : FnScope ["_law_sums_here", "_law_unit_here", "_law_owed", "_law_due", "_law_item"] ["_law_sums_here", "_law_unit_here"] (defScope s_l_evening) := ⟨rfl, rfl, rfl, by decide +kernel, rfl, by decide +kernel, by decide +kernel⟩
/-- the body of _law_evening -/
theorem ok_l_evening {f : Addr} {fd : FuncData} (T : Txt K mg) (F : FnP K "_law_evening" "_law_evening" s_l_evening f fd) (D_Evening_init : Di P w K mg base "Evening" ["self", "owed", "due"] 5 (sp_Evening_init K)) (D_l_times : Dn P w K mg base "_law_times" ["_law_number", "_law_unit_here"] 2 (sp_l_times K)) : FnOk P w K mg base CX0 7 f fd ["_law_sums_here", "_law_unit_here"] (sp_l_evening K) := by
  refine F.ok sc_l_evening (fun vs H Q E h => ?_) (fun cdv A outer s H vs Q E hr h => ⟨_, PSs.nox (pss_cons (ps_asg (pv 0) (pg_tup rfl (pgs_cons (pg_name (i := 2) sc_l_evening.nd rfl (Or.inl rfl)) (pgs_cons (pg_name (i := 3) sc_l_evening.nd rfl (Or.inl rfl)) pgs_nil))))
    (pss_one (ps_ret (pe_mk D_Evening_init (hr.mono (by decide)) rfl T.mg_Evening (pa_cons (pe_callTy call_tuple_of (by rfl) T.tuple' (by decide +kernel) (pa_cons (pe_lc (own := [("_law_item", 4)]) (g := gName 4) (tt := tYes) rfl sc_l_evening.nd (pi_tup (pv 2)) (blkOk_by (N := ["_law_sums_here", "_law_unit_here", "_law_owed", "_law_due", "_law_item"]) (sc := defScope s_l_evening) (by decide +kernel)) (fun _ _ _ _ _ => pg_name (i := 4) sc_l_evening.nd rfl (Or.inl rfl)) (fun _ _ _ _ _ => pts_nil) (fun _ _ _ _ _ => (pe_dn D_l_times (hr.mono (by decide)) rfl (pa_cons (pv 4) (pa_cons (pv 1) pa_nil))))) pa_nil)) (pa_cons (pe_callTy call_tuple_of (by rfl) T.tuple' (by decide +kernel) (pa_cons (pe_lc (own := [("_law_item", 4)]) (g := gName 4) (tt := tYes) rfl sc_l_evening.nd (pi_tup (pv 3)) (blkOk_by (N := ["_law_sums_here", "_law_unit_here", "_law_owed", "_law_due", "_law_item"]) (sc := defScope s_l_evening) (by decide +kernel)) (fun _ _ _ _ _ => pg_name (i := 4) sc_l_evening.nd rfl (Or.inl rfl)) (fun _ _ _ _ _ => pts_nil) (fun _ _ _ _ _ => (pe_dn D_l_times (hr.mono (by decide)) rfl (pa_cons (pv 4) (pa_cons (pv 1) pa_nil))))) pa_nil)) pa_nil)))))), ?_⟩)
  · first | (obtain ⟨_, rfl, _⟩ := h; rfl) | (obtain ⟨_, _, rfl, _⟩ := h; rfl) | (obtain ⟨_, _, _, rfl, _⟩ := h; rfl) | (obtain ⟨_, _, _, _, rfl, _⟩ := h; rfl) | (obtain ⟨_, _, _, _, _, rfl, _⟩ := h; rfl) | (obtain ⟨_, _, _, _, _, _, rfl, _⟩ := h; rfl) | (obtain ⟨_, _, _, _, _, _, _, rfl, _⟩ := h; rfl) | (obtain ⟨_, _, _, _, _, _, _, _, rfl, _⟩ := h; rfl) | (obtain ⟨_, _, _, _, _, _, _, _, _, rfl, _⟩ := h; rfl) | (obtain ⟨_, _, _, _, _, _, _, _, _, _, rfl, _⟩ := h; rfl) | (obtain ⟨_, _, _, _, _, _, _, _, _, _, _, rfl, _⟩ := h; rfl) | (obtain ⟨_, _, _, _, _, _, _, _, _, _, _, _, rfl, _⟩ := h; rfl)
  obtain ⟨v, u, p, q, os, ds, rfl, ⟨t, va, vb, rfl, ht, ⟨po, rfl, ho⟩, ⟨pd, rfl, hd⟩⟩, hu, D, k⟩ := h
  have lo := D.lo
  have ld := D.ld
  refine ⟨_, rfl, t, _, rfl, ht, rfl, _, _, rfl, _, _, rfl, rfl, ?_⟩
  refine ⟨_, rfl, po, rfl, ⟨_, ho⟩, fun D1 hD1 => ?_⟩
  refine lc_tupR (K := K) (a := po) (xs := os.map V.int) (fun i v H => ∀ k, os[i]? = some k → Fr K H v (fr p q k)) (fun i v H H' t r k hk => (r k hk).tame t) hD1 ho (szl (by rw [List.length_map]; omega)) (fun i x H2 hx e Q' hq => ?_) (fun ys H2 e2 hD2 hl hy => ?_)
  · obtain ⟨n, hn, rfl⟩ := at_map hx
    refine ⟨_, rfl, _, rfl, n, u, p, q, rfl, hu.mono e, D.u, D.ko.le (List.mem_of_getElem? hn), fun v3 H3 e3 h3 => hq _ _ e3 fun k hk => ?_⟩
    rw [hn] at hk
    cases hk
    exact h3
  · refine ⟨D1, _, rfl, .inl ⟨sql hD2, fun t1 n1 => ?_⟩⟩
    have e3 := Same.new (o := .tup ys) n1
    have e23 := e2.trans e3
    have g1 : FrT K (upd H2 t1 (.tup ys)) (.ref t1) (os.map (fr p q)) := ⟨t1, ys, rfl, sqt upd_same, paired_of (by rw [hl, List.length_map, List.length_map]) fun i y x hy' hx => by
      rw [List.getElem?_map] at hx
      obtain ⟨n, hn, rfl⟩ := Option.map_eq_some_iff.mp hx
      exact (hy i y hy' n hn).mono e3⟩
    generalize upd H2 t1 (.tup ys) = H3 at e3 e23 g1
    refine ⟨_, rfl, pd, rfl, ⟨_, e23.t hd⟩, fun D4 hD4 => ?_⟩
    refine lc_tupR (K := K) (a := pd) (xs := ds.map V.int) (fun i v H => ∀ k, ds[i]? = some k → Fr K H v (fr p q k)) (fun i v H H' t r k hk => (r k hk).tame t) hD4 (e23.t hd) (szl (by rw [List.length_map]; omega)) (fun i x H5 hx e Q' hq => ?_) (fun zs H5 e5 hD5 hl5 hz => ?_)
    · obtain ⟨n, hn, rfl⟩ := at_map hx
      refine ⟨_, rfl, _, rfl, n, u, p, q, rfl, (hu.mono e23).mono e, D.u, D.kd.le (List.mem_of_getElem? hn), fun v3 H3 e3 h3 => hq _ _ e3 fun k hk => ?_⟩
      rw [hn] at hk
      cases hk
      exact h3
    · refine ⟨D4, _, rfl, .inl ⟨sql hD5, fun t2 n2 => ?_⟩⟩
      have e6 := Same.new (o := .tup zs) n2
      have e56 := e5.trans e6
      have g2 : FrT K (upd H5 t2 (.tup zs)) (.ref t2) (ds.map (fr p q)) := ⟨t2, zs, rfl, sqt upd_same, paired_of (by rw [hl5, List.length_map, List.length_map]) fun i y x hy' hx => by
        rw [List.getElem?_map] at hx
        obtain ⟨n, hn, rfl⟩ := Option.map_eq_some_iff.mp hx
        exact (hz i y hy' n hn).mono e6⟩
      generalize upd H5 t2 (.tup zs) = H6 at e6 e56 g2
      have e06 := e23.trans e56
      intro x dx nx ndx nxx
      have s0 : Same H6 (upd (upd H6 dx (.own x)) x (.ins (He.ga K "Evening") dx [])) := (Same.new ndx).trans (Same.new (by rw [upd_ne nxx.symm]; exact nx))
      refine ⟨x, dx, .ref t1, .ref t2, p, q, os, ds, rfl, upd_same, D, (g1.mono e56).mono s0, g2.mono s0, fun H7 f7 h7 => ⟨rfl, ?_⟩⟩
      have s7 : Same H6 H7 := Same.made nx ndx f7
      exact k _ _ (e06.trans s7) ⟨x, dx, _, _, rfl, h7, (g1.mono e56).mono s7, g2.mono s7⟩
end
end K71
namespace K71
open PySem PySem.Spec PyProof.Rows L2
section
variable {P : Program} {w : World} {K : PySem.W.Frag} {mg : Str → Option Value} {base : Heap}
/-! ### the law's own ways -/
theorem take_then {H : Hp} {Q : VK} {a : Addr} {xs : List Int} {i : Nat} (h : SqT K H a (xs.map V.int)) (hi : i < xs.length) (k : ∀ c H', Same H H' → SqT K H' c ((xs.take i).map V.int) → Q (.ref c) H') : rSlA K (.ref a) none (some (i : Int)) H Q := by
  have e1 : HT.sIx (xs.map V.int).length 0 none = 0 := rfl
  have e2 : HT.sIx (xs.map V.int).length (xs.map V.int).length (some (i : Int)) = i := by
    rw [HT.sIx_nat, List.length_map]
    omega
  refine ⟨a, _, rfl, h, fun ⟨_, w⟩ => ?_, fun _ p hp => k p _ (Same.new hp) (sqt ?_)⟩
  · rw [e2, List.length_map] at w
    omega
  · rw [upd_same]
    unfold cutV
    rw [e1, e2, List.drop_zero, Nat.sub_zero, List.map_take]
theorem drop_then {H : Hp} {Q : VK} {a : Addr} {xs : List Int} {i : Nat} (h : SqT K H a (xs.map V.int)) (hi : i < xs.length) (k : ∀ c H', Same H H' → SqT K H' c ((xs.drop (i + 1)).map V.int) → Q (.ref c) H') : rSlA K (.ref a) (some ((i : Int) + 1)) none H Q := by
  have e1 : HT.sIx (xs.map V.int).length 0 (some ((i : Int) + 1)) = i + 1 := by
    have e : (i : Int) + 1 = ((i + 1 : Nat) : Int) := by omega
    rw [e, HT.sIx_nat, List.length_map]
    omega
  have e2 : HT.sIx (xs.map V.int).length (xs.map V.int).length none = xs.length := by
    rw [HT.sIx_none, List.length_map]
  refine ⟨a, _, rfl, h, fun ⟨w, _⟩ => ?_, fun _ p hp => k p _ (Same.new hp) (sqt ?_)⟩
  · rw [e1] at w
    omega
  · rw [upd_same]
    unfold cutV
    rw [e1, e2, List.map_drop, List.take_of_length_le (by rw [List.length_drop, List.length_map]; exact Nat.le_refl _)]
theorem cat_then {H : Hp} {Q : VK} {a b : Addr} {xs ys : List Int} (ha : SqT K H a (xs.map V.int)) (hb : SqT K H b (ys.map V.int)) (hn : xs.length + ys.length ≤ 100000) (k : ∀ c H', Same H H' → SqT K H' c ((xs ++ ys).map V.int) → Q (.ref c) H') : rCatA K (.ref a) (.ref b) H Q := by
  refine ⟨a, b, _, _, rfl, rfl, ha, hb, szl (by rw [List.length_map, List.length_map]; exact hn), fun e => ?_, fun _ e => ?_, fun _ _ p hp => ?_⟩
  · have e := List.map_eq_nil_iff.mp e
    subst e
    exact k b H (Same.refl _) hb
  · have e := List.map_eq_nil_iff.mp e
    subst e
    refine k a H (Same.refl _) ?_
    rw [List.append_nil]
    exact ha
  · refine k p _ (Same.new hp) (sqt ?_)
    rw [upd_same, List.map_append]
theorem set_parts {xs : List Int} {i : Nat} {z : Int} (h : i < xs.length) : xs.take i ++ [z] ++ xs.drop (i + 1) = xs.set i z := by
  rw [List.set_eq_take_append_cons_drop, if_pos h, List.append_assoc]
  rfl
def sp_l_pay (K : PySem.W.Frag) : Sp := fun vs H Q _ => ∃ (v w : V) (o d : List Int) (i j : Nat), vs = [v, w] ∧ SumsT K H v o d ∧ IT K H w [(i : Int), (j : Int)] ∧ (i < o.length ∧ j < d.length) ∧ (o.length ≤ 100 ∧ d.length ≤ 100) ∧ ∀ u H', Same H H' → SumsT K H' u (payM o d i j).1 (payM o d i j).2 → Q u H'
theorem sc_l_pay : FnScope ["_law_state", "_law_pair", "_law_owed", "_law_due", "_law_ower", "_law_taker", "_law_amount"] ["_law_state", "_law_pair"] (defScope s_l_pay) := ⟨rfl, rfl, rfl, by decide +kernel, rfl, by decide +kernel, by decide +kernel⟩
/-- the body of _law_pay -/
theorem ok_l_pay {f : Addr} {fd : FuncData} (T : Txt K mg) (F : FnP K "_law_pay" "_law_pay" s_l_pay f fd)  : FnOk P w K mg base CX0 1 f fd ["_law_state", "_law_pair"] (sp_l_pay K) := by
  refine F.ok sc_l_pay (fun vs H Q E h => ?_) (fun cdv A outer s H vs Q E hr h => ⟨_, PSs.nox (pss_cons (ps_asg (pv 0) (pg_tup rfl (pgs_cons (pg_name (i := 2) sc_l_pay.nd rfl (Or.inl rfl)) (pgs_cons (pg_name (i := 3) sc_l_pay.nd rfl (Or.inl rfl)) pgs_nil))))
    (pss_cons (ps_asg (pv 1) (pg_tup rfl (pgs_cons (pg_name (i := 4) sc_l_pay.nd rfl (Or.inl rfl)) (pgs_cons (pg_name (i := 5) sc_l_pay.nd rfl (Or.inl rfl)) pgs_nil))))
    (pss_cons (ps_set (i := 6) sc_l_pay.nd rfl (Or.inl rfl) (pe_callB (call_min2 rfl) (by rfl) T.min' (by decide +kernel) (pa_cons (pe_ix (ixT K) (pv 2) (pv 4) (fun _ _ => rfl)) (pa_cons (pe_ix (ixT K) (pv 3) (pv 5) (fun _ _ => rfl)) pa_nil))))
    (pss_cons (ps_set (i := 2) sc_l_pay.nd rfl (Or.inl rfl) (pe_op op_catA (pe_op op_catA (pe_slice sl_tupA (pv 2) po_none (po_some (pv 4))) (pe_tup (pa_cons (pe_op op_sub (pe_ix (ixT K) (pv 2) (pv 4) (fun _ _ => rfl)) (pv 6)) pa_nil))) (pe_slice sl_tupA (pv 2) (po_some (pe_op op_add (pv 4) pe_int)) po_none)))
    (pss_one (ps_ret (pe_tup (pa_cons (pv 2) (pa_cons (pe_op op_catA (pe_op op_catA (pe_slice sl_tupA (pv 3) po_none (po_some (pv 5))) (pe_tup (pa_cons (pe_op op_sub (pe_ix (ixT K) (pv 3) (pv 5) (fun _ _ => rfl)) (pv 6)) pa_nil))) (pe_slice sl_tupA (pv 3) (po_some (pe_op op_add (pv 5) pe_int)) po_none)) pa_nil))))))))), ?_⟩)
  · first | (obtain ⟨_, rfl, _⟩ := h; rfl) | (obtain ⟨_, _, rfl, _⟩ := h; rfl) | (obtain ⟨_, _, _, rfl, _⟩ := h; rfl) | (obtain ⟨_, _, _, _, rfl, _⟩ := h; rfl) | (obtain ⟨_, _, _, _, _, rfl, _⟩ := h; rfl) | (obtain ⟨_, _, _, _, _, _, rfl, _⟩ := h; rfl) | (obtain ⟨_, _, _, _, _, _, _, rfl, _⟩ := h; rfl) | (obtain ⟨_, _, _, _, _, _, _, _, rfl, _⟩ := h; rfl) | (obtain ⟨_, _, _, _, _, _, _, _, _, rfl, _⟩ := h; rfl) | (obtain ⟨_, _, _, _, _, _, _, _, _, _, rfl, _⟩ := h; rfl) | (obtain ⟨_, _, _, _, _, _, _, _, _, _, _, rfl, _⟩ := h; rfl) | (obtain ⟨_, _, _, _, _, _, _, _, _, _, _, _, rfl, _⟩ := h; rfl)
  obtain ⟨v, w, o, d, i, j, rfl, ⟨t, va, vb, rfl, ht, ⟨po, rfl, ho⟩, ⟨pd, rfl, hd⟩⟩, ⟨tp, rfl, htp⟩, ⟨hi, hj⟩, ⟨lo, ld⟩, k⟩ := h
  obtain ⟨x, hx, hx'⟩ := get_int (xs := o) (i := i) hi
  obtain ⟨y, hy, hy'⟩ := get_int (xs := d) (i := j) hj
  have gx : o.getD i 0 = x := by rw [List.getD_eq_getElem?_getD, hx]; rfl
  have gy : d.getD j 0 = y := by rw [List.getD_eq_getElem?_getD, hy]; rfl
  refine ⟨_, rfl, t, _, rfl, ht, rfl, _, _, rfl, _, _, rfl, rfl, ?_⟩
  refine ⟨_, rfl, tp, _, rfl, htp, rfl, _, _, rfl, _, _, rfl, rfl, ?_⟩
  refine ⟨_, rfl, _, rfl, po, _, _, .int x, rfl, rfl, ho, at_of rfl hx', _, rfl, _, rfl, pd, _, _, .int y, rfl, rfl, hd, at_of rfl hy', _, _, rfl, ?_⟩
  have em : (if y < x then y else x) = min x y := by split <;> omega
  rw [em]
  refine ⟨_, rfl, _, rfl, _, rfl, take_then ho hi fun c H1 e1 h1 => ?_⟩
  refine ⟨_, rfl, _, rfl, po, _, _, .int x, rfl, rfl, e1.t ho, at_of rfl hx', _, rfl, _, _, rfl, rfl, (by show 1 ≤ sizeLine; decide), fun t1 n1 => ?_⟩
  have s1 := Same.new (o := .tup [.int (x - min x y)]) n1
  refine cat_then (s1.t h1) (ys := [x - min x y]) (sqt upd_same) (by rw [List.length_take, List.length_singleton]; omega) fun c2 H2 e2 h2 => ?_
  have e02 := (e1.trans s1).trans e2
  refine ⟨_, rfl, _, rfl, _, _, rfl, rfl, _, rfl, ?_⟩
  dsimp only [tNoPart]
  refine drop_then (e02.t ho) hi fun c3 H3 e3 h3 => ?_
  refine cat_then (e3.t h2) h3 (by rw [List.length_append, List.length_take, List.length_drop, List.length_singleton]; omega) fun c4 H4 e4 h4 => ?_
  have e04 := (e02.trans e3).trans e4
  rw [set_parts hi] at h4
  refine ⟨_, rfl, _, rfl, _, rfl, _, rfl, take_then (e04.t hd) hj fun c5 H5 e5 h5 => ?_⟩
  refine ⟨_, rfl, _, rfl, pd, _, _, .int y, rfl, rfl, (e04.trans e5).t hd, at_of rfl hy', _, rfl, _, _, rfl, rfl, (by show 1 ≤ sizeLine; decide), fun t6 n6 => ?_⟩
  have s6 := Same.new (o := .tup [.int (y - min x y)]) n6
  refine cat_then (s6.t h5) (ys := [y - min x y]) (sqt upd_same) (by rw [List.length_take, List.length_singleton]; omega) fun c7 H7 e7 h7 => ?_
  have e07 := ((e04.trans e5).trans s6).trans e7
  refine ⟨_, rfl, _, rfl, _, _, rfl, rfl, _, rfl, ?_⟩
  dsimp only [tNoPart]
  refine drop_then (e07.t hd) hj fun c8 H8 e8 h8 => ?_
  refine cat_then (e8.t h7) h8 (by rw [List.length_append, List.length_take, List.length_drop, List.length_singleton]; omega) fun c9 H9 e9 h9 => ?_
  rw [set_parts hj] at h9
  have e09 := (e07.trans e8).trans e9
  have e49 := ((((e5.trans s6).trans e7).trans e8).trans e9)
  refine ⟨(by show 2 ≤ sizeLine; decide), fun t10 n10 => ?_⟩
  have s10 := Same.new (o := .tup [.ref c4, .ref c9]) n10
  refine k _ _ (e09.trans s10) ⟨t10, _, _, rfl, sqt upd_same, ⟨c4, rfl, ?_⟩, ⟨c9, rfl, ?_⟩⟩
  · show SqT K _ c4 ((o.set i _).map V.int)
    rw [gx, gy]
    exact s10.t (e49.t h4)
  · show SqT K _ c9 ((d.set j _).map V.int)
    rw [gx, gy]
    exact s10.t h9
end
end K71
namespace K71
open PySem PySem.Spec PyProof.Rows L2
section
variable {P : Program} {w : World} {K : PySem.W.Frag} {mg : Str → Option Value} {base : Heap}
/-! ### the law's own way of queues -/
theorem eqvAll_ints : ∀ ns ms : List Int, PyData.eqvAll (ns.map PyData.int) (ms.map PyData.int) = decide (ns = ms)
  | [], [] => by simp [PyData.eqvAll]
  | [], _ :: _ => by simp [PyData.eqvAll]
  | _ :: _, [] => by simp [PyData.eqvAll]
  | n :: r, k :: q => by
    simp only [List.map_cons, PyData.eqvAll, PyData.eqv, eqvAll_ints r q]
    by_cases h : n = k <;> simp [h]
theorem eqv_ints (ns ms : List Int) : PyData.eqv (.list (ns.map PyData.int)) (.list (ms.map PyData.int)) = decide (ns = ms) := by
  simp only [PyData.eqv]
  exact eqvAll_ints ns ms
theorem dp_ints {H : Hp} : ∀ ns : List Int, DpAll K H (ns.map V.int) (ns.map PyData.int)
  | [] => .nil
  | n :: ns => .cons (.int n) (dp_ints ns)
theorem dp_list {H : Hp} {l : Addr} {ns : List Int} (h : SqL K H l (ns.map V.int)) : Dp K H (.ref l) (.list (ns.map PyData.int)) := .lst h (dp_ints ns)
theorem last_at {α : Type} (xs : List α) (v : α) : atI (xs ++ [v]) (-1) = some v := by
  unfold atI
  have e : ixN (xs ++ [v]).length (-1) = some xs.length := by
    rw [List.length_append, List.length_singleton]
    unfold ixN
    rw [if_neg (by decide)]
    first | (rw [if_pos (by omega)]; congr 1; omega) | (simp; omega)
  rw [e]
  show (xs ++ [v])[xs.length]? = some v
  rw [List.getElem?_append_right (Nat.le_refl _), Nat.sub_self]
  rfl
structure LW (H0 : Hp) (l1 l2 lw : Addr) : Prop where
  f1 : H0 l1 = none
  f2 : H0 l2 = none
  fw : H0 lw = none
  n12 : l1 ≠ l2
  n1w : l1 ≠ lw
  n2w : l2 ≠ lw
structure LS (H0 H : Hp) (l1 l2 lw : Addr) (one other : List Nat) (ws : List V) : Prop where
  sm : Same H0 H
  h1 : H l1 = some (.lst ((nI one).map V.int))
  h2 : H l2 = some (.lst ((nI other).map V.int))
  hw : H lw = some (.lst ws)
section
variable {H0 H : Hp} {l1 l2 lw : Addr} {one other : List Nat} {ws : List V}
theorem LS.same {H' : Hp} (e : Same H H') (I : LS H0 H l1 l2 lw one other ws) : LS H0 H' l1 l2 lw one other ws := ⟨I.sm.trans e, e _ _ I.h1, e _ _ I.h2, e _ _ I.hw⟩
theorem LS.app (X : LW H0 l1 l2 lw) (I : LS H0 H l1 l2 lw one other ws) (v : V) : LS H0 (upd H lw (.lst (ws ++ [v]))) l1 l2 lw one other (ws ++ [v]) :=
  ⟨I.sm.mut X.fw, by rw [upd_ne X.n1w]; exact I.h1, by rw [upd_ne X.n2w]; exact I.h2, upd_same⟩
theorem LS.pop1 {i : Nat} (X : LW H0 l1 l2 lw) (I : LS H0 H l1 l2 lw (i :: one) other ws) : LS H0 (upd H l1 (.lst (((nI (i :: one)).map V.int).eraseIdx 0))) l1 l2 lw one other ws :=
  ⟨I.sm.mut X.f1, upd_same, by rw [upd_ne X.n12.symm]; exact I.h2, by rw [upd_ne X.n1w.symm]; exact I.hw⟩
theorem LS.pop2 {j : Nat} (X : LW H0 l1 l2 lw) (I : LS H0 H l1 l2 lw one (j :: other) ws) : LS H0 (upd H l2 (.lst (((nI (j :: other)).map V.int).eraseIdx 0))) l1 l2 lw one other ws :=
  ⟨I.sm.mut X.f2, by rw [upd_ne X.n12]; exact I.h1, upd_same, by rw [upd_ne X.n2w.symm]; exact I.hw⟩
end
theorem payM_len (o d : List Int) (i j : Nat) : (payM o d i j).1.length = o.length ∧ (payM o d i j).2.length = d.length := by
  constructor
  · show (o.set _ _).length = _
    rw [List.length_set]
  · show (d.set _ _).length = _
    rw [List.length_set]
def sp_l_queue_way (K : PySem.W.Frag) : Sp := fun vs H Q _ => ∃ (v v1 v2 : V) (os ds : List Int) (π τ : List Nat), vs = [v, v1, v2] ∧ SumsT K H v os ds ∧ IT K H v1 (nI π) ∧ IT K H v2 (nI τ) ∧ (PosL os ∧ PosL ds ∧ os.sum = ds.sum) ∧ (os.length ≤ 50 ∧ ds.length ≤ 50) ∧ π.Perm (List.range os.length) ∧ τ.Perm (List.range ds.length) ∧
  ∀ t ws H', Same H H' → SqT K H' t ws → ws.length = (qway os ds π τ).length → Q (.ref t) H'
theorem sc_l_queue_way : FnScope ["_law_sums_here", "_law_owers", "_law_takers", "_law_state", "_law_one", "_law_other", "_law_way", "_law_turn"] ["_law_sums_here", "_law_owers", "_law_takers"] (defScope s_l_queue_way) := ⟨rfl, rfl, rfl, by decide +kernel, rfl, by decide +kernel, by decide +kernel⟩
/-- the body of _law_queue_way -/
theorem ok_l_queue_way {f : Addr} {fd : FuncData} (T : Txt K mg) (F : FnP K "_law_queue_way" "_law_queue_way" s_l_queue_way f fd) (D_l_pay : Dn P w K mg base "_law_pay" ["_law_state", "_law_pair"] 1 (sp_l_pay K)) : FnOk P w K mg base CX0 2 f fd ["_law_sums_here", "_law_owers", "_law_takers"] (sp_l_queue_way K) := by
  refine F.ok sc_l_queue_way (fun vs H Q E h => ?_) (fun cdv A outer s H vs Q E hr h => ⟨_, PSs.nox (pss_cons (ps_set (i := 3) sc_l_queue_way.nd rfl (Or.inl rfl) (pv 0))
    (pss_cons (ps_set (i := 4) sc_l_queue_way.nd rfl (Or.inl rfl) (pe_callTy call_list_of (by rfl) T.list' (by decide +kernel) (pa_cons (pv 1) pa_nil)))
    (pss_cons (ps_set (i := 5) sc_l_queue_way.nd rfl (Or.inl rfl) (pe_callTy call_list_of (by rfl) T.list' (by decide +kernel) (pa_cons (pv 2) pa_nil)))
    (pss_cons (ps_set (i := 6) sc_l_queue_way.nd rfl (Or.inl rfl) (pe_lst pa_nil))
    (pss_cons (ps_for PassesOwn.never rfl (pi_range1 rfl T.range (pa_cons (pe_op op_add (pe_callB call_len_seq (by rfl) T.len' (by decide +kernel) (pa_cons (pv 1) pa_nil)) (pe_callB call_len_seq (by rfl) T.len' (by decide +kernel) (pa_cons (pv 2) pa_nil))) pa_nil)) (pg_name (i := 7) sc_l_queue_way.nd rfl (Or.inl rfl))
      (pss_one (ps_if (pt_cmpR (neD K hr.units) (pv 4) (pe_lst pa_nil) (nomark _))
        (pss_cons (ps_expr (pe_bm PySem.F.plainAttrs_list PySem.F.slot_list_append PySem.F.type_list_append mt_append (pv 6) (pa_cons (pe_tup (pa_cons (pe_ix (ixL K) (pv 4) pe_int (fun _ _ => rfl)) (pa_cons (pe_ix (ixL K) (pv 5) pe_int (fun _ _ => rfl)) pa_nil))) pa_nil)))
        (pss_cons (ps_set (i := 3) sc_l_queue_way.nd rfl (Or.inl rfl) (pe_dn D_l_pay (hr.mono (by decide)) rfl (pa_cons (pv 3) (pa_cons (pe_ix (ixL K) (pv 6) (pe_un un_neg pe_int) (fun _ _ => rfl)) pa_nil))))
        (C8.pss_cut (ps_if (pt_cmpR op_eq (pe_ix (ixT K) (pe_ix (ixT K) (pv 3) pe_int (fun _ _ => rfl)) (pe_ix (ixL K) (pv 4) pe_int (fun _ _ => rfl)) (fun _ _ => rfl)) pe_int (nomark _))
          (pss_one (ps_expr (pe_bm PySem.F.plainAttrs_list PySem.F.slot_list_pop PySem.F.type_list_pop mt_popAt (pv 4) (pa_cons pe_int pa_nil))))
          pss_nil)
        (pss_one (ps_if (pt_cmpR op_eq (pe_ix (ixT K) (pe_ix (ixT K) (pv 3) pe_int (fun _ _ => rfl)) (pe_ix (ixL K) (pv 5) pe_int (fun _ _ => rfl)) (fun _ _ => rfl)) pe_int (nomark _))
          (pss_one (ps_expr (pe_bm PySem.F.plainAttrs_list PySem.F.slot_list_pop PySem.F.type_list_pop mt_popAt (pv 5) (pa_cons pe_int pa_nil))))
          pss_nil)))))
        pss_nil)))
    (pss_one (ps_ret (pe_callTy call_tuple_of (by rfl) T.tuple' (by decide +kernel) (pa_cons (pv 6) pa_nil))))))))), ?_⟩)
  · first | (obtain ⟨_, rfl, _⟩ := h; rfl) | (obtain ⟨_, _, rfl, _⟩ := h; rfl) | (obtain ⟨_, _, _, rfl, _⟩ := h; rfl) | (obtain ⟨_, _, _, _, rfl, _⟩ := h; rfl) | (obtain ⟨_, _, _, _, _, rfl, _⟩ := h; rfl) | (obtain ⟨_, _, _, _, _, _, rfl, _⟩ := h; rfl) | (obtain ⟨_, _, _, _, _, _, _, rfl, _⟩ := h; rfl) | (obtain ⟨_, _, _, _, _, _, _, _, rfl, _⟩ := h; rfl) | (obtain ⟨_, _, _, _, _, _, _, _, _, rfl, _⟩ := h; rfl) | (obtain ⟨_, _, _, _, _, _, _, _, _, _, rfl, _⟩ := h; rfl) | (obtain ⟨_, _, _, _, _, _, _, _, _, _, _, rfl, _⟩ := h; rfl) | (obtain ⟨_, _, _, _, _, _, _, _, _, _, _, _, rfl, _⟩ := h; rfl)
  obtain ⟨v, v1, v2, os, ds, π, τ, rfl, hv, ⟨a1, rfl, ho⟩, ⟨a2, rfl, ht⟩, ⟨po, pd, hs⟩, ⟨lo, ld⟩, hπ, hτ, k⟩ := h
  have lπ : π.length = os.length := by rw [hπ.length_eq, List.length_range]
  have lτ : τ.length = ds.length := by rw [hτ.length_eq, List.length_range]
  refine ⟨_, rfl, _, rfl, a1, _, rfl, .inr ho, fun l1 hl1 => ?_⟩
  have s1 := Same.new (o := .lst ((nI π).map V.int)) hl1
  refine ⟨_, rfl, a2, _, rfl, .inr (s1.t ht), fun l2 hl2 => ?_⟩
  have s2 := Same.new (o := .lst ((nI τ).map V.int)) hl2
  refine ⟨Nat.zero_le _, fun lw hlw => ?_⟩
  have s3 := Same.new (o := .lst []) hlw
  have s03 := (s1.trans s2).trans s3
  have X : LW H l1 l2 lw := {
    f1 := hl1
    f2 := s1.free hl2
    fw := s1.free (s2.free hlw)
    n12 := ne_of_none upd_same hl2
    n1w := ne_of_none (s2 _ _ upd_same) hlw
    n2w := ne_of_none upd_same hlw }
  have lq : (qway os ds π τ).length ≤ 100 := by
    have h1 := wayM_le (π.length + τ.length) os ds π τ
    unfold qway
    omega
  refine ⟨_, rfl, a1, _, rfl, .inr (s03.t ho), _, rfl, a2, _, rfl, .inr (s03.t ht), _, _, rfl, rfl, ((π.length + τ.length : Nat) : Int), ?_, ?_, ?_, for_range (lo := 0) (n := π.length + τ.length) (fun i σ H' => ∃ (vS : V) (o d : List Int) (one other : List Nat) (ws : List V) (x : Option V), σ = [some v, some (.ref a1), some (.ref a2), some vS, some (.ref l1), some (.ref l2), some (.ref lw), x] ∧
      LS H H' l1 l2 lw one other ws ∧ SumsT K H' vS o d ∧ (o.length = os.length ∧ d.length = ds.length) ∧ Good o d one other ∧ one.length + other.length + i ≤ π.length + τ.length ∧ ws.length + (wayM (one.length + other.length) o d one other).length = (qway os ds π τ).length) ?_ ?_ ?_⟩
  · rw [nI_len, nI_len]
    rfl
  · omega
  · omega
  · refine ⟨v, os, ds, π, τ, [], none, rfl, ⟨s03, s3 _ _ (s2 _ _ upd_same), s3 _ _ upd_same, upd_same⟩, hv.mono s03, ⟨rfl, rfl⟩, good_start po pd hs hπ hτ, Nat.le_refl _, ?_⟩
    show 0 + _ = _
    rw [Nat.zero_add]
    rfl
  · rintro n σ H' hi ⟨vS, o, d, one, other, ws, x, rfl, I, hS, ⟨eo, ed⟩, gd, hm, hl⟩
    refine ⟨_, rfl, Nat.zero_le _, fun l hl0 => ?_⟩
    have s4 := Same.new (o := .lst []) hl0
    have I1 := I.same s4
    have S1 := hS.mono s4
    have h0 : SqL K (upd H' l (.lst [])) l (([] : List Int).map V.int) := sql upd_same
    generalize upd H' l (.lst []) = H1 at I1 S1 h0
    refine ⟨_, _, dp_list (sql I1.h1), dp_list (ns := []) h0, W.shaped_ints _, W.shaped_ints [], _, rfl, ?_⟩
    rw [eqv_ints]
    refine ite2 (fun c => ?_) (fun c => ?_)
    · cases one with
      | nil => simp [nI] at c
      | cons i one =>
      obtain ⟨j, r, rfl⟩ := gd.more
      have fr0 := gd.front
      have ql := q_len gd
      have hl' : ws.length + ((wayM (one.length + r.length + 1) (payM o d i j).1 (payM o d i j).2 (q1 o d i j one) (q2 o d i j r)).length + 1) = (qway os ds π τ).length := by
        rw [← hl]
        have e : (i :: one).length + (j :: r).length = (one.length + r.length + 1) + 1 := by
          rw [List.length_cons, List.length_cons]
          omega
        rw [e, wayM_cons, List.length_cons]
      refine ⟨_, rfl, .inl ⟨rfl, _, sql I1.hw⟩, _, rfl, l1, _, _, _, rfl, rfl, sql I1.h1, at_of (j := 0) rfl rfl, _, rfl, l2, _, _, _, rfl, rfl, sql I1.h2, at_of (j := 0) rfl rfl, (by show 2 ≤ sizeLine; decide), fun t ht => ?_⟩
      have s5 := Same.new (o := .tup [.int (i : Int), .int (j : Int)]) ht
      have I2 := I1.same s5
      have S2 := S1.mono s5
      have gt : SqT K (upd H1 t (.tup [.int (i : Int), .int (j : Int)])) t ([(i : Int), (j : Int)].map V.int) := sqt upd_same
      generalize upd H1 t (.tup [.int (i : Int), .int (j : Int)]) = H2 at I2 S2 gt
      refine ⟨lw, ws, _, rfl, rfl, I2.hw, szt (by omega), ?_⟩
      have tm := Tame.lst (o := .lst (ws ++ [.ref t])) I2.hw
      have I3 := I2.app X (.ref t)
      have S3 := S2.tame tm
      have gt3 := tm.t gt
      generalize upd H2 lw (.lst (ws ++ [.ref t])) = H3 at I3 S3 gt3
      refine ⟨_, rfl, _, rfl, 1, rfl, lw, _, _, _, rfl, rfl, sql I3.hw, last_at _ _, vS, .ref t, o, d, i, j, rfl, S3, ⟨t, rfl, gt3⟩, ⟨fr0.2.2.1, fr0.2.2.2⟩, ⟨by omega, by omega⟩, fun u H4 e4 S4 => ?_⟩
      have I4 := I3.same e4
      obtain ⟨lo', ld'⟩ := payM_len o d i j
      have fin : ∀ (H5 : Hp), LS H H5 l1 l2 lw (q1 o d i j one) (q2 o d i j r) (ws ++ [.ref t]) → SumsT K H5 u (payM o d i j).1 (payM o d i j).2 →
          (∃ (vS : V) (o d : List Int) (one other : List Nat) (ws : List V) (x : Option V), ([some v, some (.ref a1), some (.ref a2), some u, some (.ref l1), some (.ref l2), some (.ref lw), some (.int (0 + (n : Int)))] : L2.St) = [some v, some (.ref a1), some (.ref a2), some vS, some (.ref l1), some (.ref l2), some (.ref lw), x] ∧
            LS H H5 l1 l2 lw one other ws ∧ SumsT K H5 vS o d ∧ (o.length = os.length ∧ d.length = ds.length) ∧ Good o d one other ∧ one.length + other.length + (n + 1) ≤ π.length + τ.length ∧ ws.length + (wayM (one.length + other.length) o d one other).length = (qway os ds π τ).length) := fun H5 I5 S5 => by
        rw [List.length_cons, List.length_cons] at hm
        refine ⟨_, _, _, _, _, _, _, rfl, I5, S5, ⟨by omega, by omega⟩, gd.pay, by omega, ?_⟩
        rw [← wayM_fuel _ (one.length + r.length + 1) gd.pay (Nat.le_refl _) ql, List.length_append, List.length_singleton]
        omega
      refine ⟨fun σ H5 => σ = [some v, some (.ref a1), some (.ref a2), some u, some (.ref l1), some (.ref l2), some (.ref lw), some (.int (0 + (n : Int)))] ∧ LS H H5 l1 l2 lw (q1 o d i j one) (j :: r) (ws ++ [.ref t]) ∧ SumsT K H5 u (payM o d i j).1 (payM o d i j).2, ?_, ?_⟩
      · obtain ⟨tu, va, vb, rfl, htu, ⟨qo, rfl, hqo⟩, ⟨qd, rfl, hqd⟩⟩ := id S4
        refine ⟨_, rfl, tu, _, _, _, rfl, rfl, htu, at_of (j := 0) rfl rfl, _, rfl, l1, _, _, _, rfl, rfl, sql I4.h1, at_of (j := 0) rfl rfl, qo, _, _, _, rfl, rfl, hqo, at_of rfl (fol_at (by omega)), rfl, _, rfl, ?_⟩
        refine ite2 (fun c1 => ?_) (fun c1 => ?_)
        · have z1 : (payM o d i j).1.getD i 0 = 0 := by
            have := of_decide_eq_true c1
            injection this
          refine ⟨_, rfl, .inl ⟨rfl, _, sql I4.h1⟩, l1, _, 0, 0, _, rfl, rfl, I4.h1, by decide, by decide, six0 _, rfl, ?_⟩
          have eq1 : q1 o d i j one = one := by
            unfold q1
            rw [if_pos z1]
          refine ⟨rfl, ?_, S4.tame (Tame.lst I4.h1)⟩
          rw [eq1]
          exact I4.pop1 X
        · have z1 : ¬ (payM o d i j).1.getD i 0 = 0 := fun z => c1 (decide_eq_true (by rw [z]))
          have eq1 : q1 o d i j one = i :: one := by
            unfold q1
            rw [if_neg z1]
          refine ⟨rfl, ?_, S4⟩
          rw [eq1]
          exact I4
      · rintro σ H5 ⟨rfl, I5, S5⟩
        obtain ⟨tu, va, vb, rfl, htu, ⟨qo, rfl, hqo⟩, ⟨qd, rfl, hqd⟩⟩ := id S5
        refine ⟨_, rfl, tu, _, _, _, rfl, rfl, htu, at_of (j := 1) rfl rfl, _, rfl, l2, _, _, _, rfl, rfl, sql I5.h2, at_of (j := 0) rfl rfl, qd, _, _, _, rfl, rfl, hqd, at_of rfl (fol_at (by omega)), rfl, _, rfl, ?_⟩
        refine ite2 (fun c1 => ?_) (fun c1 => ?_)
        · have z1 : (payM o d i j).2.getD j 0 = 0 := by
            have := of_decide_eq_true c1
            injection this
          refine ⟨_, rfl, .inl ⟨rfl, _, sql I5.h2⟩, l2, _, 0, 0, _, rfl, rfl, I5.h2, by decide, by decide, six0 _, rfl, ?_⟩
          have eq2 : q2 o d i j r = r := by
            unfold q2
            rw [if_pos z1]
          refine fin _ ?_ (S5.tame (Tame.lst I5.h2))
          rw [eq2]
          exact I5.pop2 X
        · have z1 : ¬ (payM o d i j).2.getD j 0 = 0 := fun z => c1 (decide_eq_true (by rw [z]))
          have eq2 : q2 o d i j r = j :: r := by
            unfold q2
            rw [if_neg z1]
          refine fin _ ?_ S5
          rw [eq2]
          exact I5
    · cases one with
      | cons i one => exact absurd (by simp [nI]) c
      | nil =>
        have eo2 := gd.ends
        subst eo2
        exact ⟨_, _, _, _, _, _, _, rfl, I1, S1, ⟨eo, ed⟩, gd, by simp; omega, hl⟩
  · rintro σ H' ⟨vS, o, d, one, other, ws, x, rfl, I, hS, ⟨eo, ed⟩, gd, hm, hl⟩
    have e1 : one = [] := List.length_eq_zero_iff.mp (by omega)
    subst e1
    rw [wayM_nil] at hl
    refine ⟨_, rfl, lw, ws, rfl, .inl ⟨sql I.hw, fun t ht => ?_⟩⟩
    exact k t ws _ (I.sm.trans (Same.new ht)) (sqt upd_same) (by simpa using hl)
end
end K71
namespace K71
open PySem PySem.Spec PyProof.Rows L2
section
variable {P : Program} {w : World} {K : PySem.W.Frag} {mg : Str → Option Value} {base : Heap}
/-! ### crowds put together, orders judged -/
theorem SumD.app {a b c d : List Int} {m n : Nat} (h : SumD a b m) (g : SumD c d n) : SumD (a ++ c) (b ++ d) (m + n) where
  no := fun e => h.no (List.append_eq_nil_iff.mp e).1
  nd := fun e => h.nd (List.append_eq_nil_iff.mp e).1
  po := fun z hz => by
    rcases List.mem_append.mp hz with hz | hz
    · exact h.po z hz
    · exact g.po z hz
  pd := fun z hz => by
    rcases List.mem_append.mp hz with hz | hz
    · exact h.pd z hz
    · exact g.pd z hz
  hs := by rw [List.sum_append, List.sum_append, h.hs, g.hs]
  ln := by
    rw [List.length_append, List.length_append]
    have := h.ln
    have := g.ln
    omega
  bd := by
    rw [List.sum_append]
    have := h.bd
    have := g.bd
    omega
/-- nobody yet, or sums -/
def SumQ (os ds : List Int) (i n : Nat) : Prop := (i = 0 ∧ os = [] ∧ ds = []) ∨ SumD os ds n
theorem SumQ.more {os ds ps qs : List Int} {i n m : Nat} (h : SumQ os ds i n) (g : SumD ps qs m) : SumD (os ++ ps) (ds ++ qs) (n + m) := by
  rcases h with ⟨_, rfl, rfl⟩ | h
  · exact g.le (by omega)
  · exact h.app g
theorem SumQ.len {os ds : List Int} {i n : Nat} (h : SumQ os ds i n) : os.length + ds.length ≤ n := by
  rcases h with ⟨_, rfl, rfl⟩ | h
  · exact Nat.zero_le _
  · exact h.ln
def sp_l_together (K : PySem.W.Frag) : Sp := fun vs H Q _ => ∃ a : Addr, vs = [.ref a, .int 2, .int 7] ∧ Src H a ∧ ∀ (v : V) (os ds : List Int) (H' : Hp), FrA a H H' → Src H' a → SumsT K H' v os ds → SumD os ds 14 → Q v H'
theorem sc_l_together : FnScope ["_law_source_here", "_law_parts", "_law_most", "_law_owed", "_law_due", "_law_turn", "_law_sums_here"] ["_law_source_here", "_law_parts", "_law_most"] (defScope s_l_together) := ⟨rfl, rfl, rfl, by decide +kernel, rfl, by decide +kernel, by decide +kernel⟩
/-- the body of _law_together -/
theorem ok_l_together {f : Addr} {fd : FuncData} (T : Txt K mg) (F : FnP K "_law_together" "_law_together" s_l_together f fd) (D_l_crowd : Dn P w K mg base "_law_crowd" ["_law_source_here", "_law_most"] 5 (sp_l_crowd K)) : FnOk P w K mg base CX0 6 f fd ["_law_source_here", "_law_parts", "_law_most"] (sp_l_together K) := by
  refine F.ok sc_l_together (fun vs H Q E h => ?_) (fun cdv A outer s H vs Q E hr h => ⟨_, PSs.nox (pss_cons (ps_set (i := 3) sc_l_together.nd rfl (Or.inl rfl) (pe_tup pa_nil))
    (pss_cons (ps_set (i := 4) sc_l_together.nd rfl (Or.inl rfl) (pe_tup pa_nil))
    (pss_cons (ps_for PassesOwn.never rfl (pi_range1 rfl T.range (pa_cons (pv 1) pa_nil)) (pg_name (i := 5) sc_l_together.nd rfl (Or.inl rfl))
      (pss_cons (ps_set (i := 6) sc_l_together.nd rfl (Or.inl rfl) (pe_dn D_l_crowd (hr.mono (by decide)) rfl (pa_cons (pv 0) (pa_cons (pv 2) pa_nil))))
      (pss_cons (ps_set (i := 3) sc_l_together.nd rfl (Or.inl rfl) (pe_op op_catA (pv 3) (pe_ix (ixT K) (pv 6) pe_int (fun _ _ => rfl))))
      (pss_one (ps_set (i := 4) sc_l_together.nd rfl (Or.inl rfl) (pe_op op_catA (pv 4) (pe_ix (ixT K) (pv 6) pe_int (fun _ _ => rfl))))))))
    (pss_one (ps_ret (pe_tup (pa_cons (pv 3) (pa_cons (pv 4) pa_nil)))))))), ?_⟩)
  · first | (obtain ⟨_, rfl, _⟩ := h; rfl) | (obtain ⟨_, _, rfl, _⟩ := h; rfl) | (obtain ⟨_, _, _, rfl, _⟩ := h; rfl) | (obtain ⟨_, _, _, _, rfl, _⟩ := h; rfl) | (obtain ⟨_, _, _, _, _, rfl, _⟩ := h; rfl) | (obtain ⟨_, _, _, _, _, _, rfl, _⟩ := h; rfl) | (obtain ⟨_, _, _, _, _, _, _, rfl, _⟩ := h; rfl) | (obtain ⟨_, _, _, _, _, _, _, _, rfl, _⟩ := h; rfl) | (obtain ⟨_, _, _, _, _, _, _, _, _, rfl, _⟩ := h; rfl) | (obtain ⟨_, _, _, _, _, _, _, _, _, _, rfl, _⟩ := h; rfl) | (obtain ⟨_, _, _, _, _, _, _, _, _, _, _, rfl, _⟩ := h; rfl) | (obtain ⟨_, _, _, _, _, _, _, _, _, _, _, _, rfl, _⟩ := h; rfl)
  obtain ⟨a, rfl, hS, k⟩ := h
  refine ⟨Nat.zero_le _, fun t1 n1 => ⟨Nat.zero_le _, fun t2 n2 => ?_⟩⟩
  have s1 := Same.new (o := .tup []) n1
  have s2 := Same.new (o := .tup []) n2
  have s12 := s1.trans s2
  have g1 : IT K (upd (upd H t1 (.tup [])) t2 (.tup [])) (.ref t1) [] := ⟨t1, rfl, s2.t (sqt upd_same)⟩
  have g2 : IT K (upd (upd H t1 (.tup [])) t2 (.tup [])) (.ref t2) [] := ⟨t2, rfl, sqt upd_same⟩
  have S2 := hS.same s12
  generalize upd (upd H t1 (.tup [])) t2 (.tup []) = H2 at s2 s12 g1 g2 S2
  refine ⟨_, rfl, (2 : Int), rfl, by decide, by decide, for_range (lo := 0) (n := 2) (fun i σ H' => ∃ (v w : V) (os ds : List Int) (x y : Option V), σ = [some (.ref a), some (.int 2), some (.int 7), some v, some w, x, y] ∧ FrA a H H' ∧ Src H' a ∧ IT K H' v os ∧ IT K H' w ds ∧ SumQ os ds i (7 * i)) ?_ ?_ ?_⟩
  · exact ⟨_, _, [], [], none, none, rfl, fun b o hb _ => s12 _ _ hb, S2, g1, g2, .inl ⟨rfl, rfl, rfl⟩⟩
  · rintro i σ H' hi ⟨v, w, os, ds, x, y, rfl, f, S, hv, hw, hc⟩
    have hl := hc.len
    refine ⟨_, rfl, _, rfl, a, 7, rfl, S, by decide, by decide, fun c ps qs H3 f3 S3 hc3 D => ?_⟩
    have hl3 := D.ln
    obtain ⟨po, rfl, ho⟩ := hv.tame (f3.tame S)
    obtain ⟨pd, rfl, hd⟩ := hw.tame (f3.tame S)
    obtain ⟨t, va, vb, rfl, ht, ⟨qo, rfl, hqo⟩, ⟨qd, rfl, hqd⟩⟩ := hc3
    refine ⟨_, rfl, _, rfl, t, _, _, _, rfl, rfl, ht, at_of (j := 0) rfl rfl, cat_then ho hqo (by omega) fun c1 H4 e4 h4 => ?_⟩
    refine ⟨_, rfl, _, rfl, t, _, _, _, rfl, rfl, e4.t ht, at_of (j := 1) rfl rfl, cat_then (e4.t hd) (e4.t hqd) (by omega) fun c2 H5 e5 h5 => ?_⟩
    exact ⟨_, _, _, _, _, _, rfl, ((f.trans f3).same e4).same e5, (S3.same e4).same e5, ⟨c1, rfl, e5.t h4⟩, ⟨c2, rfl, h5⟩, .inr ((hc.more D).le (by omega))⟩
  · rintro σ H' ⟨v, w, os, ds, x, y, rfl, f, S, hv, hw, hc⟩
    have D : SumD os ds 14 := by
      rcases hc with ⟨h, _⟩ | h
      · cases h
      · exact h
    refine ⟨_, rfl, _, rfl, (by show 2 ≤ sizeLine; decide), fun t ht => ?_⟩
    have s := Same.new (o := .tup [v, w]) ht
    exact k _ os ds _ (f.same s) (S.same s) ⟨t, v, w, rfl, sqt upd_same, hv.mono s, hw.mono s⟩ D
def sp_l_put_together (K : PySem.W.Frag) : Sp := fun vs H Q _ => ∃ a : Addr, vs = [.ref a] ∧ Src H a ∧ ∀ (v : V) (os ds : List Int) (H' : Hp), FrA a H H' → Src H' a → SumsT K H' v os ds → SumD os ds 12 → Q v H'
theorem sc_l_put_together : FnScope ["_law_source_here", "_law_owed", "_law_due", "_law_turn", "_law_sums_here"] ["_law_source_here"] (defScope s_l_put_together) := ⟨rfl, rfl, rfl, by decide +kernel, rfl, by decide +kernel, by decide +kernel⟩
/-- the body of _law_put_together -/
theorem ok_l_put_together {f : Addr} {fd : FuncData} (T : Txt K mg) (F : FnP K "_law_put_together" "_law_put_together" s_l_put_together f fd) (D_l_crowd : Dn P w K mg base "_law_crowd" ["_law_source_here", "_law_most"] 5 (sp_l_crowd K)) (D_l_draw : Dn P w K mg base "_law_draw" ["_law_source_here", "_law_many"] 1 (sp_l_draw K)) : FnOk P w K mg base CX0 6 f fd ["_law_source_here"] (sp_l_put_together K) := by
  refine F.ok sc_l_put_together (fun vs H Q E h => ?_) (fun cdv A outer s H vs Q E hr h => ⟨_, PSs.nox (pss_cons (ps_set (i := 1) sc_l_put_together.nd rfl (Or.inl rfl) (pe_tup pa_nil))
    (pss_cons (ps_set (i := 2) sc_l_put_together.nd rfl (Or.inl rfl) (pe_tup pa_nil))
    (pss_cons (ps_for PassesOwn.never rfl (pi_range1 rfl T.range (pa_cons (pe_op op_add pe_int (pe_callTy call_int1 (by rfl) T.int' (by decide +kernel) (pa_cons (pe_cmpR op_eq (pe_dn D_l_draw (hr.mono (by decide)) rfl (pa_cons (pv 0) (pa_cons pe_int pa_nil))) pe_int (nomark _)) pa_nil))) pa_nil)) (pg_name (i := 3) sc_l_put_together.nd rfl (Or.inl rfl))
      (pss_cons (ps_set (i := 4) sc_l_put_together.nd rfl (Or.inl rfl) (pe_dn D_l_crowd (hr.mono (by decide)) rfl (pa_cons (pv 0) (pa_cons pe_int pa_nil))))
      (pss_cons (ps_set (i := 1) sc_l_put_together.nd rfl (Or.inl rfl) (pe_op op_catA (pv 1) (pe_ix (ixT K) (pv 4) pe_int (fun _ _ => rfl))))
      (pss_one (ps_set (i := 2) sc_l_put_together.nd rfl (Or.inl rfl) (pe_op op_catA (pv 2) (pe_ix (ixT K) (pv 4) pe_int (fun _ _ => rfl))))))))
    (pss_one (ps_ret (pe_tup (pa_cons (pv 1) (pa_cons (pv 2) pa_nil)))))))), ?_⟩)
  · first | (obtain ⟨_, rfl, _⟩ := h; rfl) | (obtain ⟨_, _, rfl, _⟩ := h; rfl) | (obtain ⟨_, _, _, rfl, _⟩ := h; rfl) | (obtain ⟨_, _, _, _, rfl, _⟩ := h; rfl) | (obtain ⟨_, _, _, _, _, rfl, _⟩ := h; rfl) | (obtain ⟨_, _, _, _, _, _, rfl, _⟩ := h; rfl) | (obtain ⟨_, _, _, _, _, _, _, rfl, _⟩ := h; rfl) | (obtain ⟨_, _, _, _, _, _, _, _, rfl, _⟩ := h; rfl) | (obtain ⟨_, _, _, _, _, _, _, _, _, rfl, _⟩ := h; rfl) | (obtain ⟨_, _, _, _, _, _, _, _, _, _, rfl, _⟩ := h; rfl) | (obtain ⟨_, _, _, _, _, _, _, _, _, _, _, rfl, _⟩ := h; rfl) | (obtain ⟨_, _, _, _, _, _, _, _, _, _, _, _, rfl, _⟩ := h; rfl)
  obtain ⟨a, rfl, hS, k⟩ := h
  refine ⟨Nat.zero_le _, fun t1 n1 => ⟨Nat.zero_le _, fun t2 n2 => ?_⟩⟩
  have s1 := Same.new (o := .tup []) n1
  have s2 := Same.new (o := .tup []) n2
  have s12 := s1.trans s2
  have g1 : IT K (upd (upd H t1 (.tup [])) t2 (.tup [])) (.ref t1) [] := ⟨t1, rfl, s2.t (sqt upd_same)⟩
  have g2 : IT K (upd (upd H t1 (.tup [])) t2 (.tup [])) (.ref t2) [] := ⟨t2, rfl, sqt upd_same⟩
  have S2 := hS.same s12
  generalize upd (upd H t1 (.tup [])) t2 (.tup []) = H2 at s2 s12 g1 g2 S2
  refine ⟨_, rfl, a, 8, rfl, S2, by decide, by decide, fun d H3 d0 d1 f3 S3 => ⟨rfl, .inr ⟨_, rfl, _, _, rfl, rfl, ?_⟩⟩⟩
  have tm := f3.tame S2
  obtain ⟨m, hm, hm2⟩ : ∃ m : Nat, (2 + (if decide (V.int d = V.int 0) = true then 1 else 0) : Int) = (m : Int) ∧ (m = 2 ∨ m = 3) := by
    split
    · exact ⟨3, rfl, .inr rfl⟩
    · exact ⟨2, rfl, .inl rfl⟩
  refine ⟨(m : Int), by rw [← hm], by omega, by omega, for_range (lo := 0) (n := m) (fun i σ H' => ∃ (v w : V) (os ds : List Int) (x y : Option V), σ = [some (.ref a), some v, some w, x, y] ∧ FrA a H H' ∧ Src H' a ∧ IT K H' v os ∧ IT K H' w ds ∧ SumQ os ds i (4 * i)) ?_ ?_ ?_⟩
  · exact ⟨_, _, [], [], none, none, rfl, fun b o hb nb => f3 _ _ (s12 _ _ hb) nb, S3, g1.tame tm, g2.tame tm, .inl ⟨rfl, rfl, rfl⟩⟩
  · rintro i σ H' hi ⟨v, w, os, ds, x, y, rfl, f, S, hv, hw, hc⟩
    have hl := hc.len
    have hi : i < m := hi
    refine ⟨_, rfl, a, 4, rfl, S, by decide, by decide, fun c ps qs H3 f3 S3 hc3 D => ?_⟩
    have hl3 := D.ln
    obtain ⟨po, rfl, ho⟩ := hv.tame (f3.tame S)
    obtain ⟨pd, rfl, hd⟩ := hw.tame (f3.tame S)
    obtain ⟨t, va, vb, rfl, ht, ⟨qo, rfl, hqo⟩, ⟨qd, rfl, hqd⟩⟩ := hc3
    refine ⟨_, rfl, _, rfl, t, _, _, _, rfl, rfl, ht, at_of (j := 0) rfl rfl, cat_then ho hqo (by omega) fun c1 H4 e4 h4 => ?_⟩
    refine ⟨_, rfl, _, rfl, t, _, _, _, rfl, rfl, e4.t ht, at_of (j := 1) rfl rfl, cat_then (e4.t hd) (e4.t hqd) (by omega) fun c2 H5 e5 h5 => ?_⟩
    exact ⟨_, _, _, _, _, _, rfl, ((f.trans f3).same e4).same e5, (S3.same e4).same e5, ⟨c1, rfl, e5.t h4⟩, ⟨c2, rfl, h5⟩, .inr ((hc.more D).le (by omega))⟩
  · rintro σ H' ⟨v, w, os, ds, x, y, rfl, f, S, hv, hw, hc⟩
    have D : SumD os ds 12 := by
      rcases hc with ⟨h, _⟩ | h
      · omega
      · exact h.le (by omega)
    refine ⟨_, rfl, _, rfl, (by show 2 ≤ sizeLine; decide), fun t ht => ?_⟩
    have s := Same.new (o := .tup [v, w]) ht
    exact k _ os ds _ (f.same s) (S.same s) ⟨t, v, w, rfl, sqt upd_same, hv.mono s, hw.mono s⟩ D
theorem sorted_eq : ∀ {l m : List Int}, l.Perm m → l.Pairwise (· ≤ ·) → m.Pairwise (· ≤ ·) → l = m
  | [], m, h, _, _ => (List.nil_perm.mp h).symm ▸ rfl
  | x :: l, [], h, _, _ => by
    have := h.length_eq
    simp at this
  | x :: l, y :: m, h, hl, hm => by
    have hl' := List.pairwise_cons.mp hl
    have hm' := List.pairwise_cons.mp hm
    have e : x = y := by
      have h1 : x ∈ y :: m := h.mem_iff.mp (List.mem_cons_self ..)
      have h2 : y ∈ x :: l := h.mem_iff.mpr (List.mem_cons_self ..)
      rcases List.mem_cons.mp h1 with e | h1
      · exact e
      · rcases List.mem_cons.mp h2 with e | h2
        · exact e.symm
        · have := hm'.1 x h1
          have := hl'.1 y h2
          omega
    subst e
    rw [sorted_eq (List.Perm.cons_inv h) hl'.2 hm'.2]
theorem range_sorted (n : Nat) : (nI (List.range n)).Pairwise (· ≤ ·) := by
  unfold nI
  refine List.Pairwise.map _ (fun (a b : Nat) (hab : a < b) => show (a : Int) ≤ (b : Int) by omega) ?_
  exact List.pairwise_lt_range
def sp_l_is_order (K : PySem.W.Frag) : Sp := fun vs H Q _ => ∃ (v : V) (n : Nat) (π : List Nat), vs = [.int (n : Int), v] ∧ IT K H v (nI π) ∧ π.Perm (List.range n) ∧ n ≤ 50 ∧ ∀ H', Same H H' → Q (.bl true) H'
theorem sc_l_is_order : FnScope ["_law_many", "_law_thing", "_law_item"] ["_law_many", "_law_thing"] (defScope s_l_is_order) := ⟨rfl, rfl, rfl, by decide +kernel, rfl, by decide +kernel, by decide +kernel⟩
/-- the body of _law_is_order -/
theorem ok_l_is_order {f : Addr} {fd : FuncData} (T : Txt K mg) (F : FnP K "_law_is_order" "_law_is_order" s_l_is_order f fd) (D_l_is_integer : Dn P w K mg base "_law_is_integer" ["_law_thing"] 1 (sp_l_is_integer K)) : FnOk P w K mg base CX0 2 f fd ["_law_many", "_law_thing"] (sp_l_is_order K) := by
  refine F.ok sc_l_is_order (fun vs H Q E h => ?_) (fun cdv A outer s H vs Q E hr h => ⟨_, PSs.nox (pss_cons (ps_if (PW.pt (pw_or (pt_not (pt_val (pe_callB (isi K) (by rfl) T.isinstance' (by decide +kernel) (pa_cons (pv 1) (pa_cons (pe_bltn (by rfl) T.tuple' (by decide +kernel) (show RelV (.ty "tuple") (.type "tuple") from rfl)) pa_nil))))) (pw_or1 (pt_not (pt_val (pe_callB (cr_all rfl) (by rfl) T.all' (by decide +kernel) (pa_cons (pe_lc (own := [("_law_item", 2)]) (g := gName 2) (tt := tYes) rfl sc_l_is_order.nd (pi_tup (pv 1)) (blkOk_by (N := ["_law_many", "_law_thing", "_law_item"]) (sc := defScope s_l_is_order) (by decide +kernel)) (fun _ _ _ _ _ => pg_name (i := 2) sc_l_is_order.nd rfl (Or.inl rfl)) (fun _ _ _ _ _ => pts_nil) (fun _ _ _ _ _ => (pe_dn D_l_is_integer (hr.mono (by decide)) rfl (pa_cons (pv 2) pa_nil)))) pa_nil)))))))
      (pss_one (ps_ret pe_bl))
      pss_nil)
    (pss_one (ps_ret (pe_cmpR (eqD K hr.units) (pe_callB cr_sorted (by rfl) T.sorted' (by decide +kernel) (pa_cons (pe_callTy call_list_of (by rfl) T.list' (by decide +kernel) (pa_cons (pv 1) pa_nil)) pa_nil)) (pe_listRg rfl rfl T.list' (prg_1 rfl T.range (pv 0))) (nomark _))))), ?_⟩)
  · first | (obtain ⟨_, rfl, _⟩ := h; rfl) | (obtain ⟨_, _, rfl, _⟩ := h; rfl) | (obtain ⟨_, _, _, rfl, _⟩ := h; rfl) | (obtain ⟨_, _, _, _, rfl, _⟩ := h; rfl) | (obtain ⟨_, _, _, _, _, rfl, _⟩ := h; rfl) | (obtain ⟨_, _, _, _, _, _, rfl, _⟩ := h; rfl) | (obtain ⟨_, _, _, _, _, _, _, rfl, _⟩ := h; rfl) | (obtain ⟨_, _, _, _, _, _, _, _, rfl, _⟩ := h; rfl) | (obtain ⟨_, _, _, _, _, _, _, _, _, rfl, _⟩ := h; rfl) | (obtain ⟨_, _, _, _, _, _, _, _, _, _, rfl, _⟩ := h; rfl) | (obtain ⟨_, _, _, _, _, _, _, _, _, _, _, rfl, _⟩ := h; rfl) | (obtain ⟨_, _, _, _, _, _, _, _, _, _, _, _, rfl, _⟩ := h; rfl)
  obtain ⟨v, n, π, rfl, ⟨p, rfl, h1⟩, hp, hn, k⟩ := h
  have hl : π.length = n := by rw [hp.length_eq, List.length_range]
  refine ⟨_, rfl, _, _, _, _, true, rfl, .ty "tuple", ty_tup h1, kit_ty (by decide +kernel), true, rfl, ?_⟩
  refine iteF ?_
  refine ⟨_, rfl, p, rfl, ⟨_, h1⟩, fun D hD => ?_⟩
  refine lc_tupR (K := K) (a := p) (xs := (nI π).map V.int) (fun i v _ => v = .bl true) (fun _ _ _ _ _ r => r) hD h1 (by rw [nI_len]; exact szl (by omega)) (fun i x H1 hx e Q' hq => ?_) (fun ys H1 e hD' hl' hy => ?_)
  · obtain ⟨n, hn, rfl⟩ := at_map hx
    exact ⟨_, rfl, n, rfl, hq _ _ (Same.refl _) rfl⟩
  · rw [all_true hy] at hD'
    refine ⟨D, _, rfl, sql hD', ?_⟩
    rw [all_rep]
    refine ⟨true, rfl, iteF ?_⟩
    refine ⟨_, rfl, p, _, rfl, .inr (e.t h1), fun l2 hl2 => ?_⟩
    have s2 := Same.new (o := .lst ((nI π).map V.int)) hl2
    refine ⟨l2, nI π, rfl, sql upd_same, by unfold nI; rw [List.length_map]; omega, fun ns' l3 hq hs hl3 => ?_⟩
    have s3 := Same.new (o := .lst (ns'.map V.int)) hl3
    refine ⟨_, rfl, (n : Int), rfl, RgOk.of_le (by decide) (by omega) (by decide) (by omega), fun l4 hl4 => ?_⟩
    rw [rgV_nI]
    have s4 := Same.new (o := .lst ((nI (List.range n)).map V.int)) hl4
    refine ⟨_, _, dp_list (s4.l (sql upd_same)), dp_list (sql upd_same), W.shaped_ints _, W.shaped_ints _, ?_⟩
    rw [eqv_ints, decide_eq_true (sorted_eq (hq.trans (nI_perm hp)) hs (range_sorted n))]
    exact k _ (((e.trans s2).trans s3).trans s4)
end
end K71
namespace K71
open PySem PySem.Spec PyProof.Rows L2
section
variable {P : Program} {w : World} {K : PySem.W.Frag} {mg : Str → Option Value} {base : Heap}
/-! ### every order -/
def extL (m : Nat) (π : List Nat) : List (List Nat) := ((List.range m).filter fun i => !decide (i ∈ π)).map fun i => π ++ [i]
def ordL (m : Nat) : Nat → List (List Nat)
  | 0 => [[]]
  | k + 1 => (ordL m k).flatMap (extL m)
theorem mem_extL {m : Nat} {π ρ : List Nat} : ρ ∈ extL m π ↔ ∃ i, i < m ∧ i ∉ π ∧ ρ = π ++ [i] := by
  unfold extL
  rw [List.mem_map]
  constructor
  · rintro ⟨i, hi, rfl⟩
    obtain ⟨h1, h2⟩ := List.mem_filter.mp hi
    exact ⟨i, List.mem_range.mp h1, by simpa using h2, rfl⟩
  · rintro ⟨i, h1, h2, rfl⟩
    exact ⟨i, List.mem_filter.mpr ⟨List.mem_range.mpr h1, by simpa using h2⟩, rfl⟩
theorem mem_ordL {m : Nat} : ∀ {k : Nat} {ρ : List Nat}, ρ ∈ ordL m k ↔ ρ.length = k ∧ ρ.Nodup ∧ ∀ i ∈ ρ, i < m
  | 0, ρ => by
    show ρ ∈ [[]] ↔ _
    constructor
    · intro h
      have h := List.mem_singleton.mp h
      subst h
      exact ⟨rfl, List.nodup_nil, fun i hi => by cases hi⟩
    · rintro ⟨h, _⟩
      rw [List.length_eq_zero_iff.mp h]
      exact List.mem_singleton.mpr rfl
  | k + 1, ρ => by
    show ρ ∈ (ordL m k).flatMap (extL m) ↔ _
    rw [List.mem_flatMap]
    constructor
    · rintro ⟨π, h1, h2⟩
      obtain ⟨i, hi, hn, rfl⟩ := mem_extL.mp h2
      obtain ⟨a, b, c⟩ := mem_ordL.mp h1
      refine ⟨by rw [List.length_append, List.length_singleton, a], ?_, fun j hj => ?_⟩
      · refine List.nodup_append.mpr ⟨b, by simp, fun x hx y hy => ?_⟩
        rw [List.mem_singleton.mp hy]
        exact fun e => hn (e ▸ hx)
      · rcases List.mem_append.mp hj with hj | hj
        · exact c j hj
        · rw [List.mem_singleton.mp hj]
          exact hi
    · rintro ⟨a, b, c⟩
      rcases List.eq_nil_or_concat ρ with rfl | ⟨π, i, rfl⟩
      · cases a
      · rw [List.concat_eq_append] at a b c ⊢
        obtain ⟨b1, b2, b3⟩ := List.nodup_append.mp b
        refine ⟨π, mem_ordL.mpr ⟨?_, b1, fun j hj => c j (List.mem_append_left _ hj)⟩, mem_extL.mpr ⟨i, c i (List.mem_append_right _ (List.mem_singleton.mpr rfl)), fun hi => b3 i hi i (List.mem_singleton.mpr rfl) rfl, rfl⟩⟩
        rw [List.length_append, List.length_singleton] at a
        omega
theorem extL_len (m : Nat) (π : List Nat) : (extL m π).length ≤ m := by
  unfold extL
  rw [List.length_map]
  refine Nat.le_trans (List.length_filter_le _ _) ?_
  rw [List.length_range]
  exact Nat.le_refl _
theorem flat_len {α β : Type} {f : α → List β} {m : Nat} (h : ∀ x, (f x).length ≤ m) : ∀ l : List α, (l.flatMap f).length ≤ l.length * m
  | [] => by simp
  | x :: l => by
    have h1 := flat_len h l
    have h2 := h x
    rw [List.flatMap_cons, List.length_append, List.length_cons, Nat.succ_mul]
    omega
theorem ordL_len (m : Nat) : ∀ k : Nat, (ordL m k).length ≤ m ^ k
  | 0 => by
    show [([] : List Nat)].length ≤ _
    simp
  | k + 1 => by
    refine Nat.le_trans (flat_len (extL_len m) _) ?_
    rw [Nat.pow_succ]
    exact Nat.mul_le_mul_right m (ordL_len m k)
theorem ordL_bd {m k : Nat} (h : m ≤ 6) (hk : k ≤ 6) : (ordL m k).length ≤ 46656 := by
  refine Nat.le_trans (ordL_len m k) (Nat.le_trans (Nat.pow_le_pow_left h k) ?_)
  exact Nat.le_trans (Nat.pow_le_pow_right (by decide) hk) (by decide)
theorem perm_of_len : ∀ {ρ L : List Nat}, ρ.Nodup → (∀ i ∈ ρ, i ∈ L) → ρ.length = L.length → ρ.Perm L
  | [], L, _, _, h => by rw [List.length_eq_zero_iff.mp h.symm]
  | x :: r, L, hn, hs, h => by
    have hx := hs x (List.mem_cons_self ..)
    have p := List.perm_cons_erase hx
    have n := List.nodup_cons.mp hn
    have hl := p.length_eq
    rw [List.length_cons] at h hl
    have h2 : r.Perm (L.erase x) := perm_of_len n.2 (fun i hi => (List.mem_erase_of_ne (fun (e : i = x) => n.1 (e ▸ hi))).mpr (hs i (List.mem_cons_of_mem _ hi))) (by omega)
    exact (h2.cons x).trans p.symm
theorem ord_perm {m : Nat} {ρ : List Nat} : ρ ∈ ordL m m ↔ ρ.Perm (List.range m) := by
  rw [mem_ordL]
  constructor
  · rintro ⟨a, b, c⟩
    exact perm_of_len b (fun i hi => List.mem_range.mpr (c i hi)) (by rw [a, List.length_range])
  · intro h
    refine ⟨by rw [h.length_eq, List.length_range], h.nodup_iff.mpr List.nodup_range, fun i hi => List.mem_range.mp (h.mem_iff.mp hi)⟩
/-- rows of orders stand -/
abbrev RowsAt (K : PySem.W.Frag) (H : Hp) (vs : List V) (rows : List (List Nat)) : Prop := Paired (fun v π => IT K H v (nI π)) vs rows
theorem RowsAt.mono {H H' : Hp} {vs : List V} {rows : List (List Nat)} (e : Same H H') (h : RowsAt K H vs rows) : RowsAt K H' vs rows := Paired.mapP h fun _ _ r => r.mono e
theorem RowsAt.tame {H H' : Hp} {vs : List V} {rows : List (List Nat)} (e : Tame H H') (h : RowsAt K H vs rows) : RowsAt K H' vs rows := Paired.mapP h fun _ _ r => r.tame e
theorem catA {X : Cx} (K : PySem.W.Frag) (h : X.K = K := by rfl) : OpR X (binaryOp .Add) (rCatA K) := by
  subst h
  exact op_catA
theorem notInK {X : Cx} (K : PySem.W.Frag) (h : X.K = K := by rfl) : OpR X (compareOp .NotIn) (rIn K true) := by
  subst h
  exact op_notIn_seq
def LcG (K : PySem.W.Frag) (H1 : Hp) (D : Addr) (f : Nat → Bool) (r : Nat → List Nat) (i : Nat) (H : Hp) : Prop := Same H1 H ∧ ∃ acc, H D = some (.lst acc) ∧ RowsAt K H acc (((List.range i).filter f).map r)
def lc_rangeG {n : Nat} {tt : TT} {te : TE} {s : Nat} {σ : L2.St} {H1 : Hp} {D : Addr} {Qd : Hp → Prop} (f : Nat → Bool) (r : Nat → List Nat) (hD : H1 D = none) (hn : n ≤ 100000)
    (ht : ∀ (i : Nat) (H : Hp), i < n → Same H1 H → ∀ Q : Bool → Hp → Prop, Q (f i) H → tt ((σ.set s none).set s (some (.int (0 + (i : Int))))) H Q)
    (he : ∀ (i : Nat) (H : Hp), i < n → Same H1 H → Gives te ((σ.set s none).set s (some (.int (0 + (i : Int))))) H (fun v H' => IT K H' v (nI (r i))))
    (hd : ∀ H acc, Same H1 H → H D = some (.lst acc) → RowsAt K H acc (((List.range n).filter f).map r) → Qd H) :=
  lc_range (lo := 0) (n := n) (g := gName s) (tt := tt) (te := te) (vs := [s]) (σ := σ) (H1 := H1) (D := D) (Qd := Qd) (LcG K H1 D f r) ⟨Same.new hD, [], upd_same, .nil⟩ (fun i H hi p => by
    refine ⟨wipe1, ?_⟩
    refine ht i H hi p.1 _ ?_
    have er : (List.range (i + 1)).filter f = (List.range i).filter f ++ (if f i = true then [i] else []) := by
      rw [List.range_succ, List.filter_append]
      congr 1
      cases q : f i <;> simp [q]
    cases q : f i with
    | true =>
      refine iteT (B := LcG K H1 D f r (i + 1) H) ?_
      obtain ⟨s1, acc, h, hR⟩ := p
      refine he i H hi s1 _ fun y H4 e hy => ?_
      have h4 := e D _ h
      have tm : Tame H4 (upd H4 D (.lst (acc ++ [y]))) := Tame.lst h4
      refine ⟨acc, h4, ?_, (s1.trans e).mut hD, acc ++ [y], upd_same, ?_⟩
      · have := Paired.length hR
        rw [List.length_map] at this
        have := List.length_filter_le f (List.range i)
        rw [List.length_range] at this
        exact szt (by omega)
      · rw [er, q, if_pos rfl, List.map_append]
        exact paired_app ((hR.mono e).tame tm) (.cons (hy.tame tm) .nil)
    | false =>
      have g : LcG K H1 D f r (i + 1) H := ⟨p.1, by rw [er, q]; simpa using p.2⟩
      exact g) (fun H p => by
    obtain ⟨s1, acc, h, hR⟩ := p
    exact hd H acc s1 h hR)
theorem inV_nI (n : Nat) (π : List Nat) : inV (.int (n : Int)) ((nI π).map V.int) = decide (n ∈ π) := by
  unfold inV nI
  rw [List.map_map, List.any_map]
  rw [Bool.eq_iff_iff, List.any_eq_true, decide_eq_true_iff]
  constructor
  · rintro ⟨x, hx, e⟩
    have e : ((x : Int) == (n : Int)) = true := e
    have e : (x : Int) = (n : Int) := by simpa using e
    have e : x = n := by omega
    exact e ▸ hx
  · intro h
    refine ⟨n, h, ?_⟩
    show ((n : Int) == (n : Int)) = true
    simp
theorem flat_ints (ns : List Int) : (ns.map V.int).all flatV = true := by
  rw [List.all_map]
  exact List.all_eq_true.mpr fun _ _ => rfl
theorem nI_app (π τ : List Nat) : nI (π ++ τ) = nI π ++ nI τ := by
  unfold nI
  rw [List.map_append]
def sp_l_orders (K : PySem.W.Frag) : Sp := fun vs H Q _ => ∃ m : Nat, vs = [.int (m : Int)] ∧ m ≤ 6 ∧ ∀ (l : Addr) (xs : List V) (H' : Hp), Same H H' → H' l = some (.lst xs) → RowsAt K H' xs (ordL m m) → Q (.ref l) H'
theorem sc_l_orders : FnScope ["_law_many", "_law_found", "_law_turn", "_law_longer", "_law_row", "_law_item"] ["_law_many"] (defScope s_l_orders) := ⟨rfl, rfl, rfl, by decide +kernel, rfl, by decide +kernel, by decide +kernel⟩
/-- the body of _law_orders -/
theorem ok_l_orders {f : Addr} {fd : FuncData} (T : Txt K mg) (F : FnP K "_law_orders" "_law_orders" s_l_orders f fd)  : FnOk P w K mg base CX0 1 f fd ["_law_many"] (sp_l_orders K) := by
  refine F.ok sc_l_orders (fun vs H Q E h => ?_) (fun cdv A outer s H vs Q E hr h => ⟨_, PSs.nox (pss_cons (ps_set (i := 1) sc_l_orders.nd rfl (Or.inl rfl) (pe_lst (pa_cons (pe_tup pa_nil) pa_nil)))
    (pss_cons (ps_for PassesOwn.never rfl (pi_range1 rfl T.range (pa_cons (pv 0) pa_nil)) (pg_name (i := 2) sc_l_orders.nd rfl (Or.inl rfl))
      (pss_cons (ps_set (i := 3) sc_l_orders.nd rfl (Or.inl rfl) (pe_lst pa_nil))
      (pss_cons (ps_for PassesOwn.never rfl (pi_list (pv 1)) (pg_name (i := 4) sc_l_orders.nd rfl (Or.inr rfl))
        (pss_one (ps_expr (pe_bm PySem.F.plainAttrs_list PySem.F.slot_list_extend PySem.F.type_list_extend mt_extend (pv 3) (pa_cons (pe_lc (own := [("_law_item", 5)]) (g := gName 5) rfl sc_l_orders.nd (pi_range1 rfl T.range (pa_cons (pv 0) pa_nil)) (blkOk_by (N := ["_law_many", "_law_found", "_law_turn", "_law_longer", "_law_row", "_law_item"]) (sc := defScope s_l_orders) (by decide +kernel)) (fun _ _ _ _ _ => pg_name (i := 5) sc_l_orders.nd rfl (Or.inl rfl)) (fun _ _ _ _ _ => (pts_one (pt_cmpR (notInK K) (pv 5) (pv 4) rfl))) (fun _ _ _ _ _ => (pe_op (catA K) (pv 4) (pe_tup (pa_cons (pv 5) pa_nil))))) pa_nil)))))
      (pss_one (ps_set (i := 1) sc_l_orders.nd rfl (Or.inl rfl) (pv 3))))))
    (pss_one (ps_ret (pv 1))))), ?_⟩)
  · first | (obtain ⟨_, rfl, _⟩ := h; rfl) | (obtain ⟨_, _, rfl, _⟩ := h; rfl) | (obtain ⟨_, _, _, rfl, _⟩ := h; rfl) | (obtain ⟨_, _, _, _, rfl, _⟩ := h; rfl) | (obtain ⟨_, _, _, _, _, rfl, _⟩ := h; rfl) | (obtain ⟨_, _, _, _, _, _, rfl, _⟩ := h; rfl) | (obtain ⟨_, _, _, _, _, _, _, rfl, _⟩ := h; rfl) | (obtain ⟨_, _, _, _, _, _, _, _, rfl, _⟩ := h; rfl) | (obtain ⟨_, _, _, _, _, _, _, _, _, rfl, _⟩ := h; rfl) | (obtain ⟨_, _, _, _, _, _, _, _, _, _, rfl, _⟩ := h; rfl) | (obtain ⟨_, _, _, _, _, _, _, _, _, _, _, rfl, _⟩ := h; rfl) | (obtain ⟨_, _, _, _, _, _, _, _, _, _, _, _, rfl, _⟩ := h; rfl)
  obtain ⟨m, rfl, hm, k⟩ := h
  refine ⟨Nat.zero_le _, fun t0 n0 => ⟨(by show 1 ≤ sizeLine; decide), fun l0 nl => ?_⟩⟩
  have s1 := Same.new (o := .tup []) n0
  have s2 := Same.new (o := .lst [.ref t0]) nl
  refine ⟨_, rfl, (m : Int), rfl, by omega, by omega, for_range (lo := 0) (n := m) (fun i σ H' => ∃ (l : Addr) (xs : List V) (x y z u : Option V), σ = [some (.int (m : Int)), some (.ref l), x, y, z, u] ∧ Same H H' ∧ H' l = some (.lst xs) ∧ RowsAt K H' xs (ordL m i)) ?_ ?_ ?_⟩
  · exact ⟨l0, _, _, _, _, _, rfl, s1.trans s2, upd_same, .cons ⟨t0, rfl, s2.t (sqt upd_same)⟩ .nil⟩
  · rintro i σ H' hi ⟨l, xs, x, y, z, u, rfl, e, hl, hR⟩
    have hi : i < m := hi
    refine ⟨Nat.zero_le _, fun lg hlg => ?_⟩
    have s3 := Same.new (o := .lst []) hlg
    have nl : l ≠ lg := ne_of_none hl hlg
    have lxs : xs.length = (ordL m i).length := Paired.length hR
    refine ⟨_, rfl, l, rfl, ⟨_, sql (s3 _ _ hl)⟩, for_list (K := K) (a := l) (xs := xs) (fun j σ H2 => ∃ (us : List V) (z u : Option V), σ = [some (.int (m : Int)), some (.ref l), some (.int (0 + (i : Int))), some (.ref lg), z, u] ∧ Same H' H2 ∧ H2 lg = some (.lst us) ∧ RowsAt K H2 us (((ordL m i).take j).flatMap (extL m))) ?_ ?_ ?_ ?_⟩
    · exact ⟨[], _, _, rfl, s3, upd_same, .nil⟩
    · rintro j σ H2 _ ⟨us, z, u, rfl, e2, hg, hU⟩
      exact sql (e2 _ _ hl)
    · rintro j v σ H2 hv ⟨us, z, u, rfl, e2, hg, hU⟩
      obtain ⟨π, hπ, hvπ⟩ := paired_at hR hv
      obtain ⟨p, rfl, hp⟩ := hvπ.mono e2
      have mπ := mem_ordL.mp (List.mem_of_getElem? hπ)
      refine ⟨_, rfl, .inl ⟨rfl, _, sql hg⟩, _, rfl, (m : Int), rfl, by omega, by omega, fun D hD => ?_⟩
      refine lc_rangeG (K := K) (n := m) (fun i => !decide (i ∈ π)) (fun i => π ++ [i]) hD (by omega) (fun c H3 hc e3 Q' hq => ?_) (fun c H3 hc e3 Q' hq => ?_) (fun H3 acc e3 hD3 hA => ?_)
      · refine ⟨_, rfl, _, rfl, p, _, rfl, .inr (e3.t hp), rfl, flat_ints _, _, rfl, ?_⟩
        show Q' (!inV (.int (0 + (c : Int))) ((nI π).map V.int)) H3
        rw [Int.zero_add, inV_nI]
        exact hq
      · refine ⟨_, rfl, _, rfl, (by show 1 ≤ sizeLine; decide), fun t ht => ?_⟩
        have s4 := Same.new (o := .tup [.int (0 + (c : Int))]) ht
        refine cat_then (ys := [0 + (c : Int)]) (s4.t (e3.t hp)) (sqt upd_same) ?_ fun r H5 e5 h5 => hq _ _ (s4.trans e5) ⟨r, rfl, ?_⟩
        · have := mπ.1
          unfold nI
          rw [List.length_map, List.length_singleton]
          omega
        · rw [nI_app]
          rw [Int.zero_add] at h5
          exact h5
      · have hg3 := e3 _ _ hg
        have b1 : us.length ≤ 46656 := by
          rw [Paired.length hU]
          have h1 := flat_len (extL_len m) ((ordL m i).take j)
          have h2 : ((ordL m i).take j).length ≤ (ordL m i).length := by
            rw [List.length_take]
            omega
          have h3 : (ordL m i).length * m ≤ m ^ i * m := Nat.mul_le_mul_right m (ordL_len m i)
          have h4 : ((ordL m i).take j).length * m ≤ (ordL m i).length * m := Nat.mul_le_mul_right m h2
          have h5 : m ^ i * m ≤ 46656 := by
            rw [← Nat.pow_succ]
            exact Nat.le_trans (Nat.pow_le_pow_left hm (i + 1)) (Nat.le_trans (Nat.pow_le_pow_right (by decide) (by omega)) (by decide : 6 ^ 6 ≤ 46656))
          omega
        have b2 : acc.length ≤ 6 := by
          rw [Paired.length hA]
          exact Nat.le_trans (extL_len m π) hm
        have tm : Tame H3 (upd H3 lg (.lst (us ++ acc))) := Tame.lst hg3
        have ndg : lg ≠ D := ne_of_none hg hD
        refine ⟨lg, D, us, acc, rfl, rfl, hg3, hD3, szl (by omega), ?_⟩
        refine ⟨us ++ acc, _, _, rfl, (e2.trans e3).mut hlg, upd_same, ?_⟩
        have e7 : (ordL m i).take (j + 1) = (ordL m i).take j ++ [π] := by
          rw [List.take_add_one, hπ]
          rfl
        rw [e7, List.flatMap_append]
        refine paired_app ((hU.mono e3).tame tm) ?_
        rw [List.flatMap_cons, List.flatMap_nil, List.append_nil]
        exact hA.tame tm
    · rintro σ H2 ⟨us, z, u, rfl, e2, hg, hU⟩
      rw [lxs, List.take_length] at hU
      exact ⟨_, rfl, lg, us, _, _, _, _, rfl, e.trans e2, hg, hU⟩
  · rintro σ H' ⟨l, xs, x, y, z, u, rfl, e, hl, hR⟩
    exact ⟨_, rfl, k l xs _ e hl hR⟩
end
end K71
namespace K71
open PySem PySem.Spec PyProof.Rows L2
section
variable {P : Program} {w : World} {K : PySem.W.Frag} {mg : Str → Option Value} {base : Heap}
/-! ### the law's own unit -/
theorem mm_all {l : List Int} {m M a : Int} (h1 : m ∈ l) (h2 : ∀ y ∈ l, m ≤ y) (h3 : M ∈ l) (h4 : ∀ y ∈ l, y ≤ M) (ha : a ∈ l) : decide (V.int m = V.int M) = l.all fun z => decide (z = a) := by
  rw [Bool.eq_iff_iff, decide_eq_true_iff, List.all_eq_true]
  constructor
  · intro e z hz
    injection e with e
    have a1 := h2 z hz
    have a2 := h4 z hz
    have a3 := h2 a ha
    have a4 := h4 a ha
    exact decide_eq_true (by omega)
  · intro h
    have e1 := of_decide_eq_true (h m h1)
    have e2 := of_decide_eq_true (h M h3)
    rw [e1, e2]
def sp_l_queue_unit (K : PySem.W.Frag) : Sp := fun vs H Q _ => ∃ (v : V) (os ds : List Int), vs = [v] ∧ SumsT K H v os ds ∧ (os ≠ [] ∧ ds ≠ []) ∧ (PosL os ∧ PosL ds) ∧ (os.length ≤ 50 ∧ ds.length ≤ 50) ∧ ∀ x H', Same H H' → decide (x = V.non) = !(fitsB os ds || fitsB ds os) → Q x H'
theorem sc_l_queue_unit : FnScope ["_law_sums_here", "_law_owed", "_law_due", "_law_side_here", "_law_ones", "_law_others", "_law_item", "_law_rests"] ["_law_sums_here"] (defScope s_l_queue_unit) := ⟨rfl, rfl, rfl, by decide +kernel, rfl, by decide +kernel, by decide +kernel⟩
/-- the body of _law_queue_unit -/
theorem ok_l_queue_unit {f : Addr} {fd : FuncData} (T : Txt K mg) (F : FnP K "_law_queue_unit" "_law_queue_unit" s_l_queue_unit f fd)  : FnOk P w K mg base CX0 1 f fd ["_law_sums_here"] (sp_l_queue_unit K) := by
  refine F.ok sc_l_queue_unit (fun vs H Q E h => ?_) (fun cdv A outer s H vs Q E hr h => ⟨_, PSs.nox (pss_cons (ps_asg (pv 0) (pg_tup rfl (pgs_cons (pg_name (i := 1) sc_l_queue_unit.nd rfl (Or.inl rfl)) (pgs_cons (pg_name (i := 2) sc_l_queue_unit.nd rfl (Or.inl rfl)) pgs_nil))))
    (pss_cons (ps_for PassesOwn.never rfl (pi_tup (pe_tup (pa_cons (pe_tup (pa_cons pe_str (pa_cons (pv 1) (pa_cons (pv 2) pa_nil)))) (pa_cons (pe_tup (pa_cons pe_str (pa_cons (pv 2) (pa_cons (pv 1) pa_nil)))) pa_nil)))) (pg_tup rfl (pgs_cons (pg_name (i := 3) sc_l_queue_unit.nd rfl (Or.inl rfl)) (pgs_cons (pg_name (i := 4) sc_l_queue_unit.nd rfl (Or.inr rfl)) (pgs_cons (pg_name (i := 5) sc_l_queue_unit.nd rfl (Or.inl rfl)) pgs_nil))))
      (pss_cons (ps_setLc (i := 7) (own := [("_law_item", 6)]) (g := gName 6) (tt := tYes) rfl sc_l_queue_unit.nd rfl rfl (sw_true rfl rfl rfl (by decide +kernel)) (pi_tup (pv 5)) (blkOk_by (N := ["_law_sums_here", "_law_owed", "_law_due", "_law_side_here", "_law_ones", "_law_others", "_law_item", "_law_rests"]) (sc := defScope s_l_queue_unit) (by decide +kernel)) (fun _ _ _ _ _ => pg_name (i := 6) sc_l_queue_unit.nd rfl (Or.inl rfl)) (fun _ _ _ _ _ => pts_nil) (fun _ _ _ _ _ => (pe_op op_mod (pe_callTy call_int1 (by rfl) T.int' (by decide +kernel) (pa_cons (pv 6) pa_nil)) (pe_ix (ixT K) (pv 4) pe_int (fun _ _ => rfl)))))
      (pss_one (ps_if (PW.pt (pw_and (pt_cmpR op_eq (pe_callB (cr_minT rfl hr.units) (by rfl) T.min' (by decide +kernel) (pa_cons (pv 4) pa_nil)) (pe_callB (cr_maxT rfl hr.units) (by rfl) T.max' (by decide +kernel) (pa_cons (pv 4) pa_nil)) (nomark _)) (pw_and1 (pt_cmpR op_eq (pe_callB (cr_min rfl) (by rfl) T.min' (by decide +kernel) (pa_cons (pv 7) pa_nil)) (pe_callB (cr_max rfl) (by rfl) T.max' (by decide +kernel) (pa_cons (pv 7) pa_nil)) (nomark _)))))
        (pss_one (ps_ret (pe_tup (pa_cons (pv 3) (pa_cons (pe_ix (ixT K) (pv 4) pe_int (fun _ _ => rfl)) pa_nil)))))
        pss_nil))))
    (pss_one (ps_ret pe_non)))), ?_⟩)
  · first | (obtain ⟨_, rfl, _⟩ := h; rfl) | (obtain ⟨_, _, rfl, _⟩ := h; rfl) | (obtain ⟨_, _, _, rfl, _⟩ := h; rfl) | (obtain ⟨_, _, _, _, rfl, _⟩ := h; rfl) | (obtain ⟨_, _, _, _, _, rfl, _⟩ := h; rfl) | (obtain ⟨_, _, _, _, _, _, rfl, _⟩ := h; rfl) | (obtain ⟨_, _, _, _, _, _, _, rfl, _⟩ := h; rfl) | (obtain ⟨_, _, _, _, _, _, _, _, rfl, _⟩ := h; rfl) | (obtain ⟨_, _, _, _, _, _, _, _, _, rfl, _⟩ := h; rfl) | (obtain ⟨_, _, _, _, _, _, _, _, _, _, rfl, _⟩ := h; rfl) | (obtain ⟨_, _, _, _, _, _, _, _, _, _, _, rfl, _⟩ := h; rfl) | (obtain ⟨_, _, _, _, _, _, _, _, _, _, _, _, rfl, _⟩ := h; rfl)
  obtain ⟨v, os, ds, rfl, ⟨t, va, vb, rfl, ht, ⟨po, rfl, ho⟩, ⟨pd, rfl, hd⟩⟩, ⟨no, nd⟩, ⟨Po, Pd⟩, ⟨lo, ld⟩, k⟩ := h
  refine ⟨_, rfl, t, _, rfl, ht, rfl, _, _, rfl, _, _, rfl, rfl, ?_⟩
  refine ⟨_, rfl, _, rfl, (by show 3 ≤ sizeLine; decide), fun t1 n1 => ⟨_, rfl, _, rfl, (by show 3 ≤ sizeLine; decide), fun t2 n2 => ⟨(by show 2 ≤ sizeLine; decide), fun t3 n3 => ?_⟩⟩⟩
  have s1 := Same.new (o := .tup [.str "owed", .ref po, .ref pd]) n1
  have s2 := Same.new (o := .tup [.str "due", .ref pd, .ref po]) n2
  have s3 := Same.new (o := .tup [.ref t1, .ref t2]) n3
  have g1 := (s2.trans s3).t (K := K) (sqt upd_same : SqT K (upd H t1 (.tup [.str "owed", .ref po, .ref pd])) t1 _)
  have g2 := s3.t (K := K) (sqt upd_same : SqT K (upd (upd H t1 (.tup [.str "owed", .ref po, .ref pd])) t2 (.tup [.str "due", .ref pd, .ref po])) t2 _)
  have e03 := (s1.trans s2).trans s3
  have g3 : SqT K (upd (upd (upd H t1 (.tup [.str "owed", .ref po, .ref pd])) t2 (.tup [.str "due", .ref pd, .ref po])) t3 (.tup [.ref t1, .ref t2])) t3 [.ref t1, .ref t2] := sqt upd_same
  have ho3 := e03.t ho
  have hd3 := e03.t hd
  generalize upd (upd (upd H t1 (.tup [.str "owed", .ref po, .ref pd])) t2 (.tup [.str "due", .ref pd, .ref po])) t3 (.tup [.ref t1, .ref t2]) = H3 at e03 g1 g2 g3 ho3 hd3
  refine ⟨t3, rfl, ⟨_, g3⟩, for_tup (K := K) (a := t3) (xs := [.ref t1, .ref t2]) (fun i σ H' => ∃ x y z u r : Option V, σ = [some (.ref t), some (.ref po), some (.ref pd), x, y, z, u, r] ∧ Same H3 H' ∧ (0 < i → fitsB os ds = false) ∧ (1 < i → fitsB ds os = false)) ?_ ?_ ?_ ?_⟩
  · exact ⟨_, _, _, _, _, rfl, Same.refl _, fun h => absurd h (by decide), fun h => absurd h (by decide)⟩
  · rintro i σ H' _ ⟨x, y, z, u, r, rfl, e, _⟩
    exact e.t g3
  · rintro i v σ H' hv ⟨x, y, z, u, r, rfl, e, i1, i2⟩
    obtain ⟨ti, si, pa, pb, as, bs, rfl, hti, hpa, hpb, na, nb, Pa, la, lb, yes, nots⟩ : ∃ (ti : Addr) (si : Str) (pa pb : Addr) (as bs : List Int), v = .ref ti ∧ SqT K H' ti [.str si, .ref pa, .ref pb] ∧ SqT K H' pa (as.map V.int) ∧ SqT K H' pb (bs.map V.int) ∧ as ≠ [] ∧ bs ≠ [] ∧ PosL as ∧ as.length ≤ 50 ∧ bs.length ≤ 50 ∧
        (fitsB as bs = true → (fitsB os ds || fitsB ds os) = true) ∧ (fitsB as bs = false → (0 < i + 1 → fitsB os ds = false) ∧ (1 < i + 1 → fitsB ds os = false)) := by
      match i, hv with
      | 0, hv =>
        have hv := Option.some.inj hv
        exact ⟨t1, _, po, pd, os, ds, hv.symm, e.t g1, e.t ho3, e.t hd3, no, nd, Po, lo, ld, fun h => by rw [h]; rfl, fun h => ⟨fun _ => h, fun c => absurd c (by decide)⟩⟩
      | 1, hv =>
        have hv := Option.some.inj hv
        exact ⟨t2, _, pd, po, ds, os, hv.symm, e.t g2, e.t hd3, e.t ho3, nd, no, Pd, ld, lo, fun h => by rw [h, Bool.or_true], fun h => ⟨fun _ => i1 (by decide), fun _ => h⟩⟩
      | i + 2, hv => cases hv
    obtain ⟨a0, as, rfl⟩ := List.exists_cons_of_ne_nil na
    obtain ⟨b0, bs, rfl⟩ := List.exists_cons_of_ne_nil nb
    have a0p : 0 < a0 := Pa a0 (List.mem_cons_self ..)
    refine ⟨ti, _, rfl, hti, rfl, _, _, rfl, _, _, rfl, _, _, rfl, rfl, ?_⟩
    refine ⟨_, rfl, pb, rfl, ⟨_, hpb⟩, fun D hD => ?_⟩
    refine lc_tupR (K := K) (a := pb) (xs := (b0 :: bs).map V.int) (fun i v _ => ∀ k, (b0 :: bs)[i]? = some k → v = .int (k % a0)) (fun _ _ _ _ _ r => r) hD hpb (szl (by rw [List.length_map]; omega)) (fun j x H4 hx e4 Q' hq => ?_) (fun ys H4 e4 hD4 hl hy => ?_)
    · obtain ⟨n, hn, rfl⟩ := at_map hx
      refine ⟨_, rfl, .inl ⟨_, rfl, _, rfl, pa, _, _, _, rfl, rfl, e4.t hpa, at_of (j := 0) rfl rfl, _, _, rfl, rfl, a0p, hq _ _ (Same.refl _) fun k hk => ?_⟩⟩
      rw [hn] at hk
      cases hk
      rfl
    · have ey : ys = ((b0 :: bs).map fun k => k % a0).map V.int := by
        rw [List.map_map]
        exact list_of_map (by rw [hl, List.length_map]) fun i y x hy' hx => hy i y hy' x hx
      subst ey
      have ef : fitsB (a0 :: as) (b0 :: bs) = (((a0 :: as).all fun z => decide (z = a0)) && (((b0 :: bs).map fun k => k % a0).all fun z => decide (z = b0 % a0))) := by
        rw [List.all_map]
        rfl
      have hpa4 := e4.t hpa
      refine ⟨_, rfl, pa, a0 :: as, rfl, hpa4, by simp, fun m hm hm2 => ⟨_, rfl, pa, a0 :: as, rfl, hpa4, by simp, fun M hM hM2 => ⟨rfl, _, rfl, ?_⟩⟩⟩
      rw [mm_all hm hm2 hM hM2 (List.mem_cons_self ..)]
      refine ite2 (fun c => ?_) (fun c => ?_)
      · refine ⟨_, rfl, D, _, rfl, sql hD4, by simp, fun n hn hn2 => ⟨_, rfl, D, _, rfl, sql hD4, by simp, fun N hN hN2 => ⟨rfl, _, rfl, ?_⟩⟩⟩
        rw [mm_all (a := b0 % a0) hn hn2 hN hN2 (List.mem_cons_self ..)]
        refine ite2 (fun c2 => ?_) (fun c2 => ?_)
        · refine ⟨_, rfl, _, rfl, pa, _, _, _, rfl, rfl, hpa4, at_of (j := 0) rfl rfl, (by show 2 ≤ sizeLine; decide), fun t5 n5 => k _ _ ((e03.trans (e.trans e4)).trans (Same.new n5)) ?_⟩
          rw [yes (by rw [ef, c, c2]; rfl)]
          rfl
        · have c3 : fitsB (a0 :: as) (b0 :: bs) = false := by
            rw [ef, c, Bool.true_and]
            exact Bool.eq_false_iff.mpr c2
          exact ⟨_, _, _, _, _, rfl, e.trans e4, (nots c3).1, (nots c3).2⟩
      · have c3 : fitsB (a0 :: as) (b0 :: bs) = false := by
          rw [ef, Bool.eq_false_iff.mpr c]
          rfl
        exact ⟨_, _, _, _, _, rfl, e.trans e4, (nots c3).1, (nots c3).2⟩
  · rintro σ H' ⟨x, y, z, u, r, rfl, e, i1, i2⟩
    refine k _ _ (e03.trans e) ?_
    rw [i1 (by show 0 < 2; decide), i2 (by show 1 < 2; decide)]
    rfl
end
end K71
namespace K71
open PySem PySem.Spec PyProof.Rows L2
section
variable {P : Program} {w : World} {K : PySem.W.Frag} {mg : Str → Option Value} {base : Heap}
/-! ### all numbers of queues -/
section
variable {X : Cx} {e : Expr} {te : TE} {p apos cpos pos : Pos}
def tListKeys (te : TE) : TE := fun σ H Q => te σ H fun x H1 => ∃ (p : Addr) (kvs : List (Key × V)), x = .ref p ∧ H1 p = some (.dK kvs) ∧ ∀ q, H1 q = none → Q (.ref q) (upd H1 q (.lst (kvs.map fun kv => kV kv.1)))
theorem pe_listKeys (hc : X.calm = true) (he : PE X e te) (hg : Gl X "list") (hm : X.mg "list" = none) (hv : bootBuiltins "list" = some (.type "list")) (hbase : attributeBase e "keys" X.env (eval e X.env) = eval e X.env := by rfl) (hline : (apos.endLine == cpos.line) = true := by rfl)
    (hs : starEach [.Call (.Attribute e "keys" apos) [] [] cpos] X.env = (false, eval (.Call (.Attribute e "keys" apos) [] [] cpos) X.env) :: starEach [] X.env := by rfl) :
    PE X (.Call (.Name "list" p) [.Call (.Attribute e "keys" apos) [] [] cpos] [] pos) (tListKeys te) := by
  refine ⟨fun pins s σ H Q I hq => ?_⟩
  refine wpAny_Call_Name_kw (ld_blt I hg hm hv ?_)
  refine PyProof.Rows.callWith_type1 ?_ hs rfl
  rw [hs]
  show wpAny _ _ (spliced ((false, eval (.Call (.Attribute e "keys" apos) [] [] cpos) X.env) :: backTo pos (starEach [] X.env))) _ _ s
  refine Calls.spliced_cons ?_
  refine wpAny_Call_method (T := "dict") (id := "dict.keys") hbase rfl hline F.plainAttrs_dict F.slot_dict_keys F.type_dict_keys (thn (he.run pins s σ H _ I hq) fun u s1 ⟨x, H1, I1, rx, d, kvs, ex, hd, q⟩ => ?_)
  subst ex
  obtain rfl : u = Value.ref d := rx
  obtain ⟨hz, hs0, vs, kv, hdo⟩ := I1.hok d _ hd
  obtain ⟨ep, hat⟩ := hdo.dictAt
  have lk : kvs.length = vs.length := Paired.length kv
  have I2 : Inv X pins σ H1 { s1 with heap := s1.heap.push { cls := .type "dict_keys", data := .fields #[.ref d] } } := I1.kept (t' := s1.toks) fun b ob q => Heap.get?_push_of_some _ q
  refine ⟨hdo.typeIs, hdo.mapOf.noDict, ?_⟩
  show wpAny _ _ (callWith cpos (.builtin "dict.keys") [.ref d] [] []) _ X.xe s1
  refine method_meetsIn F.slot_dict_keys F.entry_dict_keys rfl (PySem.evalArgs_none ⟨rfl, hdo.typeIs, F.args_dict_keys_1 _, _, PySem.W.kdl_meets_keys (mixKind X.prog X.w) d hs0, ⟨vs, hdo⟩, ?_⟩)
  refine Calls.spliced_nil ?_
  refine PySem.W.kdl_call (PySem.W.kdl_keys (knd := mixKind X.prog X.w) (kvs := vs) (ep := ep)) (I1.ok.hd hc) ⟨⟨_, Heap.get?_push_size _ rfl, rfl, rfl⟩, hat.push _⟩ (by omega) fun h' tk acc' c' hkeep hS hacc => ?_
  refine ⟨.ref _, _, I2.laid (t' := tk) hkeep (Nat.le_refl _) (show ObjOk X.prog X.w _ _ _ (.lst (kvs.map fun kv => kV kv.1)) from ⟨?_, acc'.toList, c', ?_, ?_⟩), rfl, q _ (I2.hok.fresh (Nat.le_refl _))⟩
  · rw [List.length_map]
    exact hz
  · have el : acc'.toList.length = acc'.size := by simp
    refine vals_of_at (by rw [List.length_map, el, hacc.1, lk]) fun j x w h1 h2 => ?_
    obtain ⟨k, y, hky, hi⟩ := hacc.2 j w (by rw [← Array.getElem?_toList]; exact h2)
    have e1 : (kvs.map (·.1))[j]? = some k := by
      rw [KV.keys kv, List.getElem?_map, hky] <;> rfl
    have e2 : (kvs.map fun kv => kV kv.1)[j]? = some (kV k) := by
      have e3 : (kvs.map fun kv => kV kv.1) = (kvs.map (·.1)).map kV := by rw [List.map_map] <;> rfl
      rw [e3, List.getElem?_map, e1] <;> rfl
    rw [e2] at h1
    cases h1
    exact keyIs_rel hi
  · rw [Array.toArray_toList]
    exact hS
end
theorem FrA.tameK {d : Addr} {kvs : List (Key × V)} {H H' : Hp} (h : H d = some (.dK kvs)) (f : FrA d H H') : Tame H H' := fun x xs hx => by
  have ne : x ≠ d := fun e => by
    subst e
    rcases hx with hx | ⟨o, hx⟩
    · rw [h] at hx
      cases hx
    · rw [h] at hx
      cases hx
  rcases hx with hx | ⟨o, hx⟩
  · exact .inl (f _ _ hx ne)
  · exact .inr ⟨o, f _ _ hx ne⟩
theorem nodup_le {α : Type} [DecidableEq α] : ∀ {ρ L : List α}, ρ.Nodup → (∀ i ∈ ρ, i ∈ L) → ρ.length ≤ L.length
  | [], L, _, _ => Nat.zero_le _
  | x :: r, L, hn, hs => by
    have hx := hs x (List.mem_cons_self ..)
    have n := List.nodup_cons.mp hn
    have hl := (List.perm_cons_erase hx).length_eq
    rw [List.length_cons] at hl
    have h2 := nodup_le (L := L.erase x) n.2 (fun i hi => (List.mem_erase_of_ne (fun (e : i = x) => n.1 (e ▸ hi))).mpr (hs i (List.mem_cons_of_mem _ hi)))
    rw [List.length_cons]
    omega
def ki (n : Nat) : Key := .inl (n : Int)
theorem ki_inj {m n : Nat} (h : ki m = ki n) : m = n := by
  unfold ki at h
  injection h with h
  omega
/-- a number of queues -/
def QN (os ds : List Int) (n : Nat) : Prop := ∃ π τ : List Nat, π.Perm (List.range os.length) ∧ τ.Perm (List.range ds.length) ∧ n = (qway os ds π τ).length
theorem QN.le {os ds : List Int} {n : Nat} (h : QN os ds n) : n ≤ os.length + ds.length := by
  obtain ⟨π, τ, h1, h2, rfl⟩ := h
  have a := wayM_le (π.length + τ.length) os ds π τ
  have b := h1.length_eq
  have c := h2.length_eq
  rw [List.length_range] at b c
  unfold qway
  omega
/-- the numbers found so far: all those of done, and no others -/
def KI (os ds : List Int) (kvs : List (Key × V)) (done : List Nat → List Nat → Prop) : Prop := ∃ ns : List Nat, kvs.map (·.1) = ns.map ki ∧ ns.Nodup ∧ (∀ n ∈ ns, QN os ds n) ∧ ∀ π τ, done π τ → (qway os ds π τ).length ∈ ns
theorem KI.len {os ds : List Int} {kvs : List (Key × V)} {done : List Nat → List Nat → Prop} (h : KI os ds kvs done) : kvs.length ≤ os.length + ds.length + 1 := by
  obtain ⟨ns, h1, h2, h3, _⟩ := h
  have e : kvs.length = ns.length := by
    have := congrArg List.length h1
    rw [List.length_map, List.length_map] at this
    exact this
  rw [e]
  have := nodup_le (L := List.range (os.length + ds.length + 1)) h2 fun n hn => List.mem_range.mpr (by have := (h3 n hn).le; omega)
  rw [List.length_range] at this
  exact this
theorem any_keys (kvs : List (Key × V)) (k : Key) : (kvs.any fun kv => decide (kv.1 = k)) = true ↔ k ∈ kvs.map (·.1) := by
  rw [List.any_eq_true, List.mem_map]
  constructor
  · rintro ⟨x, hx, e⟩
    exact ⟨x, hx, of_decide_eq_true e⟩
  · rintro ⟨x, hx, e⟩
    exact ⟨x, hx, decide_eq_true e⟩
theorem putK_old {kvs : List (Key × V)} {k : Key} (v : V) (h : k ∈ kvs.map (·.1)) : (putK kvs k v).map (·.1) = kvs.map (·.1) := by
  unfold putK
  rw [if_pos ((any_keys kvs k).mpr h), List.map_map]
  refine List.map_congr_left fun kv _ => ?_
  show (if kv.1 = k then (kv.1, v) else kv).1 = kv.1
  split <;> rfl
theorem putK_add {kvs : List (Key × V)} {k : Key} (v : V) (h : ¬ k ∈ kvs.map (·.1)) : (putK kvs k v).map (·.1) = kvs.map (·.1) ++ [k] := by
  unfold putK
  rw [if_neg (fun z => h ((any_keys kvs k).mp z)), List.map_append]
  rfl
theorem KI.put {os ds : List Int} {kvs : List (Key × V)} {done done' : List Nat → List Nat → Prop} {π τ : List Nat} (h : KI os ds kvs done) (hπ : π.Perm (List.range os.length)) (hτ : τ.Perm (List.range ds.length))
    (hd : ∀ π' τ', done' π' τ' → done π' τ' ∨ (π' = π ∧ τ' = τ)) (v : V) : KI os ds (putK kvs (ki (qway os ds π τ).length) v) done' := by
  obtain ⟨ns, h1, h2, h3, h4⟩ := h
  have em : ki (qway os ds π τ).length ∈ kvs.map (·.1) ↔ (qway os ds π τ).length ∈ ns := by
    rw [h1, List.mem_map]
    constructor
    · rintro ⟨n, hn, e⟩
      exact ki_inj e ▸ hn
    · intro h
      exact ⟨_, h, rfl⟩
  by_cases c : (qway os ds π τ).length ∈ ns
  · refine ⟨ns, by rw [putK_old _ (em.mpr c), h1], h2, h3, fun π' τ' hd' => ?_⟩
    rcases hd π' τ' hd' with hd' | ⟨rfl, rfl⟩
    · exact h4 _ _ hd'
    · exact c
  · refine ⟨ns ++ [(qway os ds π τ).length], by rw [putK_add _ (fun z => c (em.mp z)), h1, List.map_append]; rfl, ?_, ?_, fun π' τ' hd' => ?_⟩
    · refine List.nodup_append.mpr ⟨h2, by simp, fun x hx y hy => ?_⟩
      rw [List.mem_singleton.mp hy]
      exact fun e => c (e ▸ hx)
    · intro n hn
      rcases List.mem_append.mp hn with hn | hn
      · exact h3 n hn
      · rw [List.mem_singleton.mp hn]
        exact ⟨π, τ, hπ, hτ, rfl⟩
    · rcases hd π' τ' hd' with hd' | ⟨rfl, rfl⟩
      · exact List.mem_append_left _ (h4 _ _ hd')
      · exact List.mem_append_right _ (List.mem_singleton.mpr rfl)
theorem KI.weak {os ds : List Int} {kvs : List (Key × V)} {done done' : List Nat → List Nat → Prop} (h : KI os ds kvs done) (hd : ∀ π τ, done' π τ → done π τ) : KI os ds kvs done' := by
  obtain ⟨ns, h1, h2, h3, h4⟩ := h
  exact ⟨ns, h1, h2, h3, fun π τ h => h4 _ _ (hd _ _ h)⟩
/-- all ways of queues are of one length -/
def OneLen (os ds : List Int) : Prop := ∀ π τ π' τ' : List Nat, π.Perm (List.range os.length) → τ.Perm (List.range ds.length) → π'.Perm (List.range os.length) → τ'.Perm (List.range ds.length) → (qway os ds π τ).length = (qway os ds π' τ').length
theorem one_len {os ds : List Int} {ns : List Nat} (h2 : ns.Nodup) (h3 : ∀ n ∈ ns, QN os ds n) (h4 : ∀ π τ, π.Perm (List.range os.length) → τ.Perm (List.range ds.length) → (qway os ds π τ).length ∈ ns) : ns.length = 1 ↔ OneLen os ds := by
  constructor
  · intro h π τ π' τ' g1 g2 h5 h6
    obtain ⟨x, rfl⟩ := List.length_eq_one_iff.mp h
    rw [List.mem_singleton.mp (h4 π τ g1 g2), List.mem_singleton.mp (h4 π' τ' h5 h6)]
  · intro h
    have m := h4 _ _ (List.Perm.refl _) (List.Perm.refl _)
    have hle := nodup_le (L := [(qway os ds (List.range os.length) (List.range ds.length)).length]) h2 fun n hn => by
      obtain ⟨π, τ, a, b, rfl⟩ := h3 n hn
      exact List.mem_singleton.mpr (h _ _ _ _ a b (List.Perm.refl _) (List.Perm.refl _))
    have := List.length_pos_of_mem m
    rw [List.length_singleton] at hle
    omega
def sp_l_queue_numbers (K : PySem.W.Frag) : Sp := fun vs H Q _ => ∃ (v : V) (os ds : List Int), vs = [v] ∧ SumsT K H v os ds ∧ SumD os ds 7 ∧ ∀ (l : Addr) (zs : List Int) (H' : Hp), Same H H' → H' l = some (.lst (zs.map V.int)) → (zs.length = 1 ↔ OneLen os ds) → Q (.ref l) H'
theorem sc_l_queue_numbers : FnScope ["_law_sums_here", "_law_found", "_law_owers", "_law_takers"] ["_law_sums_here"] (defScope s_l_queue_numbers) := ⟨rfl, rfl, rfl, by decide +kernel, rfl, by decide +kernel, by decide +kernel⟩
/-- the body of _law_queue_numbers -/
theorem ok_l_queue_numbers {f : Addr} {fd : FuncData} (T : Txt K mg) (F : FnP K "_law_queue_numbers" "_law_queue_numbers" s_l_queue_numbers f fd) (D_l_orders : Dn P w K mg base "_law_orders" ["_law_many"] 1 (sp_l_orders K)) (D_l_queue_way : Dn P w K mg base "_law_queue_way" ["_law_sums_here", "_law_owers", "_law_takers"] 2 (sp_l_queue_way K)) : FnOk P w K mg base CX0 3 f fd ["_law_sums_here"] (sp_l_queue_numbers K) := by
  refine F.ok sc_l_queue_numbers (fun vs H Q E h => ?_) (fun cdv A outer s H vs Q E hr h => ⟨_, PSs.nox (pss_cons (ps_set (i := 1) sc_l_queue_numbers.nd rfl (Or.inl rfl) pe_dnewK)
    (pss_cons (ps_for PassesOwn.never rfl (pi_list (pe_dn D_l_orders (hr.mono (by decide)) rfl (pa_cons (pe_callB call_len_seq (by rfl) T.len' (by decide +kernel) (pa_cons (pe_ix (ixT K) (pv 0) pe_int (fun _ _ => rfl)) pa_nil)) pa_nil))) (pg_name (i := 2) sc_l_queue_numbers.nd rfl (Or.inl rfl))
      (pss_one (ps_for PassesOwn.never rfl (pi_list (pe_dn D_l_orders (hr.mono (by decide)) rfl (pa_cons (pe_callB call_len_seq (by rfl) T.len' (by decide +kernel) (pa_cons (pe_ix (ixT K) (pv 0) pe_int (fun _ _ => rfl)) pa_nil)) pa_nil))) (pg_name (i := 3) sc_l_queue_numbers.nd rfl (Or.inl rfl))
        (pss_one (ps_dput (hu_of hr) (pv 1) (pe_callB call_len_seq (by rfl) T.len' (by decide +kernel) (pa_cons (pe_dn D_l_queue_way (hr.mono (by decide)) rfl (pa_cons (pv 0) (pa_cons (pv 2) (pa_cons (pv 3) pa_nil)))) pa_nil)) pe_bl rfl)))))
    (pss_one (ps_ret (pe_callB cr_sorted (by rfl) T.sorted' (by decide +kernel) (pa_cons (pe_listKeys rfl (pv 1) rfl T.list' (by decide +kernel)) pa_nil)))))), ?_⟩)
  · first | (obtain ⟨_, rfl, _⟩ := h; rfl) | (obtain ⟨_, _, rfl, _⟩ := h; rfl) | (obtain ⟨_, _, _, rfl, _⟩ := h; rfl) | (obtain ⟨_, _, _, _, rfl, _⟩ := h; rfl) | (obtain ⟨_, _, _, _, _, rfl, _⟩ := h; rfl) | (obtain ⟨_, _, _, _, _, _, rfl, _⟩ := h; rfl) | (obtain ⟨_, _, _, _, _, _, _, rfl, _⟩ := h; rfl) | (obtain ⟨_, _, _, _, _, _, _, _, rfl, _⟩ := h; rfl) | (obtain ⟨_, _, _, _, _, _, _, _, _, rfl, _⟩ := h; rfl) | (obtain ⟨_, _, _, _, _, _, _, _, _, _, rfl, _⟩ := h; rfl) | (obtain ⟨_, _, _, _, _, _, _, _, _, _, _, rfl, _⟩ := h; rfl) | (obtain ⟨_, _, _, _, _, _, _, _, _, _, _, _, rfl, _⟩ := h; rfl)
  obtain ⟨v, os, ds, rfl, hv, D, k⟩ := h
  have lo := len1 D.no
  have ld := len1 D.nd
  have ln := D.ln
  intro d hd
  have s1 := Same.new (o := .dK []) hd
  have hd1 : (upd H d (.dK [])) d = some (.dK []) := upd_same
  have hv1 := hv.mono s1
  generalize upd H d (.dK []) = H1 at s1 hv1 hd1
  obtain ⟨tv, va, vb, rfl, htv, ⟨po, rfl, hpo⟩, ⟨pd, rfl, hpd⟩⟩ := id hv1
  refine ⟨_, rfl, tv, _, _, _, rfl, rfl, htv, at_of (j := 0) rfl rfl, po, _, rfl, .inr hpo, os.length, by rw [List.length_map]; rfl, by omega, fun l1 xs H2 e2 hl1 hR1 => ?_⟩
  have hd2 := e2 _ _ hd1
  have n1 : l1 ≠ d := ne_of hl1 hd2 (by intro c; cases c)
  have lxs : xs.length = (ordL os.length os.length).length := Paired.length hR1
  refine ⟨l1, rfl, ⟨_, sql hl1⟩, for_list (K := K) (a := l1) (xs := xs) (fun i σ H' => ∃ (x y : Option V) (kvs : List (Key × V)), σ = [some (.ref tv), some (.ref d), x, y] ∧ FrA d H2 H' ∧ H' d = some (.dK kvs) ∧ KI os ds kvs (fun π τ => π ∈ (ordL os.length os.length).take i ∧ τ ∈ ordL ds.length ds.length)) ?_ ?_ ?_ ?_⟩
  · exact ⟨_, _, [], rfl, FrA.refl _ _, hd2, [], rfl, List.nodup_nil, fun n hn => absurd hn (by simp), fun π τ h => absurd h.1 (by simp)⟩
  · rintro i σ H' _ ⟨x, y, kvs, rfl, f, hk, hK⟩
    exact sql (f _ _ hl1 n1)
  · rintro i v σ H' hv' ⟨x, y, kvs, rfl, f, hk, hK⟩
    obtain ⟨π, hπ, hvπ⟩ := paired_at hR1 hv'
    have mπ := ord_perm.mp (List.mem_of_getElem? hπ)
    have tm := f.tameK hd2
    have hvH := (hv1.mono e2).tame tm
    have vπH := hvπ.tame tm
    refine ⟨_, rfl, tv, _, _, _, rfl, rfl, tm.t (e2.t htv), at_of (j := 1) rfl rfl, pd, _, rfl, .inr (tm.t (e2.t hpd)), ds.length, by rw [List.length_map]; rfl, by omega, fun l2 ys H3 e3 hl2 hR2 => ?_⟩
    have hd3 := e3 _ _ hk
    have n2 : l2 ≠ d := ne_of hl2 hd3 (by intro c; cases c)
    have lys : ys.length = (ordL ds.length ds.length).length := Paired.length hR2
    refine ⟨l2, rfl, ⟨_, sql hl2⟩, for_list (K := K) (a := l2) (xs := ys) (fun j σ H' => ∃ (y : Option V) (kvs : List (Key × V)), σ = [some (.ref tv), some (.ref d), some v, y] ∧ FrA d H3 H' ∧ H' d = some (.dK kvs) ∧
      KI os ds kvs (fun π' τ => (π' ∈ (ordL os.length os.length).take i ∧ τ ∈ ordL ds.length ds.length) ∨ (π' = π ∧ τ ∈ (ordL ds.length ds.length).take j))) ?_ ?_ ?_ ?_⟩
    · exact ⟨_, kvs, rfl, FrA.refl _ _, hd3, hK.weak fun π' τ h => by
        rcases h with h | h
        · exact h
        · exact absurd h.2 (by simp)⟩
    · rintro j σ H4 _ ⟨y, kvs, rfl, f4, hk4, hK4⟩
      exact sql (f4 _ _ hl2 n2)
    · rintro j u σ H4 hu ⟨y, kvs, rfl, f4, hk4, hK4⟩
      obtain ⟨τ, hτ, hvτ⟩ := paired_at hR2 hu
      have mτ := ord_perm.mp (List.mem_of_getElem? hτ)
      have tm4 := f4.tameK hd3
      refine ⟨_, rfl, _, rfl, _, rfl, _, rfl, .ref tv, v, u, os, ds, π, τ, rfl, (hvH.mono e3).tame tm4, (vπH.mono e3).tame tm4, hvτ.tame tm4, ⟨D.po, D.pd, D.hs⟩, ⟨by omega, by omega⟩, mπ, mτ, fun t ws H5 e5 ht hl => ?_⟩
      have hk5 := e5 _ _ hk4
      have bl := hK4.len
      refine ⟨t, ws, rfl, .inr ht, d, _, rfl, DPut.k (k := .inl (ws.length : Int)) hk5 (szt (by omega)), ?_⟩
      refine ⟨_, _, rfl, (f4.same e5).put, upd_same, ?_⟩
      rw [hl]
      refine KI.put (π := π) (τ := τ) hK4 mπ mτ (fun π' τ' hd' => ?_) _
      rcases hd' with hd' | ⟨rfl, hd'⟩
      · exact .inl (.inl hd')
      · rw [List.take_add_one, hτ] at hd'
        rcases List.mem_append.mp hd' with hd' | hd'
        · exact .inl (.inr ⟨rfl, hd'⟩)
        · exact .inr ⟨rfl, List.mem_singleton.mp hd'⟩
    · rintro σ H4 ⟨y, kvs, rfl, f4, hk4, hK4⟩
      refine ⟨_, _, kvs, rfl, fun b o hb nb => f4 _ _ (e3 _ _ (f _ _ hb nb)) nb, hk4, hK4.weak fun π' τ h => ?_⟩
      rw [List.take_add_one, hπ] at h
      rw [lys, List.take_length]
      rcases List.mem_append.mp h.1 with h1 | h1
      · exact .inl ⟨h1, h.2⟩
      · exact .inr ⟨List.mem_singleton.mp h1, h.2⟩
  · rintro σ H' ⟨x, y, kvs, rfl, f, hk, hK⟩
    have bl := hK.len
    obtain ⟨ns, h1, h2, h3, h4⟩ := hK
    have ek : (kvs.map fun kv => kV kv.1) = (nI ns).map V.int := by
      have e3 : (kvs.map fun kv => kV kv.1) = (kvs.map (·.1)).map kV := by
        rw [List.map_map]
        rfl
      rw [e3, h1, List.map_map]
      unfold nI
      rw [List.map_map]
      rfl
    have el : kvs.length = ns.length := by
      have := congrArg List.length h1
      rw [List.length_map, List.length_map] at this
      exact this
    refine ⟨_, rfl, d, kvs, rfl, hk, fun q hq => ?_⟩
    rw [ek]
    have s4 := Same.new (o := .lst ((nI ns).map V.int)) hq
    refine ⟨q, nI ns, rfl, sql upd_same, by unfold nI; rw [List.length_map]; omega, fun zs l hp hs hl => ?_⟩
    have e02 : Same H H' := fun b o hb => f _ _ (e2 _ _ (s1 _ _ hb)) (ne_of_none hb hd)
    refine k l zs _ ((e02.trans s4).trans (Same.new hl)) upd_same ?_
    have ez : zs.length = ns.length := by
      rw [hp.length_eq]
      unfold nI
      rw [List.length_map]
    rw [ez]
    refine one_len h2 h3 fun π τ a b => h4 π τ ⟨?_, ord_perm.mpr b⟩
    rw [lxs, List.take_length]
    exact ord_perm.mpr a
end
end K71
namespace K71
open PySem PySem.Spec PyProof.Rows L2
section
variable {P : Program} {w : World} {K : PySem.W.Frag} {mg : Str → Option Value} {base : Heap}
/-! ### the law's own most even parts -/
theorem bit1v (lot pl : Nat) : decide (V.int (Builtin.bitAnd ((lot : Int) / 2 ^ ((pl : Int)).toNat) 1) = V.int 1) = lot.testBit pl := by
  rw [bit1]
  cases lot.testBit pl <;> rfl
theorem sub1 {lot pl : Nat} (h : lot.testBit pl = true) : (lot : Int) - 1 * 2 ^ ((pl : Int)).toNat = ((lot - 2 ^ pl : Nat) : Int) := by
  have g := Nat.ge_two_pow_of_testBit h
  have e1 : (1 : Int) * 2 ^ ((pl : Int)).toNat = ((2 ^ pl : Nat) : Int) := by
    rw [Int.one_mul, Int.toNat_natCast, Int.natCast_pow]
    rfl
  rw [e1]
  omega
def sp_l_most_parts (K : PySem.W.Frag) : Sp := fun vs H Q _ => ∃ (v : V) (os ds : List Int), vs = [v] ∧ SumsT K H v os ds ∧ (PosL os ∧ PosL ds ∧ os.sum = ds.sum) ∧ os ≠ [] ∧ os.length + ds.length ≤ 14 ∧ ∀ (n : Int) (H' : Hp), Same H H' → (n = 1 ∨ ∃ I0 I1 J0 J1, Part os ds I0 I1 J0 J1) → Q (.int n) H'
theorem sc_l_most_parts : FnScope ["_law_sums_here", "_law_item", "_law_numbers", "_law_gaps", "_law_number", "_law_gap", "_law_best", "_law_lot", "_law_here", "_law_place"] ["_law_sums_here"] (defScope s_l_most_parts) := ⟨rfl, rfl, rfl, by decide +kernel, rfl, by decide +kernel, by decide +kernel⟩
/-- the body of _law_most_parts -/
theorem ok_l_most_parts {f : Addr} {fd : FuncData} (T : Txt K mg) (F : FnP K "_law_most_parts" "_law_most_parts" s_l_most_parts f fd)  : FnOk P w K mg base CX0 1 f fd ["_law_sums_here"] (sp_l_most_parts K) := by
  refine F.ok sc_l_most_parts (fun vs H Q E h => ?_) (fun cdv A outer s H vs Q E hr h => ⟨_, PSs.nox (pss_cons (ps_set (i := 2) sc_l_most_parts.nd rfl (Or.inl rfl) (pe_op op_cat (pe_callTy call_list_of (by rfl) T.list' (by decide +kernel) (pa_cons (pe_ix (ixT K) (pv 0) pe_int (fun _ _ => rfl)) pa_nil)) (pe_lc (own := [("_law_item", 1)]) (g := gName 1) (tt := tYes) rfl sc_l_most_parts.nd (pi_tup (pe_ix (ixT K) (pv 0) pe_int (fun _ _ => rfl))) (blkOk_by (N := ["_law_sums_here", "_law_item", "_law_numbers", "_law_gaps", "_law_number", "_law_gap", "_law_best", "_law_lot", "_law_here", "_law_place"]) (sc := defScope s_l_most_parts) (by decide +kernel)) (fun _ _ _ _ _ => pg_name (i := 1) sc_l_most_parts.nd rfl (Or.inl rfl)) (fun _ _ _ _ _ => pts_nil) (fun _ _ _ _ _ => (pe_un un_neg (pv 1))))))
    (pss_cons (ps_set (i := 3) sc_l_most_parts.nd rfl (Or.inl rfl) (pe_lst (pa_cons pe_int pa_nil)))
    (pss_cons (ps_for PassesOwn.never rfl (pi_list (pv 2)) (pg_name (i := 4) sc_l_most_parts.nd rfl (Or.inr rfl))
      (pss_one (ps_set (i := 3) sc_l_most_parts.nd rfl (Or.inl rfl) (pe_op op_cat (pv 3) (pe_lc (own := [("_law_gap", 5)]) (g := gName 5) (tt := tYes) rfl sc_l_most_parts.nd (pi_list (pv 3)) (blkOk_by (N := ["_law_sums_here", "_law_item", "_law_numbers", "_law_gaps", "_law_number", "_law_gap", "_law_best", "_law_lot", "_law_here", "_law_place"]) (sc := defScope s_l_most_parts) (by decide +kernel)) (fun _ _ _ _ _ => pg_name (i := 5) sc_l_most_parts.nd rfl (Or.inl rfl)) (fun _ _ _ _ _ => pts_nil) (fun _ _ _ _ _ => (pe_op op_add (pv 5) (pv 4))))))))
    (pss_cons (ps_set (i := 6) sc_l_most_parts.nd rfl (Or.inl rfl) (pe_op op_rep (pe_lst (pa_cons pe_int pa_nil)) (pe_callB call_len_seq (by rfl) T.len' (by decide +kernel) (pa_cons (pv 3) pa_nil))))
    (pss_cons (ps_for PassesOwn.never rfl (pi_range2 (by rfl) T.range (pa_cons pe_int (pa_cons (pe_callB call_len_seq (by rfl) T.len' (by decide +kernel) (pa_cons (pv 3) pa_nil)) pa_nil))) (pg_name (i := 7) sc_l_most_parts.nd rfl (Or.inl rfl))
      (pss_cons (ps_set (i := 8) sc_l_most_parts.nd rfl (Or.inl rfl) pe_int)
      (pss_cons (ps_for PassesOwn.never rfl (pi_range1 rfl T.range (pa_cons (pe_callB call_len_seq (by rfl) T.len' (by decide +kernel) (pa_cons (pv 2) pa_nil)) pa_nil)) (pg_name (i := 9) sc_l_most_parts.nd rfl (Or.inl rfl))
        (pss_one (ps_if (pt_cmpR op_eq (pe_op op_and (pe_op op_shr (pv 7) (pv 9)) pe_int) pe_int (nomark _))
          (pss_one (ps_set (i := 8) sc_l_most_parts.nd rfl (Or.inl rfl) (pe_callB (call_max2 rfl) (by rfl) T.max' (by decide +kernel) (pa_cons (pv 8) (pa_cons (pe_ix (ixL K) (pv 6) (pe_op op_sub (pv 7) (pe_op op_shl pe_int (pv 9))) (fun _ _ => rfl)) pa_nil)))))
          pss_nil)))
      (pss_one (ps_asg (pe_op op_add (pv 8) (pe_callTy call_int1 (by rfl) T.int' (by decide +kernel) (pa_cons (pe_cmpR op_eq (pe_ix (ixL K) (pv 3) (pv 7) (fun _ _ => rfl)) pe_int (nomark _)) pa_nil))) (pg_sub (pv 6) (pv 7) set_list))))))
    (pss_one (ps_ret (pe_ix (ixL K) (pv 6) (pe_op op_sub (pe_callB call_len_seq (by rfl) T.len' (by decide +kernel) (pa_cons (pv 3) pa_nil)) pe_int) (fun _ _ => rfl))))))))), ?_⟩)
  · first | (obtain ⟨_, rfl, _⟩ := h; rfl) | (obtain ⟨_, _, rfl, _⟩ := h; rfl) | (obtain ⟨_, _, _, rfl, _⟩ := h; rfl) | (obtain ⟨_, _, _, _, rfl, _⟩ := h; rfl) | (obtain ⟨_, _, _, _, _, rfl, _⟩ := h; rfl) | (obtain ⟨_, _, _, _, _, _, rfl, _⟩ := h; rfl) | (obtain ⟨_, _, _, _, _, _, _, rfl, _⟩ := h; rfl) | (obtain ⟨_, _, _, _, _, _, _, _, rfl, _⟩ := h; rfl) | (obtain ⟨_, _, _, _, _, _, _, _, _, rfl, _⟩ := h; rfl) | (obtain ⟨_, _, _, _, _, _, _, _, _, _, rfl, _⟩ := h; rfl) | (obtain ⟨_, _, _, _, _, _, _, _, _, _, _, rfl, _⟩ := h; rfl) | (obtain ⟨_, _, _, _, _, _, _, _, _, _, _, _, rfl, _⟩ := h; rfl)
  obtain ⟨v, os, ds, rfl, ⟨t, va, vb, rfl, ht, ⟨po, rfl, ho⟩, ⟨pd, rfl, hd⟩⟩, ⟨Po, Pd, hs⟩, no, h14, k⟩ := h
  have hN : NN os ds ≤ 14 := h14
  have pN := pow14 hN
  have p0 := Nat.two_pow_pos (NN os ds)
  refine ⟨_, rfl, t, _, _, _, rfl, rfl, ht, at_of (j := 0) rfl rfl, po, _, rfl, .inr ho, fun l1 hl1 => ?_⟩
  have s1 := Same.new (o := .lst (os.map V.int)) hl1
  refine ⟨_, rfl, t, _, _, _, rfl, rfl, s1.t ht, at_of (j := 1) rfl rfl, pd, rfl, ⟨_, s1.t hd⟩, fun D1 hD1 => ?_⟩
  refine lc_tupR (K := K) (a := pd) (xs := ds.map V.int) (fun i v _ => ∀ x, ds[i]? = some x → v = .int (-x)) (fun _ _ _ _ _ r => r) hD1 (s1.t hd) (szl (by rw [List.length_map]; omega)) (fun i x H4 hx e Q' hq => ?_) (fun ys H4 e4 hD4 hl hy => ?_)
  · obtain ⟨n, hn, rfl⟩ := at_map hx
    refine ⟨_, rfl, n, rfl, hq _ _ (Same.refl _) fun x hx => ?_⟩
    rw [hn] at hx
    cases hx
    rfl
  have ey : ys = (ds.map fun x => -x).map V.int := by
    rw [List.map_map]
    exact list_of_map (by rw [hl, List.length_map]) fun i y x hy' hx => hy i y hy' x hx
  subst ey
  refine ⟨l1, D1, _, _, rfl, rfl, e4 _ _ upd_same, hD4, szl (by rw [List.length_map, List.length_map, List.length_map]; omega), fun L hL => ?_⟩
  rw [← List.map_append]
  have s5 := Same.new (o := .lst ((os ++ ds.map fun x => -x).map V.int)) hL
  have e05 := (s1.trans e4).trans s5
  have hL5 : (upd H4 L (.lst ((os ++ ds.map fun x => -x).map V.int))) L = some (.lst ((nums os ds).map V.int)) := upd_same
  generalize upd H4 L (.lst ((os ++ ds.map fun x => -x).map V.int)) = H5 at e05 hL5
  have mL : ((nums os ds).map V.int).length = NN os ds := by rw [List.length_map, nums_len]
  refine ⟨(by show 1 ≤ sizeLine; decide), fun g0 hg0 => ?_⟩
  have s6 := Same.new (o := .lst [.int 0]) hg0
  refine ⟨_, rfl, L, rfl, ⟨_, sql (s6 _ _ hL5)⟩, for_list (K := K) (a := L) (xs := (nums os ds).map V.int) (fun i σ H' => ∃ (lg : Addr) (z1 z4 z5 z6 z7 z8 z9 : Option V), σ = [some (.ref t), z1, some (.ref L), some (.ref lg), z4, z5, z6, z7, z8, z9] ∧ Same H5 H' ∧ H' lg = some (.lst ((gapsL ((nums os ds).take i)).map V.int))) ?_ ?_ ?_ ?_⟩
  · refine ⟨g0, _, _, _, _, _, _, _, rfl, s6, ?_⟩
    rw [List.take_zero, gapsL_nil]
    exact upd_same
  · rintro i σ H' _ ⟨lg, z1, z4, z5, z6, z7, z8, z9, rfl, e, _⟩
    exact sql (e _ _ hL5)
  · rintro i x σ H' hx ⟨lg, z1, z4, z5, z6, z7, z8, z9, rfl, e, hg⟩
    obtain ⟨n, hn, rfl⟩ := at_map hx
    have hi : i < NN os ds := by
      have := (List.getElem?_eq_some_iff.mp hn).1
      rw [nums_len] at this
      exact this
    have h13 : i ≤ 13 := by omega
    have lt : ((nums os ds).take i).length = i := by
      rw [List.length_take, nums_len]
      omega
    have lg' : ((gapsL ((nums os ds).take i)).map V.int).length = 2 ^ i := by rw [List.length_map, gapsL_len, lt]
    have p13 : 2 ^ i ≤ 8192 := Nat.le_trans (Nat.pow_le_pow_right (by decide) h13) (by decide)
    refine ⟨_, rfl, _, rfl, lg, rfl, ⟨_, sql hg⟩, fun D2 hD2 => ?_⟩
    refine lc_listR (K := K) (a := lg) (xs := (gapsL ((nums os ds).take i)).map V.int) (fun j v _ => ∀ x, (gapsL ((nums os ds).take i))[j]? = some x → v = .int (x + n)) (fun _ _ _ _ _ r => r) hD2 (sql hg) (szl (by omega)) (fun j x H5 hx e Q' hq => ?_) (fun ys H5 e5 hD5 hl hy => ?_)
    · obtain ⟨y, hy, rfl⟩ := at_map hx
      refine ⟨_, rfl, _, rfl, _, _, rfl, rfl, hq _ _ (Same.refl _) fun x hx => ?_⟩
      rw [hy] at hx
      cases hx
      rfl
    · have ey : ys = ((gapsL ((nums os ds).take i)).map (· + n)).map V.int := by
        rw [List.map_map]
        exact list_of_map (by rw [hl, List.length_map]) fun i y x hy' hx => hy i y hy' x hx
      subst ey
      refine ⟨lg, D2, _, _, rfl, rfl, e5 _ _ hg, hD5, szl (by rw [lg', List.length_map, List.length_map, gapsL_len, lt]; omega), fun pn hpn => ?_⟩
      rw [← List.map_append, ← gapsL_snoc]
      have s7 := Same.new (o := .lst ((gapsL ((nums os ds).take i ++ [n])).map V.int)) hpn
      refine ⟨pn, _, _, _, _, _, _, _, rfl, (e.trans e5).trans s7, ?_⟩
      rw [upd_same, List.take_add_one, hn]
      rfl
  · rintro σ H6 ⟨lg, z1, z4, z5, z6, z7, z8, z9, rfl, e6, hg⟩
    have el : ((nums os ds).map V.int).length = (nums os ds).length := by rw [List.length_map]
    rw [el, List.take_length] at hg
    have gl : ((gapsL (nums os ds)).map V.int).length = 2 ^ NN os ds := by rw [List.length_map, gapsL_len, nums_len]
    refine ⟨(by show 1 ≤ sizeLine; decide), fun b0 hb0 => ?_⟩
    have s7 := Same.new (o := .lst [.int 0]) hb0
    refine ⟨_, rfl, lg, _, rfl, .inl (sql (s7 _ _ hg)), b0, _, _, rfl, rfl, upd_same, by rw [gl]; omega, by rw [gl]; omega, szl (by rw [gl, Int.toNat_natCast, List.length_singleton]; omega), fun lb hlb => ?_⟩
    rw [gl]
    have s8 := Same.new (o := .lst (List.replicate (((2 ^ NN os ds : Nat) : Int)).toNat [V.int 0]).flatten) hlb
    have hB : (upd (upd H6 b0 (.lst [.int 0])) lb (.lst (List.replicate (((2 ^ NN os ds : Nat) : Int)).toNat [V.int 0]).flatten)) lb = some (.lst ((List.replicate (2 ^ NN os ds) (0 : Int)).map V.int)) := by
      rw [upd_same, Int.toNat_natCast, rep_flat, List.map_replicate]
    have e08 := e05.trans (e6.trans (s7.trans s8))
    have hlb0 : H lb = none := e05.free (e6.free (s7.free hlb))
    have nlb : lg ≠ lb := ne_of_none (s7 _ _ hg) hlb
    have nLb : L ≠ lb := ne_of_none (s7 _ _ (e6 _ _ hL5)) hlb
    have hg8 := s8 _ _ (s7 _ _ hg)
    have hL8 := s8 _ _ (s7 _ _ (e6 _ _ hL5))
    generalize upd (upd H6 b0 (.lst [.int 0])) lb (.lst (List.replicate (((2 ^ NN os ds : Nat) : Int)).toNat [V.int 0]).flatten) = H8 at e08 hB hg8 hL8
    refine ⟨_, rfl, lg, _, rfl, .inl (sql hg8), 1, ((2 ^ NN os ds : Nat) : Int), by rw [gl], ⟨by decide, by decide, by omega, by omega⟩, for_range (lo := 1) (n := (((2 ^ NN os ds : Nat) : Int) - 1).toNat) (fun i σ H' => ∃ (b : List Int) (z1 z4 z5 z7 z8 z9 : Option V), σ = [some (.ref t), z1, some (.ref L), some (.ref lg), z4, z5, some (.ref lb), z7, z8, z9] ∧ FrA lb H8 H' ∧ H' lb = some (.lst (b.map V.int)) ∧ BInv (G os ds) (2 ^ NN os ds) (1 + i) b) ?_ ?_ ?_⟩
    · exact ⟨_, _, _, _, _, _, _, rfl, FrA.refl _ _, hB, BInv.start _ _⟩
    · rintro i σ H9 hi ⟨b, z1, z4, z5, z7, z8, z9, rfl, f9, hb9, B⟩
      have hi : 1 + i < 2 ^ NN os ds := by omega
      have ei : (1 : Int) + (i : Int) = ((1 + i : Nat) : Int) := by omega
      rw [ei]
      generalize hlot : 1 + i = lot at hi B
      have lot0 : lot ≠ 0 := by omega
      have hg9 := f9 _ _ hg8 nlb
      have hL9 := f9 _ _ hL8 nLb
      refine ⟨_, rfl, L, _, rfl, .inl (sql hL9), (NN os ds : Int), by rw [mL], by omega, by omega, for_range (lo := 0) (n := NN os ds) (fun j σ H' => ∃ (x : Int) (z9 : Option V), σ = [some (.ref t), z1, some (.ref L), some (.ref lg), z4, z5, some (.ref lb), some (.int (lot : Int)), some (.int x), z9] ∧ H' = H9 ∧ HereI (G os ds) lot x) ?_ ?_ ?_⟩
      · exact ⟨0, _, rfl, rfl, Int.le_refl _, fun h => absurd h (by decide)⟩
      · rintro j σ H' hj ⟨x, z9, rfl, rfl, hx⟩
        have hj : j < NN os ds := hj
        have ej : (0 : Int) + (j : Int) = ((j : Nat) : Int) := by omega
        rw [ej]
        refine ⟨_, rfl, _, rfl, _, _, rfl, rfl, by omega, _, _, rfl, rfl, rfl, _, rfl, ?_⟩
        dsimp only
        rw [bit1v]
        refine ite2 (fun c => ?_) (fun c => ?_)
        · obtain ⟨y, hy, hy2⟩ := get_int (xs := b) (i := lot - 2 ^ j) (by rw [B.ln]; exact Nat.lt_of_le_of_lt (Nat.sub_le _ _) hi)
          refine ⟨_, rfl, _, rfl, _, rfl, _, rfl, _, _, rfl, rfl, shl_ok (by omega), _, _, rfl, rfl, lb, _, _, .int y, rfl, rfl, sql hb9, at_of (sub1 c) hy2, _, _, rfl, ?_⟩
          exact ⟨_, _, rfl, rfl, B.here c hx hy⟩
        · exact ⟨_, _, rfl, rfl, hx⟩
      · rintro σ H' ⟨x, z9, rfl, rfl, hx⟩
        refine ⟨_, rfl, _, rfl, _, rfl, lg, _, _, .int (G os ds lot), rfl, rfl, sql hg9, at_of rfl (gaps_at hi), rfl, .inr ⟨_, rfl, _, _, rfl, rfl, _, rfl, _, rfl, lb, _, _, lot, rfl, rfl, hb9, ixN_nat (by rw [List.length_map, B.ln]; exact hi), ?_⟩⟩
        refine ⟨b.set lot (x + (if decide (V.int (G os ds lot) = V.int 0) = true then 1 else 0)), _, _, _, _, _, _, rfl, f9.put, ?_, ?_⟩
        · rw [upd_same, List.map_set]
        · have e2 : 1 + (i + 1) = lot + 1 := by omega
          rw [e2]
          refine B.put lot0 hi hx ?_
          congr 1
          by_cases c : G os ds lot = 0
          · rw [c, if_pos rfl, if_pos (decide_eq_true rfl)]
          · rw [if_neg c, if_neg (by simpa using c)]
    · rintro σ H9 ⟨b, z1, z4, z5, z7, z8, z9, rfl, f9, hb9, B⟩
      have eN : 1 + (((2 ^ NN os ds : Nat) : Int) - 1).toNat = 2 ^ NN os ds := by omega
      rw [eN] at B
      have hg9 := f9 _ _ hg8 nlb
      obtain ⟨x, hx, hx2⟩ := get_int (xs := b) (i := 2 ^ NN os ds - 1) (by rw [B.ln]; omega)
      refine ⟨_, rfl, _, rfl, lg, _, rfl, .inl (sql hg9), _, _, rfl, rfl, lb, _, _, .int x, rfl, rfl, sql hb9, at_of (by rw [gl]; omega) hx2, ?_⟩
      exact k x H9 (fun a o ha => f9 _ _ (e08 _ _ ha) (ne_of_none ha hlb0)) (B.fin Po Pd hs no hx)
end
end K71
namespace K71
open PySem PySem.Spec PyProof.Rows L2
section
variable {P : Program} {w : World} {K : PySem.W.Frag} {mg : Str → Option Value} {base : Heap}
/-! ### the law's own judge of what is told -/
theorem SumD.ev {os ds : List Int} {n : Nat} {p q : Int} (D : SumD os ds n) (h : n ≤ 50) (u : Unit2 p q) : EvD p q os ds where
  u := u
  no := D.no
  nd := D.nd
  po := D.po
  pd := D.pd
  hs := D.hs
  bd := by have := D.bd; omega
  lo := by have := D.ln; omega
  ld := by have := D.ln; omega
theorem FrA.tame' {d : Addr} {xs : List V} {H H' : Hp} (f : FrA d H H') (h : H d = some (.lst xs)) : Tame H H' := fun x ys hx => by
  have ne : x ≠ d := fun e => by
    subst e
    rcases hx with hx | ⟨o, hx⟩
    · rw [h] at hx
      cases hx
    · rw [h] at hx
      cases hx
  rcases hx with hx | ⟨o, hx⟩
  · exact .inl (f _ _ hx ne)
  · exact .inr ⟨o, f _ _ hx ne⟩
theorem Ords.tame {H H' : Hp} {v : V} {r : List Nat × List Nat} (e : Tame H H') (h : Ords K H v r) : Ords K H' v r := by
  obtain ⟨t, va, vb, h1, h2, h3, h4⟩ := h
  exact ⟨t, va, vb, h1, e.t h2, h3.tame e, h4.tame e⟩
theorem EvAt.tameE {d : Addr} {xs : List V} {H H' : Hp} {v : V} {p q : Int} {os ds : List Int} (h : EvAt K H v p q os ds) (f : FrA d H H') (hd : H d = some (.lst xs)) : EvAt K H' v p q os ds := by
  obtain ⟨a, dx, vo, vd, h1, h2, h3, h4⟩ := h
  have n : a ≠ d := ne_of h2 hd (by intro c; cases c)
  exact ⟨a, dx, vo, vd, h1, f _ _ h2 n, h3.tame (f.tame' hd), h4.tame (f.tame' hd)⟩
def sp_l_right (K : PySem.W.Frag) : Sp := fun vs H Q _ => ∃ (v w u : V) (p q : Int) (os ds : List Int) (r : (List Nat × List Nat) × (List Nat × List Nat)), vs = [v, w, u] ∧ SumsT K H v os ds ∧ EvAt K H w p q os ds ∧ EvD p q os ds ∧ Told K H u (some r) ∧ unlikeM os ds = some r ∧ ∀ H', Same H H' → Q (.bl true) H'
theorem sc_l_right : FnScope ["_law_sums_here", "_law_evening_here", "_law_told", "_law_numbers", "_law_orders_here"] ["_law_sums_here", "_law_evening_here", "_law_told"] (defScope s_l_right) := ⟨rfl, rfl, rfl, by decide +kernel, rfl, by decide +kernel, by decide +kernel⟩
/-- the body of _law_right -/
theorem ok_l_right {f : Addr} {fd : FuncData} (T : Txt K mg) (F : FnP K "_law_right" "_law_right" s_l_right f fd) (D_queue_number : Dn P w K mg base "queue_number" ["evening", "owers", "takers"] 7 (sp_queue_number K)) (D_l_is_order : Dn P w K mg base "_law_is_order" ["_law_many", "_law_thing"] 2 (sp_l_is_order K)) (D_l_queue_way : Dn P w K mg base "_law_queue_way" ["_law_sums_here", "_law_owers", "_law_takers"] 2 (sp_l_queue_way K)) : FnOk P w K mg base CX0 8 f fd ["_law_sums_here", "_law_evening_here", "_law_told"] (sp_l_right K) := by
  refine F.ok sc_l_right (fun vs H Q E h => ?_) (fun cdv A outer s H vs Q E hr h => ⟨_, PSs.nox (pss_cons (ps_if (PW.pt (pw_or (pt_not (pt_val (pe_callB (isi K) (by rfl) T.isinstance' (by decide +kernel) (pa_cons (pv 2) (pa_cons (pe_bltn (by rfl) T.tuple' (by decide +kernel) (show RelV (.ty "tuple") (.type "tuple") from rfl)) pa_nil))))) (pw_or1 (pt_cmpR op_ne (pe_callB call_len_seq (by rfl) T.len' (by decide +kernel) (pa_cons (pv 2) pa_nil)) pe_int (nomark _)))))
      (pss_one (ps_ret pe_bl))
      pss_nil)
    (pss_cons (ps_set (i := 3) sc_l_right.nd rfl (Or.inl rfl) (pe_lst pa_nil))
    (pss_cons (ps_for PassesOwn.never rfl (pi_tup (pv 2)) (pg_name (i := 4) sc_l_right.nd rfl (Or.inl rfl))
      (pss_cons (ps_if (PW.pt (pw_or (pt_not (pt_val (pe_callB (isi K) (by rfl) T.isinstance' (by decide +kernel) (pa_cons (pv 4) (pa_cons (pe_bltn (by rfl) T.tuple' (by decide +kernel) (show RelV (.ty "tuple") (.type "tuple") from rfl)) pa_nil))))) (pw_or1 (pt_cmpR op_ne (pe_callB call_len_seq (by rfl) T.len' (by decide +kernel) (pa_cons (pv 4) pa_nil)) pe_int (nomark _)))))
        (pss_one (ps_ret pe_bl))
        pss_nil)
      (pss_cons (ps_if (PW.pt (pw_or (pt_not (pt_val (pe_dn D_l_is_order (hr.mono (by decide)) rfl (pa_cons (pe_callB call_len_seq (by rfl) T.len' (by decide +kernel) (pa_cons (pe_ix (ixT K) (pv 0) pe_int (fun _ _ => rfl)) pa_nil)) (pa_cons (pe_ix (ixT K) (pv 4) pe_int (fun _ _ => rfl)) pa_nil))))) (pw_or1 (pt_not (pt_val (pe_dn D_l_is_order (hr.mono (by decide)) rfl (pa_cons (pe_callB call_len_seq (by rfl) T.len' (by decide +kernel) (pa_cons (pe_ix (ixT K) (pv 0) pe_int (fun _ _ => rfl)) pa_nil)) (pa_cons (pe_ix (ixT K) (pv 4) pe_int (fun _ _ => rfl)) pa_nil))))))))
        (pss_one (ps_ret pe_bl))
        pss_nil)
      (pss_cons (ps_expr (pe_bm PySem.F.plainAttrs_list PySem.F.slot_list_append PySem.F.type_list_append mt_append (pv 3) (pa_cons (pe_callB call_len_seq (by rfl) T.len' (by decide +kernel) (pa_cons (pe_dn D_l_queue_way (hr.mono (by decide)) rfl (pa_cons (pv 0) (pa_cons (pe_ix (ixT K) (pv 4) pe_int (fun _ _ => rfl)) (pa_cons (pe_ix (ixT K) (pv 4) pe_int (fun _ _ => rfl)) pa_nil)))) pa_nil)) pa_nil)))
      (pss_one (ps_if (pt_cmpR op_ne (pe_dn D_queue_number (hr.mono (by decide)) rfl (pa_cons (pv 1) (pa_cons (pe_ix (ixT K) (pv 4) pe_int (fun _ _ => rfl)) (pa_cons (pe_ix (ixT K) (pv 4) pe_int (fun _ _ => rfl)) pa_nil)))) (pe_ix (ixL K) (pv 3) (pe_un un_neg pe_int) (fun _ _ => rfl)) (nomark _))
        (pss_one (ps_ret pe_bl))
        pss_nil))))))
    (pss_one (ps_ret (pe_cmpR op_ne (pe_ix (ixL K) (pv 3) pe_int (fun _ _ => rfl)) (pe_ix (ixL K) (pv 3) pe_int (fun _ _ => rfl)) (nomark _))))))), ?_⟩)
  · first | (obtain ⟨_, rfl, _⟩ := h; rfl) | (obtain ⟨_, _, rfl, _⟩ := h; rfl) | (obtain ⟨_, _, _, rfl, _⟩ := h; rfl) | (obtain ⟨_, _, _, _, rfl, _⟩ := h; rfl) | (obtain ⟨_, _, _, _, _, rfl, _⟩ := h; rfl) | (obtain ⟨_, _, _, _, _, _, rfl, _⟩ := h; rfl) | (obtain ⟨_, _, _, _, _, _, _, rfl, _⟩ := h; rfl) | (obtain ⟨_, _, _, _, _, _, _, _, rfl, _⟩ := h; rfl) | (obtain ⟨_, _, _, _, _, _, _, _, _, rfl, _⟩ := h; rfl) | (obtain ⟨_, _, _, _, _, _, _, _, _, _, rfl, _⟩ := h; rfl) | (obtain ⟨_, _, _, _, _, _, _, _, _, _, _, rfl, _⟩ := h; rfl) | (obtain ⟨_, _, _, _, _, _, _, _, _, _, _, _, rfl, _⟩ := h; rfl)
  obtain ⟨v, w, u, p, q, os, ds, r, rfl, hv, hw, D, ⟨tt, u1, u2, rfl, htt, ho1, ho2⟩, hr, k⟩ := h
  obtain ⟨⟨q1, q2⟩, ⟨q3, q4⟩, ne⟩ := told_some D (r1 := r.1) (r2 := r.2) hr
  have lo := D.lo
  have ld := D.ld
  refine ⟨_, rfl, _, _, _, _, true, rfl, .ty "tuple", ty_tup htt, kit_ty (by decide +kernel), true, rfl, iteF ?_⟩
  refine ⟨_, rfl, tt, _, rfl, .inr htt, rfl, _, rfl, iteF ?_⟩
  refine ⟨Nat.zero_le _, fun ln hln => ?_⟩
  have s1 := Same.new (o := .lst []) hln
  have h1 : (upd H ln (.lst [])) ln = some (.lst []) := upd_same
  have hv := hv.mono s1
  have hw := hw.mono s1
  have htt := s1.t htt
  have ho1 := ho1.mono s1
  have ho2 := ho2.mono s1
  generalize upd H ln (.lst []) = H1 at s1 h1 hv hw htt ho1 ho2
  refine ⟨_, rfl, tt, rfl, ⟨_, htt⟩, for_tup (K := K) (a := tt) (xs := [u1, u2]) (fun i σ H' => ∃ x : Option V, σ = [some v, some w, some (.ref tt), some (.ref ln), x] ∧ FrA ln H1 H' ∧ H' ln = some (.lst ((([((qway os ds r.1.1 r.1.2).length : Int), ((qway os ds r.2.1 r.2.2).length : Int)] : List Int).take i).map V.int))) ?_ ?_ ?_ ?_⟩
  · exact ⟨_, rfl, FrA.refl _ _, h1⟩
  · rintro i σ H' _ ⟨x, rfl, f, _⟩
    exact (f.tame' h1).t htt
  · rintro i z σ H' hz ⟨x, rfl, f, hl⟩
    have tm := f.tame' h1
    obtain ⟨π, τ, ⟨t, va, vb, rfl, ht, ha, hb⟩, hπ, hτ, hi⟩ : ∃ (π τ : List Nat), Ords K H' z (π, τ) ∧ π.Perm (List.range os.length) ∧ τ.Perm (List.range ds.length) ∧ ([((qway os ds r.1.1 r.1.2).length : Int), ((qway os ds r.2.1 r.2.2).length : Int)] : List Int)[i]? = some ((qway os ds π τ).length : Int) := by
      match i, hz with
      | 0, hz =>
        have hz := Option.some.inj hz
        exact ⟨r.1.1, r.1.2, hz ▸ ho1.tame tm, q1, q2, rfl⟩
      | 1, hz =>
        have hz := Option.some.inj hz
        exact ⟨r.2.1, r.2.2, hz ▸ ho2.tame tm, q3, q4, rfl⟩
      | i + 2, hz => cases hz
    have hv := hv.tame tm
    have hw := hw.tameE f h1
    have hl2 : ((([((qway os ds r.1.1 r.1.2).length : Int), ((qway os ds r.2.1 r.2.2).length : Int)] : List Int).take i).map V.int).length ≤ 2 := by
      rw [List.length_map, List.length_take]
      exact Nat.min_le_right _ _
    have hl3 : (([((qway os ds r.1.1 r.1.2).length : Int), ((qway os ds r.2.1 r.2.2).length : Int)] : List Int).take i).map V.int ++ [V.int ((qway os ds π τ).length : Int)] = (([((qway os ds r.1.1 r.1.2).length : Int), ((qway os ds r.2.1 r.2.2).length : Int)] : List Int).take (i + 1)).map V.int := by
      rw [List.take_add_one, hi, List.map_append]
      rfl
    obtain ⟨tv, vo, vd, rfl, htv, ⟨po, rfl, hpo⟩, ⟨pd, rfl, hpd⟩⟩ := id hv
    refine ⟨_, rfl, _, _, _, _, true, rfl, .ty "tuple", ty_tup ht, kit_ty (by decide +kernel), true, rfl, iteF ?_⟩
    refine ⟨_, rfl, t, _, rfl, .inr ht, rfl, _, rfl, iteF ?_⟩
    refine ⟨_, rfl, tv, _, _, _, rfl, rfl, htv, at_of (j := 0) rfl rfl, po, _, rfl, .inr hpo, _, rfl, t, _, _, _, rfl, rfl, ht, at_of (j := 0) rfl rfl, va, os.length, π, by rw [List.length_map]; rfl, ha, hπ, lo, fun H2 e2 => ⟨true, rfl, iteF ?_⟩⟩
    refine ⟨_, rfl, tv, _, _, _, rfl, rfl, e2.t htv, at_of (j := 1) rfl rfl, pd, _, rfl, .inr (e2.t hpd), _, rfl, t, _, _, _, rfl, rfl, e2.t ht, at_of (j := 1) rfl rfl, vb, ds.length, τ, by rw [List.length_map]; rfl, hb.mono e2, hτ, ld, fun H3 e3 => ⟨true, rfl, iteF ?_⟩⟩
    have e23 := e2.trans e3
    refine ⟨_, rfl, .inl ⟨rfl, _, sql (e23 _ _ hl)⟩, _, rfl, _, rfl, t, _, _, _, rfl, rfl, e23.t ht, at_of (j := 0) rfl rfl, _, rfl, t, _, _, _, rfl, rfl, e23.t ht, at_of (j := 1) rfl rfl, .ref tv, va, vb, os, ds, π, τ, rfl, hv.mono e23, ha.mono e23, hb.mono e23, ⟨D.po, D.pd, D.hs⟩, ⟨lo, ld⟩, hπ, hτ, fun t4 ws H4 e4 ht4 hl4 => ?_⟩
    have e24 := e23.trans e4
    refine ⟨t4, ws, rfl, .inr ht4, ln, _, _, rfl, rfl, e24 _ _ hl, szt (by omega), ?_⟩
    rw [hl4]
    have f5 : FrA ln H1 (upd H4 ln (.lst (((([((qway os ds r.1.1 r.1.2).length : Int), ((qway os ds r.2.1 r.2.2).length : Int)] : List Int).take i).map V.int) ++ [V.int ((qway os ds π τ).length : Int)]))) := (f.same e24).put
    have h5 : (upd H4 ln (.lst (((([((qway os ds r.1.1 r.1.2).length : Int), ((qway os ds r.2.1 r.2.2).length : Int)] : List Int).take i).map V.int) ++ [V.int ((qway os ds π τ).length : Int)]))) ln = some (.lst (((([((qway os ds r.1.1 r.1.2).length : Int), ((qway os ds r.2.1 r.2.2).length : Int)] : List Int).take i).map V.int) ++ [V.int ((qway os ds π τ).length : Int)])) := upd_same
    have f45 : FrA ln H' (upd H4 ln (.lst (((([((qway os ds r.1.1 r.1.2).length : Int), ((qway os ds r.2.1 r.2.2).length : Int)] : List Int).take i).map V.int) ++ [V.int ((qway os ds π τ).length : Int)]))) := ((FrA.refl _ _).same e24).put
    have tm5 := f45.tame' hl
    generalize upd H4 ln (.lst (((([((qway os ds r.1.1 r.1.2).length : Int), ((qway os ds r.2.1 r.2.2).length : Int)] : List Int).take i).map V.int) ++ [V.int ((qway os ds π τ).length : Int)])) = H5 at f5 h5 f45 tm5
    refine ⟨_, rfl, _, rfl, t, _, _, _, rfl, rfl, tm5.t ht, at_of (j := 0) rfl rfl, _, rfl, t, _, _, _, rfl, rfl, tm5.t ht, at_of (j := 1) rfl rfl, w, va, vb, p, q, os, ds, π, τ, rfl, hw.tameE f45 hl, D, ha.tame tm5, hb.tame tm5, hπ, hτ, fun H6 e6 => ?_⟩
    refine ⟨_, rfl, 1, rfl, ln, _, _, _, rfl, rfl, sql (e6 _ _ h5), last_at _ _, rfl, _, rfl, ?_⟩
    refine ite2 (fun c => ?_) (fun c => ?_)
    · simp at c
    · refine ⟨_, rfl, f5.same e6, ?_⟩
      rw [← hl3]
      exact e6 _ _ h5
  · rintro σ H' ⟨x, rfl, f, hl⟩
    refine ⟨_, rfl, ln, _, _, _, rfl, rfl, sql hl, at_of (j := 0) rfl rfl, _, rfl, ln, _, _, _, rfl, rfl, sql hl, at_of (j := 1) rfl rfl, rfl, ?_⟩
    have en : (!decide (V.int ((qway os ds r.1.1 r.1.2).length : Int) = V.int ((qway os ds r.2.1 r.2.2).length : Int))) = true := by
      simp
      omega
    refine val_then (R := Q) (congrArg V.bl en) (k _ fun b o hb => f _ _ (s1 _ _ hb) (ne_of_none hb hln))
def sp_l_fourteen_hold (K : PySem.W.Frag) : Sp := fun vs H Q _ => ∃ a : Addr, vs = [.ref a] ∧ Src H a ∧ ∀ H', FrA a H H' → Q (.bl true) H'
theorem sc_l_fourteen_hold : FnScope ["_law_source_here", "_law_sums_here", "_law_evening_here", "_law_told"] ["_law_source_here"] (defScope s_l_fourteen_hold) := ⟨rfl, rfl, rfl, by decide +kernel, rfl, by decide +kernel, by decide +kernel⟩
/-- the body of _law_fourteen_hold -/
theorem ok_l_fourteen_hold {f : Addr} {fd : FuncData} (T : Txt K mg) (F : FnP K "_law_fourteen_hold" "_law_fourteen_hold" s_l_fourteen_hold f fd) (D_l_together : Dn P w K mg base "_law_together" ["_law_source_here", "_law_parts", "_law_most"] 6 (sp_l_together K)) (D_l_evening : Dn P w K mg base "_law_evening" ["_law_sums_here", "_law_unit_here"] 7 (sp_l_evening K)) (D_unlike_queues : Dn P w K mg base "unlike_queues" ["evening"] 8 (sp_unlike_queues K)) (D_l_unit : Dn P w K mg base "_law_unit" ["_law_source_here"] 2 (sp_l_unit K)) (D_l_right : Dn P w K mg base "_law_right" ["_law_sums_here", "_law_evening_here", "_law_told"] 8 (sp_l_right K)) (D_l_queue_unit : Dn P w K mg base "_law_queue_unit" ["_law_sums_here"] 1 (sp_l_queue_unit K)) (D_l_most_parts : Dn P w K mg base "_law_most_parts" ["_law_sums_here"] 1 (sp_l_most_parts K)) : FnOk P w K mg base CX0 9 f fd ["_law_source_here"] (sp_l_fourteen_hold K) := by
  refine F.ok sc_l_fourteen_hold (fun vs H Q E h => ?_) (fun cdv A outer s H vs Q E hr h => ⟨_, PSs.nox (pss_cons (ps_set (i := 1) sc_l_fourteen_hold.nd rfl (Or.inl rfl) (pe_dn D_l_together (hr.mono (by decide)) rfl (pa_cons (pv 0) (pa_cons pe_int (pa_cons pe_int pa_nil)))))
    (pss_cons (ps_set (i := 2) sc_l_fourteen_hold.nd rfl (Or.inl rfl) (pe_dn D_l_evening (hr.mono (by decide)) rfl (pa_cons (pv 1) (pa_cons (pe_dn D_l_unit (hr.mono (by decide)) rfl (pa_cons (pv 0) pa_nil)) pa_nil))))
    (pss_cons (ps_set (i := 3) sc_l_fourteen_hold.nd rfl (Or.inl rfl) (pe_dn D_unlike_queues (hr.mono (by decide)) rfl (pa_cons (pv 2) pa_nil)))
    (pss_cons (ps_if (pt_cmpR op_notN (pv 3) pe_non (nomark _))
      (pss_one (ps_ret (pe_dn D_l_right (hr.mono (by decide)) rfl (pa_cons (pv 1) (pa_cons (pv 2) (pa_cons (pv 3) pa_nil))))))
      pss_nil)
    (pss_one (ps_ret (pe_or (pe_cmpR op_notN (pe_dn D_l_queue_unit (hr.mono (by decide)) rfl (pa_cons (pv 1) pa_nil)) pe_non (nomark _)) (pe_one (pe_cmpR op_eq (pe_dn D_l_most_parts (hr.mono (by decide)) rfl (pa_cons (pv 1) pa_nil)) pe_int (nomark _)))))))))), ?_⟩)
  · first | (obtain ⟨_, rfl, _⟩ := h; rfl) | (obtain ⟨_, _, rfl, _⟩ := h; rfl) | (obtain ⟨_, _, _, rfl, _⟩ := h; rfl) | (obtain ⟨_, _, _, _, rfl, _⟩ := h; rfl) | (obtain ⟨_, _, _, _, _, rfl, _⟩ := h; rfl) | (obtain ⟨_, _, _, _, _, _, rfl, _⟩ := h; rfl) | (obtain ⟨_, _, _, _, _, _, _, rfl, _⟩ := h; rfl) | (obtain ⟨_, _, _, _, _, _, _, _, rfl, _⟩ := h; rfl) | (obtain ⟨_, _, _, _, _, _, _, _, _, rfl, _⟩ := h; rfl) | (obtain ⟨_, _, _, _, _, _, _, _, _, _, rfl, _⟩ := h; rfl) | (obtain ⟨_, _, _, _, _, _, _, _, _, _, _, rfl, _⟩ := h; rfl) | (obtain ⟨_, _, _, _, _, _, _, _, _, _, _, _, rfl, _⟩ := h; rfl)
  obtain ⟨a, rfl, hS, k⟩ := h
  refine ⟨_, rfl, a, rfl, hS, fun v os ds H1 f1 S1 hv D => ?_⟩
  refine ⟨_, rfl, _, rfl, a, rfl, S1, fun u p q H2 f2 S2 hu U => ?_⟩
  have E := D.ev (by decide) hu
  have hv2 := hv.tame (f2.tame S1)
  refine ⟨v, u, p, q, os, ds, rfl, hv2, U, E, fun w H3 e3 hw => ?_⟩
  refine ⟨_, rfl, w, p, q, os, ds, rfl, hw, E, D.ln, fun x H4 e4 ht => ?_⟩
  have f4 := ((f1.trans f2).same e3).same e4
  refine ⟨_, rfl, rfl, _, rfl, ?_⟩
  rw [ht.non]
  cases hm : unlikeM os ds with
  | some r =>
    rw [hm] at ht
    refine iteT ?_
    exact ⟨_, rfl, _, rfl, _, rfl, v, w, x, p, q, os, ds, r, rfl, hv2.mono (e3.trans e4), hw.mono e4, E, ht, hm, fun H5 e5 => k _ (f4.same e5)⟩
  | none =>
    refine iteF ?_
    refine ⟨_, rfl, v, os, ds, rfl, hv2.mono (e3.trans e4), ⟨D.no, D.nd⟩, ⟨D.po, D.pd⟩, ⟨E.lo, E.ld⟩, fun y H5 e5 hy => ⟨rfl, _, rfl, ?_⟩⟩
    rw [hy, Bool.not_not]
    have f5 := f4.same e5
    cases hf : (fitsB os ds || fitsB ds os) with
    | true => exact iteT (k _ f5)
    | false =>
      refine iteF ?_
      refine ⟨_, rfl, v, os, ds, rfl, (hv2.mono (e3.trans e4)).mono e5, ⟨D.po, D.pd, D.hs⟩, D.no, D.ln, fun n H6 e6 hn => ⟨rfl, ?_⟩⟩
      have n1 : n = 1 := by
        rcases hn with hn | ⟨I0, I1, J0, J1, hp⟩
        · exact hn
        · rcases told_part E hm hp with g | g
          · rw [g] at hf
            cases hf
          · rw [g, Bool.or_true] at hf
            cases hf
      subst n1
      exact k _ (f5.same e6)
end
end K71
namespace K71
open PySem PySem.Spec PyProof.Rows L2
section
variable {P : Program} {w : World} {K : PySem.W.Frag} {mg : Str → Option Value} {base : Heap}
/-! ### the law -/
/-- orders as plain data -/
def tD (r : List Nat × List Nat) : PyData := .tuple [.tuple ((nI r.1).map PyData.int), .tuple ((nI r.2).map PyData.int)]
/-- what is told as plain data -/
def toldD : Option ((List Nat × List Nat) × (List Nat × List Nat)) → PyData
  | none => .none
  | some r => .tuple [tD r.1, tD r.2]
theorem dp_IT {H : Hp} {v : V} {ns : List Int} (h : IT K H v ns) : Dp K H v (.tuple (ns.map PyData.int)) := by
  obtain ⟨t, rfl, h⟩ := h
  exact .tup h (dp_ints ns)
theorem dp_ords {H : Hp} {v : V} {r : List Nat × List Nat} (h : Ords K H v r) : Dp K H v (tD r) := by
  obtain ⟨t, va, vb, rfl, h2, h3, h4⟩ := h
  exact .tup h2 (.cons (dp_IT h3) (.cons (dp_IT h4) .nil))
theorem dp_told {H : Hp} {v : V} {r : Option ((List Nat × List Nat) × (List Nat × List Nat))} (h : Told K H v r) : Dp K H v (toldD r) := by
  cases r with
  | none =>
    rw [show v = .non from h]
    exact .non
  | some r =>
    obtain ⟨t, v1, v2, rfl, h2, h3, h4⟩ := h
    exact .tup h2 (.cons (dp_ords h3) (.cons (dp_ords h4) .nil))
theorem lay_ints : ∀ ns : List Int, PyData.canLayAll0 (ns.map PyData.int) = true
  | [] => rfl
  | n :: r => by simp [PyData.canLayAll0, PyData.canLay0, lay_ints r]
theorem deep_ints : ∀ ns : List Int, PyData.depthAll (ns.map PyData.int) ≤ 1
  | [] => by simp [PyData.depthAll]
  | n :: r => by
    have := deep_ints r
    simp only [List.map, PyData.depthAll, PyData.depth]
    omega
theorem shaped_told (r : Option ((List Nat × List Nat) × (List Nat × List Nat))) : SeqAt.shaped (toldD r) = true := by
  refine Bool.and_eq_true_iff.mpr ⟨?_, decide_eq_true ?_⟩
  · cases r with
    | none => simp [toldD, PyData.canLay0]
    | some r => simp [toldD, tD, PyData.canLay0, PyData.canLayAll0, lay_ints]
  · cases r with
    | none => simp [toldD, PyData.depth]
    | some r =>
      have h1 := deep_ints (nI r.1.1)
      have h2 := deep_ints (nI r.1.2)
      have h3 := deep_ints (nI r.2.1)
      have h4 := deep_ints (nI r.2.2)
      simp only [toldD, tD, PyData.depth, PyData.depthAll]
      omega
theorem eqv_told (r : Option ((List Nat × List Nat) × (List Nat × List Nat))) : PyData.eqv (toldD r) (toldD r) = true := by
  cases r with
  | none => simp [toldD, PyData.eqv]
  | some r => simp [toldD, tD, PyData.eqv, PyData.eqvAll, eqvAll_ints]
/-- None is told exactly of the evenings whose ways of queues have one number -/
theorem non_one {p q : Int} {os ds : List Int} (E : EvD p q os ds) : (unlikeM os ds).isNone = true ↔ OneLen os ds := by
  constructor
  · intro h π τ π' τ' h1 h2 h3 h4
    exact none_len E (Option.isNone_iff_eq_none.mp h) h1 h2 h3 h4
  · intro h
    cases hm : unlikeM os ds with
    | none => rfl
    | some r =>
      obtain ⟨q1, q2, ne⟩ := told_some E (r1 := r.1) (r2 := r.2) hm
      exact absurd (h _ _ _ _ q1.1 q1.2 q2.1 q2.2) ne
def sp_law (K : PySem.W.Frag) : Sp := fun vs H Q _ => ∃ (s : Addr) (ns : List Int), vs = [.ref s] ∧ SqL K H s (ns.map V.int) ∧ ns.length ≤ 63 ∧ ∀ H', Q (.bl true) H'
theorem sc_law : FnScope ["_law_script", "_law_k", "_law_source_here", "_law_sums_here", "_law_small", "_law_evening_here", "_law_told"] ["_law_script"] (defScope s_law) := ⟨rfl, rfl, rfl, by decide +kernel, rfl, by decide +kernel, by decide +kernel⟩
/-- the body of law -/
theorem ok_law {f : Addr} {fd : FuncData} (T : Txt K mg) (F : FnP K "law" "law" s_law f fd) (D_l_source : Dn P w K mg base "_law_source" ["_law_script", "_law_k"] 1 (sp_l_source K)) (D_l_crowd : Dn P w K mg base "_law_crowd" ["_law_source_here", "_law_most"] 5 (sp_l_crowd K)) (D_l_evening : Dn P w K mg base "_law_evening" ["_law_sums_here", "_law_unit_here"] 7 (sp_l_evening K)) (D_unlike_queues : Dn P w K mg base "unlike_queues" ["evening"] 8 (sp_unlike_queues K)) (D_l_draw : Dn P w K mg base "_law_draw" ["_law_source_here", "_law_many"] 1 (sp_l_draw K)) (D_l_fourteen_hold : Dn P w K mg base "_law_fourteen_hold" ["_law_source_here"] 9 (sp_l_fourteen_hold K)) (D_l_put_together : Dn P w K mg base "_law_put_together" ["_law_source_here"] 6 (sp_l_put_together K)) (D_l_unit : Dn P w K mg base "_law_unit" ["_law_source_here"] 2 (sp_l_unit K)) (D_l_flag : Dn P w K mg base "_law_flag" ["_law_told", "_law_due"] 1 (sp_l_flag K)) (D_queues_alike : Dn P w K mg base "queues_alike" ["evening"] 9 (sp_queues_alike K)) (D_l_right : Dn P w K mg base "_law_right" ["_law_sums_here", "_law_evening_here", "_law_told"] 8 (sp_l_right K)) (D_l_queue_numbers : Dn P w K mg base "_law_queue_numbers" ["_law_sums_here"] 3 (sp_l_queue_numbers K)) : FnOk P w K mg base CX0 10 f fd ["_law_script"] (sp_law K) := by
  refine F.ok sc_law (fun vs H Q E h => ?_) (fun cdv A outer s H vs Q E hr h => ⟨_, PSs.nox (C8.pss_cut (ps_if (PW.pt (pw_and (pt_cmpR op_eq (pe_dn D_l_draw (hr.mono (by decide)) rfl (pa_cons (pe_dn D_l_source (hr.mono (by decide)) rfl (pa_cons (pv 0) (pa_cons pe_int pa_nil))) (pa_cons pe_int pa_nil))) pe_int (nomark _)) (pw_and1 (pt_not (pt_val (pe_dn D_l_fourteen_hold (hr.mono (by decide)) rfl (pa_cons (pe_dn D_l_source (hr.mono (by decide)) rfl (pa_cons (pv 0) (pa_cons pe_int pa_nil))) pa_nil)))))))
      (pss_one (ps_ret pe_bl))
      pss_nil)
    (pss_cons (ps_for PassesOwn.never rfl (pi_range1 rfl T.range (pa_cons pe_int pa_nil)) (pg_name (i := 1) sc_law.nd rfl (Or.inl rfl))
      (pss_cons (ps_set (i := 2) sc_law.nd rfl (Or.inl rfl) (pe_dn D_l_source (hr.mono (by decide)) rfl (pa_cons (pv 0) (pa_cons (pv 1) pa_nil))))
      (pss_cons (ps_set (i := 3) sc_law.nd rfl (Or.inl rfl) (pe_dn D_l_crowd (hr.mono (by decide)) rfl (pa_cons (pv 2) (pa_cons (pe_op op_add pe_int (pe_callTy call_int1 (by rfl) T.int' (by decide +kernel) (pa_cons (pe_cmpR op_eq (pe_dn D_l_draw (hr.mono (by decide)) rfl (pa_cons (pv 2) (pa_cons pe_int pa_nil))) pe_int (nomark _)) pa_nil))) pa_nil))))
      (pss_cons (ps_set (i := 4) sc_law.nd rfl (Or.inl rfl) pe_bl)
      (C8.pss_cut (ps_if (pt_cmpR op_eq (pe_dn D_l_draw (hr.mono (by decide)) rfl (pa_cons (pv 2) (pa_cons pe_int pa_nil))) pe_int (nomark _))
        (pss_cons (ps_set (i := 3) sc_law.nd rfl (Or.inl rfl) (pe_dn D_l_put_together (hr.mono (by decide)) rfl (pa_cons (pv 2) pa_nil)))
        (pss_one (ps_set (i := 4) sc_law.nd rfl (Or.inl rfl) pe_bl)))
        pss_nil)
      (pss_cons (ps_set (i := 5) sc_law.nd rfl (Or.inl rfl) (pe_dn D_l_evening (hr.mono (by decide)) rfl (pa_cons (pv 3) (pa_cons (pe_dn D_l_unit (hr.mono (by decide)) rfl (pa_cons (pv 2) pa_nil)) pa_nil))))
      (pss_cons (ps_set (i := 6) sc_law.nd rfl (Or.inl rfl) (pe_dn D_unlike_queues (hr.mono (by decide)) rfl (pa_cons (pv 5) pa_nil)))
      (C8.pss_cut (ps_if (pt_not (pt_val (pe_dn D_l_flag (hr.mono (by decide)) rfl (pa_cons (pe_dn D_queues_alike (hr.mono (by decide)) rfl (pa_cons (pv 5) pa_nil)) (pa_cons (pe_cmpR op_isN (pv 6) pe_non (nomark _)) pa_nil)))))
        (pss_one (ps_ret pe_bl))
        pss_nil)
      (C8.pss_cut (ps_if (PW.pt (pw_and (pt_val (pv 4)) (pw_and1 (pt_cmpR (neD K hr.units) (pe_dn D_unlike_queues (hr.mono (by decide)) rfl (pa_cons (pv 5) pa_nil)) (pv 6) (nomark _)))))
        (pss_one (ps_ret pe_bl))
        pss_nil)
      (C8.pss_cut (ps_if (PW.pt (pw_and (pt_val (pv 4)) (pw_and1 (pt_cmpR op_ne (pe_cmpR op_isN (pv 6) pe_non (nomark _)) (pe_cmpR op_eq (pe_callB call_len_seq (by rfl) T.len' (by decide +kernel) (pa_cons (pe_dn D_l_queue_numbers (hr.mono (by decide)) rfl (pa_cons (pv 3) pa_nil)) pa_nil)) pe_int (nomark _)) (nomark _)))))
        (pss_one (ps_ret pe_bl))
        pss_nil)
      (pss_one (ps_if (PW.pt (pw_and (pt_cmpR op_notN (pv 6) pe_non (nomark _)) (pw_and1 (pt_not (pt_val (pe_dn D_l_right (hr.mono (by decide)) rfl (pa_cons (pv 3) (pa_cons (pv 5) (pa_cons (pv 6) pa_nil)))))))))
        (pss_one (ps_ret pe_bl))
        pss_nil))))))))))))
    (pss_one (ps_ret pe_bl)))), ?_⟩)
  · first | (obtain ⟨_, rfl, _⟩ := h; rfl) | (obtain ⟨_, _, rfl, _⟩ := h; rfl) | (obtain ⟨_, _, _, rfl, _⟩ := h; rfl) | (obtain ⟨_, _, _, _, rfl, _⟩ := h; rfl) | (obtain ⟨_, _, _, _, _, rfl, _⟩ := h; rfl) | (obtain ⟨_, _, _, _, _, _, rfl, _⟩ := h; rfl) | (obtain ⟨_, _, _, _, _, _, _, rfl, _⟩ := h; rfl) | (obtain ⟨_, _, _, _, _, _, _, _, rfl, _⟩ := h; rfl) | (obtain ⟨_, _, _, _, _, _, _, _, _, rfl, _⟩ := h; rfl) | (obtain ⟨_, _, _, _, _, _, _, _, _, _, rfl, _⟩ := h; rfl) | (obtain ⟨_, _, _, _, _, _, _, _, _, _, _, rfl, _⟩ := h; rfl) | (obtain ⟨_, _, _, _, _, _, _, _, _, _, _, _, rfl, _⟩ := h; rfl)
  obtain ⟨s, ns, rfl, hS, hl, k⟩ := h
  refine ⟨fun σ' H' => σ' = [some (.ref s), none, none, none, none, none, none] ∧ Same H H', ?_, ?_⟩
  · refine ⟨_, rfl, s, ns, 9, rfl, hS, hl, fun a H1 na e1 S1 => ⟨a, 60, rfl, S1, by decide, by decide, fun d H2 d0 d1 f2 S2 => ⟨rfl, _, rfl, ?_⟩⟩⟩
    have e2 := FrA.out e1 na f2
    refine ite2 (fun _ => ?_) (fun _ => ?_)
    · refine ⟨_, rfl, s, ns, 10, rfl, e2.l hS, hl, fun b H3 nb e3 S3 => ⟨b, rfl, S3, fun H4 f4 => ⟨true, rfl, iteF ?_⟩⟩⟩
      exact ⟨rfl, e2.trans (FrA.out e3 nb f4)⟩
    · exact ⟨rfl, e2⟩
  rintro σ' H1 ⟨rfl, e1⟩
  refine ⟨(4 : Int), rfl, by decide, by decide, for_range (lo := 0) (n := 4) (fun i σ H' => ∃ (x1 x2 x3 x4 x5 x6 : Option V), σ = [some (.ref s), x1, x2, x3, x4, x5, x6] ∧ Same H H') ?_ ?_ ?_⟩
  · exact ⟨_, _, _, _, _, _, rfl, e1⟩
  · rintro i σ H2 hi ⟨x1, x2, x3, x4, x5, x6, rfl, e2⟩
    have ei : (0 : Int) + (i : Int) = ((i : Nat) : Int) := by omega
    rw [ei]
    refine ⟨_, rfl, _, rfl, s, ns, i, rfl, e2.l hS, hl, fun a H3 na e3 S3 => ?_⟩
    refine ⟨_, rfl, _, rfl, a, 6, rfl, S3, by decide, by decide, fun d H4 d0 d1 f4 S4 => ⟨rfl, .inr ⟨_, rfl, _, _, rfl, rfl, ?_⟩⟩⟩
    obtain ⟨m, hm, hm2⟩ : ∃ m : Nat, (6 + (if decide (V.int d = V.int 0) = true then 1 else 0) : Int) = (m : Int) ∧ (m = 6 ∨ m = 7) := by
      split
      · exact ⟨7, rfl, .inr rfl⟩
      · exact ⟨6, rfl, .inl rfl⟩
    refine ⟨a, m, by rw [← hm]; rfl, S4, by omega, by omega, fun v os ds H5 f5 S5 hv D => ?_⟩
    refine ⟨fun σ' H' => ∃ (v : V) (os ds : List Int) (b : Bool), σ' = [some (.ref s), some (.int (i : Int)), some (.ref a), some v, some (.bl b), x5, x6] ∧ FrA a H3 H' ∧ Src H' a ∧ SumsT K H' v os ds ∧ SumD os ds 12 ∧ (b = true → SumD os ds 7), ?_, ?_⟩
    · refine ⟨_, rfl, a, 2, rfl, S5, by decide, by decide, fun d H6 d0 d1 f6 S6 => ⟨rfl, _, rfl, ?_⟩⟩
      have f36 := (f4.trans f5).trans f6
      refine ite2 (fun _ => ?_) (fun _ => ?_)
      · refine ⟨_, rfl, a, rfl, S6, fun v' os' ds' H7 f7 S7 hv' D' => ?_⟩
        exact ⟨v', os', ds', false, rfl, f36.trans f7, S7, hv', D', fun c => absurd c (by decide)⟩
      · exact ⟨v, os, ds, true, rfl, f36, S6, hv.tame (f6.tame S5), D.le (by omega), fun _ => D.le (by omega)⟩
    rintro σ' H6 ⟨v, os, ds, b, rfl, f6, S6, hv, D, D7⟩
    refine ⟨_, rfl, _, rfl, a, rfl, S6, fun u p q H7 f7 S7 hu U => ?_⟩
    have E := D.ev (by decide) hu
    have l14 : os.length + ds.length ≤ 14 := Nat.le_trans D.ln (by decide)
    have hv7 := hv.tame (f7.tame S6)
    refine ⟨v, u, p, q, os, ds, rfl, hv7, U, E, fun w H8 e8 hw => ?_⟩
    refine ⟨_, rfl, w, p, q, os, ds, rfl, hw, E, l14, fun x H9 e9 ht => ?_⟩
    have e29 : Same H2 H9 := (((FrA.out e3 na (f6.trans f7)).trans e8).trans e9)
    have hv9 := hv7.mono (e8.trans e9)
    have hw9 := hw.mono e9
    refine ⟨fun σ' H' => σ' = [some (.ref s), some (.int (i : Int)), some (.ref a), some v, some (.bl b), some w, some x] ∧ Same H9 H', ?_, ?_⟩
    · refine ⟨_, rfl, w, p, q, os, ds, rfl, hw9, E, l14, fun H10 e10 => ⟨_, rfl, rfl, (unlikeM os ds).isNone, decide (x = V.non), rfl, _, rfl, ?_⟩⟩
      refine ite2 (fun c => ?_) (fun _ => ⟨rfl, e10⟩)
      rw [ht.non] at c
      simp at c
    rintro σ' H10 ⟨rfl, e10⟩
    refine ⟨fun σ' H' => σ' = [some (.ref s), some (.int (i : Int)), some (.ref a), some v, some (.bl b), some w, some x] ∧ Same H9 H', ?_, ?_⟩
    · refine ⟨_, rfl, b, rfl, ?_⟩
      refine ite2 (fun _ => ?_) (fun _ => ⟨rfl, e10⟩)
      refine ⟨_, rfl, w, p, q, os, ds, rfl, hw9.mono e10, E, l14, fun y H11 e11 hy => ?_⟩
      refine ⟨_, rfl, _, _, dp_told hy, dp_told (ht.mono (e10.trans e11)), shaped_told _, shaped_told _, _, rfl, ?_⟩
      rw [eqv_told]
      exact iteF ⟨rfl, e10.trans e11⟩
    rintro σ' H11 ⟨rfl, e11⟩
    refine ⟨fun σ' H' => σ' = [some (.ref s), some (.int (i : Int)), some (.ref a), some v, some (.bl b), some w, some x] ∧ Same H9 H', ?_, ?_⟩
    · refine ⟨_, rfl, b, rfl, ?_⟩
      refine ite2 (fun cb => ?_) (fun _ => ⟨rfl, e11⟩)
      refine ⟨_, rfl, rfl, _, rfl, v, os, ds, rfl, hv9.mono e11, D7 cb, fun l zs H12 e12 hl2 hz => ⟨l, _, rfl, .inl (sql hl2), rfl, rfl, _, rfl, ?_⟩⟩
      refine ite2 (fun c => ?_) (fun _ => ⟨rfl, e11.trans e12⟩)
      rw [ht.non] at c
      have g := (non_one E).trans hz.symm
      rw [List.length_map] at c
      cases hn : (unlikeM os ds).isNone with
      | true =>
        rw [hn] at c g
        have z1 := g.mp rfl
        rw [z1] at c
        simp at c
      | false =>
        rw [hn] at c g
        have z1 : ¬ zs.length = 1 := fun z => by cases g.mpr z
        have z2 : ¬ (V.int (zs.length : Int) = V.int 1) := fun z => z1 (by have := V.int.inj z; omega)
        rw [decide_eq_false z2] at c
        simp at c
    rintro σ' H12 ⟨rfl, e12⟩
    have e2c := e29.trans e12
    refine ⟨_, rfl, rfl, _, rfl, ?_⟩
    rw [ht.non]
    cases hm : unlikeM os ds with
    | none => exact iteF ⟨_, _, _, _, _, _, rfl, e2.trans e2c⟩
    | some r =>
      rw [hm] at ht
      refine iteT ?_
      refine ⟨_, rfl, _, rfl, _, rfl, v, w, x, p, q, os, ds, r, rfl, hv9.mono e12, hw9.mono e12, E, ht.mono e12, hm, fun H13 e13 => ⟨true, rfl, iteF ?_⟩⟩
      exact ⟨_, _, _, _, _, _, rfl, e2.trans (e2c.trans e13)⟩
  · rintro σ H' ⟨x1, x2, x3, x4, x5, x6, rfl, e⟩
    exact k _
end
end K71
namespace K71
open PySem PySem.Spec PyProof.Rows L2

theorem bind1 {K : PySem.W.Frag} {x q : Str} {st : Stmt} {f : Addr} {fd : FuncData} {ps : List Str} (F : FnP K x q st f fd)
    (h : ∀ (kV doc pm : Value) (an : Option Addr) (cdv ct : Value) (us : List Value), us.length = ps.length → bindArgs (PySem.W.fnOf x q (defArgs st) (defBody st) (defScope st) .none kV doc pm an cdv ct) ⟨us, []⟩ = pure (ps.zip us)) : Binds K fd ps [] := F.bindsN h
section
variable {P : Program} {w : World} {K : PySem.W.Frag} {mg : Str → Option Value} {h : Heap}
theorem txt (X : K.In h) (G : h.Ns mainGlobals mg) (c : He.SaysD fas fns K) (z : exZ K = true) : Txt K mg where
  c_ZERO := He.glo_ok X G (c.fact 69 (f := .glo "ZERO") rfl)
  zero := fun H => He.tupB_ok z H
  c_MOST_SIDE := He.int_ok X G (c.fact 70 (f := .int "MOST_SIDE" 100) rfl)
  c_MOST_JOINED := He.int_ok X G (c.fact 71 (f := .int "MOST_JOINED" 14) rfl)
  cl_Evening := He.cls_ok (c.fact 73 (f := .cls "Evening") rfl)
  mg_Evening := He.glo_ok X G (c.fact 72 (f := .glo "Evening") rfl)
  cl_State := He.cls_ok (c.fact 75 (f := .cls "State") rfl)
  mg_State := He.glo_ok X G (c.fact 74 (f := .glo "State") rfl)
  cl_Joints := He.cls_ok (c.fact 77 (f := .cls "Joints") rfl)
  mg_Joints := He.glo_ok X G (c.fact 76 (f := .glo "Joints") rfl)
  na_owed := He.noat_ok (c.fact 78 (f := .noat "Evening" "owed") rfl)
  na_due := He.noat_ok (c.fact 79 (f := .noat "Evening" "due") rfl)
  na_owed_left := He.noat_ok (c.fact 80 (f := .noat "State" "owed_left") rfl)
  na_due_left := He.noat_ok (c.fact 81 (f := .noat "State" "due_left") rfl)
  na_many := He.noat_ok (c.fact 82 (f := .noat "Joints" "many") rfl)
  na_everyone := He.noat_ok (c.fact 83 (f := .noat "Joints" "everyone") rfl)
  na_gaps := He.noat_ok (c.fact 84 (f := .noat "Joints" "gaps") rfl)
  na_everybody := He.noat_ok (c.fact 85 (f := .noat "Joints" "everybody") rfl)
  len' := He.free_ok X G (c.fact 86 (f := .free "len") rfl)
  abs' := He.free_ok X G (c.fact 87 (f := .free "abs") rfl)
  min' := He.free_ok X G (c.fact 88 (f := .free "min") rfl)
  max' := He.free_ok X G (c.fact 89 (f := .free "max") rfl)
  sum' := He.free_ok X G (c.fact 90 (f := .free "sum") rfl)
  all' := He.free_ok X G (c.fact 91 (f := .free "all") rfl)
  int' := He.free_ok X G (c.fact 92 (f := .free "int") rfl)
  bool' := He.free_ok X G (c.fact 93 (f := .free "bool") rfl)
  tuple' := He.free_ok X G (c.fact 94 (f := .free "tuple") rfl)
  list' := He.free_ok X G (c.fact 95 (f := .free "list") rfl)
  sorted' := He.free_ok X G (c.fact 96 (f := .free "sorted") rfl)
  isinstance' := He.free_ok X G (c.fact 97 (f := .free "isinstance") rfl)
  range := He.free_ok X G (c.fact 98 (f := .free "range") rfl)
theorem facts {fL : Addr} (X : K.In h) (G : h.Ns mainGlobals mg) (hfa : mg ("law" : Str) = some (.ref fL)) (c : He.SaysD fas fns K) (z : exZ K = true) :
    ∃ fd : FuncData, (∀ (s : Shared) (v : Value), BindsTo s fd ⟨[v], []⟩ [("_law_script", v)]) ∧ ∀ base : Heap, K.In base → base.Ns mainGlobals mg → FnOk P w K mg base CX0 10 fL fd ["_law_script"] (sp_law K) := by
  have T := txt X G c z
  obtain ⟨fd_l_source, F_l_source⟩ : ∃ fd : FuncData, FnP K "_law_source" "_law_source" s_l_source (He.fAd K ("_law_source", none)) fd := c.def_ 0 (d := d_l_source) rfl
  obtain ⟨fd_l_draw, F_l_draw⟩ : ∃ fd : FuncData, FnP K "_law_draw" "_law_draw" s_l_draw (He.fAd K ("_law_draw", none)) fd := c.def_ 1 (d := d_l_draw) rfl
  obtain ⟨fd_l_side, F_l_side⟩ : ∃ fd : FuncData, FnP K "_law_side" "_law_side" s_l_side (He.fAd K ("_law_side", none)) fd := c.def_ 2 (d := d_l_side) rfl
  obtain ⟨fd_l_perm, F_l_perm⟩ : ∃ fd : FuncData, FnP K "_law_perm" "_law_perm" s_l_perm (He.fAd K ("_law_perm", none)) fd := c.def_ 3 (d := d_l_perm) rfl
  obtain ⟨fd_l_split, F_l_split⟩ : ∃ fd : FuncData, FnP K "_law_split" "_law_split" s_l_split (He.fAd K ("_law_split", none)) fd := c.def_ 4 (d := d_l_split) rfl
  obtain ⟨fd_l_sums, F_l_sums⟩ : ∃ fd : FuncData, FnP K "_law_sums" "_law_sums" s_l_sums (He.fAd K ("_law_sums", none)) fd := c.def_ 5 (d := d_l_sums) rfl
  obtain ⟨fd_l_crowd, F_l_crowd⟩ : ∃ fd : FuncData, FnP K "_law_crowd" "_law_crowd" s_l_crowd (He.fAd K ("_law_crowd", none)) fd := c.def_ 6 (d := d_l_crowd) rfl
  obtain ⟨fd_common_divisor, F_common_divisor⟩ : ∃ fd : FuncData, FnP K "common_divisor" "common_divisor" s_common_divisor (He.fAd K ("common_divisor", none)) fd := c.def_ 7 (d := d_common_divisor) rfl
  obtain ⟨fd_is_pair, F_is_pair⟩ : ∃ fd : FuncData, FnP K "is_pair" "is_pair" s_is_pair (He.fAd K ("is_pair", none)) fd := c.def_ 8 (d := d_is_pair) rfl
  obtain ⟨fd_is_integer, F_is_integer⟩ : ∃ fd : FuncData, FnP K "is_integer" "is_integer" s_is_integer (He.fAd K ("is_integer", none)) fd := c.def_ 9 (d := d_is_integer) rfl
  obtain ⟨fd_is_fraction, F_is_fraction⟩ : ∃ fd : FuncData, FnP K "is_fraction" "is_fraction" s_is_fraction (He.fAd K ("is_fraction", none)) fd := c.def_ 10 (d := d_is_fraction) rfl
  obtain ⟨fd_is_amount, F_is_amount⟩ : ∃ fd : FuncData, FnP K "is_amount" "is_amount" s_is_amount (He.fAd K ("is_amount", none)) fd := c.def_ 11 (d := d_is_amount) rfl
  obtain ⟨fd_are_sums, F_are_sums⟩ : ∃ fd : FuncData, FnP K "are_sums" "are_sums" s_are_sums (He.fAd K ("are_sums", none)) fd := c.def_ 12 (d := d_are_sums) rfl
  obtain ⟨fd_made, F_made⟩ : ∃ fd : FuncData, FnP K "made" "made" s_made (He.fAd K ("made", none)) fd := c.def_ 13 (d := d_made) rfl
  obtain ⟨fd_plus, F_plus⟩ : ∃ fd : FuncData, FnP K "plus" "plus" s_plus (He.fAd K ("plus", none)) fd := c.def_ 14 (d := d_plus) rfl
  obtain ⟨fd_total_of, F_total_of⟩ : ∃ fd : FuncData, FnP K "total_of" "total_of" s_total_of (He.fAd K ("total_of", none)) fd := c.def_ 15 (d := d_total_of) rfl
  obtain ⟨fd_Evening_init, F_Evening_init⟩ : ∃ fd : FuncData, FnP K "__init__" "Evening.__init__" s_Evening_init (He.fAd K ("Evening", some "__init__")) fd := c.def_ 16 (d := d_Evening_init) rfl
  obtain ⟨fd_l_made, F_l_made⟩ : ∃ fd : FuncData, FnP K "_law_made" "_law_made" s_l_made (He.fAd K ("_law_made", none)) fd := c.def_ 17 (d := d_l_made) rfl
  obtain ⟨fd_l_times, F_l_times⟩ : ∃ fd : FuncData, FnP K "_law_times" "_law_times" s_l_times (He.fAd K ("_law_times", none)) fd := c.def_ 18 (d := d_l_times) rfl
  obtain ⟨fd_l_evening, F_l_evening⟩ : ∃ fd : FuncData, FnP K "_law_evening" "_law_evening" s_l_evening (He.fAd K ("_law_evening", none)) fd := c.def_ 19 (d := d_l_evening) rfl
  obtain ⟨fd_check_most, F_check_most⟩ : ∃ fd : FuncData, FnP K "check_most" "check_most" s_check_most (He.fAd K ("check_most", none)) fd := c.def_ 20 (d := d_check_most) rfl
  obtain ⟨fd_measure_of, F_measure_of⟩ : ∃ fd : FuncData, FnP K "measure_of" "measure_of" s_measure_of (He.fAd K ("measure_of", none)) fd := c.def_ 21 (d := d_measure_of) rfl
  obtain ⟨fd_all_sums, F_all_sums⟩ : ∃ fd : FuncData, FnP K "all_sums" "all_sums" s_all_sums (He.fAd K ("all_sums", none)) fd := c.def_ 22 (d := d_all_sums) rfl
  obtain ⟨fd_measure, F_measure⟩ : ∃ fd : FuncData, FnP K "measure" "measure" s_measure (He.fAd K ("measure", none)) fd := c.def_ 23 (d := d_measure) rfl
  obtain ⟨fd_over, F_over⟩ : ∃ fd : FuncData, FnP K "over" "over" s_over (He.fAd K ("over", none)) fd := c.def_ 24 (d := d_over) rfl
  obtain ⟨fd_whole_sums, F_whole_sums⟩ : ∃ fd : FuncData, FnP K "whole_sums" "whole_sums" s_whole_sums (He.fAd K ("whole_sums", none)) fd := c.def_ 25 (d := d_whole_sums) rfl
  obtain ⟨fd_Joints_init, F_Joints_init⟩ : ∃ fd : FuncData, FnP K "__init__" "Joints.__init__" s_Joints_init (He.fAd K ("Joints", some "__init__")) fd := c.def_ 26 (d := d_Joints_init) rfl
  obtain ⟨fd_minus, F_minus⟩ : ∃ fd : FuncData, FnP K "minus" "minus" s_minus (He.fAd K ("minus", none)) fd := c.def_ 27 (d := d_minus) rfl
  obtain ⟨fd_times, F_times⟩ : ∃ fd : FuncData, FnP K "times" "times" s_times (He.fAd K ("times", none)) fd := c.def_ 28 (d := d_times) rfl
  obtain ⟨fd_whole, F_whole⟩ : ∃ fd : FuncData, FnP K "whole" "whole" s_whole (He.fAd K ("whole", none)) fd := c.def_ 29 (d := d_whole) rfl
  obtain ⟨fd_rest_by, F_rest_by⟩ : ∃ fd : FuncData, FnP K "rest_by" "rest_by" s_rest_by (He.fAd K ("rest_by", none)) fd := c.def_ 30 (d := d_rest_by) rfl
  obtain ⟨fd_fits_unit, F_fits_unit⟩ : ∃ fd : FuncData, FnP K "fits_unit" "fits_unit" s_fits_unit (He.fAd K ("fits_unit", none)) fd := c.def_ 31 (d := d_fits_unit) rfl
  obtain ⟨fd_queue_unit, F_queue_unit⟩ : ∃ fd : FuncData, FnP K "queue_unit" "queue_unit" s_queue_unit (He.fAd K ("queue_unit", none)) fd := c.def_ 32 (d := d_queue_unit) rfl
  obtain ⟨fd_people, F_people⟩ : ∃ fd : FuncData, FnP K "people" "people" s_people (He.fAd K ("people", none)) fd := c.def_ 33 (d := d_people) rfl
  obtain ⟨fd_Joints_next_ones, F_Joints_next_ones⟩ : ∃ fd : FuncData, FnP K "next_ones" "Joints.next_ones" s_Joints_next_ones (He.fAd K ("Joints", some "next_ones")) fd := c.def_ 34 (d := d_Joints_next_ones) rfl
  obtain ⟨fd_Joints_later_lots, F_Joints_later_lots⟩ : ∃ fd : FuncData, FnP K "later_lots" "Joints.later_lots" s_Joints_later_lots (He.fAd K ("Joints", some "later_lots")) fd := c.def_ 35 (d := d_Joints_later_lots) rfl
  obtain ⟨fd_Joints_follow, F_Joints_follow⟩ : ∃ fd : FuncData, FnP K "follow" "Joints.follow" s_Joints_follow (He.fAd K ("Joints", some "follow")) fd := c.def_ 36 (d := d_Joints_follow) rfl
  obtain ⟨fd_Joints_orders, F_Joints_orders⟩ : ∃ fd : FuncData, FnP K "orders" "Joints.orders" s_Joints_orders (He.fAd K ("Joints", some "orders")) fd := c.def_ 37 (d := d_Joints_orders) rfl
  obtain ⟨fd_unlike_queues, F_unlike_queues⟩ : ∃ fd : FuncData, FnP K "unlike_queues" "unlike_queues" s_unlike_queues (He.fAd K ("unlike_queues", none)) fd := c.def_ 38 (d := d_unlike_queues) rfl
  obtain ⟨fd_l_together, F_l_together⟩ : ∃ fd : FuncData, FnP K "_law_together" "_law_together" s_l_together (He.fAd K ("_law_together", none)) fd := c.def_ 39 (d := d_l_together) rfl
  obtain ⟨fd_l_unit, F_l_unit⟩ : ∃ fd : FuncData, FnP K "_law_unit" "_law_unit" s_l_unit (He.fAd K ("_law_unit", none)) fd := c.def_ 40 (d := d_l_unit) rfl
  obtain ⟨fd_are_ascending, F_are_ascending⟩ : ∃ fd : FuncData, FnP K "are_ascending" "are_ascending" s_are_ascending (He.fAd K ("are_ascending", none)) fd := c.def_ 41 (d := d_are_ascending) rfl
  obtain ⟨fd_is_within, F_is_within⟩ : ∃ fd : FuncData, FnP K "is_within" "is_within" s_is_within (He.fAd K ("is_within", none)) fd := c.def_ 42 (d := d_is_within) rfl
  obtain ⟨fd_is_lot_below, F_is_lot_below⟩ : ∃ fd : FuncData, FnP K "is_lot_below" "is_lot_below" s_is_lot_below (He.fAd K ("is_lot_below", none)) fd := c.def_ 43 (d := d_is_lot_below) rfl
  obtain ⟨fd_sorted_numbers, F_sorted_numbers⟩ : ∃ fd : FuncData, FnP K "sorted_numbers" "sorted_numbers" s_sorted_numbers (He.fAd K ("sorted_numbers", none)) fd := c.def_ 44 (d := d_sorted_numbers) rfl
  obtain ⟨fd_is_order, F_is_order⟩ : ∃ fd : FuncData, FnP K "is_order" "is_order" s_is_order (He.fAd K ("is_order", none)) fd := c.def_ 45 (d := d_is_order) rfl
  obtain ⟨fd_check_orders, F_check_orders⟩ : ∃ fd : FuncData, FnP K "check_orders" "check_orders" s_check_orders (He.fAd K ("check_orders", none)) fd := c.def_ 46 (d := d_check_orders) rfl
  obtain ⟨fd_State_init, F_State_init⟩ : ∃ fd : FuncData, FnP K "__init__" "State.__init__" s_State_init (He.fAd K ("State", some "__init__")) fd := c.def_ 47 (d := d_State_init) rfl
  obtain ⟨fd_is_less, F_is_less⟩ : ∃ fd : FuncData, FnP K "is_less" "is_less" s_is_less (He.fAd K ("is_less", none)) fd := c.def_ 48 (d := d_is_less) rfl
  obtain ⟨fd_least_of, F_least_of⟩ : ∃ fd : FuncData, FnP K "least_of" "least_of" s_least_of (He.fAd K ("least_of", none)) fd := c.def_ 49 (d := d_least_of) rfl
  obtain ⟨fd_State_amount_of, F_State_amount_of⟩ : ∃ fd : FuncData, FnP K "amount_of" "State.amount_of" s_State_amount_of (He.fAd K ("State", some "amount_of")) fd := c.def_ 50 (d := d_State_amount_of) rfl
  obtain ⟨fd_State_go, F_State_go⟩ : ∃ fd : FuncData, FnP K "go" "State.go" s_State_go (He.fAd K ("State", some "go")) fd := c.def_ 51 (d := d_State_go) rfl
  obtain ⟨fd_way_of_queues, F_way_of_queues⟩ : ∃ fd : FuncData, FnP K "way_of_queues" "way_of_queues" s_way_of_queues (He.fAd K ("way_of_queues", none)) fd := c.def_ 52 (d := d_way_of_queues) rfl
  obtain ⟨fd_queue_way, F_queue_way⟩ : ∃ fd : FuncData, FnP K "queue_way" "queue_way" s_queue_way (He.fAd K ("queue_way", none)) fd := c.def_ 53 (d := d_queue_way) rfl
  obtain ⟨fd_queue_number, F_queue_number⟩ : ∃ fd : FuncData, FnP K "queue_number" "queue_number" s_queue_number (He.fAd K ("queue_number", none)) fd := c.def_ 54 (d := d_queue_number) rfl
  obtain ⟨fd_l_is_integer, F_l_is_integer⟩ : ∃ fd : FuncData, FnP K "_law_is_integer" "_law_is_integer" s_l_is_integer (He.fAd K ("_law_is_integer", none)) fd := c.def_ 55 (d := d_l_is_integer) rfl
  obtain ⟨fd_l_is_order, F_l_is_order⟩ : ∃ fd : FuncData, FnP K "_law_is_order" "_law_is_order" s_l_is_order (He.fAd K ("_law_is_order", none)) fd := c.def_ 56 (d := d_l_is_order) rfl
  obtain ⟨fd_l_pay, F_l_pay⟩ : ∃ fd : FuncData, FnP K "_law_pay" "_law_pay" s_l_pay (He.fAd K ("_law_pay", none)) fd := c.def_ 57 (d := d_l_pay) rfl
  obtain ⟨fd_l_queue_way, F_l_queue_way⟩ : ∃ fd : FuncData, FnP K "_law_queue_way" "_law_queue_way" s_l_queue_way (He.fAd K ("_law_queue_way", none)) fd := c.def_ 58 (d := d_l_queue_way) rfl
  obtain ⟨fd_l_right, F_l_right⟩ : ∃ fd : FuncData, FnP K "_law_right" "_law_right" s_l_right (He.fAd K ("_law_right", none)) fd := c.def_ 59 (d := d_l_right) rfl
  obtain ⟨fd_l_queue_unit, F_l_queue_unit⟩ : ∃ fd : FuncData, FnP K "_law_queue_unit" "_law_queue_unit" s_l_queue_unit (He.fAd K ("_law_queue_unit", none)) fd := c.def_ 60 (d := d_l_queue_unit) rfl
  obtain ⟨fd_l_most_parts, F_l_most_parts⟩ : ∃ fd : FuncData, FnP K "_law_most_parts" "_law_most_parts" s_l_most_parts (He.fAd K ("_law_most_parts", none)) fd := c.def_ 61 (d := d_l_most_parts) rfl
  obtain ⟨fd_l_fourteen_hold, F_l_fourteen_hold⟩ : ∃ fd : FuncData, FnP K "_law_fourteen_hold" "_law_fourteen_hold" s_l_fourteen_hold (He.fAd K ("_law_fourteen_hold", none)) fd := c.def_ 62 (d := d_l_fourteen_hold) rfl
  obtain ⟨fd_l_put_together, F_l_put_together⟩ : ∃ fd : FuncData, FnP K "_law_put_together" "_law_put_together" s_l_put_together (He.fAd K ("_law_put_together", none)) fd := c.def_ 63 (d := d_l_put_together) rfl
  obtain ⟨fd_l_flag, F_l_flag⟩ : ∃ fd : FuncData, FnP K "_law_flag" "_law_flag" s_l_flag (He.fAd K ("_law_flag", none)) fd := c.def_ 64 (d := d_l_flag) rfl
  obtain ⟨fd_queues_alike, F_queues_alike⟩ : ∃ fd : FuncData, FnP K "queues_alike" "queues_alike" s_queues_alike (He.fAd K ("queues_alike", none)) fd := c.def_ 65 (d := d_queues_alike) rfl
  obtain ⟨fd_l_orders, F_l_orders⟩ : ∃ fd : FuncData, FnP K "_law_orders" "_law_orders" s_l_orders (He.fAd K ("_law_orders", none)) fd := c.def_ 66 (d := d_l_orders) rfl
  obtain ⟨fd_l_queue_numbers, F_l_queue_numbers⟩ : ∃ fd : FuncData, FnP K "_law_queue_numbers" "_law_queue_numbers" s_l_queue_numbers (He.fAd K ("_law_queue_numbers", none)) fd := c.def_ 67 (d := d_l_queue_numbers) rfl
  obtain ⟨fd_law, F_law⟩ : ∃ fd : FuncData, FnP K "law" "law" s_law (He.fAd K ("law", none)) fd := c.def_ 68 (d := d_law) rfl
  have e := hfa.symm.trans (He.glo_ok X G (c.fact 68 (f := .glo "law") rfl))
  cases e
  have b := FunD.bindsA (ps := ["_law_script"]) F_law fun _ _ _ _ _ _ us hl => match us, hl with | [_], _ => rfl
  refine ⟨fd_law, fun s v => b s [v] rfl, fun base _ _ => ?_⟩
  have G_l_source : FnOk P w K mg base CX0 1 (He.fAd K ("_law_source", none)) fd_l_source ["_law_script", "_law_k"] (sp_l_source K) := ok_l_source T F_l_source
  have B_l_source : Binds K fd_l_source ["_law_script", "_law_k"] [] := bind1 F_l_source fun _ _ _ _ _ _ us hl => match us, hl with | [_, _], _ => rfl
  have D_l_source : Dn P w K mg base "_law_source" ["_law_script", "_law_k"] 1 (sp_l_source K) := dn_of F_l_source G_l_source (He.glo_ok X G (c.fact 0 (f := .glo "_law_source") rfl)) B_l_source
  have G_l_draw : FnOk P w K mg base CX0 1 (He.fAd K ("_law_draw", none)) fd_l_draw ["_law_source_here", "_law_many"] (sp_l_draw K) := ok_l_draw T F_l_draw
  have B_l_draw : Binds K fd_l_draw ["_law_source_here", "_law_many"] [] := bind1 F_l_draw fun _ _ _ _ _ _ us hl => match us, hl with | [_, _], _ => rfl
  have D_l_draw : Dn P w K mg base "_law_draw" ["_law_source_here", "_law_many"] 1 (sp_l_draw K) := dn_of F_l_draw G_l_draw (He.glo_ok X G (c.fact 1 (f := .glo "_law_draw") rfl)) B_l_draw
  have G_l_side : FnOk P w K mg base CX0 2 (He.fAd K ("_law_side", none)) fd_l_side ["_law_source_here", "_law_many"] (sp_l_side K) := ok_l_side T F_l_side D_l_draw
  have B_l_side : Binds K fd_l_side ["_law_source_here", "_law_many"] [] := bind1 F_l_side fun _ _ _ _ _ _ us hl => match us, hl with | [_, _], _ => rfl
  have D_l_side : Dn P w K mg base "_law_side" ["_law_source_here", "_law_many"] 2 (sp_l_side K) := dn_of F_l_side G_l_side (He.glo_ok X G (c.fact 2 (f := .glo "_law_side") rfl)) B_l_side
  have G_l_perm : FnOk P w K mg base CX0 2 (He.fAd K ("_law_perm", none)) fd_l_perm ["_law_source_here", "_law_many"] (sp_l_perm K) := ok_l_perm T F_l_perm D_l_draw
  have B_l_perm : Binds K fd_l_perm ["_law_source_here", "_law_many"] [] := bind1 F_l_perm fun _ _ _ _ _ _ us hl => match us, hl with | [_, _], _ => rfl
  have D_l_perm : Dn P w K mg base "_law_perm" ["_law_source_here", "_law_many"] 2 (sp_l_perm K) := dn_of F_l_perm G_l_perm (He.glo_ok X G (c.fact 3 (f := .glo "_law_perm") rfl)) B_l_perm
  have G_l_split : FnOk P w K mg base CX0 3 (He.fAd K ("_law_split", none)) fd_l_split ["_law_source_here", "_law_whole", "_law_many"] (sp_l_split K) := ok_l_split T F_l_split D_l_perm D_l_draw
  have B_l_split : Binds K fd_l_split ["_law_source_here", "_law_whole", "_law_many"] [] := bind1 F_l_split fun _ _ _ _ _ _ us hl => match us, hl with | [_, _, _], _ => rfl
  have D_l_split : Dn P w K mg base "_law_split" ["_law_source_here", "_law_whole", "_law_many"] 3 (sp_l_split K) := dn_of F_l_split G_l_split (He.glo_ok X G (c.fact 4 (f := .glo "_law_split") rfl)) B_l_split
  have G_l_sums : FnOk P w K mg base CX0 4 (He.fAd K ("_law_sums", none)) fd_l_sums ["_law_source_here", "_law_owers", "_law_takers"] (sp_l_sums K) := ok_l_sums T F_l_sums D_l_side D_l_split D_l_draw D_l_perm
  have B_l_sums : Binds K fd_l_sums ["_law_source_here", "_law_owers", "_law_takers"] [] := bind1 F_l_sums fun _ _ _ _ _ _ us hl => match us, hl with | [_, _, _], _ => rfl
  have D_l_sums : Dn P w K mg base "_law_sums" ["_law_source_here", "_law_owers", "_law_takers"] 4 (sp_l_sums K) := dn_of F_l_sums G_l_sums (He.glo_ok X G (c.fact 5 (f := .glo "_law_sums") rfl)) B_l_sums
  have G_l_crowd : FnOk P w K mg base CX0 5 (He.fAd K ("_law_crowd", none)) fd_l_crowd ["_law_source_here", "_law_most"] (sp_l_crowd K) := ok_l_crowd T F_l_crowd D_l_sums D_l_draw
  have B_l_crowd : Binds K fd_l_crowd ["_law_source_here", "_law_most"] [] := bind1 F_l_crowd fun _ _ _ _ _ _ us hl => match us, hl with | [_, _], _ => rfl
  have D_l_crowd : Dn P w K mg base "_law_crowd" ["_law_source_here", "_law_most"] 5 (sp_l_crowd K) := dn_of F_l_crowd G_l_crowd (He.glo_ok X G (c.fact 6 (f := .glo "_law_crowd") rfl)) B_l_crowd
  have G_common_divisor : FnOk P w K mg base CX0 1 (He.fAd K ("common_divisor", none)) fd_common_divisor ["one", "other"] (sp_common_divisor K) := ok_common_divisor T F_common_divisor
  have B_common_divisor : Binds K fd_common_divisor ["one", "other"] [] := bind1 F_common_divisor fun _ _ _ _ _ _ us hl => match us, hl with | [_, _], _ => rfl
  have D_common_divisor : Dn P w K mg base "common_divisor" ["one", "other"] 1 (sp_common_divisor K) := dn_of F_common_divisor G_common_divisor (He.glo_ok X G (c.fact 7 (f := .glo "common_divisor") rfl)) B_common_divisor
  have G_is_pair : FnOk P w K mg base CX0 1 (He.fAd K ("is_pair", none)) fd_is_pair ["thing"] (sp_is_pair K) := ok_is_pair T F_is_pair
  have B_is_pair : Binds K fd_is_pair ["thing"] [] := bind1 F_is_pair fun _ _ _ _ _ _ us hl => match us, hl with | [_], _ => rfl
  have D_is_pair : Dn P w K mg base "is_pair" ["thing"] 1 (sp_is_pair K) := dn_of F_is_pair G_is_pair (He.glo_ok X G (c.fact 8 (f := .glo "is_pair") rfl)) B_is_pair
  have G_is_integer : FnOk P w K mg base CX0 1 (He.fAd K ("is_integer", none)) fd_is_integer ["thing"] (sp_is_integer K) := ok_is_integer T F_is_integer
  have B_is_integer : Binds K fd_is_integer ["thing"] [] := bind1 F_is_integer fun _ _ _ _ _ _ us hl => match us, hl with | [_], _ => rfl
  have D_is_integer : Dn P w K mg base "is_integer" ["thing"] 1 (sp_is_integer K) := dn_of F_is_integer G_is_integer (He.glo_ok X G (c.fact 9 (f := .glo "is_integer") rfl)) B_is_integer
  have G_is_fraction : FnOk P w K mg base CX0 2 (He.fAd K ("is_fraction", none)) fd_is_fraction ["thing"] (sp_is_fraction K) := ok_is_fraction T F_is_fraction D_common_divisor D_is_pair D_is_integer
  have B_is_fraction : Binds K fd_is_fraction ["thing"] [] := bind1 F_is_fraction fun _ _ _ _ _ _ us hl => match us, hl with | [_], _ => rfl
  have D_is_fraction : Dn P w K mg base "is_fraction" ["thing"] 2 (sp_is_fraction K) := dn_of F_is_fraction G_is_fraction (He.glo_ok X G (c.fact 10 (f := .glo "is_fraction") rfl)) B_is_fraction
  have G_is_amount : FnOk P w K mg base CX0 3 (He.fAd K ("is_amount", none)) fd_is_amount ["thing"] (sp_is_amount K) := ok_is_amount T F_is_amount D_is_fraction
  have B_is_amount : Binds K fd_is_amount ["thing"] [] := bind1 F_is_amount fun _ _ _ _ _ _ us hl => match us, hl with | [_], _ => rfl
  have D_is_amount : Dn P w K mg base "is_amount" ["thing"] 3 (sp_is_amount K) := dn_of F_is_amount G_is_amount (He.glo_ok X G (c.fact 11 (f := .glo "is_amount") rfl)) B_is_amount
  have G_are_sums : FnOk P w K mg base CX0 4 (He.fAd K ("are_sums", none)) fd_are_sums ["thing"] (sp_are_sums K) := ok_are_sums T F_are_sums D_is_amount
  have B_are_sums : Binds K fd_are_sums ["thing"] [] := bind1 F_are_sums fun _ _ _ _ _ _ us hl => match us, hl with | [_], _ => rfl
  have D_are_sums : Dn P w K mg base "are_sums" ["thing"] 4 (sp_are_sums K) := dn_of F_are_sums G_are_sums (He.glo_ok X G (c.fact 12 (f := .glo "are_sums") rfl)) B_are_sums
  have G_made : FnOk P w K mg base CX0 2 (He.fAd K ("made", none)) fd_made ["top", "bottom"] (sp_made K) := ok_made T F_made D_common_divisor
  have B_made : Binds K fd_made ["top", "bottom"] [] := bind1 F_made fun _ _ _ _ _ _ us hl => match us, hl with | [_, _], _ => rfl
  have D_made : Dn P w K mg base "made" ["top", "bottom"] 2 (sp_made K) := dn_of F_made G_made (He.glo_ok X G (c.fact 13 (f := .glo "made") rfl)) B_made
  have G_plus : FnOk P w K mg base CX0 3 (He.fAd K ("plus", none)) fd_plus ["one", "other"] (sp_plus K) := ok_plus T F_plus D_made
  have B_plus : Binds K fd_plus ["one", "other"] [] := bind1 F_plus fun _ _ _ _ _ _ us hl => match us, hl with | [_, _], _ => rfl
  have D_plus : Dn P w K mg base "plus" ["one", "other"] 3 (sp_plus K) := dn_of F_plus G_plus (He.glo_ok X G (c.fact 14 (f := .glo "plus") rfl)) B_plus
  have G_total_of : FnOk P w K mg base CX0 4 (He.fAd K ("total_of", none)) fd_total_of ["fractions"] (sp_total_of K) := ok_total_of T F_total_of D_plus
  have B_total_of : Binds K fd_total_of ["fractions"] [] := bind1 F_total_of fun _ _ _ _ _ _ us hl => match us, hl with | [_], _ => rfl
  have D_total_of : Dn P w K mg base "total_of" ["fractions"] 4 (sp_total_of K) := dn_of F_total_of G_total_of (He.glo_ok X G (c.fact 15 (f := .glo "total_of") rfl)) B_total_of
  have G_Evening_init : FnOk P w K mg base CX0 5 (He.fAd K ("Evening", some "__init__")) fd_Evening_init ["self", "owed", "due"] (sp_Evening_init K) := ok_Evening_init T F_Evening_init D_are_sums D_total_of
  have B_Evening_init : Binds K fd_Evening_init ["self", "owed", "due"] [] := bind1 F_Evening_init fun _ _ _ _ _ _ us hl => match us, hl with | [_, _, _], _ => rfl
  have D_Evening_init : Di P w K mg base "Evening" ["self", "owed", "due"] 5 (sp_Evening_init K) := ⟨_, fd_Evening_init, G_Evening_init, He.mkr_ok (c.fact 16 (f := .mkr "Evening") rfl), B_Evening_init⟩
  have G_l_made : FnOk P w K mg base CX0 1 (He.fAd K ("_law_made", none)) fd_l_made ["_law_top", "_law_bottom"] (sp_l_made K) := ok_l_made T F_l_made
  have B_l_made : Binds K fd_l_made ["_law_top", "_law_bottom"] [] := bind1 F_l_made fun _ _ _ _ _ _ us hl => match us, hl with | [_, _], _ => rfl
  have D_l_made : Dn P w K mg base "_law_made" ["_law_top", "_law_bottom"] 1 (sp_l_made K) := dn_of F_l_made G_l_made (He.glo_ok X G (c.fact 17 (f := .glo "_law_made") rfl)) B_l_made
  have G_l_times : FnOk P w K mg base CX0 2 (He.fAd K ("_law_times", none)) fd_l_times ["_law_number", "_law_unit_here"] (sp_l_times K) := ok_l_times T F_l_times D_l_made
  have B_l_times : Binds K fd_l_times ["_law_number", "_law_unit_here"] [] := bind1 F_l_times fun _ _ _ _ _ _ us hl => match us, hl with | [_, _], _ => rfl
  have D_l_times : Dn P w K mg base "_law_times" ["_law_number", "_law_unit_here"] 2 (sp_l_times K) := dn_of F_l_times G_l_times (He.glo_ok X G (c.fact 18 (f := .glo "_law_times") rfl)) B_l_times
  have G_l_evening : FnOk P w K mg base CX0 7 (He.fAd K ("_law_evening", none)) fd_l_evening ["_law_sums_here", "_law_unit_here"] (sp_l_evening K) := ok_l_evening T F_l_evening D_Evening_init D_l_times
  have B_l_evening : Binds K fd_l_evening ["_law_sums_here", "_law_unit_here"] [] := bind1 F_l_evening fun _ _ _ _ _ _ us hl => match us, hl with | [_, _], _ => rfl
  have D_l_evening : Dn P w K mg base "_law_evening" ["_law_sums_here", "_law_unit_here"] 7 (sp_l_evening K) := dn_of F_l_evening G_l_evening (He.glo_ok X G (c.fact 19 (f := .glo "_law_evening") rfl)) B_l_evening
  have G_check_most : FnOk P w K mg base CX0 1 (He.fAd K ("check_most", none)) fd_check_most ["many", "most"] (sp_check_most K) := ok_check_most T F_check_most
  have B_check_most : Binds K fd_check_most ["many", "most"] [] := bind1 F_check_most fun _ _ _ _ _ _ us hl => match us, hl with | [_, _], _ => rfl
  have D_check_most : Dn P w K mg base "check_most" ["many", "most"] 1 (sp_check_most K) := dn_of F_check_most G_check_most (He.glo_ok X G (c.fact 20 (f := .glo "check_most") rfl)) B_check_most
  have G_measure_of : FnOk P w K mg base CX0 3 (He.fAd K ("measure_of", none)) fd_measure_of ["amounts"] (sp_measure_of K) := ok_measure_of T F_measure_of D_made D_common_divisor
  have B_measure_of : Binds K fd_measure_of ["amounts"] [] := bind1 F_measure_of fun _ _ _ _ _ _ us hl => match us, hl with | [_], _ => rfl
  have D_measure_of : Dn P w K mg base "measure_of" ["amounts"] 3 (sp_measure_of K) := dn_of F_measure_of G_measure_of (He.glo_ok X G (c.fact 21 (f := .glo "measure_of") rfl)) B_measure_of
  have G_all_sums : FnOk P w K mg base CX0 1 (He.fAd K ("all_sums", none)) fd_all_sums ["evening"] (sp_all_sums K) := ok_all_sums T F_all_sums
  have B_all_sums : Binds K fd_all_sums ["evening"] [] := bind1 F_all_sums fun _ _ _ _ _ _ us hl => match us, hl with | [_], _ => rfl
  have D_all_sums : Dn P w K mg base "all_sums" ["evening"] 1 (sp_all_sums K) := dn_of F_all_sums G_all_sums (He.glo_ok X G (c.fact 22 (f := .glo "all_sums") rfl)) B_all_sums
  have G_measure : FnOk P w K mg base CX0 4 (He.fAd K ("measure", none)) fd_measure ["evening"] (sp_measure K) := ok_measure T F_measure D_measure_of D_all_sums
  have B_measure : Binds K fd_measure ["evening"] [] := bind1 F_measure fun _ _ _ _ _ _ us hl => match us, hl with | [_], _ => rfl
  have D_measure : Dn P w K mg base "measure" ["evening"] 4 (sp_measure K) := dn_of F_measure G_measure (He.glo_ok X G (c.fact 23 (f := .glo "measure") rfl)) B_measure
  have G_over : FnOk P w K mg base CX0 3 (He.fAd K ("over", none)) fd_over ["one", "other"] (sp_over K) := ok_over T F_over D_made
  have B_over : Binds K fd_over ["one", "other"] [] := bind1 F_over fun _ _ _ _ _ _ us hl => match us, hl with | [_, _], _ => rfl
  have D_over : Dn P w K mg base "over" ["one", "other"] 3 (sp_over K) := dn_of F_over G_over (He.glo_ok X G (c.fact 24 (f := .glo "over") rfl)) B_over
  have G_whole_sums : FnOk P w K mg base CX0 5 (He.fAd K ("whole_sums", none)) fd_whole_sums ["evening"] (sp_whole_sums K) := ok_whole_sums T F_whole_sums D_measure D_over
  have B_whole_sums : Binds K fd_whole_sums ["evening"] [] := bind1 F_whole_sums fun _ _ _ _ _ _ us hl => match us, hl with | [_], _ => rfl
  have D_whole_sums : Dn P w K mg base "whole_sums" ["evening"] 5 (sp_whole_sums K) := dn_of F_whole_sums G_whole_sums (He.glo_ok X G (c.fact 25 (f := .glo "whole_sums") rfl)) B_whole_sums
  have G_Joints_init : FnOk P w K mg base CX0 6 (He.fAd K ("Joints", some "__init__")) fd_Joints_init ["self", "evening"] (sp_Joints_init K) := ok_Joints_init T F_Joints_init D_whole_sums
  have B_Joints_init : Binds K fd_Joints_init ["self", "evening"] [] := bind1 F_Joints_init fun _ _ _ _ _ _ us hl => match us, hl with | [_, _], _ => rfl
  have D_Joints_init : Di P w K mg base "Joints" ["self", "evening"] 6 (sp_Joints_init K) := ⟨_, fd_Joints_init, G_Joints_init, He.mkr_ok (c.fact 26 (f := .mkr "Joints") rfl), B_Joints_init⟩
  have G_minus : FnOk P w K mg base CX0 3 (He.fAd K ("minus", none)) fd_minus ["one", "other"] (sp_minus K) := ok_minus T F_minus D_made
  have B_minus : Binds K fd_minus ["one", "other"] [] := bind1 F_minus fun _ _ _ _ _ _ us hl => match us, hl with | [_, _], _ => rfl
  have D_minus : Dn P w K mg base "minus" ["one", "other"] 3 (sp_minus K) := dn_of F_minus G_minus (He.glo_ok X G (c.fact 27 (f := .glo "minus") rfl)) B_minus
  have G_times : FnOk P w K mg base CX0 3 (He.fAd K ("times", none)) fd_times ["one", "other"] (sp_times K) := ok_times T F_times D_made
  have B_times : Binds K fd_times ["one", "other"] [] := bind1 F_times fun _ _ _ _ _ _ us hl => match us, hl with | [_, _], _ => rfl
  have D_times : Dn P w K mg base "times" ["one", "other"] 3 (sp_times K) := dn_of F_times G_times (He.glo_ok X G (c.fact 28 (f := .glo "times") rfl)) B_times
  have G_whole : FnOk P w K mg base CX0 1 (He.fAd K ("whole", none)) fd_whole ["number"] (sp_whole K) := ok_whole T F_whole
  have B_whole : Binds K fd_whole ["number"] [] := bind1 F_whole fun _ _ _ _ _ _ us hl => match us, hl with | [_], _ => rfl
  have D_whole : Dn P w K mg base "whole" ["number"] 1 (sp_whole K) := dn_of F_whole G_whole (He.glo_ok X G (c.fact 29 (f := .glo "whole") rfl)) B_whole
  have G_rest_by : FnOk P w K mg base CX0 4 (He.fAd K ("rest_by", none)) fd_rest_by ["sum_here", "amount"] (sp_rest_by K) := ok_rest_by T F_rest_by D_over D_minus D_times D_whole
  have B_rest_by : Binds K fd_rest_by ["sum_here", "amount"] [] := bind1 F_rest_by fun _ _ _ _ _ _ us hl => match us, hl with | [_, _], _ => rfl
  have D_rest_by : Dn P w K mg base "rest_by" ["sum_here", "amount"] 4 (sp_rest_by K) := dn_of F_rest_by G_rest_by (He.glo_ok X G (c.fact 30 (f := .glo "rest_by") rfl)) B_rest_by
  have G_fits_unit : FnOk P w K mg base CX0 5 (He.fAd K ("fits_unit", none)) fd_fits_unit ["ones", "others"] (sp_fits_unit K) := ok_fits_unit T F_fits_unit D_rest_by
  have B_fits_unit : Binds K fd_fits_unit ["ones", "others"] [] := bind1 F_fits_unit fun _ _ _ _ _ _ us hl => match us, hl with | [_, _], _ => rfl
  have D_fits_unit : Dn P w K mg base "fits_unit" ["ones", "others"] 5 (sp_fits_unit K) := dn_of F_fits_unit G_fits_unit (He.glo_ok X G (c.fact 31 (f := .glo "fits_unit") rfl)) B_fits_unit
  have G_queue_unit : FnOk P w K mg base CX0 6 (He.fAd K ("queue_unit", none)) fd_queue_unit ["evening"] (sp_queue_unit K) := ok_queue_unit T F_queue_unit D_fits_unit
  have B_queue_unit : Binds K fd_queue_unit ["evening"] [] := bind1 F_queue_unit fun _ _ _ _ _ _ us hl => match us, hl with | [_], _ => rfl
  have D_queue_unit : Dn P w K mg base "queue_unit" ["evening"] 6 (sp_queue_unit K) := dn_of F_queue_unit G_queue_unit (He.glo_ok X G (c.fact 32 (f := .glo "queue_unit") rfl)) B_queue_unit
  have G_people : FnOk P w K mg base CX0 1 (He.fAd K ("people", none)) fd_people ["evening"] (sp_people K) := ok_people T F_people
  have B_people : Binds K fd_people ["evening"] [] := bind1 F_people fun _ _ _ _ _ _ us hl => match us, hl with | [_], _ => rfl
  have D_people : Dn P w K mg base "people" ["evening"] 1 (sp_people K) := dn_of F_people G_people (He.glo_ok X G (c.fact 33 (f := .glo "people") rfl)) B_people
  have G_Joints_next_ones : FnOk P w K mg base CX0 1 (He.fAd K ("Joints", some "next_ones")) fd_Joints_next_ones ["self", "lot"] (sp_Joints_next_ones K) := ok_Joints_next_ones T F_Joints_next_ones
  have B_Joints_next_ones : Binds K fd_Joints_next_ones ["self", "lot"] [] := bind1 F_Joints_next_ones fun _ _ _ _ _ _ us hl => match us, hl with | [_, _], _ => rfl
  have D_Joints_next_ones : Dm P w K mg base "Joints" "next_ones" ["self", "lot"] 1 (sp_Joints_next_ones K) := ⟨_, fd_Joints_next_ones, G_Joints_next_ones, He.meth_ok (c.fact 34 (f := .meth "Joints" "next_ones") rfl), B_Joints_next_ones⟩
  have G_Joints_later_lots : FnOk P w K mg base CX0 2 (He.fAd K ("Joints", some "later_lots")) fd_Joints_later_lots ["self", "lot"] (sp_Joints_later_lots K) := ok_Joints_later_lots T F_Joints_later_lots D_Joints_next_ones
  have B_Joints_later_lots : Binds K fd_Joints_later_lots ["self", "lot"] [] := bind1 F_Joints_later_lots fun _ _ _ _ _ _ us hl => match us, hl with | [_, _], _ => rfl
  have D_Joints_later_lots : Dm P w K mg base "Joints" "later_lots" ["self", "lot"] 2 (sp_Joints_later_lots K) := ⟨_, fd_Joints_later_lots, G_Joints_later_lots, He.meth_ok (c.fact 35 (f := .meth "Joints" "later_lots") rfl), B_Joints_later_lots⟩
  have G_Joints_follow : FnOk P w K mg base CX0 3 (He.fAd K ("Joints", some "follow")) fd_Joints_follow ["self", "wants_few"] (sp_Joints_follow K) := ok_Joints_follow T F_Joints_follow D_Joints_later_lots
  have B_Joints_follow : Binds K fd_Joints_follow ["self", "wants_few"] [] := bind1 F_Joints_follow fun _ _ _ _ _ _ us hl => match us, hl with | [_, _], _ => rfl
  have D_Joints_follow : Dm P w K mg base "Joints" "follow" ["self", "wants_few"] 3 (sp_Joints_follow K) := ⟨_, fd_Joints_follow, G_Joints_follow, He.meth_ok (c.fact 36 (f := .meth "Joints" "follow") rfl), B_Joints_follow⟩
  have G_Joints_orders : FnOk P w K mg base CX0 4 (He.fAd K ("Joints", some "orders")) fd_Joints_orders ["self", "wants_few"] (sp_Joints_orders K) := ok_Joints_orders T F_Joints_orders D_Joints_follow D_Joints_next_ones
  have B_Joints_orders : Binds K fd_Joints_orders ["self", "wants_few"] [] := bind1 F_Joints_orders fun _ _ _ _ _ _ us hl => match us, hl with | [_, _], _ => rfl
  have D_Joints_orders : Dm P w K mg base "Joints" "orders" ["self", "wants_few"] 4 (sp_Joints_orders K) := ⟨_, fd_Joints_orders, G_Joints_orders, He.meth_ok (c.fact 37 (f := .meth "Joints" "orders") rfl), B_Joints_orders⟩
  have G_unlike_queues : FnOk P w K mg base CX0 8 (He.fAd K ("unlike_queues", none)) fd_unlike_queues ["evening"] (sp_unlike_queues K) := ok_unlike_queues T F_unlike_queues D_check_most D_Joints_init D_queue_unit D_people D_Joints_orders D_Joints_follow
  have B_unlike_queues : Binds K fd_unlike_queues ["evening"] [] := bind1 F_unlike_queues fun _ _ _ _ _ _ us hl => match us, hl with | [_], _ => rfl
  have D_unlike_queues : Dn P w K mg base "unlike_queues" ["evening"] 8 (sp_unlike_queues K) := dn_of F_unlike_queues G_unlike_queues (He.glo_ok X G (c.fact 38 (f := .glo "unlike_queues") rfl)) B_unlike_queues
  have G_l_together : FnOk P w K mg base CX0 6 (He.fAd K ("_law_together", none)) fd_l_together ["_law_source_here", "_law_parts", "_law_most"] (sp_l_together K) := ok_l_together T F_l_together D_l_crowd
  have B_l_together : Binds K fd_l_together ["_law_source_here", "_law_parts", "_law_most"] [] := bind1 F_l_together fun _ _ _ _ _ _ us hl => match us, hl with | [_, _, _], _ => rfl
  have D_l_together : Dn P w K mg base "_law_together" ["_law_source_here", "_law_parts", "_law_most"] 6 (sp_l_together K) := dn_of F_l_together G_l_together (He.glo_ok X G (c.fact 39 (f := .glo "_law_together") rfl)) B_l_together
  have G_l_unit : FnOk P w K mg base CX0 2 (He.fAd K ("_law_unit", none)) fd_l_unit ["_law_source_here"] (sp_l_unit K) := ok_l_unit T F_l_unit D_l_draw
  have B_l_unit : Binds K fd_l_unit ["_law_source_here"] [] := bind1 F_l_unit fun _ _ _ _ _ _ us hl => match us, hl with | [_], _ => rfl
  have D_l_unit : Dn P w K mg base "_law_unit" ["_law_source_here"] 2 (sp_l_unit K) := dn_of F_l_unit G_l_unit (He.glo_ok X G (c.fact 40 (f := .glo "_law_unit") rfl)) B_l_unit
  have G_are_ascending : FnOk P w K mg base CX0 1 (He.fAd K ("are_ascending", none)) fd_are_ascending ["things"] (sp_are_ascending K) := ok_are_ascending T F_are_ascending
  have B_are_ascending : Binds K fd_are_ascending ["things"] [] := bind1 F_are_ascending fun _ _ _ _ _ _ us hl => match us, hl with | [_], _ => rfl
  have D_are_ascending : Dn P w K mg base "are_ascending" ["things"] 1 (sp_are_ascending K) := dn_of F_are_ascending G_are_ascending (He.glo_ok X G (c.fact 41 (f := .glo "are_ascending") rfl)) B_are_ascending
  have G_is_within : FnOk P w K mg base CX0 2 (He.fAd K ("is_within", none)) fd_is_within ["thing", "least", "most"] (sp_is_within K) := ok_is_within T F_is_within D_is_integer
  have B_is_within : Binds K fd_is_within ["thing", "least", "most"] [] := bind1 F_is_within fun _ _ _ _ _ _ us hl => match us, hl with | [_, _, _], _ => rfl
  have D_is_within : Dn P w K mg base "is_within" ["thing", "least", "most"] 2 (sp_is_within K) := dn_of F_is_within G_is_within (He.glo_ok X G (c.fact 42 (f := .glo "is_within") rfl)) B_is_within
  have G_is_lot_below : FnOk P w K mg base CX0 3 (He.fAd K ("is_lot_below", none)) fd_is_lot_below ["thing", "many"] (sp_is_lot_below K) := ok_is_lot_below T F_is_lot_below D_are_ascending D_is_within
  have B_is_lot_below : Binds K fd_is_lot_below ["thing", "many"] [] := bind1 F_is_lot_below fun _ _ _ _ _ _ us hl => match us, hl with | [_, _], _ => rfl
  have D_is_lot_below : Dn P w K mg base "is_lot_below" ["thing", "many"] 3 (sp_is_lot_below K) := dn_of F_is_lot_below G_is_lot_below (He.glo_ok X G (c.fact 43 (f := .glo "is_lot_below") rfl)) B_is_lot_below
  have G_sorted_numbers : FnOk P w K mg base CX0 1 (He.fAd K ("sorted_numbers", none)) fd_sorted_numbers ["things"] (sp_sorted_numbers K) := ok_sorted_numbers T F_sorted_numbers
  have B_sorted_numbers : Binds K fd_sorted_numbers ["things"] [] := bind1 F_sorted_numbers fun _ _ _ _ _ _ us hl => match us, hl with | [_], _ => rfl
  have D_sorted_numbers : Dn P w K mg base "sorted_numbers" ["things"] 1 (sp_sorted_numbers K) := dn_of F_sorted_numbers G_sorted_numbers (He.glo_ok X G (c.fact 44 (f := .glo "sorted_numbers") rfl)) B_sorted_numbers
  have G_is_order : FnOk P w K mg base CX0 4 (He.fAd K ("is_order", none)) fd_is_order ["many", "thing"] (sp_is_order K) := ok_is_order T F_is_order D_is_lot_below D_sorted_numbers
  have B_is_order : Binds K fd_is_order ["many", "thing"] [] := bind1 F_is_order fun _ _ _ _ _ _ us hl => match us, hl with | [_, _], _ => rfl
  have D_is_order : Dn P w K mg base "is_order" ["many", "thing"] 4 (sp_is_order K) := dn_of F_is_order G_is_order (He.glo_ok X G (c.fact 45 (f := .glo "is_order") rfl)) B_is_order
  have G_check_orders : FnOk P w K mg base CX0 5 (He.fAd K ("check_orders", none)) fd_check_orders ["evening", "owers", "takers"] (sp_check_orders K) := ok_check_orders T F_check_orders D_is_order
  have B_check_orders : Binds K fd_check_orders ["evening", "owers", "takers"] [] := bind1 F_check_orders fun _ _ _ _ _ _ us hl => match us, hl with | [_, _, _], _ => rfl
  have D_check_orders : Dn P w K mg base "check_orders" ["evening", "owers", "takers"] 5 (sp_check_orders K) := dn_of F_check_orders G_check_orders (He.glo_ok X G (c.fact 46 (f := .glo "check_orders") rfl)) B_check_orders
  have G_State_init : FnOk P w K mg base CX0 1 (He.fAd K ("State", some "__init__")) fd_State_init ["self", "evening"] (sp_State_init K) := ok_State_init T F_State_init
  have B_State_init : Binds K fd_State_init ["self", "evening"] [] := bind1 F_State_init fun _ _ _ _ _ _ us hl => match us, hl with | [_, _], _ => rfl
  have D_State_init : Di P w K mg base "State" ["self", "evening"] 1 (sp_State_init K) := ⟨_, fd_State_init, G_State_init, He.mkr_ok (c.fact 47 (f := .mkr "State") rfl), B_State_init⟩
  have G_is_less : FnOk P w K mg base CX0 1 (He.fAd K ("is_less", none)) fd_is_less ["one", "other"] (sp_is_less K) := ok_is_less T F_is_less
  have B_is_less : Binds K fd_is_less ["one", "other"] [] := bind1 F_is_less fun _ _ _ _ _ _ us hl => match us, hl with | [_, _], _ => rfl
  have D_is_less : Dn P w K mg base "is_less" ["one", "other"] 1 (sp_is_less K) := dn_of F_is_less G_is_less (He.glo_ok X G (c.fact 48 (f := .glo "is_less") rfl)) B_is_less
  have G_least_of : FnOk P w K mg base CX0 2 (He.fAd K ("least_of", none)) fd_least_of ["one", "other"] (sp_least_of K) := ok_least_of T F_least_of D_is_less
  have B_least_of : Binds K fd_least_of ["one", "other"] [] := bind1 F_least_of fun _ _ _ _ _ _ us hl => match us, hl with | [_, _], _ => rfl
  have D_least_of : Dn P w K mg base "least_of" ["one", "other"] 2 (sp_least_of K) := dn_of F_least_of G_least_of (He.glo_ok X G (c.fact 49 (f := .glo "least_of") rfl)) B_least_of
  have G_State_amount_of : FnOk P w K mg base CX0 3 (He.fAd K ("State", some "amount_of")) fd_State_amount_of ["self", "pair"] (sp_State_amount_of K) := ok_State_amount_of T F_State_amount_of D_least_of
  have B_State_amount_of : Binds K fd_State_amount_of ["self", "pair"] [] := bind1 F_State_amount_of fun _ _ _ _ _ _ us hl => match us, hl with | [_, _], _ => rfl
  have D_State_amount_of : Dm P w K mg base "State" "amount_of" ["self", "pair"] 3 (sp_State_amount_of K) := ⟨_, fd_State_amount_of, G_State_amount_of, He.meth_ok (c.fact 50 (f := .meth "State" "amount_of") rfl), B_State_amount_of⟩
  have G_State_go : FnOk P w K mg base CX0 4 (He.fAd K ("State", some "go")) fd_State_go ["self", "pair"] (sp_State_go K) := ok_State_go T F_State_go D_State_amount_of D_minus
  have B_State_go : Binds K fd_State_go ["self", "pair"] [] := bind1 F_State_go fun _ _ _ _ _ _ us hl => match us, hl with | [_, _], _ => rfl
  have D_State_go : Dm P w K mg base "State" "go" ["self", "pair"] 4 (sp_State_go K) := ⟨_, fd_State_go, G_State_go, He.meth_ok (c.fact 51 (f := .meth "State" "go") rfl), B_State_go⟩
  have G_way_of_queues : FnOk P w K mg base CX0 5 (He.fAd K ("way_of_queues", none)) fd_way_of_queues ["evening", "owers", "takers"] (sp_way_of_queues K) := ok_way_of_queues T F_way_of_queues D_State_init D_State_go
  have B_way_of_queues : Binds K fd_way_of_queues ["evening", "owers", "takers"] [] := bind1 F_way_of_queues fun _ _ _ _ _ _ us hl => match us, hl with | [_, _, _], _ => rfl
  have D_way_of_queues : Dn P w K mg base "way_of_queues" ["evening", "owers", "takers"] 5 (sp_way_of_queues K) := dn_of F_way_of_queues G_way_of_queues (He.glo_ok X G (c.fact 52 (f := .glo "way_of_queues") rfl)) B_way_of_queues
  have G_queue_way : FnOk P w K mg base CX0 6 (He.fAd K ("queue_way", none)) fd_queue_way ["evening", "owers", "takers"] (sp_queue_way K) := ok_queue_way T F_queue_way D_check_orders D_way_of_queues
  have B_queue_way : Binds K fd_queue_way ["evening", "owers", "takers"] [] := bind1 F_queue_way fun _ _ _ _ _ _ us hl => match us, hl with | [_, _, _], _ => rfl
  have D_queue_way : Dn P w K mg base "queue_way" ["evening", "owers", "takers"] 6 (sp_queue_way K) := dn_of F_queue_way G_queue_way (He.glo_ok X G (c.fact 53 (f := .glo "queue_way") rfl)) B_queue_way
  have G_queue_number : FnOk P w K mg base CX0 7 (He.fAd K ("queue_number", none)) fd_queue_number ["evening", "owers", "takers"] (sp_queue_number K) := ok_queue_number T F_queue_number D_queue_way
  have B_queue_number : Binds K fd_queue_number ["evening", "owers", "takers"] [] := bind1 F_queue_number fun _ _ _ _ _ _ us hl => match us, hl with | [_, _, _], _ => rfl
  have D_queue_number : Dn P w K mg base "queue_number" ["evening", "owers", "takers"] 7 (sp_queue_number K) := dn_of F_queue_number G_queue_number (He.glo_ok X G (c.fact 54 (f := .glo "queue_number") rfl)) B_queue_number
  have G_l_is_integer : FnOk P w K mg base CX0 1 (He.fAd K ("_law_is_integer", none)) fd_l_is_integer ["_law_thing"] (sp_l_is_integer K) := ok_l_is_integer T F_l_is_integer
  have B_l_is_integer : Binds K fd_l_is_integer ["_law_thing"] [] := bind1 F_l_is_integer fun _ _ _ _ _ _ us hl => match us, hl with | [_], _ => rfl
  have D_l_is_integer : Dn P w K mg base "_law_is_integer" ["_law_thing"] 1 (sp_l_is_integer K) := dn_of F_l_is_integer G_l_is_integer (He.glo_ok X G (c.fact 55 (f := .glo "_law_is_integer") rfl)) B_l_is_integer
  have G_l_is_order : FnOk P w K mg base CX0 2 (He.fAd K ("_law_is_order", none)) fd_l_is_order ["_law_many", "_law_thing"] (sp_l_is_order K) := ok_l_is_order T F_l_is_order D_l_is_integer
  have B_l_is_order : Binds K fd_l_is_order ["_law_many", "_law_thing"] [] := bind1 F_l_is_order fun _ _ _ _ _ _ us hl => match us, hl with | [_, _], _ => rfl
  have D_l_is_order : Dn P w K mg base "_law_is_order" ["_law_many", "_law_thing"] 2 (sp_l_is_order K) := dn_of F_l_is_order G_l_is_order (He.glo_ok X G (c.fact 56 (f := .glo "_law_is_order") rfl)) B_l_is_order
  have G_l_pay : FnOk P w K mg base CX0 1 (He.fAd K ("_law_pay", none)) fd_l_pay ["_law_state", "_law_pair"] (sp_l_pay K) := ok_l_pay T F_l_pay
  have B_l_pay : Binds K fd_l_pay ["_law_state", "_law_pair"] [] := bind1 F_l_pay fun _ _ _ _ _ _ us hl => match us, hl with | [_, _], _ => rfl
  have D_l_pay : Dn P w K mg base "_law_pay" ["_law_state", "_law_pair"] 1 (sp_l_pay K) := dn_of F_l_pay G_l_pay (He.glo_ok X G (c.fact 57 (f := .glo "_law_pay") rfl)) B_l_pay
  have G_l_queue_way : FnOk P w K mg base CX0 2 (He.fAd K ("_law_queue_way", none)) fd_l_queue_way ["_law_sums_here", "_law_owers", "_law_takers"] (sp_l_queue_way K) := ok_l_queue_way T F_l_queue_way D_l_pay
  have B_l_queue_way : Binds K fd_l_queue_way ["_law_sums_here", "_law_owers", "_law_takers"] [] := bind1 F_l_queue_way fun _ _ _ _ _ _ us hl => match us, hl with | [_, _, _], _ => rfl
  have D_l_queue_way : Dn P w K mg base "_law_queue_way" ["_law_sums_here", "_law_owers", "_law_takers"] 2 (sp_l_queue_way K) := dn_of F_l_queue_way G_l_queue_way (He.glo_ok X G (c.fact 58 (f := .glo "_law_queue_way") rfl)) B_l_queue_way
  have G_l_right : FnOk P w K mg base CX0 8 (He.fAd K ("_law_right", none)) fd_l_right ["_law_sums_here", "_law_evening_here", "_law_told"] (sp_l_right K) := ok_l_right T F_l_right D_queue_number D_l_is_order D_l_queue_way
  have B_l_right : Binds K fd_l_right ["_law_sums_here", "_law_evening_here", "_law_told"] [] := bind1 F_l_right fun _ _ _ _ _ _ us hl => match us, hl with | [_, _, _], _ => rfl
  have D_l_right : Dn P w K mg base "_law_right" ["_law_sums_here", "_law_evening_here", "_law_told"] 8 (sp_l_right K) := dn_of F_l_right G_l_right (He.glo_ok X G (c.fact 59 (f := .glo "_law_right") rfl)) B_l_right
  have G_l_queue_unit : FnOk P w K mg base CX0 1 (He.fAd K ("_law_queue_unit", none)) fd_l_queue_unit ["_law_sums_here"] (sp_l_queue_unit K) := ok_l_queue_unit T F_l_queue_unit
  have B_l_queue_unit : Binds K fd_l_queue_unit ["_law_sums_here"] [] := bind1 F_l_queue_unit fun _ _ _ _ _ _ us hl => match us, hl with | [_], _ => rfl
  have D_l_queue_unit : Dn P w K mg base "_law_queue_unit" ["_law_sums_here"] 1 (sp_l_queue_unit K) := dn_of F_l_queue_unit G_l_queue_unit (He.glo_ok X G (c.fact 60 (f := .glo "_law_queue_unit") rfl)) B_l_queue_unit
  have G_l_most_parts : FnOk P w K mg base CX0 1 (He.fAd K ("_law_most_parts", none)) fd_l_most_parts ["_law_sums_here"] (sp_l_most_parts K) := ok_l_most_parts T F_l_most_parts
  have B_l_most_parts : Binds K fd_l_most_parts ["_law_sums_here"] [] := bind1 F_l_most_parts fun _ _ _ _ _ _ us hl => match us, hl with | [_], _ => rfl
  have D_l_most_parts : Dn P w K mg base "_law_most_parts" ["_law_sums_here"] 1 (sp_l_most_parts K) := dn_of F_l_most_parts G_l_most_parts (He.glo_ok X G (c.fact 61 (f := .glo "_law_most_parts") rfl)) B_l_most_parts
  have G_l_fourteen_hold : FnOk P w K mg base CX0 9 (He.fAd K ("_law_fourteen_hold", none)) fd_l_fourteen_hold ["_law_source_here"] (sp_l_fourteen_hold K) := ok_l_fourteen_hold T F_l_fourteen_hold D_l_together D_l_evening D_unlike_queues D_l_unit D_l_right D_l_queue_unit D_l_most_parts
  have B_l_fourteen_hold : Binds K fd_l_fourteen_hold ["_law_source_here"] [] := bind1 F_l_fourteen_hold fun _ _ _ _ _ _ us hl => match us, hl with | [_], _ => rfl
  have D_l_fourteen_hold : Dn P w K mg base "_law_fourteen_hold" ["_law_source_here"] 9 (sp_l_fourteen_hold K) := dn_of F_l_fourteen_hold G_l_fourteen_hold (He.glo_ok X G (c.fact 62 (f := .glo "_law_fourteen_hold") rfl)) B_l_fourteen_hold
  have G_l_put_together : FnOk P w K mg base CX0 6 (He.fAd K ("_law_put_together", none)) fd_l_put_together ["_law_source_here"] (sp_l_put_together K) := ok_l_put_together T F_l_put_together D_l_crowd D_l_draw
  have B_l_put_together : Binds K fd_l_put_together ["_law_source_here"] [] := bind1 F_l_put_together fun _ _ _ _ _ _ us hl => match us, hl with | [_], _ => rfl
  have D_l_put_together : Dn P w K mg base "_law_put_together" ["_law_source_here"] 6 (sp_l_put_together K) := dn_of F_l_put_together G_l_put_together (He.glo_ok X G (c.fact 63 (f := .glo "_law_put_together") rfl)) B_l_put_together
  have G_l_flag : FnOk P w K mg base CX0 1 (He.fAd K ("_law_flag", none)) fd_l_flag ["_law_told", "_law_due"] (sp_l_flag K) := ok_l_flag T F_l_flag
  have B_l_flag : Binds K fd_l_flag ["_law_told", "_law_due"] [] := bind1 F_l_flag fun _ _ _ _ _ _ us hl => match us, hl with | [_, _], _ => rfl
  have D_l_flag : Dn P w K mg base "_law_flag" ["_law_told", "_law_due"] 1 (sp_l_flag K) := dn_of F_l_flag G_l_flag (He.glo_ok X G (c.fact 64 (f := .glo "_law_flag") rfl)) B_l_flag
  have G_queues_alike : FnOk P w K mg base CX0 9 (He.fAd K ("queues_alike", none)) fd_queues_alike ["evening"] (sp_queues_alike K) := ok_queues_alike T F_queues_alike D_unlike_queues
  have B_queues_alike : Binds K fd_queues_alike ["evening"] [] := bind1 F_queues_alike fun _ _ _ _ _ _ us hl => match us, hl with | [_], _ => rfl
  have D_queues_alike : Dn P w K mg base "queues_alike" ["evening"] 9 (sp_queues_alike K) := dn_of F_queues_alike G_queues_alike (He.glo_ok X G (c.fact 65 (f := .glo "queues_alike") rfl)) B_queues_alike
  have G_l_orders : FnOk P w K mg base CX0 1 (He.fAd K ("_law_orders", none)) fd_l_orders ["_law_many"] (sp_l_orders K) := ok_l_orders T F_l_orders
  have B_l_orders : Binds K fd_l_orders ["_law_many"] [] := bind1 F_l_orders fun _ _ _ _ _ _ us hl => match us, hl with | [_], _ => rfl
  have D_l_orders : Dn P w K mg base "_law_orders" ["_law_many"] 1 (sp_l_orders K) := dn_of F_l_orders G_l_orders (He.glo_ok X G (c.fact 66 (f := .glo "_law_orders") rfl)) B_l_orders
  have G_l_queue_numbers : FnOk P w K mg base CX0 3 (He.fAd K ("_law_queue_numbers", none)) fd_l_queue_numbers ["_law_sums_here"] (sp_l_queue_numbers K) := ok_l_queue_numbers T F_l_queue_numbers D_l_orders D_l_queue_way
  have B_l_queue_numbers : Binds K fd_l_queue_numbers ["_law_sums_here"] [] := bind1 F_l_queue_numbers fun _ _ _ _ _ _ us hl => match us, hl with | [_], _ => rfl
  have D_l_queue_numbers : Dn P w K mg base "_law_queue_numbers" ["_law_sums_here"] 3 (sp_l_queue_numbers K) := dn_of F_l_queue_numbers G_l_queue_numbers (He.glo_ok X G (c.fact 67 (f := .glo "_law_queue_numbers") rfl)) B_l_queue_numbers
  exact ok_law T F_law D_l_source D_l_crowd D_l_evening D_unlike_queues D_l_draw D_l_fourteen_hold D_l_put_together D_l_unit D_l_flag D_queues_alike D_l_right D_l_queue_numbers
end
end K71
open PySem PySem.W PySem.Calls PyProof.Rows
theorem PySem.Challenge.cw_quitsways_k71_whole_unlike_queues_holds : PySem.Challenge.rw_quitsways_k71_whole_unlike_queues.Holds := by
  w_on; o_law
  refine HandSHeadRun.head_any (r := OpenLaw.row PySem.Challenge.rw_quitsways_k71_whole_unlike_queues) (q := view (OpenLaw.row PySem.Challenge.rw_quitsways_k71_whole_unlike_queues).prog [77]) (H := K71.hk) (ob := K71.ob) (M := 20000) (loose := K71.loose) (d := HandSHeadRun.topDef (OpenLaw.row PySem.Challenge.rw_quitsways_k71_whole_unlike_queues).prog 77) (kwd := []) K71.ob_eq
    (by kernel_rfl) (fun s => by kernel_rfl) K71.run (by kernel_rfl) (by kernel_rfl) (by kernel_rfl) (by rfl) (by first | assumption | decide +kernel) (by decide +kernel) ⟨rfl, rfl, rfl, rfl, rfl, by decide +kernel⟩ ?hw ?hc
  case hw => w_witness2
  case hc =>
    refine L2.walk_ofE (l := PySem.Challenge.rw_quitsways_k71_whole_unlike_queues) (n := 63) (k := 10) (x := "_law_script") (CX := L2.CX0) rfl (by decide) (by kernel_rfl) ⟨rfl, by decide, by decide⟩ ?F (fun _ _ _ _ z => z)
    intro w mg fa h Y G hmg0
    obtain ⟨K, KX, c⟩ := Y
    have hmg : mg ("law" : PySem.Str) = some (.ref fa) := by
      have e : (HandSHeadRun.topDef (OpenLaw.row PySem.Challenge.rw_quitsways_k71_whole_unlike_queues).prog 77).name = ("law" : PySem.Str) := by kernel_rfl
      rw [← e]
      exact hmg0
    obtain ⟨fd, hb, hF⟩ := K71.facts (P := (PySem.Challenge.rw_quitsways_k71_whole_unlike_queues).prog) (w := w) KX G hmg c.d c.z
    exact ⟨K, fd, K71.sp_law K, KX, hb, fun H a ns hl _ hS => ⟨a, ns, rfl, hS, hl, fun _ => rfl⟩, hF⟩
