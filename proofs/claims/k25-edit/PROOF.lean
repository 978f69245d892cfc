import PyProof.Rows.All
import Wide.All
import OpenK.AllK
import Wide.FinOn
import HandS.ForMost
import HandS.More
import KE.GoesEnum
import HandS.Walk
import KE.SortData
import HandS.TupSets
import HandS.DictTup
import KE.KDictCopyH
import KE.KDictSum
import KE.KDictZip
import KE.KDictPairs
import HandS.Zip
import HandS.Dict
import HandS.TupAny
import HandS.Iter
import HandS.Style
import HandS.Text
import HandS.Conv
import HandS.SortInts
import HandS.Small
import PyProof.DictFindH
import PyProof.ReprRoads
import PyProof.ReprDict
import PyProof.StrLawsRepr
import HandS.Ends
import HandS.Words
import KE.KDictDisplayH
import PySem.Challenge.RW_sparehop_k25_whole_each_edit_moves_one_l
set_option Elab.async false
set_option linter.all false
set_option maxRecDepth 100000
set_option maxHeartbeats 4000000
/-! The text by places: each def of the top, its names by slot. -/
namespace K25
open PySem L2
def tp (i : Nat) : Stmt := PySem.Challenge.pw_sparehop_k25_whole_each_edit_moves_one_l.main.body.getD i (.Pass ⟨0, 0, 0, 0⟩)
abbrev s_leases_of : Stmt := tp 1
theorem sc_leases_of : FnScope ["fleet", "first", "service", "number"] ["fleet"] (defScope s_leases_of) := ⟨rfl, rfl, rfl, by decide +kernel, rfl, by decide +kernel, by decide +kernel⟩
abbrev s_reduced : Stmt := tp 3
theorem sc_reduced : FnScope ["word", "found", "name"] ["word"] (defScope s_reduced) := ⟨rfl, rfl, rfl, by decide +kernel, rfl, by decide +kernel, by decide +kernel⟩
abbrev s_joined : Stmt := tp 4
theorem sc_joined : FnScope ["first", "second"] ["first", "second"] (defScope s_joined) := ⟨rfl, rfl, rfl, by decide +kernel, rfl, by decide +kernel, by decide +kernel⟩
abbrev s_common_length : Stmt := tp 5
theorem sc_common_length : FnScope ["one", "other", "many"] ["one", "other"] (defScope s_common_length) := ⟨rfl, rfl, rfl, by decide +kernel, rfl, by decide +kernel, by decide +kernel⟩
abbrev s_way : Stmt := tp 6
theorem sc_way : FnScope ["one", "other", "many", "up", "at"] ["one", "other"] (defScope s_way) := ⟨rfl, rfl, rfl, by decide +kernel, rfl, by decide +kernel, by decide +kernel⟩
abbrev s_vertices_of : Stmt := tp 8
theorem sc_vertices_of : FnScope ["fleet", "plan", "found", "number", "service"] ["fleet", "plan"] (defScope s_vertices_of) := ⟨rfl, rfl, rfl, by decide +kernel, rfl, by decide +kernel, by decide +kernel⟩
abbrev s_edges_with : Stmt := tp 10
theorem sc_edges_with : FnScope ["edges", "service", "edge"] ["edges", "service"] (defScope s_edges_with) := ⟨rfl, rfl, rfl, by decide +kernel, rfl, by decide +kernel, by decide +kernel⟩
abbrev s_aparts : Stmt := tp 11
theorem sc_aparts : FnScope ["fleet", "one", "other", "first", "second", "found", "service", "begin", "edges"] ["fleet", "one", "other"] (defScope s_aparts) := ⟨rfl, rfl, rfl, by decide +kernel, rfl, by decide +kernel, by decide +kernel⟩
abbrev s_distance : Stmt := tp 12
theorem sc_distance : FnScope ["fleet", "one", "other"] ["fleet", "one", "other"] (defScope s_distance) := ⟨rfl, rfl, rfl, by decide +kernel, rfl, by decide +kernel, by decide +kernel⟩
abbrev s_w_bag : Stmt := tp 14
theorem sc_w_bag : FnScope ["_law_script", "_law_cell"] ["_law_script"] (defScope s_w_bag) := ⟨rfl, rfl, rfl, by decide +kernel, rfl, by decide +kernel, by decide +kernel⟩
abbrev s_w_take : Stmt := tp 15
theorem sc_w_take : FnScope ["_law_bag_here", "_law_many", "_law_cell", "_law_stirred", "_law_value", "_law_begin", "_law_second"] ["_law_bag_here", "_law_many"] (defScope s_w_take) := ⟨rfl, rfl, rfl, by decide +kernel, rfl, by decide +kernel, by decide +kernel⟩
abbrev s_w_some : Stmt := tp 16
theorem sc_w_some : FnScope ["_law_bag_here", "_law_things"] ["_law_bag_here", "_law_things"] (defScope s_w_some) := ⟨rfl, rfl, rfl, by decide +kernel, rfl, by decide +kernel, by decide +kernel⟩
abbrev s_w_mixed : Stmt := tp 17
theorem sc_w_mixed : FnScope ["_law_bag_here", "_law_things", "_law_found", "_law_thing"] ["_law_bag_here", "_law_things"] (defScope s_w_mixed) := ⟨rfl, rfl, rfl, by decide +kernel, rfl, by decide +kernel, by decide +kernel⟩
abbrev s_w_alike : Stmt := tp 18
theorem sc_w_alike : FnScope ["_law_found", "_law_due"] ["_law_found", "_law_due"] (defScope s_w_alike) := ⟨rfl, rfl, rfl, by decide +kernel, rfl, by decide +kernel, by decide +kernel⟩
abbrev s_w_names : Stmt := tp 19
theorem sc_w_names : FnScope ["_law_bag_here", "_law_many", "_law_letters", "_law_kind", "_law_first", "_law_found", "_law_stem", "_law_at", "_law_turn"] ["_law_bag_here", "_law_many"] (defScope s_w_names) := ⟨rfl, rfl, rfl, by decide +kernel, rfl, by decide +kernel, by decide +kernel⟩
abbrev s_w_fleet : Stmt := tp 20
theorem sc_w_fleet : FnScope ["_law_bag_here", "_law_many", "_law_most", "_law_services", "_law_kind", "_law_places", "_law_some_here", "_law_restarts", "_law_at", "_law_one"] ["_law_bag_here", "_law_many", "_law_most"] (defScope s_w_fleet) := ⟨rfl, rfl, rfl, by decide +kernel, rfl, by decide +kernel, by decide +kernel⟩
abbrev s_w_plan : Stmt := tp 21
theorem sc_w_plan : FnScope ["_law_bag_here", "_law_fleet_here", "_law_least", "_law_j"] ["_law_bag_here", "_law_fleet_here"] (defScope s_w_plan) := ⟨rfl, rfl, rfl, by decide +kernel, rfl, by decide +kernel, by decide +kernel⟩
abbrev s_w_end : Stmt := tp 22
theorem sc_w_end : FnScope ["_law_fleet_here", "_law_lease", "_law_service", "_law_begin", "_law_j", "_law_one"] ["_law_fleet_here", "_law_lease"] (defScope s_w_end) := ⟨rfl, rfl, rfl, by decide +kernel, rfl, by decide +kernel, by decide +kernel⟩
abbrev s_w_leases : Stmt := tp 23
theorem sc_w_leases : FnScope ["_law_fleet_here", "_law_found", "_law_service", "_law_j"] ["_law_fleet_here"] (defScope s_w_leases) := ⟨rfl, rfl, rfl, by decide +kernel, rfl, by decide +kernel, by decide +kernel⟩
abbrev s_w_pins : Stmt := tp 24
theorem sc_w_pins : FnScope ["_law_bag_here", "_law_fleet_here", "_law_some_here", "_law_of", "_law_lease"] ["_law_bag_here", "_law_fleet_here"] (defScope s_w_pins) := ⟨rfl, rfl, rfl, by decide +kernel, rfl, by decide +kernel, by decide +kernel⟩
abbrev s_w_stands : Stmt := tp 25
theorem sc_w_stands : FnScope ["_law_fleet_here", "_law_plan_here", "_law_now", "_law_found", "_law_spares", "_law_free", "_law_j", "_law_service", "_law_machine"] ["_law_fleet_here", "_law_plan_here"] (defScope s_w_stands) := ⟨rfl, rfl, rfl, by decide +kernel, rfl, by decide +kernel, by decide +kernel⟩
abbrev s_w_wide : Stmt := tp 26
theorem sc_w_wide : FnScope ["_law_bag_here"] ["_law_bag_here"] (defScope s_w_wide) := ⟨rfl, rfl, rfl, by decide +kernel, rfl, by decide +kernel, by decide +kernel⟩
abbrev s_w_near : Stmt := tp 27
theorem sc_w_near : FnScope ["_law_fleet_here", "_law_plan_here", "_law_pins_here", "_law_spares", "_law_found", "_law_lease", "_law_some_here"] ["_law_fleet_here", "_law_plan_here", "_law_pins_here"] (defScope s_w_near) := ⟨rfl, rfl, rfl, by decide +kernel, rfl, by decide +kernel, by decide +kernel⟩
abbrev s_w_cut_fleet : Stmt := tp 28
theorem sc_w_cut_fleet : FnScope ["_law_bag_here", "_law_many", "_law_most", "_law_services", "_law_places", "_law_restarts"] ["_law_bag_here", "_law_many", "_law_most"] (defScope s_w_cut_fleet) := ⟨rfl, rfl, rfl, by decide +kernel, rfl, by decide +kernel, by decide +kernel⟩
abbrev s_w_middle : Stmt := tp 29
theorem sc_w_middle : FnScope ["_law_bag_here"] ["_law_bag_here"] (defScope s_w_middle) := ⟨rfl, rfl, rfl, by decide +kernel, rfl, by decide +kernel, by decide +kernel⟩
abbrev s_w_exchanged : Stmt := tp 30
theorem sc_w_exchanged : FnScope ["_law_fleet_here", "_law_plan_here", "_law_lease", "_law_end_here", "_law_ends", "_law_j"] ["_law_fleet_here", "_law_plan_here", "_law_lease"] (defScope s_w_exchanged) := ⟨rfl, rfl, rfl, by decide +kernel, rfl, by decide +kernel, by decide +kernel⟩
abbrev s_law : Stmt := tp 31
theorem sc_law : FnScope ["_law_script", "_law_bag_here", "_law_is_wide", "_law_fleet_here", "_law_pins_here", "_law_plan_here", "_law_beside", "_law_other", "_law_before", "_law_step", "_law_some_here", "_law_lease", "_law_later", "_law_now", "_law_one", "_law_two", "_law_its"] ["_law_script"] (defScope s_law) := ⟨rfl, rfl, rfl, by decide +kernel, rfl, by decide +kernel, by decide +kernel⟩
end K25
/-! Heaps: what stays, the bag; short words for readings. -/
namespace K25
open PySem PySem.Spec PyProof.Rows L2
/-- all that is tracked stays, but the object at b -/
def Kp (b : Addr) (H H' : Hp) : Prop := ∀ a o, a ≠ b → H a = some o → H' a = some o
theorem Kp.refl (b : Addr) (H : Hp) : Kp b H H := fun _ _ _ h => h
theorem Kp.trans {b : Addr} {H H1 H2 : Hp} (x : Kp b H H1) (y : Kp b H1 H2) : Kp b H H2 := fun a o n h => y a o n (x a o n h)
theorem Kp.of {b : Addr} {H H' : Hp} (s : Same H H') : Kp b H H' := fun a o _ h => s a o h
theorem Kp.upd (b : Addr) (H : Hp) (o : HO) : Kp b H (upd H b o) := fun a u n h => by rw [upd_ne n]; exact h
theorem same_new {H : Hp} {p : Addr} {o : HO} (h : H p = none) : Same H (upd H p o) := fun b x e => by
  rw [upd_ne (ne_of_none e h)]
  exact e
theorem Kp.new {b : Addr} {H : Hp} {p : Addr} {o : HO} (h : H p = none) : Kp b H (L2.upd H p o) := .of (same_new h)
theorem Kp.free {b : Addr} {H H' : Hp} (e : Kp b H H') {l : Addr} (h : H' l = none) (n : l ≠ b) : H l = none := by
  cases q : H l with
  | none => rfl
  | some o => rw [e l o n q] at h; cases h
theorem Kp.seqL {K : PySem.W.Frag} {b : Addr} {H H' : Hp} {a : Addr} {xs : List V} (e : Kp b H H') (n : a ≠ b) (h : SqL K H a xs) : SqL K H' a xs := by
  rcases h with (h | ⟨o, h⟩) | h
  · exact .inl (.inl (e _ _ n h))
  · exact .inl (.inr ⟨o, e _ _ n h⟩)
  · exact .inr h
theorem sqT {K : PySem.W.Frag} {H : Hp} {a : Addr} {xs : List V} (h : H a = some (.tup xs)) : SqT K H a xs := .inl (.inl h)
theorem sqL {K : PySem.W.Frag} {H : Hp} {a : Addr} {xs : List V} (h : H a = some (.lst xs)) : SqL K H a xs := .inl (.inl h)
theorem upd_other {H : Hp} {a p : Addr} {o u : HO} (h : H a = some u) (hp : H p = none) : upd H p o a = some u := by
  rw [upd_ne (ne_of_none h hp)]; exact h
theorem line1000 : 1000 < (sizeLine : Nat) := by rw [sizeLine_eq]; decide
theorem le_line {n : Nat} (h : n ≤ 10000) : n ≤ sizeLine := by rw [sizeLine_eq]; omega
theorem lt_line {n : Nat} (h : n ≤ 10000) : n < sizeLine := by rw [sizeLine_eq]; omega

/-- the bag at b, its cells at c -/
structure Bag (H : Hp) (b c : Addr) : Prop where
  ex : ∃ (x y z : Int) (cs : List Int), H b = some (.lst [.int x, .int y, .int z, .ref c]) ∧ H c = some (.lst (cs.map V.int)) ∧ cs.length ≤ 63 ∧ 0 ≤ x ∧ 0 ≤ y ∧ 0 ≤ z ∧ ∀ n ∈ cs, 0 ≤ n
theorem Bag.new {H : Hp} {b c p : Addr} {o : HO} (B : Bag H b c) (h : H p = none) : Bag (upd H p o) b c := by
  obtain ⟨x, y, z, cs, h1, h2, r⟩ := B.ex
  exact ⟨x, y, z, cs, upd_other h1 h, upd_other h2 h, r⟩
theorem Bag.upd {H : Hp} {b c p : Addr} {o : HO} (B : Bag H b c) (n1 : p ≠ b) (n2 : p ≠ c) : Bag (L2.upd H p o) b c := by
  obtain ⟨x, y, z, cs, h1, h2, r⟩ := B.ex
  exact ⟨x, y, z, cs, by rw [upd_ne n1.symm]; exact h1, by rw [upd_ne n2.symm]; exact h2, r⟩
theorem Bag.same {H H' : Hp} {b c : Addr} (B : Bag H b c) (s : Same H H') : Bag H' b c := by
  obtain ⟨x, y, z, cs, h1, h2, r⟩ := B.ex
  exact ⟨x, y, z, cs, s _ _ h1, s _ _ h2, r⟩
theorem Bag.at_ {H : Hp} {b c : Addr} (B : Bag H b c) : ∃ xs, H b = some (.lst xs) := by
  obtain ⟨x, y, z, cs, h1, _⟩ := B.ex
  exact ⟨_, h1⟩
theorem Bag.atc {H : Hp} {b c : Addr} (B : Bag H b c) : ∃ cs : List Int, H c = some (.lst (cs.map V.int)) := by
  obtain ⟨x, y, z, cs, _, h, _⟩ := B.ex
  exact ⟨_, h⟩
/-- what is free in a heap with the bag is none of its own -/
theorem Bag.nb {H : Hp} {b c p : Addr} (B : Bag H b c) (h : H p = none) : p ≠ b := by
  obtain ⟨_, e⟩ := B.at_
  exact (ne_of_none e h).symm
theorem Bag.nc {H : Hp} {b c p : Addr} (B : Bag H b c) (h : H p = none) : p ≠ c := by
  obtain ⟨_, e⟩ := B.atc
  exact (ne_of_none e h).symm
theorem Bag.cb {H : Hp} {b c : Addr} (B : Bag H b c) : c ≠ b := by
  obtain ⟨x, y, z, cs, h1, h2, _⟩ := B.ex
  refine ne_of h2 h1 fun e => ?_
  have e' : cs.map V.int = [.int x, .int y, .int z, .ref c] := by injection e
  have m : V.ref c ∈ cs.map V.int := by rw [e']; simp
  obtain ⟨_, _, q⟩ := List.mem_map.mp m
  cases q
/-- another kind of object is not the bag -/
theorem Bag.ne {H : Hp} {b c a : Addr} {u : HO} (B : Bag H b c) (h : H a = some u) (d : ∀ xs, u ≠ .lst xs) : a ≠ b := by
  obtain ⟨xs, h1⟩ := B.at_
  exact ne_of h h1 (d xs)

/-! ### built-ins by name -/
theorem bt_tuple : bootBuiltins "tuple" = some (.type "tuple") := by decide +kernel
theorem bt_list : bootBuiltins "list" = some (.type "list") := by decide +kernel
theorem bt_dict : bootBuiltins "dict" = some (.type "dict") := by decide +kernel
theorem bt_set : bootBuiltins "set" = some (.type "set") := by decide +kernel
theorem bt_int : bootBuiltins "int" = some (.type "int") := by decide +kernel
theorem bt_len : bootBuiltins "len" = some (.builtin "len") := by decide +kernel
theorem bt_sorted : bootBuiltins "sorted" = some (.builtin "sorted") := by decide +kernel
theorem bt_sum : bootBuiltins "sum" = some (.builtin "sum") := by decide +kernel
theorem bt_abs : bootBuiltins "abs" = some (.builtin "abs") := by decide +kernel
theorem bt_min : bootBuiltins "min" = some (.builtin "min") := by decide +kernel
theorem bt_repr : bootBuiltins "repr" = some (.builtin "repr") := by decide +kernel
/-! ### rules -/
section
variable {X : Cx}
/-- o[i] of a list, read for an augmented store -/
def gIxL : V → V → Hp → VK → Prop := fun x y H Q => ∃ p xs i v, x = .ref p ∧ y = .int i ∧ H p = some (.lst xs) ∧ 0 ≤ i ∧ i < 1000 ∧ xs[i.toNat]? = some v ∧ Q v H
theorem get_list : PGet X gIxL := by
  intro pins s σ H x y ov iv Q I rx ry h
  obtain ⟨p, xs, i, z, rfl, rfl, hp, h0, h1, hz, q⟩ := h
  cases rx
  obtain ⟨t, rfl⟩ := ry
  obtain ⟨its, r, pl, _⟩ := I.list (.inl (.inl hp))
  obtain ⟨w, ew, rw'⟩ := r.get hz
  exact wpAny_getItem_list pl.isList h0 (by omega) (by simpa using ew) ⟨z, H, I, rw', q⟩
/-- a statement, then the rest: what holds between them is said once -/
def cut (t u : TS) : TS := fun D σ H => ∃ M : L2.St → Hp → Prop, t { D with nx := M } σ H ∧ ∀ σ' H', M σ' H' → u D σ' H'
theorem pss_mid {st : Stmt} {rest : List Stmt} {t u : TS} (h1 : PS X st t) (h2 : PSs X rest u) : PSs X (st :: rest) (cut t u) := by
  refine ⟨fun pins s σ H D I ⟨M, hm, hu⟩ => wpAny_execs_cons (thn (h1.run pins s σ H { D with nx := M } I hm) fun f s1 q => ?_)⟩
  cases f with
  | next => exact let ⟨σ', H', I', q⟩ := q; h2.run pins s1 σ' H' D I' (hu σ' H' q)
  | ret v => exact q
  | brk => exact q
  | cont => exact q
/-- an expression: what holds of its value is said once -/
def cutE (t : TE) : TE := fun σ H Q => ∃ M : V → Hp → Prop, t σ H M ∧ ∀ v H', M v H' → Q v H'
theorem pe_mid {e : PySem.Expr} {t : TE} (h : PE X e t) : PE X e (cutE t) :=
  ⟨fun pins s σ H Q I ⟨M, hm, hu⟩ => thn (h.run pins s σ H M I hm) fun u s1 ⟨v, H1, I1, r, q⟩ => ⟨v, H1, I1, r, hu v H1 q⟩⟩
/-- a test: what holds behind each answer is said once -/
def cutT (t : TT) : TT := fun σ H Q => ∃ M : Bool → Hp → Prop, t σ H M ∧ ∀ v H', M v H' → Q v H'
theorem pt_mid {e : PySem.Expr} {t : TT} (h : PT X e t) : PT X e (cutT t) :=
  ⟨fun pins s σ H Q I ⟨M, hm, hu⟩ => thn (h.run pins s σ H M I hm) fun c s1 ⟨H1, I1, q⟩ => ⟨H1, I1, hu c H1 q⟩⟩
/-- int(n) -/
def rIntI : List V → Hp → VK → Prop := fun xs H Q => ∃ i, xs = [.int i] ∧ Q (.int i) H
theorem call_intI : CallR X (.type "int") rIntI := fun pins s σ H xs us Q I r h => call_int1 pins s σ H xs us Q I r (.inl h)
theorem pe_intC {e : PySem.Expr} {te : TE} {p pos : Pos} (hg : Gl X "int") (hm : X.mg "int" = none) (he : PE X e te) (hs : starEach [e] X.env = (false, eval e X.env) :: starEach [] X.env := by rfl)
    (hpl : (backTo pos (starEach [] X.env)).any (·.1) = false := by rfl) : PE X (.Call (.Name "int" p) [e] [] pos) (tCB rIntI (tCons te tNil)) :=
  pe_callTy (pos := pos) (p := p) (x := "int") call_intI hg hm (by decide +kernel) (pa_cons he pa_nil hs) (by decide) (by decide) hs hpl
end
/-! ### a def that is called -/
structure Cal (P : Program) (w : World) (K : PySem.W.Frag) (mg : Str → Option Value) (base : Heap) (x : Str) (k : Nat) (ps : List Str) (sp : Sp) where
  f : Addr
  fd : FuncData
  ok : FnOk P w K mg base CX0 k f fd ps sp
  gl : mg x = some (.ref f)
  kp : PySem.W.keepIn K (.ref f) = true
  bi : Binds K fd ps []
section
variable {X : Cx} {x : Str} {k j : Nat} {ps : List Str} {sp : Sp} {e : PySem.Expr} {es : List PySem.Expr} {t : TA} {p pos : Pos}
theorem Cal.pe (C : Cal X.prog X.w X.K X.mg X.base x k ps sp) (hr : Room j X.A) (hk : k ≤ j) (hg : Gl X x) (ha : PA X (e :: es) t) (hdb : (x == ("__debug__" : Str)) = false := by decide)
    (he : starEach (e :: es) X.env = (false, eval e X.env) :: starEach es X.env := by rfl) (hpl : (backTo pos (starEach es X.env)).any (·.1) = false := by rfl) :
    PE X (.Call (.Name x p) (e :: es) [] pos) (tCall sp [] E0 t) :=
  pe_call C.ok (hr.mono hk) hg C.gl C.kp C.bi .nil pass0 ha hdb he hpl
end
/-! ### a fleet -/
def NameOk (s : Str) : Prop := s.length ≤ 20 ∧ ∀ c ∈ s.cps.toList, c < 128
structure FleetOk (svs : List Str) (pls : List Int) (rs : List Str) : Prop where
  s1 : 1 ≤ svs.length
  s8 : svs.length ≤ 8
  nm : ∀ s ∈ svs, NameOk s
  r60 : rs.length ≤ 60
  rin : ∀ r ∈ rs, r ∈ svs
  pl : pls.length = svs.length
  nd : pls.Nodup
  pin : ∀ p ∈ pls, 0 ≤ p ∧ p ≤ (svs.length : Int)
/-- the fleet at a -/
structure Fleet (H : Hp) (a : Addr) (svs : List Str) (pls : List Int) (rs : List Str) : Prop where
  ex : ∃ sa pa ra, H a = some (.tup [.ref sa, .ref pa, .ref ra]) ∧ H sa = some (.tup (svs.map V.str)) ∧ H pa = some (.tup (pls.map V.int)) ∧ H ra = some (.tup (rs.map V.str))
theorem Kp.tup {b c : Addr} {H H' : Hp} (k : Kp b H H') (B : Bag H b c) {a : Addr} {xs : List V} (h : H a = some (.tup xs)) : H' a = some (.tup xs) :=
  k a _ (B.ne h fun _ => by simp) h
theorem Kp.dT {b c : Addr} {H H' : Hp} (k : Kp b H H') (B : Bag H b c) {a : Addr} {xs : List (List Key × V)} (h : H a = some (.dT xs)) : H' a = some (.dT xs) :=
  k a _ (B.ne h fun _ => by simp) h
theorem Fleet.same {H H' : Hp} {a : Addr} {svs : List Str} {pls : List Int} {rs : List Str} (F : Fleet H a svs pls rs) (s : Same H H') : Fleet H' a svs pls rs := by
  obtain ⟨sa, pa, ra, h1, h2, h3, h4⟩ := F.ex
  exact ⟨sa, pa, ra, s _ _ h1, s _ _ h2, s _ _ h3, s _ _ h4⟩
theorem Fleet.kp {H H' : Hp} {a b c : Addr} {svs : List Str} {pls : List Int} {rs : List Str} (F : Fleet H a svs pls rs) (B : Bag H b c) (k : Kp b H H') : Fleet H' a svs pls rs := by
  obtain ⟨sa, pa, ra, h1, h2, h3, h4⟩ := F.ex
  exact ⟨sa, pa, ra, k.tup B h1, k.tup B h2, k.tup B h3, k.tup B h4⟩
/-- numbers of restarts -/
def PlanOk (ps : List Int) (m : Nat) : Prop := ps.length ≤ 60 ∧ ∀ j ∈ ps, 0 ≤ j ∧ j < (m : Int)
end K25
/-! _law_bag, _law_take, _law_some. -/
namespace K25
open PySem PySem.Spec PyProof.Rows L2
section
variable {P : Program} {w : World} {K : PySem.W.Frag} {mg : Str → Option Value} {base : Heap}
/-! ### the bag's making -/
def sp_bag (K : PySem.W.Frag) : Sp := fun vs H Q _ => ∃ (a : Addr) (ns : List Int), vs = [.ref a] ∧ SqL K H a (ns.map V.int) ∧ ns.length ≤ 63 ∧
  ∀ H' b c, Same H H' → H b = none → H c = none → Bag H' b c → Q (.ref b) H'
theorem ok_bag {f : Addr} {fd : FuncData} {k : Nat} (F : Fun K "_law_bag" "_law_bag" s_w_bag f fd) (mA : mg "abs" = none) : FnOk P w K mg base CX0 (k + 1) f fd ["_law_script"] (sp_bag K) := by
  refine F.ok sc_w_bag (fun vs H Q E h => ?_) (fun cdv A outer s H vs Q E hr h => ?_)
  · obtain ⟨a, ns, rfl, _⟩ := h
    rfl
  · obtain ⟨a, ns, rfl, hS, hl, q⟩ := h
    refine ⟨_, pss_one (ps_ret (pe_lst (pa_cons pe_int (pa_cons pe_int (pa_cons pe_int (pa_cons
      (pe_lc (own := [("_law_cell", 1)]) (g := gName 1) (tt := tYes) rfl sc_w_bag.nd (pi_list (pe_slice sl_list (pv 0) po_none (po_some pe_int))) (blkOk_by (own := [("_law_cell", 1)]) (N := ["_law_script", "_law_cell"]) (sc := defScope s_w_bag) (by decide +kernel))
        (fun _ _ _ _ _ => pg_name (i := 1) sc_w_bag.nd rfl (Or.inl rfl)) (fun _ _ _ _ _ => pts_nil)
        (fun _ _ _ _ _ => pe_callB call_abs (by rfl) mA (by decide +kernel) (pa_cons (pv 1) pa_nil))) pa_nil)))))), ?_⟩
    refine ⟨.ref a, rfl, 63, rfl, a, ns.map V.int, rfl, hS, fun l hl0 => ?_⟩
    have ec : cutV (ns.map V.int) none (some 63) = ns.map V.int := by
      unfold cutV
      rw [HT.sIx_none, show HT.sIx (ns.map V.int).length (ns.map V.int).length (some 63) = min 63 (ns.map V.int).length from HT.sIx_nat _ _ 63, List.length_map, Nat.min_eq_right hl, List.drop_zero, List.take_of_length_le (by rw [List.length_map]; omega)]
    rw [ec]
    have s1 := same_new (o := HO.lst (ns.map V.int)) hl0
    refine ⟨l, rfl, ⟨_, sqL upd_same⟩, fun D hD => ?_⟩
    have dl : D ≠ l := fun e => by rw [e, upd_same] at hD; cases hD
    have hD0 : H D = none := s1.free hD
    refine lc_list (K := K) (a := l) (xs := ns.map V.int) (fun i H2 => Same (upd H l (.lst (ns.map V.int))) H2 ∧ ∃ cs : List Int, H2 D = some (.lst (cs.map V.int)) ∧ cs.length = i ∧ ∀ n ∈ cs, 0 ≤ n)
      ⟨same_new hD, [], upd_same, rfl, by simp⟩ (fun i H2 _ h2 => h2.1.seq (sqL upd_same)) ?_ ?_
    · rintro i x H2 hx ⟨sm, cs, e1, e2, e3⟩
      have hlt : i < ns.length := by
        have := (List.getElem?_eq_some_iff.mp hx).1
        rwa [List.length_map] at this
      obtain ⟨n, rfl⟩ : ∃ n, x = V.int n := by
        rw [List.getElem?_map] at hx
        cases e : ns[i]? with
        | none => rw [e] at hx; cases hx
        | some n => rw [e] at hx; exact ⟨n, (Option.some.inj hx).symm⟩
      refine ⟨rfl, V.int n, rfl, n, rfl, cs.map V.int, e1, ?_, ?_, cs ++ [if n < 0 then -n else n], ?_, ?_, ?_⟩
      · rw [List.length_map]; exact lt_line (by omega)
      · intro b o hb
        rw [upd_ne (ne_of_none hb hD)]
        exact sm _ _ hb
      · rw [upd_same, List.map_append]; rfl
      · rw [List.length_append]; simp [e2]
      · intro m hm
        rcases List.mem_append.mp hm with z | z
        · exact e3 m z
        · rw [List.mem_singleton.mp z]
          split <;> omega
    · rintro H2 ⟨sm, cs, e1, e2, e3⟩
      refine ⟨le_line (by show 4 ≤ 10000; decide), fun b hb => ?_⟩
      have hb0 : H b = none := s1.free (sm.free hb)
      refine q _ b D ((s1.trans sm).trans (same_new hb)) hb0 hD0 ⟨0, 1234567891, 0, cs, upd_same, upd_other e1 hb, ?_, by decide, by decide, by decide, e3⟩
      rw [List.length_map] at e2
      omega
/-! ### a draw -/
def sp_take : Sp := fun vs H Q _ => ∃ (b c : Addr) (n : Int), vs = [.ref b, .int n] ∧ Bag H b c ∧ 1 ≤ n ∧ n ≤ 1000 ∧ ∀ H' v, Kp b H H' → Bag H' b c → 0 ≤ v → v < n → Q (.int v) H'
theorem ok_take {f : Addr} {fd : FuncData} {k : Nat} (F : Fun K "_law_take" "_law_take" s_w_take f fd) (mI : mg "int" = none) : FnOk P w K mg base CX0 (k + 1) f fd ["_law_bag_here", "_law_many"] sp_take := by
  refine F.ok sc_w_take (fun vs H Q E h => ?_) (fun cdv A outer s H vs Q E hr h => ?_)
  · obtain ⟨b, c, n, rfl, _⟩ := h
    rfl
  · obtain ⟨b, c, n, rfl, B, hn1, hn2, q⟩ := h
    refine ⟨_, pss_mid (ps_if (pt_cmpR op_eq (pe_ix ix_list (pv 0) pe_int (fun _ _ => rfl)) pe_int (nomark _))
        (pss_cons (ps_set (i := 2) sc_w_take.nd rfl (.inl rfl) (pe_ix ix_list (pe_op op_cat (pe_slice sl_list (pe_ix ix_list (pv 0) pe_int (fun _ _ => rfl)) (po_some (pe_ix ix_list (pv 0) pe_int (fun _ _ => rfl))) po_none) (pe_lst (pa_cons pe_int pa_nil))) pe_int (fun _ _ => rfl)))
        (pss_cons (ps_augS (pv 0) pe_int get_list pe_int ip_add set_list)
        (pss_mid (ps_if (pt_cmpR op_ge (pv 2) (pe_op op_pow pe_int pe_int) (nomark _)) (pss_one (ps_asg (pv 2) (pg_sub (pv 0) pe_int set_list))) pss_nil)
        (pss_cons (ps_set (i := 3) sc_w_take.nd rfl (.inl rfl) (pe_op op_add (pe_op op_add (pe_op op_mul (pe_ix ix_list (pv 0) pe_int (fun _ _ => rfl)) pe_int) (pe_op op_mod (pe_intC (by rfl) mI (pv 2)) pe_int)) (pe_op op_mul pe_int (pe_ix ix_list (pv 0) pe_int (fun _ _ => rfl)))))
        (pss_one (ps_asg (pe_op op_mod (pe_intC (by rfl) mI (pv 3)) pe_int) (pg_sub (pv 0) pe_int set_list))))))) pss_nil)
      (pss_cons (ps_if (pt_cmpR op_gt (pe_ix ix_list (pv 0) pe_int (fun _ _ => rfl)) pe_int (nomark _))
        (pss_cons (ps_set (i := 4) sc_w_take.nd rfl (.inl rfl) (pe_op op_mod (pe_intC (by rfl) mI (pe_ix ix_list (pv 0) pe_int (fun _ _ => rfl))) (pv 1)))
        (pss_cons (ps_asg (pe_op op_fdiv (pe_intC (by rfl) mI (pe_ix ix_list (pv 0) pe_int (fun _ _ => rfl))) (pv 1)) (pg_sub (pv 0) pe_int set_list))
        (pss_one (ps_ret (pv 4))))) pss_nil)
      (pss_cons (ps_set (i := 5) sc_w_take.nd rfl (.inl rfl) (pe_op op_mod (pe_intC (by rfl) mI (pe_op op_mul (pe_op op_add (pe_ix ix_list (pv 0) pe_int (fun _ _ => rfl)) pe_int) pe_int)) pe_int))
      (pss_cons (ps_set (i := 6) sc_w_take.nd rfl (.inl rfl) (pe_op op_mod (pe_intC (by rfl) mI (pe_op op_mul (pe_op op_mod (pe_intC (by rfl) mI (pe_op op_mul (pv 5) (pv 5))) pe_int) pe_int)) pe_int))
      (pss_one (ps_ret (pe_op op_mod (pe_intC (by rfl) mI (pe_op op_fdiv (pv 6) pe_int)) (pv 1))))))), ?_⟩
    obtain ⟨x, y, z, cs, h1, h2, hcl, hx, hy, hz, hcs⟩ := B.ex
    have hbc : c ≠ b := B.cb
    refine ⟨fun σ' H' => ∃ y2 y3, σ' = [some (.ref b), some (.int n), y2, y3, none, none, none] ∧ Kp b H H' ∧ Bag H' b c, ?_, ?_⟩
    · refine ⟨.ref b, rfl, b, _, 0, .int x, rfl, rfl, sqL h1, atI_nat (j := 0) rfl, rfl, _, rfl, ite2 (fun e => ?_) (fun e => ?_)⟩
      · -- a cell
        refine ⟨.ref b, rfl, b, _, 3, .ref c, rfl, rfl, sqL h1, atI_nat (j := 3) rfl, .ref b, rfl, b, _, 2, .int z, rfl, rfl, sqL h1, atI_nat (j := 2) rfl, z, rfl, c, cs.map V.int, rfl, sqL h2, fun l hl => ?_⟩
        obtain ⟨ds, hds, hin⟩ : ∃ ds : List Int, cutV (cs.map V.int) (some z) none = ds.map V.int ∧ ∀ m ∈ ds, m ∈ cs :=
          ⟨_, by unfold cutV; rw [← List.map_drop, ← List.map_take], fun m hm => List.mem_of_mem_drop (List.mem_of_mem_take hm)⟩
        have hdl : ds.length ≤ 63 := by
          have := cutV_length (cs.map V.int) (some z) none
          rw [hds, List.length_map, List.length_map] at this
          omega
        rw [hds]
        refine ⟨le_line (by show 1 ≤ 10000; decide), fun l2 hl2 => ?_⟩
        have nl : l ≠ l2 := ne_of_none upd_same hl2
        refine ⟨l, l2, ds.map V.int, [.int 0], rfl, rfl, upd_other upd_same hl2, upd_same, le_line (by rw [List.length_map]; show ds.length + 1 ≤ 10000; omega), fun p hp => ?_⟩
        obtain ⟨m, hm, hat⟩ : ∃ m : Int, 0 ≤ m ∧ atI (ds.map V.int ++ [.int 0]) ((0 : Nat) : Int) = some (.int m) := by
          cases ds with
          | nil => exact ⟨0, by decide, atI_nat rfl⟩
          | cons d r => exact ⟨d, hcs d (hin d (by simp)), atI_nat rfl⟩
        refine ⟨p, _, 0, .int m, rfl, rfl, sqL upd_same, hat, ?_⟩
        have k1 : Same H (upd (upd (upd H l (.lst (ds.map V.int))) l2 (.lst [.int 0])) p (.lst (ds.map V.int ++ [.int 0]))) := (same_new hl).trans ((same_new hl2).trans (same_new hp))
        refine ⟨.ref b, rfl, b, _, 2, .int z, rfl, rfl, k1 _ _ h1, by decide, by decide, rfl, z, 1, rfl, rfl, b, _, 2, 2, rfl, rfl, k1 _ _ h1, rfl, ?_⟩
        generalize hH3 : upd (upd (upd (upd H l (.lst (ds.map V.int))) l2 (.lst [.int 0])) p (.lst (ds.map V.int ++ [.int 0]))) b _ = H3
        have k3 : Kp b H H3 := by rw [← hH3]; exact (Kp.of k1).trans (Kp.upd _ _ _)
        have b3 : H3 b = some (.lst [.int x, .int y, .int (z + 1), .ref c]) := by rw [← hH3]; exact upd_same
        -- a great cell
        refine ⟨fun σ' H' => σ' = [some (.ref b), some (.int n), some (.int m), none, none, none, none] ∧ Kp b H H' ∧ ∃ x', 0 ≤ x' ∧ H' b = some (.lst [.int x', .int y, .int (z + 1), .ref c]), ?_, ?_⟩
        · refine ⟨.int m, rfl, 10, 18, rfl, rfl, ⟨by decide, by decide, by decide⟩, m, _, rfl, rfl, _, rfl, ite2 (fun _ => ?_) (fun _ => ?_)⟩
          · refine ⟨.int m, rfl, .ref b, rfl, b, _, 0, 0, rfl, rfl, b3, rfl, rfl, k3.trans (Kp.upd _ _ _), m, hm, upd_same⟩
          · exact ⟨rfl, k3, x, hx, b3⟩
        · rintro σ' H4 ⟨rfl, k4, x', hx', b4⟩
          refine ⟨.ref b, rfl, b, _, 1, .int y, rfl, rfl, sqL b4, atI_nat (j := 1) rfl, y, 48271, rfl, rfl, .inr (by decide), .int m, rfl, m, rfl, m, 2147483647, rfl, rfl, (by show (0 : Int) < 2147483647; decide), _, _, rfl, rfl,
            .ref b, rfl, b, _, 2, .int (z + 1), rfl, rfl, sqL b4, atI_nat (j := 2) rfl, 7919, z + 1, rfl, rfl, .inl (by decide), _, _, rfl, rfl, ?_⟩
          refine ⟨_, rfl, _, rfl, _, 2147483647, rfl, rfl, (by show (0 : Int) < 2147483647; decide), .ref b, rfl, b, _, 1, 1, rfl, rfl, b4, rfl, _, _, rfl, k4.trans (Kp.upd _ _ _), ⟨x', _, z + 1, cs, upd_same, ?_, hcl, hx', Int.emod_nonneg _ (by decide), by omega, hcs⟩⟩
          rw [upd_ne hbc]
          exact k4 _ _ hbc h2
      · exact ⟨_, _, rfl, Kp.refl _ _, B⟩
    · rintro σ' H1 ⟨y2, y3, rfl, k1, B1⟩
      obtain ⟨x, y, z, cs, h1, h2, hcl, hx, hy, hz, hcs⟩ := B1.ex
      refine ⟨.ref b, rfl, b, _, 0, .int x, rfl, rfl, sqL h1, atI_nat (j := 0) rfl, x, 0, rfl, rfl, _, rfl, ite2 (fun e => ?_) (fun e => ?_)⟩
      · refine ⟨.ref b, rfl, b, _, 0, .int x, rfl, rfl, sqL h1, atI_nat (j := 0) rfl, x, rfl, .int n, rfl, x, n, rfl, rfl, by omega, ?_⟩
        refine ⟨.ref b, rfl, b, _, 0, .int x, rfl, rfl, sqL h1, atI_nat (j := 0) rfl, x, rfl, .int n, rfl, x, n, rfl, rfl, ⟨by omega, by omega⟩, .ref b, rfl, b, _, 0, 0, rfl, rfl, h1, rfl, ?_⟩
        refine ⟨.int (x % n), rfl, q _ _ (k1.trans (Kp.upd _ _ _)) ⟨x / n, y, z, cs, upd_same, ?_, hcl, Int.ediv_nonneg hx (by omega), hy, hz, hcs⟩ (Int.emod_nonneg _ (by omega)) (Int.emod_lt_of_pos _ (by omega))⟩
        rw [upd_ne hbc]
        exact h2
      · refine ⟨.ref b, rfl, b, _, 1, .int y, rfl, rfl, sqL h1, atI_nat (j := 1) rfl, y, 1, rfl, rfl, y + 1, 39373, rfl, rfl, .inr (by decide), _, rfl, _, 1000000007, rfl, rfl, (by show (0 : Int) < 1000000007; decide), ?_⟩
        have p1 : 0 ≤ (y + 1) * 39373 % 1000000007 := Int.emod_nonneg _ (by decide)
        have p2 : (y + 1) * 39373 % 1000000007 < 1000000007 := Int.emod_lt_of_pos _ (by decide)
        refine ⟨_, rfl, _, rfl, _, _, rfl, rfl, .inl ⟨Int.lt_of_lt_of_le (by decide) p1, Int.lt_trans p2 (by decide)⟩, _, rfl, _, 998244353, rfl, rfl, (by show (0 : Int) < 998244353; decide), _, 30011, rfl, rfl, .inr (by decide), _, rfl, _, 998244353, rfl, rfl, (by show (0 : Int) < 998244353; decide), ?_⟩
        refine ⟨_, rfl, _, 7, rfl, rfl, ⟨by decide, by decide⟩, _, rfl, .int n, rfl, _, n, rfl, rfl, by omega, ?_⟩
        exact q _ _ k1 B1 (Int.emod_nonneg _ (by omega)) (Int.emod_lt_of_pos _ (by omega))
end
end K25
/-! _law_some, _law_mixed, _law_plan. -/
namespace K25
open PySem PySem.Spec PyProof.Rows L2
section
variable {P : Program} {w : World} {K : PySem.W.Frag} {mg : Str → Option Value} {base : Heap}
/-! ### one of several -/
def sp_some : Sp := fun vs H Q _ => ∃ (b c : Addr) (y : V), vs = [.ref b, y] ∧ Bag H b c ∧
  ((∃ a xs, y = .ref a ∧ a ≠ b ∧ H a = some (.lst xs) ∧ 1 ≤ xs.length ∧ xs.length ≤ 1000 ∧ ∀ H' v, Kp b H H' → Bag H' b c → v ∈ xs → Q v H') ∨
   (∃ z : Str, y = .str z ∧ 1 ≤ z.length ∧ z.length ≤ 1000 ∧ ∀ H' u, Kp b H H' → Bag H' b c → u ∈ z.cps.toList → Q (.str ⟨#[u]⟩) H'))
theorem ok_some {f : Addr} {fd : FuncData} (F : Fun K "_law_some" "_law_some" s_w_some f fd) (mL : mg "len" = none) (CT : Cal P w K mg base "_law_take" 1 ["_law_bag_here", "_law_many"] sp_take) :
    FnOk P w K mg base CX0 2 f fd ["_law_bag_here", "_law_things"] sp_some := by
  refine F.ok sc_w_some (fun vs H Q E h => ?_) (fun cdv A outer s H vs Q E hr h => ?_)
  · obtain ⟨b, c, y, rfl, _⟩ := h
    rfl
  · obtain ⟨b, c, y, rfl, B, h⟩ := h
    refine ⟨_, pss_one (ps_ret (pe_ix (ix_list.or ix_str) (pv 1) (CT.pe hr (by decide) (by rfl) (pa_cons (pv 0) (pa_cons (pe_callB (call_len_seq.or call_len_str) (by rfl) mL bt_len (pa_cons (pv 1) pa_nil)) pa_nil))) (fun _ _ => rfl))), ?_⟩
    rcases h with ⟨a, xs, rfl, nab, ha, h1, h2, q⟩ | ⟨z, rfl, h1, h2, q⟩
    · refine ⟨.ref a, rfl, .ref b, rfl, .ref a, rfl, .inl ⟨a, xs, rfl, .inl (sqL ha), b, c, (xs.length : Int), rfl, B, by omega, by omega, fun H' v k1 B1 v0 v1 => ?_⟩⟩
      obtain ⟨i, rfl⟩ : ∃ i : Nat, v = (i : Int) := ⟨v.toNat, by omega⟩
      have hi : i < xs.length := by omega
      have e : xs[i]? = some xs[i] := List.getElem?_eq_getElem hi
      exact .inl ⟨a, xs, (i : Int), xs[i], rfl, rfl, sqL (k1 _ _ nab ha), atI_nat e, q _ _ k1 B1 (List.getElem_mem hi)⟩
    · have hz : z.cps.toList.length = z.length := by rw [Array.length_toList]; rfl
      refine ⟨.str z, rfl, .ref b, rfl, .str z, rfl, .inr ⟨z, rfl, le_line (by omega), b, c, (z.length : Int), rfl, B, by omega, by omega, fun H' v k1 B1 v0 v1 => ?_⟩⟩
      obtain ⟨i, rfl⟩ : ∃ i : Nat, v = (i : Int) := ⟨v.toNat, by omega⟩
      have hi : i < z.cps.toList.length := by omega
      have e : z.cps.toList[i]? = some z.cps.toList[i] := List.getElem?_eq_getElem hi
      exact .inr ⟨z, (i : Int), z.cps.toList[i], rfl, rfl, le_line (by omega), atI_nat e, q _ _ k1 B1 (List.getElem_mem hi)⟩
/-! ### a drawn order -/
def sp_mixed : Sp := fun vs H Q _ => ∃ (b c a : Addr) (xs : List V), vs = [.ref b, .ref a] ∧ Bag H b c ∧ a ≠ b ∧ H a = some (.lst xs) ∧ xs.length ≤ 100 ∧
  ∀ H' p ys, Kp b H H' → Bag H' b c → H p = none → H' p = some (.lst ys) → ys.Perm xs → Q (.ref p) H'
theorem ok_mixed {f : Addr} {fd : FuncData} (F : Fun K "_law_mixed" "_law_mixed" s_w_mixed f fd) (mL : mg "len" = none) (CT : Cal P w K mg base "_law_take" 1 ["_law_bag_here", "_law_many"] sp_take) :
    FnOk P w K mg base CX0 2 f fd ["_law_bag_here", "_law_things"] sp_mixed := by
  refine F.ok sc_w_mixed (fun vs H Q E h => ?_) (fun cdv A outer s H vs Q E hr h => ?_)
  · obtain ⟨b, c, a, xs, rfl, _⟩ := h
    rfl
  · obtain ⟨b, c, a, xs, rfl, B, nab, ha, hlen, q⟩ := h
    refine ⟨_, pss_cons (ps_set (i := 2) sc_w_mixed.nd rfl (.inl rfl) (pe_lst pa_nil))
      (pss_cons (ps_for PassesOwn.never rfl (pi_list (pv 1)) (pg_name (i := 3) sc_w_mixed.nd rfl (.inl rfl))
        (pss_one (ps_expr (pe_bm PySem.F.plainAttrs_list PySem.F.slot_list_insert PySem.F.type_list_insert mt_insert (pv 2)
          (pa_cons (CT.pe hr (by decide) (by rfl) (pa_cons (pv 0) (pa_cons (pe_op op_add (pe_callB call_len_seq (by rfl) mL bt_len (pa_cons (pv 2) pa_nil)) pe_int) pa_nil))) (pa_cons (pv 3) pa_nil))))))
      (pss_one (ps_ret (pv 2)))), ?_⟩
    refine ⟨Nat.zero_le _, fun p hp => ?_⟩
    have nbp : b ≠ p := (B.nb hp).symm
    refine ⟨.ref a, rfl, a, rfl, ⟨_, sqL (upd_other ha hp)⟩, for_list (K := K) (a := a) (xs := xs)
      (fun i σ H2 => ∃ y3 ys, σ = [some (.ref b), some (.ref a), some (.ref p), y3] ∧ (∀ c o, c ≠ b → c ≠ p → H c = some o → H2 c = some o) ∧ Bag H2 b c ∧ H2 p = some (.lst ys) ∧ ys.Perm (xs.take i))
      ⟨none, [], rfl, fun c o _ _ h => upd_other h hp, B.new hp, upd_same, List.Perm.refl _⟩ (fun i σ H2 _ ⟨_, _, _, k2, _⟩ => sqL (k2 _ _ nab (ne_of_none ha hp) ha)) ?_ ?_⟩
    · rintro i x σ H2 hx ⟨y3, ys, rfl, k2, B2, e2, pm⟩
      have hi : i < xs.length := (List.getElem?_eq_some_iff.mp hx).1
      have hyl : ys.length = i := by rw [pm.length_eq, List.length_take]; omega
      refine ⟨.ref p, rfl, .inl ⟨rfl, _, sqL e2⟩, .ref b, rfl, .ref p, rfl, p, ys, rfl, .inl (sqL e2), _, 1, rfl, rfl, b, c, (ys.length : Int) + 1, rfl, B2, by omega, by omega, fun H3 v k3 B3 v0 v1 => ?_⟩
      have e3 : H3 p = some (.lst ys) := k3 _ _ (Ne.symm nbp) e2
      refine ⟨x, rfl, p, ys, v, x, rfl, rfl, e3, lt_line (by omega), v0, by omega, some x, _, rfl, fun c o h1 h2 h => ?_, B3.upd (B.nb hp) (B.nc hp), upd_same, ?_⟩
      · rw [upd_ne h2]
        exact k3 _ _ h1 (k2 _ _ h1 h2 h)
      · rw [List.take_add_one, hx]
        show (ys.take v.toNat ++ [x] ++ ys.drop v.toNat).Perm (xs.take i ++ [x])
        have p1 : (ys.take v.toNat ++ [x] ++ ys.drop v.toNat).Perm (ys ++ [x]) := by
          have : (ys.take v.toNat ++ [x] ++ ys.drop v.toNat).Perm (ys.take v.toNat ++ ys.drop v.toNat ++ [x]) := by
            rw [List.append_assoc, List.append_assoc]
            exact List.Perm.append_left _ List.perm_append_comm
          rwa [List.take_append_drop] at this
        exact p1.trans (pm.append_right _)
    · rintro σ H2 ⟨y3, ys, rfl, k2, B2, e2, pm⟩
      rw [List.take_length] at pm
      exact ⟨.ref p, rfl, q _ p ys (fun c o h1 h => k2 c o h1 (ne_of_none h hp) h) B2 hp e2 pm⟩
/-! ### a drawn plan -/
def sp_plan : Sp := fun vs H Q _ => ∃ (b c a : Addr) (svs : List Str) (pls : List Int) (rs : List Str), vs = [.ref b, .ref a] ∧ Bag H b c ∧ Fleet H a svs pls rs ∧ rs.length ≤ 60 ∧
  ∀ H' p ps, Kp b H H' → Bag H' b c → H p = none → H' p = some (.tup (ps.map V.int)) → PlanOk ps rs.length → Q (.ref p) H'
theorem ok_plan {f : Addr} {fd : FuncData} (F : Fun K "_law_plan" "_law_plan" s_w_plan f fd) (mL : mg "len" = none) (mT : mg "tuple" = none) (mR : mg "range" = none)
    (CT : Cal P w K mg base "_law_take" 1 ["_law_bag_here", "_law_many"] sp_take) (CS : Cal P w K mg base "_law_some" 2 ["_law_bag_here", "_law_things"] sp_some) :
    FnOk P w K mg base CX0 3 f fd ["_law_bag_here", "_law_fleet_here"] sp_plan := by
  refine F.ok sc_w_plan (fun vs H Q E h => ?_) (fun cdv A outer s H vs Q E hr h => ?_)
  · obtain ⟨b, c, a, svs, pls, rs, rfl, _⟩ := h
    rfl
  · obtain ⟨b, c, a, svs, pls, rs, rfl, B, Fl, r60, q⟩ := h
    refine ⟨_, pss_cons (ps_set (i := 2) sc_w_plan.nd rfl (.inr rfl) (CS.pe hr (by decide) (by rfl) (pa_cons (pv 0) (pa_cons (pe_lst (pa_cons pe_int (pa_cons pe_int (pa_cons pe_int (pa_cons pe_int pa_nil))))) pa_nil))))
      (pss_one (ps_ret (pe_callTy call_tuple_of (by rfl) mT bt_tuple (pa_cons
        (pe_lc (own := [("_law_j", 3)]) (g := gName 3) rfl sc_w_plan.nd
          (pi_range1 (by rfl) mR (pa_cons (pe_callB call_len_seq (by rfl) mL bt_len (pa_cons (pe_ix ix_tup (pv 1) pe_int (fun _ _ => rfl)) pa_nil)) pa_nil))
          (blkOk_by (own := [("_law_j", 3)]) (N := ["_law_bag_here", "_law_fleet_here", "_law_least", "_law_j"]) (sc := defScope s_w_plan) (by decide +kernel))
          (fun _ _ _ _ _ => pg_name (i := 3) sc_w_plan.nd rfl (Or.inl rfl))
          (fun _ _ _ _ _ => pts_one (pt_cmpR op_le (CT.pe hr (by decide) (by rfl) (pa_cons (pv 0) (pa_cons pe_int pa_nil))) (pv 2) (nomark _)))
          (fun _ _ _ _ _ => pv 3)) pa_nil)))), ?_⟩
    refine ⟨.ref b, rfl, le_line (by show 4 ≤ 10000; decide), fun l hl => ⟨b, c, .ref l, rfl, B.new hl, .inl ⟨l, _, rfl, B.nb hl, upd_same, by decide, by decide, fun H1 v k1 B1 hv => ?_⟩⟩⟩
    obtain ⟨n, rfl⟩ : ∃ n, v = V.int n := by
      simp only [List.mem_cons, List.not_mem_nil, or_false] at hv
      rcases hv with rfl | rfl | rfl | rfl <;> exact ⟨_, rfl⟩
    have k0 : Kp b H H1 := (Kp.new hl).trans k1
    have F1 := Fl.kp B k0
    obtain ⟨sa, pa, ra, f1, f2, f3, f4⟩ := F1.ex
    refine ⟨.ref a, rfl, a, _, 2, .ref ra, rfl, rfl, sqT f1, atI_nat (j := 2) rfl, ra, _, rfl, .inr (sqT f4), ((rs.map V.str).length : Int), rfl, by omega, by rw [List.length_map]; omega, fun D hD => ?_⟩
    have nD : ∀ {x o}, H1 x = some o → x ≠ D := fun h => ne_of_none h hD
    refine lc_range (lo := 0) (fun i H2 => Kp b H1 H2 ∧ Bag H2 b c ∧ ∃ ps : List Int, H2 D = some (.lst (ps.map V.int)) ∧ ps.length ≤ i ∧ ∀ j ∈ ps, 0 ≤ j ∧ j < (i : Int))
      ⟨Kp.new hD, B1.new hD, [], upd_same, Nat.zero_le _, by simp⟩ ?_ ?_
    · rintro i H2 hi ⟨k2, B2, ps, e2, l2, in2⟩
      rw [List.length_map, Int.toNat_natCast] at hi
      refine ⟨rfl, .ref b, rfl, b, c, 4, rfl, B2, by decide, by decide, fun H3 v k3 B3 v0 v1 => ⟨.int n, rfl, v, n, rfl, rfl, _, rfl, ?_⟩⟩
      have e3 : H3 D = some (.lst (ps.map V.int)) := k3 _ _ (B1.nb hD) e2
      have in3 : ∀ j ∈ ps, 0 ≤ j ∧ j < ((i + 1 : Nat) : Int) := fun j hj => by have := in2 j hj; omega
      refine ite2 (fun _ => ?_) (fun _ => ?_)
      · refine ⟨.int (0 + i), rfl, ps.map V.int, e3, lt_line (by rw [List.length_map]; omega), fun c' o h1 h2 => ?_, B3.upd (B1.nb hD) (B1.nc hD), ps ++ [0 + (i : Int)], by rw [upd_same, List.map_append]; rfl, by rw [List.length_append]; simp; omega, fun j hj => ?_⟩
        · rw [upd_ne (nD h2)]
          exact k3 _ _ h1 (k2 _ _ h1 h2)
        · rcases List.mem_append.mp hj with z | z
          · exact in3 j z
          · rw [List.mem_singleton.mp z]; omega
      · exact ⟨k2.trans k3, B3, ps, e3, by omega, in3⟩
    · rintro H2 ⟨k2, B2, ps, e2, l2, in2⟩
      rw [List.length_map, Int.toNat_natCast] at l2 in2
      refine ⟨D, _, rfl, .inl ⟨sqL e2, fun p hp => ?_⟩⟩
      have pb : p ≠ b := B2.nb hp
      refine q _ p ps ((k0.trans k2).trans (Kp.new hp)) (B2.new hp) (k0.free (k2.free hp pb) pb) upd_same ⟨by omega, in2⟩
end
end K25
/-! What a for walks, where HandS has no rule: enumerate over a tuple, zip over three lists. -/
namespace K25
open PySem PySem.Spec PyProof.Rows L2
/-- a walk that gives new tuples, from the library's WalksT -/
theorem turn_new {P : Program} {w : World} {K : PySem.W.Frag} {elts : List PySem.Expr} {kk : Nat} {tpos : Pos} {J : It} {e : Addr} {fp : List Addr} {tn : Nat → Heap → Prop} (mem : e ∈ fp)
    (obj : ∀ i h, tn i h → ∀ b ∈ fp, ∃ o, h.get? b = some o ∧ ∀ v, o.data ≠ .cell v)
    (keep : ∀ i h h', tn i h → (∀ b ∈ fp, ∀ o, h.get? b = some o → h'.get? b = some o) → tn i h')
    (self : ∀ (A : Around) (i : Nat) (s : Shared) (Q : Value → Shared → Prop) (E : Value → Shared → Prop), tn i s.heap → Q (.ref e) s → wpAny (model P w) A (pyIter (.ref e)) Q E s)
    (src : ∀ (X : Cx), X.prog = P → X.w = w → X.K = K → X.calm = true → ∀ (i : Nat) (pins : List (Addr × Obj)) (s : Shared) (σ : L2.St) (H : Hp), Inv X pins σ H s → tn i s.heap → (J.go i H ∨ J.stop i H) →
      ∃ (n : Nat) (fpW wr : List Addr) (Pt : Nat → Array Value → Prop) (Sw : Nat → Heap → Prop) (Mid : Nat → Addr → Heap → Prop), WalksT P w X.A e fpW wr n Pt Sw Mid ∧ Sw i s.heap ∧ (∀ b ∈ wr, b ∈ fp) ∧ (∀ h', Sw (i + 1) h' → tn (i + 1) h') ∧
        (J.go i H → i < n ∧ ∀ vals, Pt i vals → ∃ xs : List V, Vals xs vals.toList ∧ xs.length ≤ sizeLine ∧ ∀ T, H T = none → J.yld i H (.ref T) (upd H T (.tup xs))) ∧ (J.stop i H → i = n)) :
    Turn P w K (.Tuple elts kk tpos) J fp e tn where
  mem := mem
  obj := obj
  keep := keep
  self := self
  item := fun X hP hw hK hc i pins s σ H E I hf st hg => by
    obtain ⟨n, fpW, wr, Pt, Sw, Mid, W, hst, hwr, hnext, hgo, _⟩ := src X hP hw hK hc i pins s σ H I st (.inl hg)
    obtain ⟨hlt, hval⟩ := hgo hg
    refine W.item i s _ _ hlt hst fun T vals h' tk hp hT ht hm hk => ⟨_, rfl, ?_⟩
    refine W.go elts kk tpos i T { s with heap := h', toks := tk } _ _ hm fun h'' hs'' hk' => ?_
    obtain ⟨xs, rv, hz, hy⟩ := hval vals hp
    have hTw : T ∉ wr := W.apart i T h' hm
    obtain ⟨o, ho, hoc, nn, hod⟩ := ht
    have hfr : H T = none := I.hok.fresh hT
    have new : ObjOk X.prog X.w (upd H T (.tup xs)) h'' T (.tup xs) := ⟨hz, vals.toList, rv, ⟨o, hk' _ _ hTw ho, hoc, nn, by simpa using hod⟩⟩
    have I1 : Inv X pins σ (upd H T (.tup xs)) { s with heap := h'', toks := tk } :=
      I.turnedNew (ch := wr) (fun b o hb q => hk' b o hb (hk b o hb q)) (fun b hb => hf b (hwr b hb)) hT new
    refine ⟨.ref T, _, I1, rfl, hy T hfr, hnext _ hs'', fun b hb => ?_⟩
    have hlt' : b < s.heap.objs.size := by
      obtain ⟨o', e', _⟩ := obj i _ st b hb
      exact Heap.lt_size e'
    rw [upd_ne (Nat.ne_of_lt (Nat.lt_of_lt_of_le hlt' hT))]
    exact (hf b hb).1
  done := fun X hP hw hK hc i pins s σ H E I hf st hg => by
    obtain ⟨n, fpW, wr, Pt, Sw, Mid, W, hst, hwr, _, _, hend⟩ := src X hP hw hK hc i pins s σ H I st (.inr hg)
    have e0 := hend hg
    subst e0
    refine W.done s _ _ hst fun h' tk hk => ⟨rfl, ?_⟩
    exact I.turnedL (ch := wr) hk fun b hb => hf b (hwr b hb)

/-! ### enumerate(tuple) -/
theorem new_enum1 {v : Value} {o : Obj} {Hb : Heap → Prop} (B : Begins v o Hb) :
    Meets (Builtin.«enumerate.__new__» ⟨[.type "enumerate", v], []⟩) (fun _ R s => Hb s.heap ∧
      R (.ok (.ret (.ref (s.heap.push o).objs.size))) { s with heap := (s.heap.push o).push { cls := .type "enumerate", data := .fields #[.none, .bool false, .ref s.heap.objs.size, rawInt 0, .none, .none] } }) :=
  .of_wp fun prog w A R s h => by
    obtain ⟨hp, g, d, tk, os⟩ := s
    obtain ⟨h1, h⟩ := h
    have hsub := sub_enumerate
    have it : ∀ {A' : Around} {E : Value → Shared → Prop} {Q : Value → Shared → Prop}, Q (.ref hp.objs.size) ⟨hp.push o, g, d, tk, os⟩ → wpAny (model prog w) A' (pyIter v) Q E ⟨hp, g, d, tk, os⟩ :=
      fun q => B.iter prog w _ _ ⟨hp, g, d, tk, os⟩ _ h1 q
    wp_walk using it
    refine wpAny_stack_any fun st => wpAny_pure ?_
    split
    · rename_i c _ _ _ _ _
      cases (c == Value.type "enumerate") <;>
      · wp_walk using it
        exact ⟨_, rfl, h⟩
    · wp_walk using it
      exact ⟨_, rfl, h⟩
theorem call_enum1 {P : Program} {w : World} {A : Around} {E : Value → Shared → Prop} {s : Shared} {v : Value} {o : Obj} {Hb : Heap → Prop} {Q : Value → Shared → Prop} (B : Begins v o Hb) (h1 : Hb s.heap)
    (h : ∀ h', IsEnum h' (s.heap.objs.size + 1) s.heap.objs.size 0 .none → h'.get? s.heap.objs.size = some o → (∀ b o, s.heap.get? b = some o → h'.get? b = some o) → Q (.ref (s.heap.objs.size + 1)) { s with heap := h' }) :
    wpAny (model P w) A (call (.type "enumerate") [v]) Q E s := by
  refine callType_new F.called_enumerate (by decide) (F.typeCall_enumerate_1 _) (F.newCall_enumerate_1 _) (fun obj => F.args_object_init_2 obj _) F.entry_enumerate_new (new_enum1 B) ⟨h1, ?_⟩
  have hz : (s.heap.push o).objs.size = s.heap.objs.size + 1 := Heap.size_push ..
  have g0 : ((s.heap.push o).push { cls := .type "enumerate", data := .fields #[.none, .bool false, .ref s.heap.objs.size, rawInt 0, .none, .none] }).get? (s.heap.objs.size + 1) =
      some { cls := .type "enumerate", data := .fields #[.none, .bool false, .ref s.heap.objs.size, rawInt 0, .none, .none] } := by
    rw [← hz]
    exact Heap.get?_push_size _ rfl
  show _ ∧ _
  rw [hz]
  exact ⟨⟨_, g0, rfl⟩, h _ g0 (Heap.get?_push_of_some _ (Heap.get?_push_size _ B.free)) fun b u x => Heap.get?_push_of_some _ (Heap.get?_push_of_some _ x)⟩

/-- the tuple at a, each item in a new pair with its place -/
def IteT (K : PySem.W.Frag) (a : Addr) : It :=
  ⟨fun i H => ∃ (xs : List V) (x : V), SqT K H a xs ∧ xs[i]? = some x, fun i H v H' => ∃ T x, v = .ref T ∧ H T = none ∧ H' = upd H T (.tup [.int (i : Nat), x]) ∧ ∀ xs, SqT K H a xs → xs[i]? = some x, fun i H => ∃ xs : List V, SqT K H a xs ∧ xs.length = i⟩
theorem turn_enumT {P : Program} {w : World} {K : PySem.W.Frag} {elts : List PySem.Expr} {kk : Nat} {tpos : Pos} {a e it : Addr} (n1 : e ≠ it) (n2 : a ≠ it) (n3 : a ≠ e) :
    Turn P w K (.Tuple elts kk tpos) (IteT K a) [e, it] e (fun i h => (∃ old, IsEnum h e it ((i : Nat) : Int) old) ∧ h.IsTupleIter it a i) := by
  refine turn_new (by simp) (fun i h st b hb => ?_) (fun i h h' st k => ?_) (fun A i s Q E st h => let ⟨⟨_, he⟩, _⟩ := st; wpAny_pyIter_enum he h) ?_
  · obtain ⟨⟨old, he⟩, ⟨o, ho, hc, hd⟩⟩ := st
    have e' : b = e ∨ b = it := by simpa using hb
    rcases e' with z | z
    · rw [z]; exact ⟨_, he, fun v q => nomatch q⟩
    · rw [z]; exact ⟨o, ho, fun v q => by rw [hd] at q; cases q⟩
  · obtain ⟨⟨old, he⟩, hi⟩ := st
    exact ⟨⟨old, k e (by simp) _ he⟩, hi.at fun o q => k it (by simp) o q⟩
  · intro X hP hw hK hc i pins s σ H I st hj
    subst hP hw hK
    obtain ⟨xs, hq⟩ : ∃ xs, SqT X.K H a xs := by
      rcases hj with ⟨xs, _, h, _⟩ | ⟨xs, h, _⟩ <;> exact ⟨xs, h⟩
    obtain ⟨its, rv, p, hz⟩ := I.tuple hq
    have hp : s.heap.IsTuple a its.toArray := p
    have D := Draws.tuple (prog := X.prog) (w := X.w) (A := X.A.in1) (I.ok.hd hc) it a n2 its.toArray
    have W := WalksT.enumerateD D e n1 (by simp only [List.mem_cons, List.not_mem_nil, or_false, not_or]; exact ⟨n1, n3.symm⟩) (by simp)
    refine ⟨_, _, _, _, _, _, W, ⟨st.1, st.2, hp⟩, fun b hb => hb, fun h' q => ⟨by simpa using q.1, q.2.1⟩, fun hg => ?_, fun hs => ?_⟩
    · obtain ⟨ys, x, hy, hx⟩ := hg
      have := I.tuple_inj hy hq
      subst this
      obtain ⟨u, hu, ru⟩ := rv.get hx
      refine ⟨by simpa using (List.getElem?_eq_some_iff.mp hu).1, fun vals hv => ?_⟩
      obtain ⟨t, y, hy1, rfl⟩ := hv
      have hyu : y = u := by
        have : its.toArray[i]? = some u := by simpa using hu
        rw [this] at hy1
        exact (Option.some.inj hy1).symm
      subst hyu
      exact ⟨[.int (i : Nat), x], .cons ⟨t, rfl⟩ (.cons ru .nil), le_line (by show 2 ≤ 10000; decide), fun T hT => ⟨T, x, rfl, hT, rfl, fun zs hzs => by rw [I.tuple_inj hzs hy]; exact hx⟩⟩
    · obtain ⟨ys, hy, hl⟩ := hs
      have := I.tuple_inj hy hq
      subst this
      rw [← hl, rv.length]
      simp
def iEnumT (K : PySem.W.Frag) (ta : TA) : TI := fun σ H R => ta σ H fun vs H1 => ∃ a xs, vs = [.ref a] ∧ SqT K H1 a xs ∧ R (IteT K a) H1
theorem pi_enumT {X : Cx} {e : PySem.Expr} {ta : TA} {p pos tpos : Pos} {elts : List PySem.Expr} {kk : Nat} (hg : Gl X "enumerate") (hm : X.mg "enumerate" = none) (ha : PA X [e] ta) (hs : starEach [e] X.env = [(false, eval e X.env)] := by rfl) :
    PI X (.Tuple elts kk tpos) (.Call (.Name "enumerate" p) [e] [] pos) (iEnumT X.K ta) := by
  refine ⟨fun pins s σ H R I h => ?_⟩
  refine Call_ (ld_blt I hg hm boot_enumerate (PyProof.Rows.callWith_type1 (thn (ha.run pos pins s σ H _ I h) fun us s1 ⟨vs, H1, I1, r1, q1⟩ => ?_) hs rfl))
  obtain ⟨a, xs, rfl, hq, q⟩ := q1
  obtain ⟨u, rfl, r⟩ := vals1 r1
  cases r
  obtain ⟨its, rv, p', hz⟩ := I1.tuple hq
  have hp : s1.heap.IsTuple a its.toArray := p'
  have hlt : a < s1.heap.objs.size := let ⟨_, q, _⟩ := hp; Heap.lt_size q
  refine call_enum1 (begins_tuple a its.toArray) hp fun h' he hit hk => wpAny_pyIter_enum he ?_
  have I2 : Inv X pins σ H1 { s1 with heap := h' } := I1.kept (t' := s1.toks) hk
  refine ⟨s1.heap.objs.size + 1, [s1.heap.objs.size + 1, s1.heap.objs.size], _, _, H1, rfl, I2, turn_enumT (a := a) (Nat.succ_ne_self _) (Nat.ne_of_lt hlt) (Nat.ne_of_lt (Nat.lt_succ_of_lt hlt)), ⟨⟨.none, he⟩, ⟨_, hit, rfl, rfl⟩⟩, fun b hb => ?_, q⟩
  have hle : s1.heap.objs.size ≤ b := by
    have e' : b = s1.heap.objs.size + 1 ∨ b = s1.heap.objs.size := by simpa using hb
    rcases e' with z | z <;> rw [z]
    · exact Nat.le_succ _
    · exact Nat.le_refl _
  exact I1.fpOk hle (I1.hok.fresh hle)
theorem walk_enumT {K : PySem.W.Frag} {a : Addr} {xs : List V} : Walk (IteT K a) xs.length (fun H => SqT K H a xs) (YPair (fun i => some (.int (i : Nat))) (fun i => xs[i]?)) := by
  refine ⟨fun i _ hi q => ⟨xs, xs[i], q, by simp [hi]⟩, fun _ q => ⟨xs, q, rfl⟩, fun i H v H' _ q y => ?_⟩
  obtain ⟨T, x, h1, h2, h3, h4⟩ := y
  exact ⟨T, .int (i : Nat), x, h1, h2, h3, rfl, h4 xs q⟩
/-! ### zip of three lists -/
def Itz3 (K : PySem.W.Frag) (a b c : Addr) : It :=
  ⟨fun i H => ∃ (xs ys zs : List V) (x y z : V), SqL K H a xs ∧ SqL K H b ys ∧ SqL K H c zs ∧ xs[i]? = some x ∧ ys[i]? = some y ∧ zs[i]? = some z,
    fun i H v H' => ∃ T x y z, v = .ref T ∧ H T = none ∧ H' = upd H T (.tup [x, y, z]) ∧ (∀ xs, SqL K H a xs → xs[i]? = some x) ∧ (∀ ys, SqL K H b ys → ys[i]? = some y) ∧ ∀ zs, SqL K H c zs → zs[i]? = some z,
    fun i H => ∃ xs ys zs : List V, SqL K H a xs ∧ SqL K H b ys ∧ SqL K H c zs ∧ xs.length = i ∧ ys.length = i ∧ zs.length = i⟩
theorem turn_zip3 {P : Program} {w : World} {K : PySem.W.Frag} {elts : List PySem.Expr} {kk : Nat} {tpos : Pos} {a b c z TI TO i1 i2 i3 : Addr} (S : ZipSep3 z TI TO i1 i2 i3 [i1, a] [i2, b] [i3, c]) (m1 : a ≠ i1) (m2 : b ≠ i2) (m3 : c ≠ i3) :
    Turn P w K (.Tuple elts kk tpos) (Itz3 K a b c) [z, TI, TO, i1, i2, i3] z (fun i h => IsZip h z TI TO .none ∧ IsTupOf3 h TI (.ref i1) (.ref i2) (.ref i3) ∧ (∃ a1 a2 a3, IsTupOf3 h TO a1 a2 a3) ∧ h.IsListIter i1 a i ∧ h.IsListIter i2 b i ∧ h.IsListIter i3 c i) := by
  refine turn_new (by simp) (fun i h st b hb => ?_) (fun i h h' st k => ?_) (fun A i s Q E st h => wpAny_pyIter_zip st.1 h) ?_
  · obtain ⟨hz, hTI, ⟨a1, a2, a3, hTO⟩, ⟨o1, e1, _, d1⟩, ⟨o2, e2, _, d2⟩, ⟨o3, e3, _, d3⟩⟩ := st
    have e' : b = z ∨ b = TI ∨ b = TO ∨ b = i1 ∨ b = i2 ∨ b = i3 := by simpa using hb
    rcases e' with q | q | q | q | q | q
    · rw [q]; exact ⟨_, hz, fun v q => nomatch q⟩
    · rw [q]; exact ⟨_, hTI, fun v q => nomatch q⟩
    · rw [q]; exact ⟨_, hTO, fun v q => nomatch q⟩
    · rw [q]; exact ⟨o1, e1, fun v q => by rw [d1] at q; cases q⟩
    · rw [q]; exact ⟨o2, e2, fun v q => by rw [d2] at q; cases q⟩
    · rw [q]; exact ⟨o3, e3, fun v q => by rw [d3] at q; cases q⟩
  · obtain ⟨hz, hTI, ⟨a1, a2, a3, hTO⟩, h1, h2, h3⟩ := st
    exact ⟨k z (by simp) _ hz, k TI (by simp) _ hTI, ⟨a1, a2, a3, k TO (by simp) _ hTO⟩, h1.at fun o q => k i1 (by simp) o q, h2.at fun o q => k i2 (by simp) o q, h3.at fun o q => k i3 (by simp) o q⟩
  · intro X hP hw hK hc i pins s σ H I st hj
    subst hP hw hK
    obtain ⟨xs, ys, zs, qx, qy, qz⟩ : ∃ xs ys zs, SqL X.K H a xs ∧ SqL X.K H b ys ∧ SqL X.K H c zs := by
      rcases hj with ⟨xs, ys, zs, _, _, _, h1, h2, h3, _⟩ | ⟨xs, ys, zs, h1, h2, h3, _⟩ <;> exact ⟨xs, ys, zs, h1, h2, h3⟩
    obtain ⟨its1, rv1, p1, _⟩ := I.list qx
    obtain ⟨its2, rv2, p2, _⟩ := I.list qy
    obtain ⟨its3, rv3, p3, _⟩ := I.list qz
    have D1 := Draws.list (prog := X.prog) (w := X.w) (A := X.A.in1) (I.ok.hd hc) i1 a m1 its1.toArray
    have D2 := Draws.list (prog := X.prog) (w := X.w) (A := X.A.in1) (I.ok.hd hc) i2 b m2 its2.toArray
    have D3 := Draws.list (prog := X.prog) (w := X.w) (A := X.A.in1) (I.ok.hd hc) i3 c m3 its3.toArray
    obtain ⟨hz, hTI, hTO, h1, h2, h3⟩ := st
    refine ⟨_, _, _, _, _, _, WalksT.zipD3 S D1 D2 D3, ⟨hz, hTI, hTO, ⟨h1, p1.isList⟩, ⟨h2, p2.isList⟩, ⟨h3, p3.isList⟩⟩, fun b hb => ?_, fun h' q => ⟨q.1, q.2.1, q.2.2.1, q.2.2.2.1.1, q.2.2.2.2.1.1, q.2.2.2.2.2.1⟩, fun hg => ?_, fun hs => ?_⟩
    · have e' : b = z ∨ b = TO ∨ b = i1 ∨ b = i2 ∨ b = i3 := by simpa using hb
      rcases e' with q | q | q | q | q <;> simp [q]
    · obtain ⟨xs', ys', zs', x, y, u, g1, g2, g3, hx, hy, hu⟩ := hg
      have e1 := I.list_inj g1 qx
      have e2 := I.list_inj g2 qy
      have e3 := I.list_inj g3 qz
      subst e1 e2 e3
      obtain ⟨v1, hv1, r1⟩ := rv1.get hx
      obtain ⟨v2, hv2, r2⟩ := rv2.get hy
      obtain ⟨v3, hv3, r3⟩ := rv3.get hu
      have l1 : i < its1.length := (List.getElem?_eq_some_iff.mp hv1).1
      have l2 : i < its2.length := (List.getElem?_eq_some_iff.mp hv2).1
      have l3 : i < its3.length := (List.getElem?_eq_some_iff.mp hv3).1
      refine ⟨by simp only [List.size_toArray]; omega, fun vals hv => ?_⟩
      obtain ⟨y1, y2, y3, k1, k2, k3, rfl⟩ := hv
      have f1 : y1 = v1 := by
        have : its1.toArray[i]? = some v1 := by simpa using hv1
        exact (Option.some.inj (this.symm.trans k1)).symm
      have f2 : y2 = v2 := by
        have : its2.toArray[i]? = some v2 := by simpa using hv2
        exact (Option.some.inj (this.symm.trans k2)).symm
      have f3 : y3 = v3 := by
        have : its3.toArray[i]? = some v3 := by simpa using hv3
        exact (Option.some.inj (this.symm.trans k3)).symm
      subst f1 f2 f3
      exact ⟨[x, y, u], .cons r1 (.cons r2 (.cons r3 .nil)), le_line (by show 3 ≤ 10000; decide), fun T hT => ⟨T, x, y, u, rfl, hT, rfl, fun l hl => by rw [I.list_inj hl g1]; exact hx, fun l hl => by rw [I.list_inj hl g2]; exact hy, fun l hl => by rw [I.list_inj hl g3]; exact hu⟩⟩
    · obtain ⟨xs', ys', zs', g1, g2, g3, l1, l2, l3⟩ := hs
      have e1 := I.list_inj g1 qx
      have e2 := I.list_inj g2 qy
      have e3 := I.list_inj g3 qz
      subst e1 e2 e3
      have n1 := rv1.length
      have n2 := rv2.length
      have n3 := rv3.length
      simp only [List.size_toArray]
      omega
def iZip3 (K : PySem.W.Frag) (ta : TA) : TI := fun σ H R => ta σ H fun vs H1 => ∃ a b c xs ys zs, vs = [.ref a, .ref b, .ref c] ∧ SqL K H1 a xs ∧ SqL K H1 b ys ∧ SqL K H1 c zs ∧ R (Itz3 K a b c) H1
theorem vals3 {x y z : V} {us : List Value} (r : Vals [x, y, z] us) : ∃ u v t, us = [u, v, t] ∧ RelV x u ∧ RelV y v ∧ RelV z t := by
  cases r with
  | cons r1 r =>
    obtain ⟨v, t, rfl, r2, r3⟩ := vals2 r
    exact ⟨_, v, t, rfl, r1, r2, r3⟩
theorem pi_zip3 {X : Cx} {e e2 e3 : PySem.Expr} {ta : TA} {p pos tpos : Pos} {elts : List PySem.Expr} {kk : Nat} (hg : Gl X "zip") (hm : X.mg "zip" = none) (ha : PA X [e, e2, e3] ta)
    (hs : starEach [e, e2, e3] X.env = (false, eval e X.env) :: starEach [e2, e3] X.env := by rfl) (hpl : (backTo pos (starEach [e2, e3] X.env)).any (·.1) = false := by rfl) :
    PI X (.Tuple elts kk tpos) (.Call (.Name "zip" p) [e, e2, e3] [] pos) (iZip3 X.K ta) := by
  refine ⟨fun pins s σ H R I h => ?_⟩
  refine Call_ (ld_blt I hg hm PyProof.Rows.boot_zip (PyProof.Rows.callWith_type1 (thn (ha.run pos pins s σ H _ I h) fun us s1 ⟨vs, H1, I1, r1, q1⟩ => ?_) hs hpl))
  obtain ⟨a, b, c, xs, ys, zs, rfl, qx, qy, qz, q⟩ := q1
  obtain ⟨u1, u2, u3, rfl, r1, r2, r3⟩ := vals3 r1
  cases r1
  cases r2
  cases r3
  obtain ⟨its1, rv1, p1, _⟩ := I1.list qx
  obtain ⟨its2, rv2, p2, _⟩ := I1.list qy
  obtain ⟨its3, rv3, p3, _⟩ := I1.list qz
  refine zip_begins3 (begins_list a its1.toArray) (begins_list b its2.toArray) (begins_list c its3.toArray) p1.isList p2.isList p3.isList fun h' hz hTI hTO h1 h2 h3 hsz hk => wpAny_pyIter_zip hz ?_
  have I2 : Inv X pins σ H1 { s1 with heap := h' } := I1.kept (t' := s1.toks) hk
  have S := zip_sep3 (N := s1.heap.objs.size) (fp1 := [a]) (fp2 := [b]) (fp3 := [c]) (by simpa using p1.lt) (by simpa using p2.lt) (by simpa using p3.lt)
  have la : a < s1.heap.objs.size := p1.lt
  have lb : b < s1.heap.objs.size := p2.lt
  have lc : c < s1.heap.objs.size := p3.lt
  have m1 : a ≠ s1.heap.objs.size := Nat.ne_of_lt la
  have m2 : b ≠ s1.heap.objs.size + 1 := Nat.ne_of_lt (Nat.lt_succ_of_lt lb)
  have m3 : c ≠ s1.heap.objs.size + 2 := Nat.ne_of_lt (Nat.lt_of_lt_of_le lc (Nat.le_add_right _ _))
  refine ⟨_, [s1.heap.objs.size + 5, s1.heap.objs.size + 3, s1.heap.objs.size + 4, s1.heap.objs.size, s1.heap.objs.size + 1, s1.heap.objs.size + 2], _, _, H1, rfl, I2, turn_zip3 S m1 m2 m3,
    ⟨hz, hTI, ⟨_, _, _, hTO⟩, ⟨_, h1, rfl, rfl⟩, ⟨_, h2, rfl, rfl⟩, ⟨_, h3, rfl, rfl⟩⟩, fun d hd => ?_, q⟩
  have hle : s1.heap.objs.size ≤ d := by
    simp only [List.mem_cons, List.not_mem_nil, or_false] at hd
    rcases hd with r | r | r | r | r | r <;> rw [r]
    · exact Nat.le_add_right _ _
    · exact Nat.le_add_right _ _
    · exact Nat.le_add_right _ _
    · exact Nat.le_refl _
    · exact Nat.le_add_right _ _
    · exact Nat.le_add_right _ _
  exact I1.fpOk hle (I1.hok.fresh hle)
/-- a new triple at each turn -/
def YTri (xs ys zs : List V) : Nat → Hp → V → Hp → Prop := fun i H v H' => ∃ T x y z, v = .ref T ∧ H T = none ∧ H' = upd H T (.tup [x, y, z]) ∧ xs[i]? = some x ∧ ys[i]? = some y ∧ zs[i]? = some z
theorem walk_zip3 {K : PySem.W.Frag} {a b c : Addr} {xs ys zs : List V} {n : Nat} (h1 : xs.length = n) (h2 : ys.length = n) (h3 : zs.length = n) :
    Walk (Itz3 K a b c) n (fun H => SqL K H a xs ∧ SqL K H b ys ∧ SqL K H c zs) (YTri xs ys zs) := by
  refine ⟨fun i _ hi q => ?_, fun _ q => ⟨xs, ys, zs, q.1, q.2.1, q.2.2, h1, h2, h3⟩, fun i H v H' _ q y => ?_⟩
  · exact ⟨xs, ys, zs, xs[i]'(by omega), ys[i]'(by omega), zs[i]'(by omega), q.1, q.2.1, q.2.2, List.getElem?_eq_getElem (by omega), List.getElem?_eq_getElem (by omega), List.getElem?_eq_getElem (by omega)⟩
  · obtain ⟨T, x, y, z, k1, k2, k3, k4, k5, k6⟩ := y
    exact ⟨T, x, y, z, k1, k2, k3, k4 xs q.1, k5 ys q.2.1, k6 zs q.2.2⟩
end K25
/-! sorted of a list of pairs (text, int), any length: some arrangement of it. -/
namespace K25
open PySem PySem.Spec PyProof.Rows L2
/-- a pair (text, int) at an address -/
abbrev TI := Addr × Str × Int
def encT (p : TI) : PyData := .tuple [.str p.2.1, .int p.2.2]
def encS (p : Str × Int) : PyData := .tuple [.str p.1, .int p.2]
/-- pairs in the order of their data -/
def srt (l : List (Str × Int)) : List (Str × Int) := l.mergeSort (PySem.W.dataLe false encS)
theorem srt_perm (l : List (Str × Int)) : (srt l).Perm l := List.mergeSort_perm _ _
theorem srt_map (ps : List TI) : (ps.mergeSort (PySem.W.dataLe false encT)).map (·.2) = srt (ps.map (·.2)) := List.map_mergeSort fun _ _ _ _ => rfl
theorem enc_alike (p q : TI) : PySem.W.alike (encT p) (encT q) = true := by simp [encT, PySem.W.alike, PySem.W.alikeAll]
theorem enc_depth (p : TI) : (encT p).depth = 1 := by simp [encT, PyData.depth, PyData.depthAll]
theorem refs_of : ∀ (ps : List TI) (us : List Value), Vals (ps.map fun p => V.ref p.1) us → us = ps.map fun p => Value.ref p.1
  | [], _, .nil => rfl
  | p :: ps, _, .cons r t => by
    have e : _ = Value.ref p.1 := r
    rw [e, refs_of ps _ t]
    rfl
theorem vals_refsT : ∀ ps : List TI, Vals (ps.map fun p => V.ref p.1) (ps.map fun p => Value.ref p.1)
  | [] => .nil
  | _ :: ps => .cons rfl (vals_refsT ps)
theorem each_refs {R : Value → TI → Prop} : ∀ ps : List TI, (∀ p ∈ ps, R (.ref p.1) p) → PySem.W.EachIs R (ps.map fun p => Value.ref p.1) ps
  | [], _ => .nil
  | p :: ps, h => .cons (h p (by simp)) (each_refs ps fun q hq => h q (by simp [hq]))
theorem refs_each : ∀ {out : List Value} {ps : List TI}, PySem.W.EachIs (fun v p => v = Value.ref p.1) out ps → out = ps.map fun p => Value.ref p.1
  | _, _, .nil => rfl
  | _, _, .cons r t => by rw [r, refs_each t]; rfl
section
variable {X : Cx}
theorem reads_ti {pins : List (Addr × Obj)} {s : Shared} {σ : L2.St} {H : Hp} (I : Inv X pins σ H s) {p : TI} (h : H p.1 = some (.tup [.str p.2.1, .int p.2.2])) : ∃ as, Reads s.heap (.ref p.1) (encT p) as := by
  obtain ⟨_, its, r, o, ho, hc, n, hd⟩ := I.hok _ _ h
  obtain ⟨u1, u2, rfl, ⟨t1, rfl⟩, ⟨t2, rfl⟩⟩ := vals2 r
  exact ⟨_, Reads.tuple ho hc hd (.cons (.str _ _) (.cons (.int _ _) .nil))⟩
def rSortedL (K : PySem.W.Frag) : List V → Hp → VK → Prop := fun vs H Q => ∃ (a : Addr) (ps : List TI), vs = [.ref a] ∧ SqL K H a (ps.map fun p => V.ref p.1) ∧ (∀ p ∈ ps, H p.1 = some (.tup [.str p.2.1, .int p.2.2])) ∧
  ∀ qs q, List.Perm qs ps → qs.map (·.2) = srt (ps.map (·.2)) → H q = none → Q (.ref q) (upd H q (.lst (qs.map fun p => V.ref p.1)))
theorem cr_sortedL (hu : X.A.units + 64 < cLine) : CallR X (.builtin "sorted") (rSortedL X.K) := by
  intro pins s σ H vs us Q I r h
  obtain ⟨a, ps, rfl, hs, hp, q⟩ := h
  obtain ⟨u, rfl, ru⟩ := vals1 r
  cases ru
  obtain ⟨its, rv, hl, hz⟩ := I.list hs
  have e := refs_of ps its rv
  subst e
  rw [List.length_map] at hz
  refine PySem.W.sorted_data (R := fun v p => v = Value.ref p.1) (enc := encT) hl.isList (each_refs ps fun _ _ => rfl) (each_refs ps fun p m => reads_ti I (hp p m)) (PySem.W.AllAlike.of enc_alike)
    (PySem.W.Sortable.tuples fun b => ⟨_, _, rfl⟩) hz (fun b _ => by rw [enc_depth]; omega) fun out hlen he => ?_
  obtain ⟨ep, he'⟩ := PyProof.Rows.sortedAll_at s.heap (ps.map fun p => Value.ref p.1) out.toArray
  have pm : (ps.mergeSort (PySem.W.dataLe false encT)).Perm ps := List.mergeSort_perm _ _
  have eo := refs_each he
  refine ⟨.ref _, upd H (s.heap.objs.size + 1) (.lst ((ps.mergeSort (PySem.W.dataLe false encT)).map fun p => V.ref p.1)), I.laid (t' := s.toks) (fun _ _ => PyProof.Rows.sortedAll_old) (Nat.le_succ _) ⟨?_, out, ep, ?_, he'⟩, rfl, q _ _ pm (srt_map ps) (I.hok.fresh (Nat.le_succ _))⟩
  · rw [List.length_map, pm.length_eq]; exact hz
  · rw [eo]; exact vals_refsT _
end
end K25
/-! == and != of lists and tuples of which one is empty; not in, where the answer counts for nothing. -/
namespace K25
open PySem PySem.Spec PyProof.Rows L2
section
variable {X : Cx}
def Emp (K : PySem.W.Frag) (H : Hp) (x y : V) (b : Bool) : Prop := ∃ a c xs ys, x = .ref a ∧ y = .ref c ∧ ((SqL K H a xs ∧ SqL K H c ys) ∨ (SqT K H a xs ∧ SqT K H c ys)) ∧ (xs = [] ∨ ys = []) ∧ b = (xs.length == ys.length)
def rEqE (K : PySem.W.Frag) : R2 := fun x y H Q => ∃ b, Emp K H x y b ∧ Q (.bl b) H
def rNeE (K : PySem.W.Frag) : R2 := fun x y H Q => ∃ b, Emp K H x y b ∧ Q (.bl (!b)) H
theorem all_none {n : Nat} (e : Nat → Bool) (h : n = 0) : (List.range n).all e = true := by subst h; rfl
theorem ends_len {us ws : List Value} {xs ys : List V} (r1 : Vals xs us) (r2 : Vals ys ws) (h : xs = [] ∨ ys = []) : (us.toArray.size = ws.toArray.size → us.toArray.size = 0) ∧ min us.toArray.size ws.toArray.size = 0 ∧ (us.toArray.size == ws.toArray.size) = (xs.length == ys.length) := by
  have l1 := r1.length
  have l2 := r2.length
  simp only [List.size_toArray]
  rw [← l1, ← l2]
  rcases h with rfl | rfl
  · exact ⟨fun _ => rfl, by simp, rfl⟩
  · exact ⟨fun e => by simpa using e, by simp, rfl⟩
theorem op_eqE (hu : X.A.units < cLine) : OpR X (compareOp .Eq) (rEqE X.K) := by
  intro pins s σ H x y v u Q I rx ry h
  obtain ⟨b, ⟨a, c, xs, ys, rfl, rfl, h, he, rfl⟩, q⟩ := h
  cases rx
  cases ry
  rcases h with ⟨h1, h2⟩ | ⟨h1, h2⟩
  · obtain ⟨us, r1, p1, _⟩ := I.list h1
    obtain ⟨ws, r2, p2, _⟩ := I.list h2
    obtain ⟨z1, z2, z3⟩ := ends_len r1 r2 he
    by_cases hz : us.toArray.size = ws.toArray.size
    · refine SeqAt.eq_listAt (e := fun _ => true) p1.isList p2.isList hz hu (fun j h1 h2 => absurd h1 (by have := z1 hz; omega)) ?_
      rw [all_none _ (z1 hz)]
      exact ⟨.bl _, H, I, rfl, by rw [← z3, beq_iff_eq.mpr hz] at q; exact q⟩
    · refine SeqAt.eq_list_lengthsAt p1.isList p2.isList (by simpa using hz) hu ?_
      exact ⟨.bl _, H, I, rfl, by rw [← z3, beq_eq_false_iff_ne.mpr hz] at q; exact q⟩
  · obtain ⟨us, r1, ⟨o1, a1, a2, n1, a3⟩, _⟩ := I.tuple h1
    obtain ⟨ws, r2, ⟨o2, b1, b2, n2, b3⟩, _⟩ := I.tuple h2
    obtain ⟨z1, z2, z3⟩ := ends_len r1 r2 he
    refine SeqAt.eq_tupleAt (e := fun _ => true) ⟨_, a1, a2, _, a3⟩ ⟨_, b1, b2, _, b3⟩ hu (fun j h1 h2 => absurd (Nat.lt_min.mpr ⟨h1, h2⟩) (by omega)) ?_
    rw [all_none _ z2, z3, Bool.true_and]
    exact ⟨.bl _, H, I, rfl, q⟩
theorem op_neE (hu : X.A.units < cLine) : OpR X (compareOp .NotEq) (rNeE X.K) := by
  intro pins s σ H x y v u Q I rx ry h
  obtain ⟨b, ⟨a, c, xs, ys, rfl, rfl, h, he, rfl⟩, q⟩ := h
  cases rx
  cases ry
  rcases h with ⟨h1, h2⟩ | ⟨h1, h2⟩
  · obtain ⟨us, r1, p1, _⟩ := I.list h1
    obtain ⟨ws, r2, p2, _⟩ := I.list h2
    obtain ⟨z1, z2, z3⟩ := ends_len r1 r2 he
    by_cases hz : us.toArray.size = ws.toArray.size
    · refine SeqAt.RcNeAt.lists (e := fun _ => true) p1.isList p2.isList hz hu (fun j h1 h2 => absurd h1 (by have := z1 hz; omega)) _ _ _ _ ?_
      rw [all_none _ (z1 hz)]
      exact ⟨.bl _, H, I, rfl, by rw [← z3, beq_iff_eq.mpr hz] at q; exact q⟩
    · refine SeqAt.RcNeAt.lists_lengths p1.isList p2.isList (by simpa using hz) hu _ _ _ _ ?_
      exact ⟨.bl _, H, I, rfl, by rw [← z3, beq_eq_false_iff_ne.mpr hz] at q; exact q⟩
  · obtain ⟨us, r1, ⟨o1, a1, a2, n1, a3⟩, _⟩ := I.tuple h1
    obtain ⟨ws, r2, ⟨o2, b1, b2, n2, b3⟩, _⟩ := I.tuple h2
    obtain ⟨z1, z2, z3⟩ := ends_len r1 r2 he
    refine SeqAt.RcNeAt.tuples (e := fun _ => true) ⟨_, a1, a2, _, a3⟩ ⟨_, b1, b2, _, b3⟩ hu (fun j h1 h2 => absurd (Nat.lt_min.mpr ⟨h1, h2⟩) (by omega)) _ _ _ _ ?_
    rw [all_none _ z2, z3, Bool.true_and]
    exact ⟨.bl _, H, I, rfl, q⟩
/-! ### pairs as data -/
theorem dp_ti {K : PySem.W.Frag} {H : Hp} {p : TI} (h : H p.1 = some (.tup [.str p.2.1, .int p.2.2])) : Dp K H (.ref p.1) (encT p) := .tup (sqT h) (.cons (.str _) (.cons (.int _) .nil))
theorem strOk_of {z : Str} (h : NameOk z) : PyData.strOk z = true := by
  unfold PyData.strOk
  simp only [Array.all_eq_true, decide_eq_true_eq]
  intro i hi
  have := h.2 (z.cps[i]) (by rw [Array.mem_toList_iff]; exact Array.getElem_mem hi)
  omega
theorem ti_lay {p : TI} (h : NameOk p.2.1) : (encT p).canLay0 = true := by
  simp [encT, PyData.canLay0, PyData.canLayAll0, strOk_of h]
theorem ti_shaped {p : TI} (h : NameOk p.2.1) : SeqAt.shaped (encT p) = true := by
  unfold SeqAt.shaped
  rw [ti_lay h, enc_depth]
  rfl
theorem ti_eqv (p q : TI) : PyData.eqv (encT p) (encT q) = decide (p.2 = q.2) := by
  simp only [encT, PyData.eqv, PyData.eqvAll, Bool.and_true]
  rw [Bool.eq_iff_iff]
  simp only [Bool.and_eq_true, beq_iff_eq, decide_eq_true_eq]
  exact ⟨fun h => Prod.ext h.1 h.2, fun h => by rw [h]; exact ⟨rfl, rfl⟩⟩
/-- x not in t, both answers wanted -/
def rNinT (K : PySem.W.Frag) : R2 := fun x y H Q => ∃ d ds, Dp K H x d ∧ Dp K H y (.tuple ds) ∧ SeqAt.shaped d = true ∧ PyData.canLayAll0 ds = true ∧ ∀ b, Q (.bl b) H
theorem op_ninT (hu : X.A.units + 66 < cLine) : OpR X (compareOp .NotIn) (rNinT X.K) := by
  intro pins s σ H x y v u Q I rx ry h
  obtain ⟨d, ds, hd, he, sd, se, q⟩ := h
  obtain ⟨as, r1⟩ := Dp.reads I d x v hd rx
  obtain ⟨bs, r2⟩ := Dp.reads I (.tuple ds) y u he ry
  refine SeqAt.notIn_tuple_reads r2 r1 se (SeqAt.canLay_of_shaped sd) ?_ ⟨.bl _, H, I, rfl, q _⟩
  have h1 := SeqAt.depth_of_shaped sd
  have h2 : min (PyData.depthAll ds) d.depth ≤ d.depth := Nat.min_le_right _ _
  omega
theorem dp_all {K : PySem.W.Frag} {H : Hp} : ∀ ps : List TI, (∀ p ∈ ps, H p.1 = some (.tup [.str p.2.1, .int p.2.2])) → DpAll K H (ps.map fun p => V.ref p.1) (ps.map encT)
  | [], _ => .nil
  | p :: ps, h => .cons (dp_ti (h p (by simp))) (dp_all ps fun q hq => h q (by simp [hq]))
theorem lay_all : ∀ ps : List TI, (∀ p ∈ ps, NameOk p.2.1) → PyData.canLayAll0 (ps.map encT) = true
  | [], _ => rfl
  | p :: ps, h => by
    show ((encT p).canLay0 && PyData.canLayAll0 (ps.map encT)) = true
    rw [ti_lay (h p (by simp)), lay_all ps fun q hq => h q (by simp [hq])]
    rfl
end
end K25
/-! A set of pairs (text, int), made from a list; sorted of it. The table's word TabOk and its searches come from HandS.TupSets. -/
namespace K25
open PySem PySem.Spec PyProof.Rows L2
/-- the pair as a tuple key -/
def kk (p : Str × Int) : List Key := [.inr p.1, .inl p.2]
theorem kk_inj {p q : Str × Int} (h : kk p = kk q) : p = q := by
  obtain ⟨a, b⟩ := p
  obtain ⟨c, d⟩ := q
  simp only [kk, List.cons.injEq, Sum.inr.injEq, Sum.inl.injEq, and_true] at h
  rw [h.1, h.2]
section
variable (P : Program) (w : World)
abbrev isK (h : Heap) (p : Str × Int) (a : Addr) : Prop := IsTupleKey (mixKind P w) h (kk p) a
abbrev hK (p : Str × Int) : Int := tupleKeyHash (mixKind P w) (kk p)
def rowsK (L : List TI) : List (Int × Value) := L.map fun p => (hK P w p.2, Value.ref p.1)
/-- the set at a holds the pairs of L, each at its address -/
structure SetK (h : Heap) (a : Addr) (L : List TI) (es : Array (Int × Value)) (ep : Nat) (t : SetTable) : Prop where
  ob : ∃ o, h.get? a = some o ∧ o.ExactSet ∧ o.data = .set es ep t
  rows : es.toList = rowsK P w L
  tab : TabOk t (L.map fun p => hK P w p.2)
  nd : (L.map (·.2)).Nodup
  tup : ∀ p ∈ L, isK P w h p.2 p.1
  led : w.params.followText "set-order" = true ∨ t.led = true
  room : L.length * 5 < t.mask * 3
  few : L.length < 64
end
section
variable {P : Program} {w : World} {A : Around} {E : Value → Shared → Prop} {s : Shared}
/-! ### what is asked of a pair -/
theorem isK_items {h : Heap} {p : Str × Int} {b : Addr} (x : isK P w h p b) : ∃ o n t u, h.get? b = some o ∧ o.cls = .type "tuple" ∧ o.data = .seq #[.str p.1 t, .int p.2 u] n := by
  obtain ⟨o, items, n, ho, hc, hd, hi⟩ := x
  obtain ⟨l⟩ := items
  have hi : ItemsAre (mixKind P w) (kk p) l := hi
  cases hi with
  | cons h1 h2 =>
    cases h2 with
    | cons h3 h4 =>
      cases h4
      obtain ⟨t, rfl⟩ := Value.isStrOf_shape h1
      obtain ⟨u, rfl⟩ := Value.isInt_shape h3
      exact ⟨o, n, t, u, ho, hc, hd⟩
theorem keep_isK {h h' : Heap} {p : Str × Int} {b : Addr} (x : isK P w h p b) (k : ∀ o, h.get? b = some o → h'.get? b = some o) : isK P w h' p b := by
  obtain ⟨o, items, n, ho, r⟩ := x
  exact ⟨o, items, n, k o ho, r⟩
/-- the pair is not the set -/
theorem isK_other {h h' : Heap} {p : Str × Int} {a b : Addr} {o : Obj} {es : Array (Int × Value)} {ep : Nat} {t : SetTable} (x : isK P w h p b) (ho : h.get? a = some o) (hd : o.data = .set es ep t) (sb : Heap.SameBut a h h') : isK P w h' p b := by
  obtain ⟨o', n, t', u, ho', hc, hd'⟩ := isK_items x
  refine keep_isK x fun q hq => (sb.2 b ?_).trans hq
  rintro rfl
  rw [ho] at ho'
  cases ho'
  rw [hd] at hd'
  cases hd'
theorem noCls {p : Str × Int} {b : Addr} {Q : Bool → Shared → Prop} (x : isK P w s.heap p b) (q : Q false s) : wpAny (model P w) A (ofAClassStatement 8 (.ref b)) Q E s := by
  obtain ⟨o, n, t, u, ho, hc, hd⟩ := isK_items x
  have c1 : ∀ k v tk, ofAClassStatement k (.str v tk) = pure false := fun k v tk => by cases k <;> rfl
  have c2 : ∀ k v tk, ofAClassStatement k (.int v tk) = pure false := fun k v tk => by cases k <;> rfl
  unfold ofAClassStatement
  refine wpAny_bind (wpAny_typeOf ⟨o, ho, hc⟩ ?_)
  have e : (("tuple" : String) == "tuple") = true := by decide
  simp only [e, if_true, Bool.not_true, Bool.false_eq_true, if_false]
  try refine wpAny_bind (wpAny_pure ?_)
  try simp only [Bool.not_true, Bool.false_eq_true, if_false]
  show wpAny _ _ (seqItems? (.ref b) >>= _) _ _ s
  refine wpAny_bind (wpAny_seqItems ho hd ?_)
  dsimp only
  refine wpAny_bind ?_
  show wpAny _ _ (forIn (#[Value.str p.1 t, Value.int p.2 u] : Array Value) _ _) _ _ s
  rw [← Array.forIn_toList]
  refine wpAny_forIn_list _ (fun rest r s' => r.1 = none ∧ s' = s ∧ ∀ v ∈ rest, ofAClassStatement 7 v = pure false) _ ?_ ?_ _ _ ⟨rfl, rfl, fun v hv => ?_⟩
  · rintro v rest r s' ⟨hr, rfl, hall⟩
    rw [hall v List.mem_cons_self]
    refine wpAny_bind (wpAny_pure ?_)
    simp only [Bool.false_eq_true, if_false]
    exact wpAny_pure ⟨rfl, rfl, fun u hu => hall u (List.mem_cons_of_mem _ hu)⟩
  · rintro ⟨r1, r2⟩ s' ⟨hr, rfl, _⟩
    simp only at hr
    subst hr
    exact wpAny_pure q
  · have hv' : v = .str p.1 t ∨ v = .int p.2 u := by simpa using hv
    rcases hv' with rfl | rfl
    · exact c1 _ _ _
    · exact c2 _ _ _
theorem byVal {p : Str × Int} {b : Addr} {Q : Bool → Shared → Prop} (x : isK P w s.heap p b) (q : ∀ c, Q c s) : wpAny (model P w) A (hashByValue 8 (.ref b)) Q E s := by
  obtain ⟨o, n, t, u, ho, hc, hd⟩ := isK_items x
  have c1 : ∀ k v tk, hashByValue k (.str v tk) = pure false := fun k v tk => by cases k <;> rfl
  have c2 : ∀ k v tk, hashByValue k (.int v tk) = pure true := fun k v tk => by cases k <;> rfl
  unfold hashByValue
  refine wpAny_bind (wpAny_specialOf ⟨o, ho, hc⟩ F.slot_tuple_hash.lookup ?_)
  show wpAny _ _ (seqItems? (.ref b) >>= _) _ _ s
  refine wpAny_bind (wpAny_seqItems ho hd ?_)
  refine wpAny_bind ?_
  show wpAny _ _ (forIn (#[Value.str p.1 t, Value.int p.2 u] : Array Value) _ _) _ _ s
  rw [← Array.forIn_toList]
  refine wpAny_forIn_list _ (fun rest r s' => r.1 = none ∧ s' = s ∧ ∀ v ∈ rest, ∃ c, hashByValue 7 v = pure c) _ ?_ ?_ _ _ ⟨rfl, rfl, fun v hv => ?_⟩
  · rintro v rest r s' ⟨hr, rfl, hall⟩
    obtain ⟨c, hc'⟩ := hall v List.mem_cons_self
    rw [hc']
    refine wpAny_bind (wpAny_pure ?_)
    cases c with
    | true =>
      simp only [Bool.not_true, Bool.false_eq_true, if_false]
      exact wpAny_pure ⟨rfl, rfl, fun u hu => hall u (List.mem_cons_of_mem _ hu)⟩
    | false =>
      simp only [Bool.not_false, if_true]
      exact wpAny_pure (wpAny_pure (q false))
  · rintro ⟨r1, r2⟩ s' ⟨hr, rfl, _⟩
    simp only at hr
    subst hr
    exact wpAny_pure (q true)
  · have hv' : v = .str p.1 t ∨ v = .int p.2 u := by simpa using hv
    rcases hv' with rfl | rfl
    · exact ⟨false, c1 _ _ _⟩
    · exact ⟨true, c2 _ _ _⟩
/-- a search among pairs shows nothing of the table -/
theorem noShow {p : Str × Int} {b : Addr} {Q : Bool → Shared → Prop} (x : isK P w s.heap p b) {ys : List Value} (hy : ∀ y ∈ ys, ∃ p' c, y = Value.ref c ∧ isK P w s.heap p' c) (q : Q false s) : wpAny (model P w) A (searchCouldBeSeen (.ref b) ys) Q E s := by
  unfold searchCouldBeSeen
  refine wpAny_bind ?_
  refine wpAny_forIn_list _ (fun rest r s' => r.1 = none ∧ s' = s ∧ ∀ y ∈ rest, ∃ p' c, y = Value.ref c ∧ isK P w s.heap p' c) _ ?_ ?_ _ _ ⟨rfl, rfl, hy⟩
  · rintro v rest r s' ⟨hr, rfl, hall⟩
    obtain ⟨p', c, rfl, hc⟩ := hall v List.mem_cons_self
    have hrest := fun u hu => hall u (List.mem_cons_of_mem _ hu)
    dsimp only
    by_cases hv : (b == c || (carriedByValue (.ref b) && carriedByValue (.ref c))) = true
    · exact wp_if_pos hv (wpAny_pure ⟨rfl, rfl, hrest⟩)
    · refine wp_if_neg hv (wpAny_bind (wpAny_eqIsQuiet_tuple x ?_))
      simp only [Bool.not_true, Bool.false_eq_true, if_false]
      refine wpAny_bind (wpAny_eqIsQuiet_tuple hc ?_)
      simp only [Bool.not_true, Bool.false_eq_true, if_false]
      refine wpAny_bind (noCls x ?_)
      simp only [Bool.false_eq_true, if_false]
      refine wpAny_bind (noCls hc ?_)
      simp only [Bool.false_eq_true, if_false]
      exact wpAny_pure ⟨rfl, rfl, hrest⟩
  · rintro ⟨r1, r2⟩ s' ⟨hr, rfl, _⟩
    simp only at hr
    subst hr
    exact wpAny_pure q

/-! ### the set's own facts -/
variable {a : Addr} {L : List TI} {es : Array (Int × Value)} {ep : Nat} {t : SetTable}
theorem rowsK_len : (rowsK P w L).length = L.length := by unfold rowsK; exact List.length_map ..
theorem SetK.size (R : SetK P w s.heap a L es ep t) : es.size = L.length := by
  rw [← Array.length_toList, R.rows, rowsK_len]
theorem SetK.fits (R : SetK P w s.heap a L es ep t) : t.fits es.size = true := by
  have h1 := R.tab.sz
  have h2 := R.size
  have h3 := R.room
  rw [List.length_map] at h1
  unfold SetTable.fits SetTable.fill
  rw [R.tab.dm, Bool.and_eq_true, beq_iff_eq, decide_eq_true_eq]
  show t.place.size = es.size ∧ t.place.size + 0 ≤ t.mask
  omega
theorem SetK.entry (R : SetK P w s.heap a L es ep t) {i : Nat} {p : TI} (h : L[i]? = some p) : es[i]? = some (hK P w p.2, Value.ref p.1) := by
  rw [← Array.getElem?_toList, R.rows, rowsK, List.getElem?_map, h]
  rfl
theorem SetK.whole (R : SetK P w s.heap a L es ep t) : ¬ t.gaveWay = true := by
  unfold SetTable.gaveWay
  rw [mask_odd R.tab.mok]
  decide
/-- the probe's c-th state on the way of the hash h -/
abbrev prb (t : SetTable) (h : Int) (c : Nat) : SetTable.Probe := nth t.mask (runAt t.mask (SetTable.bits h % (t.mask + 1)) (SetTable.bits h)) c
theorem prb_add (t : SetTable) (h : Int) (c d : Nat) : nth t.mask (prb t h c) d = prb t h (c + d) := (nth_add t.mask c _ d).symm
theorem nth_dummy (m : Nat) : ∀ (n : Nat) (p : SetTable.Probe), p.dummy = none → (nth m p n).dummy = none
  | 0, _, h => h
  | n + 1, p, h => nth_dummy m n (adv m p) (by unfold adv; split <;> exact h)
theorem one_block (t : SetTable) : t.sameMemory t.moves t.mask = some true := if_pos (beq_self_eq_true _)
/-- the search of k, from the c-th step of its way on; n: the first empty slot -/
theorem look (R : SetK P w s.heap a L es ep t) {x : Addr} {k : Str × Int} (hx : isK P w s.heap k x) (hu : A.units < cLine) {n : Nat} (hn : n < 10 * SetTable.turns t.mask)
    (hE : way t.mask (hK P w k) n ∉ t.place.toList) (hF : ∀ c, c < n → way t.mask (hK P w k) c ∈ t.place.toList) {Q : SetFound → Shared → Prop}
    (yes : k ∈ L.map (·.2) → Q (.there none) s) (no : k ∉ L.map (·.2) → Q (.free (way t.mask (hK P w k) n) false) s) :
    ∀ (f c : Nat) (st : Option SetTable.Probe), st.getD (t.probeStart (hK P w k)) = prb t (hK P w k) c → c ≤ n → n - c < f →
      (∀ (i : Nat) p, L[i]? = some p → p.2 = k → ∃ d, c ≤ d ∧ d < n ∧ t.place.toList[i]? = some (way t.mask (hK P w k) d)) →
      wpAny (model P w) A (setSearchFrom a (.ref x) (hK P w k) true f st) Q E s := by
  obtain ⟨o, ho, hex, hd⟩ := R.ob
  have hash_at : ∀ (i : Nat) p, L[i]? = some p → (es[i]?.map (·.1)).getD 0 = hK P w p.2 := fun i p hp => by rw [R.entry hp, Option.map_some, Option.getD_some]
  intro f
  induction f with
  | zero => exact fun c st _ _ h => absurd h (Nat.not_lt_zero _)
  | succ f ih =>
    intro c st hst hc hf hall
    rw [setSearchFrom_succ]
    refine wpAny_bind (wpAny_setState_of ho hd R.fits ?_)
    dsimp only
    refine wp_if_neg R.whole ?_
    try refine wpAny_bind (wpAny_pure ?_)
    have at_ : ∀ q, (nth t.mask (prb t (hK P w k) c) q).j = way t.mask (hK P w k) (c + q) := fun q => congrArg SetTable.Probe.j (prb_add t _ c q)
    have spec := go_spec t R.tab.ris R.tab.dm (fun i => (es[i]?.map (·.1)).getD 0) (hK P w k) (10 * SetTable.turns t.mask) (n - c) (prb t (hK P w k) c) (nth_dummy _ _ _ rfl) (by omega)
      (fun q hq => by rw [at_]; exact hF _ (by omega)) (by rw [at_, show c + (n - c) = n by omega]; exact hE)
    rcases spec with ⟨q, i, hq, hi, hh, hno, hpr⟩ | ⟨hno, hpr⟩
    · have hpr' : t.probe (fun i => (es[i]?.map (·.1)).getD 0) (hK P w k) (st.getD (t.probeStart (hK P w k))) = some (.candidate (way t.mask (hK P w k) (c + q)) i (prb t (hK P w k) (c + (q + 1)))) := by
        rw [hst, ← at_, ← prb_add]
        exact hpr
      rw [hpr']
      dsimp only
      rw [at_] at hi
      have hil : i < L.length := by
        have h1 : i < t.place.toList.length := (List.getElem?_eq_some_iff.mp hi).1
        have h2 := R.tab.sz
        rw [List.length_map] at h2
        rw [Array.length_toList] at h1
        omega
      obtain ⟨p, hp⟩ : ∃ p, L[i]? = some p := ⟨_, List.getElem?_eq_getElem hil⟩
      have hm : p ∈ L := List.mem_of_getElem? hp
      have hsl : t.slot (way t.mask (hK P w k) (c + q)) = .live i := slot_live R.tab.ris hi
      have rest : wpAny (model P w) A (searchRest a (.ref x) (hK P w k) true f es t (way t.mask (hK P w k) (c + q)) i (prb t (hK P w k) (c + (q + 1)))) Q E s := by
        unfold searchRest
        rw [R.entry hp]
        dsimp only
        refine wpAny_bind (wpAny_holding (wpAny_eqBool_tuple hu (R.tup p hm) hx ?_))
        refine wpAny_bind (wpAny_setState_of ho hd R.fits ?_)
        dsimp only
        by_cases e : p.2 = k
        · refine wp_if_pos (by simp [e]) (wpAny_pure (yes (List.mem_map.mpr ⟨p, hm, e⟩)))
        · have e' : ¬ kk p.2 = kk k := fun z => e (kk_inj z)
          refine wp_if_neg (by simp [e']) ?_
          try refine wpAny_bind (wpAny_pure ?_)
          rw [one_block]
          dsimp only
          simp only [if_true, hsl, R.entry hp]
          refine wpAny_bind (wpAny_isSame_ref_self (wpAny_bind (wpAny_pure ?_)))
          simp only [if_true]
          refine wp_if_neg (by simp [e']) ?_
          refine ih (c + (q + 1)) _ rfl (by omega) (by omega) fun i0 p0 h0 hk0 => ?_
          obtain ⟨d, d1, d2, d3⟩ := hall i0 p0 h0 hk0
          have hd0 : (es[i0]?.map (·.1)).getD 0 = hK P w k := by rw [hash_at i0 p0 h0, hk0]
          refine ⟨d, ?_, d2, d3⟩
          by_cases z : d < c + q
          · exact absurd hd0 (hno (d - c) i0 (by omega) (by rw [at_, show c + (d - c) = d by omega]; exact d3))
          · by_cases y : d = c + q
            · rw [y] at d3
              have s0 := slot_live R.tab.ris d3
              rw [hsl] at s0
              injection s0 with s0
              rw [← s0, hp] at h0
              exact absurd ((congrArg Prod.snd (Option.some.inj h0)).trans hk0) e
            · omega
      by_cases hl : t.led = true
      · refine wp_if_neg (by simp [hl]) ?_
        try refine wpAny_bind (wpAny_pure ?_)
        exact rest
      · refine wp_if_pos (by simp [hl]) (wpAny_bind (noShow hx (fun y hy => ?_) ?_))
        · obtain ⟨r, hr, er⟩ := List.mem_map.mp hy
          have hr2 : r ∈ es.toList := by
            have hr1 : r ∈ es ∧ r.1 = hK P w k := by simpa using hr
            simpa using hr1.1
          rw [R.rows] at hr2
          obtain ⟨p2, hp2, e2⟩ := List.mem_map.mp hr2
          exact ⟨p2.2, p2.1, by rw [← er, ← e2], R.tup p2 hp2⟩
        · refine wp_if_neg (by decide) ?_
          try refine wpAny_bind (wpAny_pure ?_)
          exact rest
    · have hpr' : t.probe (fun i => (es[i]?.map (·.1)).getD 0) (hK P w k) (st.getD (t.probeStart (hK P w k))) = some (.empty (way t.mask (hK P w k) n) none) := by
        have e2 : way t.mask (hK P w k) n = (nth t.mask (prb t (hK P w k) c) (n - c)).j := by rw [at_, show c + (n - c) = n by omega]
        rw [hst, e2]
        exact hpr
      rw [hpr']
      dsimp only
      refine wpAny_pure (no fun hm => ?_)
      obtain ⟨p0, h0, hk0⟩ := List.mem_map.mp hm
      obtain ⟨i0, hi0, e0⟩ := List.getElem_of_mem h0
      have h00 : L[i0]? = some p0 := by rw [List.getElem?_eq_getElem hi0, e0]
      obtain ⟨d, d1, d2, d3⟩ := hall i0 p0 h00 hk0
      exact hno (d - c) i0 (by omega) (by rw [at_, show c + (d - c) = d by omega]; exact d3) (by rw [hash_at i0 p0 h00, hk0])
theorem look_all (R : SetK P w s.heap a L es ep t) {x : Addr} {k : Str × Int} (hx : isK P w s.heap k x) (hu : A.units < cLine) {Q : SetFound → Shared → Prop} (yes : k ∈ L.map (·.2) → Q (.there none) s)
    (no : ∀ n, k ∉ L.map (·.2) → way t.mask (hK P w k) n ∉ t.place.toList → (∀ c, c < n → way t.mask (hK P w k) c ∈ t.place.toList) → Q (.free (way t.mask (hK P w k) n) false) s) :
    wpAny (model P w) A (setSearch a (.ref x) (hK P w k) true) Q E s := by
  have hroom := R.room
  obtain ⟨n, hn, hE, hF⟩ := R.tab.first (by rw [List.length_map]; omega) (hK P w k)
  have big : 10 * SetTable.turns t.mask ≤ 1420 := by
    unfold SetTable.turns
    rcases R.tab.mok with e | e | e <;> omega
  unfold setSearch
  refine look R hx hu hn hE hF yes (fun h => no n h hE hF) 100000 0 none rfl (Nat.zero_le _) (by omega) fun i p hp hk => ?_
  have hi : (L.map fun p => hK P w p.2)[i]? = some (hK P w k) := by rw [List.getElem?_map, hp, ← hk]; rfl
  have hil : i < t.place.toList.length := by
    have h1 : i < L.length := (List.getElem?_eq_some_iff.mp hp).1
    have h2 := R.tab.sz
    rw [List.length_map] at h2
    rw [Array.length_toList]
    omega
  have hj := List.getElem?_eq_getElem hil
  obtain ⟨d, hd, e⟩ := R.tab.before hE hi hj
  exact ⟨d, Nat.zero_le _, hd, by rw [hj, e]⟩
/-! ### one put in -/
theorem tab_of {t t2 : SetTable} {hs : List Int} (T : TabOk t hs) (e1 : t2.place = t.place) (e2 : t2.dummies = t.dummies) (e3 : t2.mask = t.mask) : TabOk t2 hs :=
  ⟨by rw [e1]; exact T.ris, by rw [e2]; exact T.dm, by rw [e1]; exact T.sz, by rw [e3]; exact T.mok, by rw [e1, e3]; exact T.bd, by rw [e1, e3]; exact T.reach⟩
theorem rowsK_put (L : List TI) (n : Nat) (x : TI) : rowsK P w (L.take n ++ x :: L.drop n) = (rowsK P w L).take n ++ (hK P w x.2, Value.ref x.1) :: (rowsK P w L).drop n := by
  simp only [rowsK, List.map_append, List.map_cons, List.map_take, List.map_drop]
theorem ranged {α : Type} (L : List α) : (List.range L.length).filterMap (fun i => L[i]?) = L := by
  have key : ∀ n, n ≤ L.length → (List.range n).filterMap (fun i => L[i]?) = L.take n := by
    intro n
    induction n with
    | zero => intro _; rfl
    | succ n ih =>
      intro hn
      rw [List.range_succ, List.filterMap_append, ih (by omega), List.take_add_one, List.getElem?_eq_getElem (show n < L.length by omega)]
      rw [List.filterMap_cons_some (List.getElem?_eq_getElem (show n < L.length by omega))]
      rfl
  rw [key _ (Nat.le_refl _), List.take_length]
theorem rowsK_order (L : List TI) (es : Array (Int × Value)) (order : Array Nat) (hr : es.toList = rowsK P w L) (hp : order.toList.Perm (List.range L.length)) :
    ∃ L2 : List TI, (order.filterMap (es[·]?)).toList = rowsK P w L2 ∧ List.Perm L2 L ∧ (L2.map fun p => hK P w p.2) = order.toList.map fun i => (es.map (·.1)).getD i 0 := by
  have hsz : es.size = L.length := by rw [← Array.length_toList, hr, rowsK_len]
  have ent : ∀ i (h : i < L.length), es[i]? = some (hK P w (L[i]).2, Value.ref (L[i]).1) := fun i h => by
    rw [← Array.getElem?_toList, hr, rowsK, List.getElem?_map, List.getElem?_eq_getElem h]
    rfl
  have key : ∀ l : List Nat, (∀ i ∈ l, i < L.length) → l.filterMap (fun i => es[i]?) = rowsK P w (l.filterMap fun i => L[i]?) ∧ ((l.filterMap fun i => L[i]?).map fun p => hK P w p.2) = l.map fun i => (es.map (·.1)).getD i 0 := by
    intro l
    induction l with
    | nil => intro _; exact ⟨rfl, rfl⟩
    | cons i l ih =>
      intro hl
      have hi := hl i (by simp)
      obtain ⟨e1, e2⟩ := ih fun j hj => hl j (by simp [hj])
      have e4 : (es.map (·.1)).getD i 0 = hK P w (L[i]).2 := by
        have e5 : (es.map (·.1))[i]? = some (hK P w (L[i]).2) := by rw [Array.getElem?_map, ent i hi, Option.map_some]
        rw [Array.getD_eq_getD_getElem?, e5, Option.getD_some]
      refine ⟨?_, ?_⟩
      · rw [List.filterMap_cons_some (ent i hi), e1, List.filterMap_cons_some (List.getElem?_eq_getElem hi)]
        rfl
      · rw [List.filterMap_cons_some (List.getElem?_eq_getElem hi), List.map_cons, List.map_cons, e2, e4]
  obtain ⟨e1, e2⟩ := key order.toList fun i hi => List.mem_range.mp (hp.mem_iff.mp hi)
  refine ⟨_, by rw [Array.toList_filterMap]; exact e1, ?_, e2⟩
  have h1 := hp.filterMap fun i => L[i]?
  rwa [ranged] at h1
/-- the table laid anew -/
theorem relay {o : Obj} (ho : s.heap.get? a = some o) (hex : o.ExactSet) (hd : o.data = .set es ep t) (hrows : es.toList = rowsK P w L) (hsz : t.place.size = es.size) (hdm : t.dummies = #[]) (hfl : es.size ≤ t.mask)
    (nd : (L.map (·.2)).Nodup) (tup : ∀ p ∈ L, isK P w s.heap p.2 p.1) (ld : w.params.followText "set-order" = true ∨ t.led = true) (few : L.length < 64) {wanted M : Nat}
    (hw : SetTable.sizeAbove wanted - 1 = M) (hM : MaskOk M) (hw2 : SetTable.sizeAbove wanted ≤ 128) (hn : L.length * 5 < M * 3) {Q : Unit → Shared → Prop}
    (q : ∀ h' L' es' ep' t', Heap.SameBut a s.heap h' → SetK P w h' a L' es' ep' t' → List.Perm L' L → Q () { s with heap := h' }) : wpAny (model P w) A (setRelay a wanted) Q E s := by
  have hsl : es.size = L.length := by rw [← Array.length_toList, hrows, rowsK_len]
  have hfits : t.fits es.size = true := by
    unfold SetTable.fits SetTable.fill
    rw [hdm, Bool.and_eq_true, beq_iff_eq, decide_eq_true_eq]
    show t.place.size = es.size ∧ t.place.size + 0 ≤ t.mask
    omega
  obtain ⟨t', order, e, hp, T, em, el, _, ed⟩ := relaid_ok t (hs := es.map (·.1)) (wanted := wanted) hw hM (by rw [Array.size_map, hsl]; omega)
  rw [Array.size_map, hsl] at hp
  obtain ⟨L2, r1, r2, r3⟩ := rowsK_order L es order hrows hp
  rw [← r3] at T
  have hs2 : (order.filterMap (es[·]?)).size = es.size := by rw [← Array.length_toList, r1, rowsK_len, r2.length_eq, hsl]
  rw [setRelay_eq]
  refine wpAny_bind (wpAny_setState_of ho hd hfits ?_)
  dsimp only
  refine wp_if_neg (by rw [sizeLine_eq]; omega) ?_
  try refine wpAny_bind (wpAny_pure ?_)
  rw [e]
  dsimp only
  refine wpAny_bind ?_
  refine wp_if_neg (by rw [hs2]; simp) ?_
  try refine wpAny_bind (wpAny_pure ?_)
  refine wpAny_pure ?_
  dsimp only
  refine wpAny_storeSet_of ho hd ?_ (by rw [hs2, hsl, sizeLine_eq]; omega)
  have sb : Heap.SameBut a s.heap (s.heap.update a (Obj.putSet (order.filterMap (es[·]?)) t')) := Heap.SameBut.update ..
  refine q _ L2 (order.filterMap (es[·]?)) (ep + 1) t' sb ⟨⟨_, store_at ho hd, ⟨hex.1, hex.2.1, hex.2.2⟩, rfl⟩, r1, T, (r2.map (·.2)).nodup_iff.mpr nd, fun p hpm => isK_other (tup p (r2.mem_iff.mp hpm)) ho hd sb, by rw [el]; exact ld, ?_, by rw [r2.length_eq]; exact few⟩ r2
  rw [r2.length_eq, em]
  exact hn
/-- adding: there already, or put in -/
theorem add (R : SetK P w s.heap a L es ep t) {x : Addr} {k : Str × Int} (hx : isK P w s.heap k x) (hu : A.units < cLine) (hfew : k ∉ L.map (·.2) → L.length + 1 < 64) {Q : Bool → Shared → Prop}
    (q : ∀ b h' L' es' ep' t', Heap.SameBut a s.heap h' → SetK P w h' a L' es' ep' t' → (L' = L ∨ List.Perm L' ((x, k) :: L)) → Q b { s with heap := h' }) :
    wpAny (model P w) A (setAddHashed a (.ref x) (hK P w k)) Q E s := by
  obtain ⟨o, ho, hex, hd⟩ := R.ob
  have hsl := R.size
  have hroom := R.room
  unfold setAddHashed
  refine wpAny_holding ?_
  rw [show (100000 : Nat) = 99999 + 1 from rfl, setAddHashedIn_succ]
  refine wpAny_bind (wpAny_setState_of ho hd R.fits ?_)
  dsimp only
  refine wp_if_neg (by simp [byScan, Value.scannable]) ?_
  try refine wpAny_bind (wpAny_pure ?_)
  refine wpAny_bind (look_all R hx hu (fun hm => ?_) fun n hm hE hF => ?_)
  · dsimp only
    exact wpAny_pure (q false s.heap L es ep t (Heap.SameBut.refl a s.heap) R (.inl rfl))
  · have hfew := hfew hm
    dsimp only
    refine wpAny_bind (wpAny_setState_of ho hd R.fits ?_)
    dsimp only
    obtain ⟨q1, q2, q3, q4, q5, q6, q7, q8, q9⟩ := R.tab.put hE hF
    generalize hpt : t.put (way t.mask (hK P w k) n) = pt at q1 q3 q4 q5 q6 q7 q8 q9 ⊢
    obtain ⟨t1, p⟩ := pt
    dsimp only at q1 q3 q4 q5 q6 q7 q8 q9 ⊢
    subst q1
    have hin : (SetTable.insertAt es (SetTable.below t.place (way t.mask (hK P w k) n)) (hK P w k, Value.ref x)).toList = rowsK P w (L.take (SetTable.below t.place (way t.mask (hK P w k) n)) ++ (x, k) :: L.drop (SetTable.below t.place (way t.mask (hK P w k) n))) := by
      rw [SetTable.toList_insertAt, rowsK_put, R.rows]
    generalize hpp : SetTable.below t.place (way t.mask (hK P w k) n) = p at q2 q3 hin ⊢
    have pm : List.Perm (L.take p ++ (x, k) :: L.drop p) ((x, k) :: L) := put_perm L p (x, k)
    have hlen : (L.take p ++ (x, k) :: L.drop p).length = L.length + 1 := pm.length_eq
    have hhs : (L.take p ++ (x, k) :: L.drop p).map (fun p => hK P w p.2) = (L.map fun p => hK P w p.2).take p ++ hK P w k :: (L.map fun p => hK P w p.2).drop p := by
      simp only [List.map_append, List.map_cons, List.map_take, List.map_drop]
    rw [← hhs] at q3
    have nd1 : ((L.take p ++ (x, k) :: L.drop p).map (·.2)).Nodup := by
      refine (pm.map (·.2)).nodup_iff.mpr ?_
      rw [List.map_cons]
      exact List.nodup_cons.mpr ⟨hm, R.nd⟩
    have hes : (SetTable.insertAt es p (hK P w k, Value.ref x)).size = L.length + 1 := by rw [← Array.length_toList, hin, rowsK_len, hlen]
    generalize SetTable.insertAt es p (hK P w k, Value.ref x) = es1 at hin hes ⊢
    generalize L.take p ++ (x, k) :: L.drop p = L1 at pm hlen q3 nd1 hin
    -- the store and what follows, whatever plain is
    have go : ∀ t2 : SetTable, t2.place = t1.place → t2.dummies = t1.dummies → t2.mask = t1.mask → t2.led = t1.led →
        wpAny (model P w) A (do
          storeSet a es1 t2
          if !false && t2.tooFull then setRelay a (SetTable.grown (es.size + 1))
          return true) Q E s := by
      intro t2 e1 e2 e3 e4
      have T2 := tab_of q3 e1 e2 e3
      have fill2 : t2.fill = L.length + 1 := by
        have : t2.fill = t1.fill := by unfold SetTable.fill; rw [e1, e2]
        rw [this, q9, List.length_map]
      refine wpAny_bind (wpAny_storeSet_of ho hd ?_ (by rw [hes, sizeLine_eq]; omega))
      have sb : Heap.SameBut a s.heap (s.heap.update a (Obj.putSet es1 t2)) := Heap.SameBut.update ..
      have ho1 := store_at (es' := es1) (t' := t2) ho hd
      generalize s.heap.update a (Obj.putSet es1 t2) = h1 at sb ho1 ⊢
      have tup1 : ∀ p ∈ L1, isK P w h1 p.2 p.1 := fun p hp => by
        rcases List.mem_cons.mp (pm.mem_iff.mp hp) with e | hp
        · rw [e]; exact isK_other hx ho hd sb
        · exact isK_other (R.tup p hp) ho hd sb
      have ld1 : w.params.followText "set-order" = true ∨ t2.led = true := by rw [e4, q5]; exact R.led
      have sz2 : t2.place.size = es1.size := by
        have h := T2.sz
        rw [List.length_map, hlen] at h
        rw [h, hes]
      by_cases hf : t2.tooFull = true
      · first
          | (refine wpAny_bind ?_; refine wp_if_pos (by simp [hf]) ?_)
          | (refine wp_if_pos (by simp [hf]) ?_; refine wpAny_bind ?_)
        have hfull : (L.length + 1) * 5 ≥ t2.mask * 3 := by
          have h := hf
          unfold SetTable.tooFull at h
          rw [decide_eq_true_eq, fill2] at h
          exact h
        rw [hsl]
        have two : (t.mask = 7 ∧ L.length = 4) ∨ (t.mask = 31 ∧ L.length = 18) := by
          rw [e3, q4] at hfull
          rcases R.tab.mok with e | e | e <;> rw [e] at hfull hroom
          · exact .inl ⟨e, by omega⟩
          · exact .inr ⟨e, by omega⟩
          · omega
        have anew : ∀ M, SetTable.sizeAbove (SetTable.grown (L.length + 1)) - 1 = M → MaskOk M → SetTable.sizeAbove (SetTable.grown (L.length + 1)) ≤ 128 → (L.length + 1) * 5 < M * 3 →
            wpAny (model P w) A (setRelay a (SetTable.grown (L.length + 1))) (fun _ s' => wpAny (model P w) A (pure true) Q E s') E { s with heap := h1 } := fun M h1' h2' h3' h4' => by
          refine relay (s := { s with heap := h1 }) ho1 ⟨hex.1, hex.2.1, hex.2.2⟩ rfl hin sz2 T2.dm (by rw [hes, e3, q4]; rcases two with ⟨e, e2⟩ | ⟨e, e2⟩ <;> omega) nd1 tup1 ld1 (by rw [hlen]; exact hfew) h1' h2' h3' (by rw [hlen]; exact h4') ?_
          intro h2 L2 es2 ep2 t2 sb2 R2 pm2
          exact wpAny_pure (q true h2 L2 es2 ep2 t2 (sb.trans sb2) R2 (.inr (pm2.trans pm)))
        rcases two with ⟨_, e2⟩ | ⟨_, e2⟩
        · exact anew 31 (by rw [e2, size_20]) (.inr (.inl rfl)) (by rw [e2, size_20]; decide) (by omega)
        · exact anew 127 (by rw [e2, size_76]) (.inr (.inr rfl)) (by rw [e2, size_76]; decide) (by omega)
      · first
          | refine wp_if_neg (by simp [hf]) ?_
          | (refine wpAny_bind ?_; refine wp_if_neg (by simp [hf]) ?_; refine wpAny_pure ?_)
        refine wpAny_pure (q true h1 L1 es1 (ep + 1) t2 sb ⟨⟨_, ho1, ⟨hex.1, hex.2.1, hex.2.2⟩, rfl⟩, hin, T2, nd1, tup1, ld1, ?_, by rw [hlen]; exact hfew⟩ (.inr pm))
        have h := hf
        unfold SetTable.tooFull at h
        rw [decide_eq_true_eq, fill2] at h
        rw [hlen]
        omega
    by_cases hp1 : t1.plain = true
    · first
        | (refine wpAny_bind ?_; refine wp_if_pos hp1 ?_; refine byVal hx fun c => ?_)
        | refine wp_if_pos hp1 (wpAny_bind (byVal hx fun c => ?_))
      cases c with
      | true =>
        simp only [if_true]
        exact go t1 rfl rfl rfl rfl
      | false =>
        simp only [Bool.false_eq_true, if_false]
        exact go { t1 with plain := false } rfl rfl rfl rfl
    · first
        | (refine wpAny_bind ?_; refine wp_if_neg hp1 ?_; refine wpAny_pure ?_)
        | refine wp_if_neg hp1 (wpAny_bind (wpAny_pure ?_))
      simp only [if_true]
      exact go t1 rfl rfl rfl rfl
/-! ### set(list) -/
theorem nodup_le {α : Type} [DecidableEq α] : ∀ (l D : List α), l.Nodup → (∀ x ∈ l, x ∈ D) → l.length ≤ D.length
  | [], _, _, _ => Nat.zero_le _
  | x :: l, D, hn, hs => by
    have hx : x ∈ D := hs x (by simp)
    have hn' := List.nodup_cons.mp hn
    have ih := nodup_le l (D.erase x) hn'.2 fun y hy => (List.mem_erase_of_ne (fun e => hn'.1 (by rw [← e]; exact hy))).2 (hs y (by simp [hy]))
    have hp : 0 < D.length := List.length_pos_of_mem hx
    rw [List.length_erase_of_mem hx] at ih
    rw [List.length_cons]
    omega
theorem SetK.keep {h h' : Heap} (R : SetK P w h a L es ep t) (ha : ∀ o, h.get? a = some o → h'.get? a = some o) (ht : ∀ p ∈ L, isK P w h' p.2 p.1) : SetK P w h' a L es ep t := by
  obtain ⟨o, ho, r⟩ := R.ob
  exact ⟨⟨o, ha o ho, r⟩, R.rows, R.tab, R.nd, ht, R.led, R.room, R.few⟩
/-- a new set as the model makes it -/
abbrev newS (w : World) : Obj := { cls := .type "set", dict := none, data := .set #[] 0 (.fresh 0 0 (!w.params.followText "set-order")) }
theorem setK_new {h : Heap} (ho : h.get? a = some (newS w)) : SetK P w h a [] #[] 0 (.fresh 0 0 (!w.params.followText "set-order")) where
  ob := ⟨_, ho, ⟨rfl, rfl, rfl⟩, rfl⟩
  rows := rfl
  tab := ⟨List.Pairwise.nil, rfl, rfl, .inl rfl, fun x hx => (by cases hx), fun i h j hi => (by simp at hi)⟩
  nd := List.nodup_nil
  tup := fun p hp => (by cases hp)
  led := by
    show _ ∨ (!w.params.followText "set-order") = true
    cases w.params.followText "set-order"
    · exact .inr rfl
    · exact .inl rfl
  room := by show 0 * 5 < 7 * 3; decide
  few := by show 0 < 64; decide
/-- the walk of set.update -/
theorem upd_loopK {I : Addr} {fp wr : List Addr} {G : Array GenState → Array GenState → Prop} {n : Nat} {Pv : Nat → Value → Prop} {St : Nat → Shared → Prop} {R : Result → Shared → Prop}
    (W : WalksS P w A.in1 I fp wr G n Pv St) (S : Addr) (hSf : S ∉ fp) (ks : List TI) (D : List (Str × Int)) (hD : D.length ≤ 62) (hkD : ∀ p ∈ ks, p.2 ∈ D) (hval : ∀ i v, Pv i v → ∃ p ∈ ks, v = .ref p.1)
    (h0 : Heap) (hk : ∀ p ∈ ks, isK P w h0 p.2 p.1) (hS0 : h0.get? S = none) (hw0 : ∀ b ∈ wr, h0.get? b = none) (hu : A.in1.units < cLine) :
    ∀ (k i : Nat) (s : Shared), n - i = k → i ≤ n → St i s → (∀ b o, h0.get? b = some o → s.heap.get? b = some o) → (∃ L es ep t, SetK P w s.heap S L es ep t ∧ ∀ p ∈ L, p ∈ ks) →
      (∀ s' L es ep t, Moved (S :: wr) G s s' → SetK P w s'.heap S L es ep t → (∀ p ∈ L, p ∈ ks) → (∀ b o, h0.get? b = some o → s'.heap.get? b = some o) → R (.ok (.ret .none)) s') →
      codeAny (model P w) A (.builtin "set.update.loop" ⟨[.ref S, .ref I], []⟩) R s := by
  have hSw : S ∉ wr := fun h => hSf (W.sub _ h)
  have hsub : ∀ b ∈ wr, b ∈ S :: wr := fun b hb => List.mem_cons_of_mem _ hb
  have still : ∀ {s s' : Shared}, Moved wr G s s' → (∀ b o, h0.get? b = some o → s.heap.get? b = some o) → ∀ b o, h0.get? b = some o → s'.heap.get? b = some o := fun hm kp b o e =>
    hm.heap b o (fun hb => by rw [hw0 b hb] at e; cases e) (kp b o e)
  intro k
  induction k with
  | zero =>
    intro i s hk' hi hst kp ⟨L, es, ep, t, hS, sub⟩ hR
    have hin : i = n := by omega
    subst hin
    refine codeAny_builtin F.entry_set_update_loop ?_
    rw [Around.under_plainId F.plain_set_update_loop _]
    show wpAny _ A.in1 (pyNext (.ref I) >>= _) _ _ s
    refine wpAny_bind (W.done s _ _ hst fun s' hm => ?_)
    show wpAny _ A.in1 (ret Value.none) _ _ s'
    have kp' := still hm kp
    exact wpAny_pure (hR s' L es ep t (hm.mono hsub) (hS.keep (fun o e => hm.heap S o hSw e) fun p hp => keep_isK (hk p (sub p hp)) fun o e => kp' _ o e) sub kp')
  | succ k ih =>
    intro i s hk' hi hst kp ⟨L, es, ep, t, hS, sub⟩ hR
    have hlt : i < n := by omega
    refine codeAny_builtin F.entry_set_update_loop ?_
    rw [Around.under_plainId F.plain_set_update_loop _]
    show wpAny _ A.in1 (pyNext (.ref I) >>= _) _ _ s
    refine wpAny_bind (W.item i s _ _ hlt hst fun v s' hP hst' hm => ?_)
    obtain ⟨p, hp, rfl⟩ := hval i v hP
    have kp' := still hm kp
    have hS' : SetK P w s'.heap S L es ep t := hS.keep (fun o e => hm.heap S o hSw e) fun q hq => keep_isK (hk q (sub q hq)) fun o e => kp' _ o e
    have hx : isK P w s'.heap p.2 p.1 := keep_isK (hk p hp) fun o e => kp' _ o e
    show wpAny _ A.in1 (holding [Value.ref p.1] (setAdd S (.ref p.1)) >>= _) _ _ s'
    refine wpAny_bind (wpAny_holding ?_)
    unfold setAdd
    refine wpAny_holding (wpAny_bind (wpAny_pyHash_tuple hu hx ?_))
    refine add (s := { s' with toks := s'.toks + ((kk p.2).length + 1) }) hS' hx hu (fun hn => ?_) fun b h' L' es' ep' t' hsb hS2 hL => ?_
    · have := nodup_le (p.2 :: L.map (·.2)) D (List.nodup_cons.mpr ⟨hn, hS.nd⟩) fun y hy => by
        rcases List.mem_cons.mp hy with e | hy
        · rw [e]; exact hkD p hp
        · obtain ⟨q, hq, e⟩ := List.mem_map.mp hy
          rw [← e]; exact hkD q (sub q hq)
      rw [List.length_cons, List.length_map] at this
      omega
    · have sub' : ∀ q ∈ L', q ∈ ks := fun q hq => by
        rcases hL with e | pm
        · exact sub q (e ▸ hq)
        · rcases List.mem_cons.mp (pm.mem_iff.mp hq) with e | hq
          · rw [e]; exact hp
          · exact sub q hq
      have kp2 : ∀ b o, h0.get? b = some o → h'.get? b = some o := fun b o e => (hsb.2 b (fun z => by rw [z, hS0] at e; cases e)).trans (kp' b o e)
      refine wpAny_pure ⟨plainId_quiet F.plain_set_update_loop _, ih (i + 1) _ (by omega) hlt (W.frame _ s' _ _ hst' (Nat.le_add_right _ _) fun b hb o e => ?_) kp2 ⟨L', es', ep', t', hS2, sub'⟩ fun s'' L2 es2 ep2 t2 hm'' hS'' sub'' kp'' => ?_⟩
      · rw [hsb.2 b (fun h : b = S => hSf (by rw [← h]; exact hb))]; exact e
      · refine hR s'' L2 es2 ep2 t2 (Moved.trans W.gtrans ((hm.mono hsub).then_heap (Nat.le_add_right _ _) fun b o hb e => ?_) hm'') hS'' sub'' kp''
        rw [hsb.2 b (fun h : b = S => hb (by rw [h]; exact List.mem_cons_self))]; exact e
end
end K25
/-! set(list) and sorted(set) as rules. -/
namespace K25
open PySem PySem.Spec PyProof.Rows L2
section
variable {P : Program} {w : World} {A : Around} {E : Value → Shared → Prop} {s : Shared}
theorem call_setK {l : Addr} {items : Array Value} (ks : List TI) (D : List (Str × Int)) {Q : Value → Shared → Prop} (hh : A.handled = none) (hl : s.heap.IsList l items) (hit : items.toList = ks.map fun p => Value.ref p.1)
    (hk : ∀ p ∈ ks, isK P w s.heap p.2 p.1) (hD : D.length ≤ 62) (hkD : ∀ p ∈ ks, p.2 ∈ D) (hu : A.units + 3 < cLine)
    (h : ∀ (h' : Heap) (tk : Nat) L es ep t, SetK P w h' s.heap.objs.size L es ep t → (∀ p ∈ L, p ∈ ks) → (∀ b o, s.heap.get? b = some o → h'.get? b = some o) → Q (.ref s.heap.objs.size) { s with heap := h', toks := tk }) :
    wpAny (model P w) A (call (.type "set") [.ref l]) Q E s := by
  obtain ⟨c, tl, hmro⟩ := F.called_set.mro
  have hmade := F.called_set.made
  have hsub := F.called_set.sub
  refine wpAny_call (codeAny_of_tree ?_)
  show wpAny _ _ (callAny (.type "set") _) _ _ _
  refine wpAny_pure ⟨Code.quiet_builtin _ (by decide +kernel), codeAny_builtin F.entry_type_call ?_⟩
  rw [Around.under_plain (weight_type_call_type "set" [.ref l] []) rfl]
  have h1 := F.called_set.notType
  have h2 := F.called_set.canCreate
  have hct := F.typeCall_set_1 (.ref l)
  repeat (any_goals (first | assumption | wp_step))
  refine codeAny_mono (code_set_led1 (.ref l) (E := E) (Q₁ := fun obj s1 => obj = .ref s.heap.objs.size ∧ s1 = { s with heap := s.heap.push (newS w) }) ⟨rfl, rfl⟩) fun r s1 hr => ?_
  cases r with
  | error e => exact hr
  | ok fl =>
    cases fl with
    | ret obj =>
      obtain ⟨rfl, rfl⟩ := hr
      have hS : (s.heap.push (newS w)).get? s.heap.objs.size = some (newS w) := Heap.get?_push_size _ rfl
      have hT : Shared.TypeIs { s with heap := s.heap.push (newS w) } (.ref s.heap.objs.size) "set" := ⟨_, hS, rfl⟩
      have hli := F.called_set.init.lookup
      have hbi := F.called_set.init.bind (.ref s.heap.objs.size)
      repeat (any_goals (first | assumption | wp_step))
      refine codeAny_mono (codeAny_call_builtin (R := wants (fun r s2 => r = .none ∧ ∃ h' tk L es ep t, s2 = { s with heap := h', toks := tk } ∧ SetK P w h' s.heap.objs.size L es ep t ∧ (∀ p ∈ L, p ∈ ks) ∧
          (∀ b o, s.heap.get? b = some o → h'.get? b = some o)) E) F.called_set.init.plain F.entry_set_init (check_set_init_1 hT ?_)) fun r2 s2 hr2 => ?_
      · obtain ⟨ol, hol, hcl, nl, hdl⟩ := hl
        obtain ⟨ocls, odict, odata, oslots⟩ := ol
        simp only at hcl hdl
        subst hcl; subst hdl
        have hol' : (s.heap.push (newS w)).get? l = some { cls := .type "list", dict := odict, data := .seq items nl, slots := oslots } := Heap.get?_push_of_some _ hol
        have hsls := F.sub_list_set
        have hslf := F.sub_list_frozenset
        have hne : (Value.type "list" == Value.type "dict") = false := by decide
        have hl1 : (s.heap.push (newS w)).IsList l items := ⟨_, hol', rfl, nl, rfl⟩
        unfold Builtin.«set.__init__» noKeywords Builtin.Frozenset.updateFrom
        generalize hPI : pyIter = PI
        wp_walk
        subst hPI
        refine wpAny_pyIter_list hl1 (wpAny_bind (wpAny_runValue ?_))
        have hlS : l < s.heap.objs.size := Heap.lt_size hol
        have hh3 : A.in1.in1.in1.handled = none := by simp [hh]
        have gone : ∀ b, s.heap.objs.size ≤ b → s.heap.get? b = none := fun b hb => by
          cases q : s.heap.get? b with
          | none => rfl
          | some o => exact absurd (Nat.lt_of_lt_of_le (Heap.lt_size q) hb) (Nat.lt_irrefl _)
        refine upd_loopK ((Walks.list hh3 _ l (by rw [Heap.size_push]; exact Nat.ne_of_lt (Nat.lt_succ_of_lt hlS)) items).toS) s.heap.objs.size
          (by rw [Heap.size_push]; simp only [List.mem_cons, List.mem_singleton, List.not_mem_nil, or_false, not_or]; exact ⟨Nat.ne_of_lt (Nat.lt_succ_self _), Nat.ne_of_gt hlS⟩)
          ks D hD hkD (fun i v hv => ?_) s.heap hk (gone _ (Nat.le_refl _)) (fun b hb => gone b (by rw [List.mem_singleton.mp hb, Heap.size_push]; exact Nat.le_succ _)) hu (items.size - 0) 0 _ (by omega) (Nat.zero_le _)
          ⟨⟨_, Heap.get?_push_size _ rfl, rfl, rfl⟩, (hl1.push _)⟩ (fun b o e => Heap.get?_push_of_some _ (Heap.get?_push_of_some _ e)) ?hS0 ?hR
        · have q : items.toList[i]? = some v := by rw [Array.getElem?_toList]; exact hv
          rw [hit] at q
          obtain ⟨p, hp, e⟩ := List.mem_map.mp (List.mem_of_getElem? q)
          exact ⟨p, hp, e.symm⟩
        case hS0 => exact ⟨[], #[], 0, _, setK_new (Heap.get?_push_of_some _ hS), fun p hp => (by cases hp)⟩
        case hR =>
          intro s' L es ep t hm hS' g' hkp
          obtain ⟨h', g2, d', tk', os'⟩ := s'
          have eg : g2 = s.gens := hm.gens
          have ed : d' = s.drawn := hm.drawn
          have eo : os' = s.os := hm.os
          subst eg; subst ed; subst eo
          show wpAny _ _ _ _ _ _
          refine wpAny_pure ?_
          show wpAny _ _ (ret Value.none) _ _ _
          exact wpAny_pure ⟨rfl, h', tk', L, es, ep, t, rfl, hS', g', hkp⟩
      · cases r2 with
        | error e => exact hr2
        | ok fl2 =>
          cases fl2 with
          | ret r =>
            obtain ⟨rfl, h', tk, L, es, ep, t, rfl, hS', g', hk'⟩ := hr2
            repeat (any_goals (first | assumption | wp_step))
            exact h _ _ _ _ _ _ hS' g' hk'
          | _ => exact hr2.elim
    | _ => exact hr.elim
end
end K25
/-! The rules for set(list of pairs) and sorted of it. -/
namespace K25
open PySem PySem.Spec PyProof.Rows L2
section
variable {P : Program} {w : World} {A : Around} {E : Value → Shared → Prop} {s : Shared} {a : Addr} {L : List TI} {es : Array (Int × Value)} {ep : Nat} {t : SetTable}
theorem refs_in {L : List TI} : ∀ vs : List Value, (∀ v ∈ vs, ∃ p ∈ L, v = Value.ref p.1) → ∃ L1 : List TI, vs = L1.map (fun p => Value.ref p.1) ∧ ∀ p ∈ L1, p ∈ L
  | [], _ => ⟨[], rfl, fun p h => (by cases h)⟩
  | v :: vs, h => by
    obtain ⟨p, hp, rfl⟩ := h v (by simp)
    obtain ⟨L1, e, hs⟩ := refs_in vs fun u hu => h u (by simp [hu])
    refine ⟨p :: L1, by rw [e]; rfl, fun q hq => ?_⟩
    rcases List.mem_cons.mp hq with z | z
    · rw [z]; exact hp
    · exact hs q z
theorem reads_isK {h : Heap} {p : TI} (x : isK P w h p.2 p.1) : Reads h (.ref p.1) (encT p) [] := by
  obtain ⟨o, n, t, u, ho, hc, hd⟩ := isK_items x
  exact Reads.tuple ho hc hd (.cons (.str _ _) (.cons (.int _ _) .nil))
theorem sorted_setK {Q : Value → Shared → Prop} (R : SetK P w s.heap a L es ep t) (hh : A.handled = none) (hu : A.units + 10 < cLine)
    (q : ∀ s' p (out : Array Value) (c : Nat) (L' : List TI), (∀ b o, s.heap.get? b = some o → s'.heap.get? b = some o) → s'.gens = s.gens → s'.os = s.os → s.heap.objs.size ≤ p →
      s'.heap.get? p = some (seqObj "list" out c) → out.toList = L'.map (fun q => Value.ref q.1) → (∀ p ∈ L', p ∈ L) → L'.length < 64 → Q (.ref p) s') :
    wpAny (model P w) A (call (.builtin "sorted") [.ref a]) Q E s := by
  obtain ⟨o, ho, hex, hd⟩ := R.ob
  have hsz := R.size
  have hfew := R.few
  refine Calls.call_function_entry kind_sorted plain_sorted entry_sorted (args_sorted1 _) ?_
  unfold Builtin.«sorted»
  refine wpAny_bind (m := checkCount "sorted" 1 1 _) (wpAny_pure ?_)
  refine wpAny_bind (collect_set (A := A.in1) hh ⟨o, ho, hex.1, hd⟩ R.fits (by unfold scanBound; omega) R.tab.ris R.led fun s1 vs k1 hz g1 o1 pm => ?_)
  have hes : es.toList.map (·.2) = L.map fun p => Value.ref p.1 := by
    rw [R.rows, rowsK, List.map_map]
    rfl
  rw [hes] at pm
  have hvl : vs.length < 64 := by rw [pm.length_eq, List.length_map]; exact hfew
  obtain ⟨L1, e1, sub1⟩ := refs_in (L := L) vs fun v hv => by
    obtain ⟨p, hp, e⟩ := List.mem_map.mp (pm.mem_iff.mp hv)
    exact ⟨p, hp, e.symm⟩
  have hl1 : L1.length < 64 := by rw [e1, List.length_map] at hvl; exact hvl
  refine wpAny_bind (wpAny_newList ?_ (by rw [sizeLine_eq]; omega))
  have hoL : (s1.heap.push (seqObj "list" vs.toArray 0)).get? s1.heap.objs.size = some (seqObj "list" vs.toArray 0) := Heap.get?_push_size _ rfl
  have rd : ∀ p ∈ L1, Reads (s1.heap.push (seqObj "list" vs.toArray 0)) (.ref p.1) (encT p) [] := fun p hp =>
    reads_isK (P := P) (w := w) (keep_isK (R.tup p (sub1 p hp)) fun u e => Heap.get?_push_of_some _ (k1 _ u e))
  subst e1
  refine wpAny_bind (wpAny_holding (PySem.W.list_sort_data (s := { s1 with heap := s1.heap.push (seqObj "list" (L1.map fun p => Value.ref p.1).toArray 0) }) (R := fun v p => v = Value.ref p.1) (enc := encT) hoL (each_refs L1 fun _ _ => rfl)
    (each_refs L1 fun p hp => ⟨_, rd p hp, by simp⟩) (PySem.W.AllAlike.of enc_alike) (PySem.W.Sortable.tuples fun b => ⟨_, _, rfl⟩) (le_line (by omega)) (fun b _ => by rw [enc_depth]; show A.units + 1 + 1 + 1 < cLine; omega) fun out hlen he => ?_))
  have pm2 : (L1.mergeSort (PySem.W.dataLe false encT)).Perm L1 := List.mergeSort_perm _ _
  have eo := refs_each he
  obtain ⟨c, hc⟩ := sortedHeap_at (vs := L1.map fun p => Value.ref p.1) (out := out.toArray) hoL
  refine wpAny_pure ⟨_, rfl, q _ s1.heap.objs.size out.toArray c _ (fun b u e => ?_) g1 o1 hz hc (by rw [List.toList_toArray]; exact eo) (fun p hp => sub1 p (pm2.mem_iff.mp hp)) (by rw [pm2.length_eq]; exact hl1)⟩
  have r := k1 b u e
  have hlt := Heap.lt_size r
  show (sortedHeap (s1.heap.push _) s1.heap.objs.size _ out.toArray).get? b = some u
  rw [sortedHeap_old (Nat.ne_of_lt hlt) (by rw [size_push']; exact Nat.lt_succ_of_lt hlt)]
  exact Heap.get?_push_of_some _ r
/-- the set's own object, without the pairs -/
structure SetK0 (P : Program) (w : World) (h : Heap) (a : Addr) (L : List TI) : Prop where
  ex : ∃ (es : Array (Int × Value)) (ep : Nat) (t : SetTable), (∃ o, h.get? a = some o ∧ o.ExactSet ∧ o.data = .set es ep t) ∧ es.toList = rowsK P w L ∧ TabOk t (L.map fun p => hK P w p.2) ∧ (L.map (·.2)).Nodup ∧
    (w.params.followText "set-order" = true ∨ t.led = true) ∧ L.length * 5 < t.mask * 3 ∧ L.length < 64
def SetKO (P : Program) (w : World) (a : Addr) (L : List TI) : HO := .ext fun h => SetK0 P w h a L
theorem setKO_new {H : Hp} {h : Heap} (R : SetK0 P w h a L) : ObjOk P w H h a (SetKO P w a L) := by
  have ⟨es, ep, t, ⟨o, ho, r⟩, q⟩ := R.ex
  refine ⟨R, ⟨o, ho⟩, fun h1 h2 p k => ?_⟩
  have ⟨es', ep', t', ⟨o', ho', r'⟩, q'⟩ := SetK0.ex p
  exact ⟨es', ep', t', ⟨o', k o' ho', r'⟩, q'⟩
end
section
variable {X : Cx}
theorem Inv_isK {pins : List (Addr × Obj)} {σ : L2.St} {H : Hp} {s : Shared} {p : TI} (I : Inv X pins σ H s) (h : H p.1 = some (.tup [.str p.2.1, .int p.2.2])) : isK X.prog X.w s.heap p.2 p.1 := by
  have h' : H p.1 = some (.tup ((kk p.2).map kV)) := h
  exact key_of (P := X.prog) (w := X.w) I.hok h'
def rSetOf (X : Cx) : List V → Hp → VK → Prop := fun xs H Q => ∃ (l : Addr) (ks : List TI) (D : List (Str × Int)), xs = [.ref l] ∧ SqL X.K H l (ks.map fun p => V.ref p.1) ∧ (∀ p ∈ ks, H p.1 = some (.tup [.str p.2.1, .int p.2.2])) ∧ D.length ≤ 62 ∧ (∀ p ∈ ks, p.2 ∈ D) ∧
  ∀ a L, H a = none → (∀ p ∈ L, p ∈ ks) → Q (.ref a) (upd H a (SetKO X.prog X.w a L))
theorem cr_setOf (hc : X.calm = true) (hu : X.A.units + 64 < cLine) : CallR X (.type "set") (rSetOf X) := by
  intro pins s σ H xs us Q I r h
  obtain ⟨l, ks, D, rfl, hl, hk, hD, hkD, q⟩ := h
  obtain ⟨u, rfl, ru⟩ := vals1 r
  cases ru
  obtain ⟨its, rv, pl, hz⟩ := I.list hl
  refine call_setK (P := X.prog) (w := X.w) ks D (I.ok.hd hc) pl.isList (by simpa using refs_of ks its rv) (fun p hp => Inv_isK I (hk p hp)) hD hkD (by omega) fun h' tk L es ep t R sub k => ?_
  have R0 : SetK0 X.prog X.w h' s.heap.objs.size L := ⟨es, ep, t, R.ob, R.rows, R.tab, R.nd, R.led, R.room, R.few⟩
  exact ⟨.ref s.heap.objs.size, upd H s.heap.objs.size (SetKO X.prog X.w s.heap.objs.size L), I.laid (t' := tk) k (Nat.le_refl _) (setKO_new R0), rfl, q _ L (I.hok.fresh (Nat.le_refl _)) sub⟩
def rSortedSt (X : Cx) : List V → Hp → VK → Prop := fun vs H Q => ∃ (a : Addr) (L : List TI), vs = [.ref a] ∧ H a = some (SetKO X.prog X.w a L) ∧ (∀ p ∈ L, H p.1 = some (.tup [.str p.2.1, .int p.2.2])) ∧
  ∀ (L' : List TI) (q : Addr), (∀ p ∈ L', p ∈ L) → L'.length < 64 → H q = none → Q (.ref q) (upd H q (.lst (L'.map fun p => V.ref p.1)))
theorem cr_sortedSt (hc : X.calm = true) (hu : X.A.units + 64 < cLine) : CallR X (.builtin "sorted") (rSortedSt X) := by
  intro pins s σ H vs us Q I r h
  obtain ⟨a, L, rfl, ha, hk, q⟩ := h
  obtain ⟨u, rfl, ru⟩ := vals1 r
  cases ru
  have R0 : SetK0 X.prog X.w s.heap a L := (I.hok a _ ha).1
  obtain ⟨es, ep, t, h1, h2, h3, h4, h5, h6, h7⟩ := R0.ex
  have R : SetK X.prog X.w s.heap a L es ep t := ⟨h1, h2, h3, h4, fun p hp => Inv_isK I (hk p hp), h5, h6, h7⟩
  refine sorted_setK R (I.ok.hd hc) (by omega) fun s' p out c L' k g o hp hg hout sub few => ?_
  have hn : H p = none := I.hok.fresh hp
  have J : Inv X pins σ (upd H p (.lst (L'.map fun q => V.ref q.1))) { s with heap := s'.heap, gens := s'.gens, drawn := s'.drawn, toks := s'.toks } :=
    I.call (ch := []) (Un.laid k hp hn) (I.hok.laid k hp ⟨by rw [List.length_map]; exact le_line (by omega), out.toList, c, by rw [hout]; exact vals_refsT L', hg⟩) (by rw [g]; exact I.bare) (fun _ z => nomatch z)
  have e : s' = { s with heap := s'.heap, gens := s'.gens, drawn := s'.drawn, toks := s'.toks } := by
    cases s'
    cases s
    cases o
    rfl
  rw [e]
  exact ⟨.ref p, _, J, rfl, q L' p sub few hn⟩
end
end K25
/-! d.values() and its sum, for a dict whose keys are tuples. -/
namespace K25
open PySem PySem.W PySem.Calls PySem.Spec PyProof.Rows PyProof.V L2
section
variable {prog : Program} {w : World} {A : Around} {E : Value → Shared → Prop} {s : Shared}
theorem meetsVals {d : Addr} {es : Array DictEntry} {ep : Nat} (hd : (d == sysModules) = false) :
    MeetsIn prog w (Builtin.«dict.values» ⟨[.ref d], []⟩) (fun _ R s => DT.Raw s.heap d es ep ∧
      R (.ok (.ret (.ref s.heap.objs.size))) { s with heap := s.heap.push { cls := .type "dict_values", data := .fields #[.ref d] } }) :=
  .of_wp fun A R s ⟨hm, h⟩ => by
    unfold Builtin.«dict.values»
    refine wpAny_bind ?_
    unfold Builtin.Dict.noArgs
    refine wpAny_bind (wpAny_notOrdered_dict hm.typeIs ?_)
    show wpAny _ _ (pure d) _ _ s
    refine wpAny_pure ?_
    show wpAny _ _ (Builtin.Dict.showsAll d >>= _) _ _ s
    unfold Builtin.Dict.showsAll
    rw [if_neg (by rw [hd]; exact Bool.false_ne_true)]
    refine wpAny_bind (wpAny_pure ?_)
    exact wpAny_bind (wpAny_newObj_type (wpAny_pure ⟨_, rfl, h⟩))
theorem callVals {d : Addr} {es : Array DictEntry} {ep : Nat} {Q : Value → Shared → Prop} (hd : (d == sysModules) = false) (hm : DT.Raw s.heap d es ep)
    (h : Q (.ref s.heap.objs.size) { s with heap := s.heap.push { cls := .type "dict_values", data := .fields #[.ref d] } }) : wpAny (model prog w) A (call (.builtin "dict.values") [.ref d]) Q E s :=
  call_meetsIn PySem.F.slot_dict_values hm.typeIs PySem.F.entry_dict_values (PySem.F.args_dict_values_1 _) (meetsVals (es := es) (ep := ep) hd) ⟨hm, h⟩
end
/-- the view d.values() at p -/
def valsO (p d : Addr) : HO := .ext fun h => h.IsValuesView p d
theorem valsO_ok {P : Program} {w : World} {H : Hp} {h : Heap} {p d : Addr} (e : h.get? p = some { cls := .type "dict_values", data := .fields #[.ref d] }) : ObjOk P w H h p (valsO p d) :=
  ⟨⟨_, e, rfl, rfl⟩, ⟨_, e⟩, fun h1 h2 x k => let ⟨o, ho, r⟩ := x; ⟨o, k o ho, r⟩⟩
section
variable {X : Cx}
def rValsT : V → List V → Hp → VK → Prop := fun x xs H Q => ∃ (a : Addr) (kvs : List (List L2.Key × V)), x = .ref a ∧ xs = [] ∧ H a = some (.dT kvs) ∧ ∀ p, H p = none → Q (.ref p) (L2.upd H p (valsO p a))
theorem mt_valsT : MtR X "dict.values" rValsT := by
  intro pins s σ H x xs v us Q I rx rxs h
  obtain ⟨a, kvs, rfl, rfl, ha, q⟩ := h
  cases rx
  cases rxs
  obtain ⟨z, hd, xs', rel, o, es, ep, ho, hx, hdat, _⟩ := dt_of I.hok ha
  refine callVals (es := es) (ep := ep) hd ⟨o, ho, hx, hdat⟩ ?_
  have hf : H s.heap.objs.size = none := I.hok.fresh (Nat.le_refl _)
  exact ⟨.ref s.heap.objs.size, L2.upd H s.heap.objs.size (valsO s.heap.objs.size a), I.laid (t' := s.toks) (fun b u e => Heap.get?_push_of_some _ e) (Nat.le_refl _) (valsO_ok (Heap.get?_push_size _ rfl)), rfl, q _ hf⟩
theorem pairGet {α β : Type} {F : α → β → Prop} : ∀ {l₁ : List α} {l₂ : List β} {j : Nat} {x : β}, Paired F l₁ l₂ → l₂[j]? = some x → ∃ y, l₁[j]? = some y ∧ F y x
  | _, _, _, _, .nil, e => by cases e
  | _, _, 0, _, .cons h _, e => by
    cases e
    exact ⟨_, rfl, h⟩
  | _, _, j + 1, _, .cons _ t, e => pairGet (j := j) t e
theorem presum_list : ∀ (ns : List Int) (m : Nat), m ≤ ns.length → preSum (fun i => ns.getD i 0) m = (ns.take m).sum := by
  intro ns m
  induction m with
  | zero => intro _; rfl
  | succ m ih =>
    intro h
    have e : ns[m]? = some ns[m] := List.getElem?_eq_getElem (by omega)
    show preSum (fun i => ns.getD i 0) m + ns.getD m 0 = _
    rw [ih (by omega), List.take_add_one, e, List.getD_eq_getElem?_getD, e, List.sum_append]
    simp
/-- sum of the values of a dict of ints -/
def rSumV : List V → Hp → VK → Prop := fun xs H Q => ∃ (p a : Addr) (kvs : List (List L2.Key × V)) (ns : List Int), xs = [.ref p] ∧ H p = some (valsO p a) ∧ H a = some (.dT kvs) ∧ kvs.map (·.2) = ns.map V.int ∧ Q (.int ns.sum) H
theorem cr_sumV (hc : X.calm = true) : CallR X (.builtin "sum") rSumV := by
  intro pins s σ H xs us Q I r h
  obtain ⟨p, a, kvs, ns, rfl, hp, ha, hn, q⟩ := h
  obtain ⟨u, rfl, ru⟩ := vals1 r
  cases ru
  obtain ⟨z, hd, xs', rel, o, es, ep, ho, hx, hdat, hes, _⟩ := dt_of I.hok ha
  have hv : s.heap.IsValuesView p a := (I.hok p _ hp).1
  have K := KdlSrc.rawValues (prog := X.prog) (w := X.w) (r := p) (d := a) (es := es) (ep := ep)
  have hok : s.heap.IsValuesView p a ∧ s.heap.DictRaw a es ep := ⟨hv, o, ho, hx, hdat⟩
  have hlen : es.size = ns.length := by
    have e1 := congrArg List.length hes
    have e2 := congrArg List.length hn
    rw [List.length_map] at e1
    rw [List.length_map, List.length_map] at e2
    rw [← Array.length_toList, e1, ← e2]
    exact (Paired.length rel).symm
  refine call_sum_walkAnyS ?_
  obtain ⟨oI, St, hit, W, st⟩ := K.iter X.A.in1 s (I.ok.hd hc) hok
  refine hit _ _ ⟨s.heap.objs.size, _, _, _, es.size, _, _, fun i => ns.getD i 0, rfl, W.toS, st, fun b hb => ?_, fun i v hv => ?_, fun s' t' hm => ?_⟩
  · show b < (s.heap.push oI).objs.size
    rw [size_push']
    rcases List.mem_cons.mp hb with e | hb
    · rw [e]; exact Nat.lt_succ_self _
    · rw [List.mem_singleton.mp hb]; exact Nat.lt_succ_of_lt (K.there _ hok).2
  · obtain ⟨hi, e⟩ := hv
    subst e
    have h1 : xs'[i]? ≠ none := fun e => by
      have := List.getElem?_eq_none_iff.mp e
      have e1 := congrArg List.length hes
      rw [List.length_map, Array.length_toList] at e1
      omega
    obtain ⟨x, ex⟩ := Option.ne_none_iff_exists'.mp h1
    have e3 : es[i] = entryOfKey (tupleKind (mixKind X.prog X.w)) x := by
      have : es.toList[i]? = some (entryOfKey (tupleKind (mixKind X.prog X.w)) x) := by rw [hes, List.getElem?_map, ex]; rfl
      rw [Array.getElem?_toList, Array.getElem?_eq_getElem hi] at this
      exact Option.some.inj this
    obtain ⟨y, ey, hy⟩ := pairGet rel ex
    have e4 : (kvs.map (·.2))[i]? = some y.2 := by rw [List.getElem?_map, ey]; rfl
    rw [hn, List.getElem?_map] at e4
    cases e5 : ns[i]? with
    | none => rw [e5] at e4; cases e4
    | some m =>
      rw [e5] at e4
      have e6 : V.int m = y.2 := Option.some.inj e4
      have rv : RelV y.2 x.2.2 := hy.2.2
      rw [← e6] at rv
      obtain ⟨t, et⟩ := rv
      refine ⟨t, ?_⟩
      rw [e3]
      show x.2.2 = _
      rw [et]
      have e7 : ns.getD i 0 = m := by rw [List.getD_eq_getElem?_getD, e5]; rfl
      exact congrArg (fun z => Value.int z t) e7.symm
  · have hk : ∀ b o, s.heap.get? b = some o → s'.heap.get? b = some o := fun b o e =>
      hm.heap b o (fun hI => absurd (Heap.lt_size e) (by rw [List.mem_singleton.mp hI]; exact Nat.lt_irrefl _)) (Heap.get?_push_of_some _ e)
    rw [Moved.eq_with hm]
    refine ⟨.int ns.sum, H, I.kept (t' := s'.toks) hk, ⟨t', ?_⟩, q⟩
    rw [hlen, presum_list ns _ (Nat.le_refl _), List.take_length]
end
end K25
/-! dict(zip(t, u)) of two tuples; dict(d). -/
namespace K25
open PySem PySem.W PySem.Calls PySem.Spec PyProof.Rows PyProof.V
theorem ti_move {h h' : Heap} {a t : Addr} {i : Nat} (x : h.IsTupleIter a t i) (k : ∀ o, h.get? a = some o → h'.get? a = some o) : h'.IsTupleIter a t i := let ⟨o, e, r⟩ := x; ⟨o, k o e, r⟩
theorem tu_move {h h' : Heap} {a : Addr} {xs : Array Value} (x : h.IsTuple a xs) (k : ∀ o, h.get? a = some o → h'.get? a = some o) : h'.IsTuple a xs := let ⟨o, e, r⟩ := x; ⟨o, k o e, r⟩
section
variable {prog : Program} {w : World} {A : Around} {E : Value → Shared → Prop} {s : Shared}
/-- the next pair, while another hand still has the last one -/
theorem held_item {z TI TO T i1 i2 l1 l2 : Addr} {f : Bool} {oT : Obj} {k1 k2 : Nat} {xs ys : Array Value} {x y : Value} {Q : Option Value → Shared → Prop} (D : ZipApart z TI TO i1 i2 l1 l2)
    (hz : IsZipHeld s.heap z TI TO T f) (hT : s.heap.get? T = some oT) (hTI : IsPair s.heap TI (.ref i1) (.ref i2))
    (h1 : s.heap.IsTupleIter i1 l1 k1) (h2 : s.heap.IsTupleIter i2 l2 k2) (hl1 : s.heap.IsTuple l1 xs) (hl2 : s.heap.IsTuple l2 ys) (hx : xs[k1]? = some x) (hy : ys[k2]? = some y)
    (hQ : ∀ h', IsZipHeld h' z TI TO T true → h'.IsTupleIter i1 l1 (k1 + 1) → h'.IsTupleIter i2 l2 (k2 + 1) → IsPair h' s.heap.objs.size x y →
      (∀ c o, c ≠ z → c ≠ i1 → c ≠ i2 → s.heap.get? c = some o → h'.get? c = some o) → Q (some (.ref s.heap.objs.size)) { s with heap := h' }) :
    wpAny (model prog w) A (pyNext (.ref z)) Q E s := by
  have hTy : s.TypeIs (.ref z) "zip" := ⟨_, hz, rfl⟩
  unfold pyNext
  refine wpAny_bind (wpAny_attempt (wpAny_callSpecial?_slot (name := Str.ofString "__next__") hTy F.slot_zip_next (wpAny_call_entry F.slot_zip_next hTy F.entry_zip_next ?_ (F.args_zip_next_1 _))))
  show wpAny _ _ (field (.ref z) 2 >>= _) _ _ _
  refine wpAny_bind (wpAny_field hz rfl (x := .bool false) rfl ?_)
  show wpAny _ _ (field (.ref z) 3 >>= _) _ _ _
  refine wpAny_bind (wpAny_field hz rfl (x := .ref TI) rfl ?_)
  refine wpAny_bind (wpAny_seqItems hTI rfl ?_)
  show wpAny _ _ (Builtin.SmallTypes.ownedTupleIsFree (.ref z) >>= _) _ _ _
  refine wpAny_bind (wpAny_tupleHeld_zip hz hT fun g1 z1 s1 => ?_)
  have m1 : ∀ c o, c ≠ z → s.heap.get? c = some o → g1.get? c = some o := fun c o n e => s1.extBut _ _ n e
  simp only [Bool.false_eq_true, if_false]
  refine wpAny_bind ?_
  rw [← Array.forIn_toList]
  simp only [List.forIn_cons, List.forIn_nil]
  refine wpAny_bind (wpAny_bind (wpAny_holding ?_))
  show wpAny _ _ (Builtin.SmallTypes.nextOf (.ref i1) >>= _) _ _ _
  refine wpAny_bind (RZ.nextOf_tuple_item (s := { s with heap := g1 }) (ti_move h1 fun o e => m1 _ o D.i1z e) (tu_move hl1 fun o e => m1 _ o D.l1z e) hx fun g2 q1 s2 => wpAny_pure ?_)
  have m2 : ∀ c o, c ≠ z → c ≠ i1 → s.heap.get? c = some o → g2.get? c = some o := fun c o n n' e => s2.extBut _ _ n' (m1 c o n e)
  refine wpAny_pure ?_
  refine wpAny_bind (wpAny_bind (wpAny_holding ?_))
  show wpAny _ _ (Builtin.SmallTypes.nextOf (.ref i2) >>= _) _ _ _
  refine wpAny_bind (RZ.nextOf_tuple_item (s := { s with heap := g2 }) (ti_move h2 fun o e => m2 _ o D.i2z D.i12.symm e) (tu_move hl2 fun o e => m2 _ o D.l2z D.l2i1 e) hy fun g3 q2 s3 => wpAny_pure ?_)
  refine wpAny_pure (wpAny_pure ?_)
  show wpAny _ _ (newTuple [x, y] >>= _) _ _ _
  refine wpAny_bind (wpAny_newTuple ?_)
  have hsz : g3.objs.size = s.heap.objs.size := by rw [s3.1, s2.1, s1.1]
  have z3 : IsZipHeld g3 z TI TO T true := s3.extBut _ _ D.i2z.symm (s2.extBut _ _ D.i1z.symm z1)
  have m3 : ∀ c o, c ≠ z → c ≠ i1 → c ≠ i2 → s.heap.get? c = some o → g3.get? c = some o := fun c o n n' n2 e => s3.extBut _ _ n2 (m2 c o n n' e)
  have q1' : g3.IsTupleIter i1 l1 (k1 + 1) := ti_move q1 fun o e => s3.extBut _ _ D.i12 e
  refine wpAny_pure ⟨_, rfl, wpAny_pure ?_⟩
  show Q (some (.ref g3.objs.size)) _
  have hp : IsPair (g3.push { cls := .type "tuple", data := .seq #[x, y] }) g3.objs.size x y := Heap.get?_push_size _ rfl
  rw [hsz] at hp ⊢
  exact hQ _ (Heap.get?_push_of_some _ z3) (ti_move q1' fun o e => Heap.get?_push_of_some _ e) (ti_move q2 fun o e => Heap.get?_push_of_some _ e) hp fun c o c1 c2 c3 e => Heap.get?_push_of_some _ (m3 c o c1 c2 c3 e)
theorem held_end {z TI TO T i1 i2 l1 l2 : Addr} {f : Bool} {oT : Obj} {k1 : Nat} {xs : Array Value} {Q : Option Value → Shared → Prop} (hh : A.handled = none) (D : ZipApart z TI TO i1 i2 l1 l2)
    (hz : IsZipHeld s.heap z TI TO T f) (hT : s.heap.get? T = some oT) (hTI : IsPair s.heap TI (.ref i1) (.ref i2))
    (h1 : s.heap.IsTupleIter i1 l1 k1) (hl1 : s.heap.IsTuple l1 xs) (hend : xs[k1]? = none)
    (hQ : ∀ h', (∀ c o, c ≠ z → c ≠ i1 → c ≠ i2 → s.heap.get? c = some o → h'.get? c = some o) → Q none { s with heap := h' }) : wpAny (model prog w) A (pyNext (.ref z)) Q E s := by
  have hTy : s.TypeIs (.ref z) "zip" := ⟨_, hz, rfl⟩
  unfold pyNext
  refine wpAny_bind (wpAny_attempt (wpAny_callSpecial?_slot (name := Str.ofString "__next__") hTy F.slot_zip_next (wpAny_call_entry F.slot_zip_next hTy F.entry_zip_next ?_ (F.args_zip_next_1 _))))
  show wpAny _ _ (field (.ref z) 2 >>= _) _ _ _
  refine wpAny_bind (wpAny_field hz rfl (x := .bool false) rfl ?_)
  show wpAny _ _ (field (.ref z) 3 >>= _) _ _ _
  refine wpAny_bind (wpAny_field hz rfl (x := .ref TI) rfl ?_)
  refine wpAny_bind (wpAny_seqItems hTI rfl ?_)
  show wpAny _ _ (Builtin.SmallTypes.ownedTupleIsFree (.ref z) >>= _) _ _ _
  refine wpAny_bind (wpAny_tupleHeld_zip hz hT fun g1 z1 s1 => ?_)
  have m1 : ∀ c o, c ≠ z → s.heap.get? c = some o → g1.get? c = some o := fun c o n e => s1.extBut _ _ n e
  simp only [Bool.false_eq_true, if_false]
  refine wpAny_bind ?_
  rw [← Array.forIn_toList]
  simp only [List.forIn_cons, List.forIn_nil]
  refine wpAny_bind (wpAny_bind (wpAny_holding ?_))
  show wpAny _ _ (Builtin.SmallTypes.nextOf (.ref i1) >>= _) _ _ _
  refine wpAny_bind (RZ.nextOf_tuple_end (s := { s with heap := g1 }) hh (ti_move h1 fun o e => m1 _ o D.i1z e) (tu_move hl1 fun o e => m1 _ o D.l1z e) hend fun g2 e s2 he => ?_)
  obtain ⟨o, ho, hc⟩ := he
  refine wpAny_bind (wpAny_isInstance (T := "StopIteration") (b := true) ⟨o, ho, hc⟩ isSubtype_stop ?_)
  exact wpAny_pure (hQ _ fun c o c1 c2 _ e => s2 _ _ c2 (m1 c o c1 e))
end
section
variable {prog : Program} {w : World}
/-- what a zip of two tuples of one length is, before its first turn -/
def ZOk (z TI TO i1 i2 l1 l2 : Addr) (xs ys : Array Value) (h : Heap) : Prop :=
  IsZip h z TI TO .none ∧ IsPair h TI (.ref i1) (.ref i2) ∧ (∃ a b, IsPair h TO a b) ∧ h.IsTupleIter i1 l1 0 ∧ h.IsTupleIter i2 l2 0 ∧ h.IsTuple l1 xs ∧ h.IsTuple l2 ys
/-- while a dict is filled at d: the zip is at turn i -/
def ZSt (z TI TO i1 i2 l1 l2 d : Addr) (xs ys : Array Value) (i : Nat) (h : Heap) : Prop :=
  IsPair h TI (.ref i1) (.ref i2) ∧ h.IsTupleIter i1 l1 i ∧ h.IsTupleIter i2 l2 i ∧ h.IsTuple l1 xs ∧ h.IsTuple l2 ys ∧
    ((IsZip h z TI TO .none ∧ ∃ a b, IsPair h TO a b) ∨ ∃ T f oT, IsZipHeld h z TI TO T f ∧ h.get? T = some oT ∧ T ≠ z ∧ T ≠ i1 ∧ T ≠ i2 ∧ T ≠ d)
theorem zip_src {A : Around} {z TI TO i1 i2 l1 l2 d : Addr} (D : ZipApart z TI TO i1 i2 l1 l2) {xs ys : Array Value} {n : Nat} (hx : xs.size = n) (hy : ys.size = n) (hA : A.handled = none)
    (dz : d ≠ z) (dTI : d ≠ TI) (dTO : d ≠ TO) (di1 : d ≠ i1) (di2 : d ≠ i2) (dl1 : d ≠ l1) (dl2 : d ≠ l2) :
    PairSrc prog w A z d [z, TO, i1, i2] n (fun i k v => xs[i]? = some k ∧ ys[i]? = some v) (ZSt z TI TO i1 i2 l1 l2 d xs ys) where
  off := fun hm => by
    simp only [List.mem_cons, List.not_mem_nil, or_false] at hm
    rcases hm with e | e | e | e
    · exact dz e
    · exact dTO e
    · exact di1 e
    · exact di2 e
  frame := fun i h₁ h₂ st hk => by
    obtain ⟨hTI, h1, h2, hl1, hl2, hz⟩ := st
    refine ⟨hk _ _ (Ne.symm dTI) hTI, ti_move h1 fun o e => hk _ o (Ne.symm di1) e, ti_move h2 fun o e => hk _ o (Ne.symm di2) e, tu_move hl1 fun o e => hk _ o (Ne.symm dl1) e, tu_move hl2 fun o e => hk _ o (Ne.symm dl2) e, ?_⟩
    rcases hz with ⟨hz, a, b, hTO⟩ | ⟨T, f, oT, hz, hT, r1, r2, r3, r4⟩
    · exact .inl ⟨hk _ _ (Ne.symm dz) hz, a, b, hk _ _ (Ne.symm dTO) hTO⟩
    · exact .inr ⟨T, f, oT, hk _ _ (Ne.symm dz) hz, hk _ _ r4 hT, r1, r2, r3, r4⟩
  item := fun i s₁ Q₁ E₁ hi st hds hQ => by
    obtain ⟨hTI, h1, h2, hl1, hl2, hz⟩ := st
    have ex := Array.getElem?_eq_getElem (by omega : i < xs.size)
    have ey := Array.getElem?_eq_getElem (by omega : i < ys.size)
    have lt : ∀ {c o}, s₁.heap.get? c = some o → s₁.heap.objs.size ≠ c := fun e => Nat.ne_of_gt (Heap.lt_size e)
    have n1 : s₁.heap.objs.size ≠ i1 := let ⟨_, e, _⟩ := h1; lt e
    have n2 : s₁.heap.objs.size ≠ i2 := let ⟨_, e, _⟩ := h2; lt e
    rcases hz with ⟨hz, a, b, hTO⟩ | ⟨T, f, oT, hz, hT, r1, r2, r3, r4⟩
    · refine RZ.pyNext_zipT_item D hz hTI hTO h1 h2 hl1 hl2 ex ey fun h' a1 a2 a3 a4 a5 a6 hk => ?_
      exact hQ s₁.heap.objs.size _ _ h' s₁.toks ⟨ex, ey⟩ (.inl ⟨_, a5, rfl, _, rfl⟩)
        ⟨hk _ _ D.TIz D.TITO D.TIi1 D.TIi2 hTI, a3, a4, tu_move hl1 fun o e => hk _ o D.l1z D.l1TO D.l1i1 D.l1i2 e, tu_move hl2 fun o e => hk _ o D.l2z D.l2TO D.l2i1 D.l2i2 e,
          .inr ⟨s₁.heap.objs.size, false, _, a1, a5, lt hz, n1, n2, Nat.ne_of_gt hds⟩⟩
        fun c o hc e => hk c o (fun x => hc (by simp [x])) (fun x => hc (by simp [x])) (fun x => hc (by simp [x])) (fun x => hc (by simp [x])) e
    · refine held_item D hz hT hTI h1 h2 hl1 hl2 ex ey fun h' a1 a3 a4 a5 hk => ?_
      exact hQ s₁.heap.objs.size _ _ h' s₁.toks ⟨ex, ey⟩ (.inl ⟨_, a5, rfl, _, rfl⟩)
        ⟨hk _ _ D.TIz D.TIi1 D.TIi2 hTI, a3, a4, tu_move hl1 fun o e => hk _ o D.l1z D.l1i1 D.l1i2 e, tu_move hl2 fun o e => hk _ o D.l2z D.l2i1 D.l2i2 e,
          .inr ⟨T, true, oT, a1, hk _ _ r1 r2 r3 hT, r1, r2, r3, r4⟩⟩
        fun c o hc e => hk c o (fun x => hc (by simp [x])) (fun x => hc (by simp [x])) (fun x => hc (by simp [x])) e
  done := fun s₁ Q₁ E₁ st hQ => by
    obtain ⟨hTI, h1, h2, hl1, hl2, hz⟩ := st
    have hend : xs[n]? = none := Array.getElem?_eq_none (by omega)
    rcases hz with ⟨hz, a, b, hTO⟩ | ⟨T, f, oT, hz, hT, r1, r2, r3, r4⟩
    · exact RZ.pyNext_zipT_end hA D hz hTI hTO h1 h2 hl1 hl2 (.inl hend) fun h' hk => hQ h' s₁.toks fun c o hc e => hk c o (fun x => hc (by simp [x])) (fun x => hc (by simp [x])) (fun x => hc (by simp [x])) (fun x => hc (by simp [x])) e
    · exact held_end hA D hz hT hTI h1 hl1 hend fun h' hk => hQ h' s₁.toks fun c o hc e => hk c o (fun x => hc (by simp [x])) (fun x => hc (by simp [x])) (fun x => hc (by simp [x])) e
theorem zip_arg (z TI TO i1 i2 l1 l2 : Addr) (D : ZipApart z TI TO i1 i2 l1 l2) (xs ys : Array Value) {n : Nat} (hx : xs.size = n) (hy : ys.size = n) :
    PairArg prog w "zip" z [z, TI, TO, i1, i2, l1, l2] [z, TO, i1, i2] n (fun i k v => xs[i]? = some k ∧ ys[i]? = some v) (ZOk z TI TO i1 i2 l1 l2 xs ys) where
  type := fun s ok => ⟨_, ok.1, rfl⟩
  notDict := by decide
  keep := fun h h' ok hk => by
    obtain ⟨hz, hTI, ⟨a, b, hTO⟩, h1, h2, hl1, hl2⟩ := ok
    exact ⟨hk _ _ hz, hk _ _ hTI, ⟨a, b, hk _ _ hTO⟩, ti_move h1 fun o e => hk _ o e, ti_move h2 fun o e => hk _ o e, tu_move hl1 fun o e => hk _ o e, tu_move hl2 fun o e => hk _ o e⟩
  there := fun h ok b hb => by
    obtain ⟨hz, hTI, ⟨a, c, hTO⟩, ⟨o1, h1, _⟩, ⟨o2, h2, _⟩, ⟨o3, hl1, _⟩, ⟨o4, hl2, _⟩⟩ := ok
    simp only [List.mem_cons, List.not_mem_nil, or_false] at hb
    rcases hb with rfl | rfl | rfl | rfl | rfl | rfl | rfl
    · exact ⟨_, hz⟩
    · exact ⟨_, hTI⟩
    · exact ⟨_, hTO⟩
    · exact ⟨_, h1⟩
    · exact ⟨_, h2⟩
    · exact ⟨_, hl1⟩
    · exact ⟨_, hl2⟩
  sub := fun b hb => by simp at hb ⊢; rcases hb with rfl | rfl | rfl | rfl <;> simp
  noKeys := fun A s Q E hA ok h => getAttrOr_miss_zip ok.1 rfl rfl rfl zip_no_keys (by decide +kernel) hA h
  iter := fun A s d Q E hA ok hd hdf h => by
    obtain ⟨hz, hTI, ⟨a, b, hTO⟩, h1, h2, hl1, hl2⟩ := ok
    simp only [List.mem_cons, List.not_mem_nil, or_false, not_or] at hdf
    obtain ⟨dz, dTI, dTO, di1, di2, dl1, dl2⟩ := hdf
    exact wpAny_pyIter_zip hz (h z [z, TO, i1, i2] (ZSt z TI TO i1 i2 l1 l2 d xs ys) s.heap s.toks (zip_src D hx hy hA dz dTI dTO di1 di2 dl1 dl2)
      ⟨hTI, h1, h2, hl1, hl2, .inl ⟨hz, a, b, hTO⟩⟩ (fun _ _ e => e) fun b hb => .inl hb)
end
section
open L2
variable {X : Cx}
theorem zip_kv {P : Program} {w : World} : ∀ {ks : List Str} {ns : List Int} {us ws : List Value}, Vals (ks.map V.str) us → Vals (ns.map V.int) ws → ks.length = ns.length →
    ∃ vs : List (L2.Key × Value), KV (ks.zip ns |>.map fun p => ((.inr p.1 : L2.Key), V.int p.2)) vs ∧ vs.length = ks.length ∧ ∀ (i : Nat) (key v : Value), us[i]? = some key → ws[i]? = some v → ∃ k, vs[i]? = some (k, v) ∧ (mixKind P w).is k key = true
  | [], [], _, _, .nil, .nil, _ => ⟨[], .nil, rfl, fun i _ _ h => by cases h⟩
  | k :: ks, n :: ns, u :: us, w' :: ws, .cons r1 t1, .cons r2 t2, hl => by
    obtain ⟨vs, h1, h2, h3⟩ := zip_kv (P := P) (w := w) (ks := ks) (ns := ns) t1 t2 (by simpa using hl)
    obtain ⟨t, rfl⟩ := r1
    refine ⟨((.inr k : L2.Key), w') :: vs, .cons ⟨rfl, r2⟩ h1, by simp [h2], fun i key v e1 e2 => ?_⟩
    cases i with
    | zero =>
      cases e1
      cases e2
      exact ⟨_, rfl, mixKind_str _ _ _ _⟩
    | succ i => exact h3 i key v e1 e2
/-- dict(zip(t, u)): the texts ks, the ints ns -/
def tDZip (K : PySem.W.Frag) (ta : TA) : TE := fun σ H Q => ta σ H fun vs H1 => ∃ (a b : Addr) (ks : List Str) (ns : List Int), vs = [.ref a, .ref b] ∧ SqT K H1 a (ks.map V.str) ∧ SqT K H1 b (ns.map V.int) ∧ ks.length = ns.length ∧ ks.length ≤ 1000 ∧
  ∀ p, H1 p = none → Q (.ref p) (L2.upd H1 p (.dK (mergeK [] ((ks.zip ns).map fun p => ((.inr p.1 : L2.Key), V.int p.2)))))
theorem pe_dzip {e e2 : PySem.Expr} {ta : TA} {p p2 pos pos2 : Pos} (hc : X.calm = true) (hg : Gl X "dict") (hm : X.mg "dict" = none) (hg2 : Gl X "zip") (hm2 : X.mg "zip" = none) (ha : PA X [e, e2] ta)
    (hs : starEach [e, e2] X.env = (false, eval e X.env) :: starEach [e2] X.env := by rfl) (hpl : (backTo pos2 (starEach [e2] X.env)).any (·.1) = false := by rfl)
    (na : starEach [(.Call (.Name "zip" p2) [e, e2] [] pos2 : PySem.Expr)] X.env = (false, eval (.Call (.Name "zip" p2) [e, e2] [] pos2) X.env) :: starEach [] X.env := by rfl) :
    PE X (.Call (.Name "dict" p) [.Call (.Name "zip" p2) [e, e2] [] pos2] [] pos) (tDZip X.K ta) := by
  refine ⟨fun pins s σ H Q I h => ?_⟩
  refine Call_ (ld_blt I hg hm bt_dict (PyProof.Rows.callWith_type1 (args_cons (Call_ (ld_blt I hg2 hm2 PyProof.Rows.boot_zip (PyProof.Rows.callWith_type1 (thn (ha.run pos2 pins s σ H _ I h) fun us s1 ⟨vs, H1, I1, r1, q1⟩ => ?_) hs hpl))) na) na))
  obtain ⟨a, b, ks, ns, rfl, hqx, hqy, hl, h1000, q⟩ := q1
  obtain ⟨u1, u2, rfl, r1', r2'⟩ := vals2 r1
  cases r1'
  cases r2'
  obtain ⟨its, rv, p1, _⟩ := I1.tuple hqx
  obtain ⟨its2, rv2, p2, _⟩ := I1.tuple hqy
  obtain ⟨o1, ho1, _⟩ := id p1
  obtain ⟨o2, ho2, _⟩ := id p2
  have D := PySem.W.ktu_apart s1.heap.objs.size a b (Heap.lt_size ho1) (Heap.lt_size ho2)
  refine RZ.call_zipT (show s1.heap.IsTuple a its.toArray from p1) (show s1.heap.IsTuple b its2.toArray from p2) fun h' hz hTI hTO g1 g2 hsz hk => args_nil ?_
  have n1 : its.toArray.size = ks.length := by rw [List.size_toArray, ← rv.length, List.length_map]
  have n2 : its2.toArray.size = ks.length := by rw [List.size_toArray, ← rv2.length, List.length_map, hl]
  obtain ⟨vs, kv, lv, hv⟩ := zip_kv (P := X.prog) (w := X.w) rv rv2 hl
  refine call_dict_pairs (knd := mixKind X.prog X.w) (zip_arg _ _ _ _ _ a b D its.toArray its2.toArray n1 n2) (I1.ok.hd hc) ⟨hz, hTI, ⟨_, _, hTO⟩, g1, g2, tu_move p1 fun o e => hk _ _ e, tu_move p2 fun o e => hk _ _ e⟩
    ⟨lv, fun i key v hr => hv i key v (by simpa using hr.1) (by simpa using hr.2)⟩ (le_line (by omega)) fun h2 tk hd hk2 => ?_
  have fr : ∀ b o, s1.heap.get? b = some o → h2.get? b = some o := fun c o e => hk2 c o (fun hm => by
    have h1 : c < s1.heap.objs.size := Heap.lt_size e
    simp only [List.mem_cons, List.not_mem_nil, or_false] at hm
    have h2 : s1.heap.objs.size ≤ c := by
      rcases hm with z | z | z | z <;> rw [z] <;> first | exact Nat.le_add_right _ _ | exact Nat.le_refl _
    exact Nat.not_lt.mpr h2 h1) (hk c o e)
  have hle : s1.heap.objs.size ≤ h'.objs.size := by omega
  refine ⟨.ref h'.objs.size, L2.upd H1 h'.objs.size _, I1.laid (t' := tk) fr hle (dk_new ?_ (beq_eq_false_iff_ne.mpr (Ne.symm (Nat.ne_of_lt (Nat.lt_of_lt_of_le I1.big hle)))) (KV.merge kv .nil) hd), rfl, q _ (I1.hok.fresh hle)⟩
  have := length_mergeK ((ks.zip ns).map fun p => ((.inr p.1 : L2.Key), V.int p.2)) []
  rw [List.length_map, List.length_zip] at this
  exact le_line (by simp only [List.length_nil] at this; omega)
/-- dict(d): a copy -/
def rDictD : List V → Hp → VK → Prop := fun xs H Q => ∃ (a : Addr) (kvs : List (L2.Key × V)), xs = [.ref a] ∧ H a = some (.dK kvs) ∧ ∀ p, H p = none → Q (.ref p) (L2.upd H p (.dK kvs))
theorem call_dictD : CallR X (.type "dict") rDictD := by
  intro pins s σ H xs us Q I r h
  obtain ⟨a, kvs, rfl, ha, q⟩ := h
  obtain ⟨u, rfl, ru⟩ := vals1 r
  cases ru
  exact d_copyOf I (.inl ha) fun p s' hp I' => ⟨.ref p, _, I', rfl, q p hp⟩
end
end K25
/-! The plain law: words, vertices, how far two plans are apart, and what an edit changes. No program in sight. -/
namespace K25
section
variable {α : Type} [DecidableEq α]

/-- one step in the tree of reduced words -/
def step (v : List α) (s : α) : List α := if v.getLast? = some s then v.dropLast else v ++ [s]

/-- the reduced words -/
inductive Rd : List α → Prop
  | nil : Rd []
  | snoc {u : List α} {s : α} : Rd u → u.getLast? ≠ some s → Rd (u ++ [s])

theorem Rd.inv {u : List α} {s : α} (h : Rd (u ++ [s])) : Rd u ∧ u.getLast? ≠ some s := by
  generalize e : u ++ [s] = z at h
  cases h with
  | nil => simp at e
  | snoc h1 h2 =>
    have e1 := List.append_inj_left' e rfl
    have e2 := List.append_inj_right' e rfl
    cases e1
    cases e2
    exact ⟨h1, h2⟩

theorem last_split {v : List α} {s : α} (h : v.getLast? = some s) : v = v.dropLast ++ [s] := by
  have hne : v ≠ [] := fun e => by rw [e] at h; cases h
  have e1 := List.dropLast_concat_getLast hne
  rw [List.getLast?_eq_getLast hne] at h
  rw [Option.some.inj h] at e1
  exact e1.symm

theorem step_in {v : List α} {s : α} (h : v.getLast? = some s) : step v s = v.dropLast := if_pos h
theorem step_out {v : List α} {s : α} (h : v.getLast? ≠ some s) : step v s = v ++ [s] := if_neg h

theorem Rd.step {v : List α} {s : α} (h : Rd v) : Rd (step v s) := by
  by_cases e : v.getLast? = some s
  · rw [step_in e]
    have q := last_split e
    rw [q] at h
    exact h.inv.1
  · rw [step_out e]
    exact .snoc h e

/-- an edge goes back, too -/
theorem step_step {v : List α} {s : α} (h : Rd v) : K25.step (K25.step v s) s = v := by
  by_cases e : v.getLast? = some s
  · rw [step_in e]
    have q := last_split e
    have h' := h
    rw [q] at h'
    rw [step_out h'.inv.2]
    exact q.symm
  · rw [step_out e, step_in (by simp)]
    simp

/-- reducing a reduced word -/
theorem Rd.fold {v : List α} (h : Rd v) : v.foldl K25.step [] = v := by
  induction h with
  | nil => rfl
  | snoc h1 h2 ih => rw [List.foldl_append, ih]; exact step_out h2

theorem Rd.joined {v : List α} {s : α} (h : Rd v) : (v ++ [s]).foldl K25.step [] = K25.step v s := by
  rw [List.foldl_append, h.fold]
  rfl

/-! ### the way between two words -/
/-- the length of the common beginning -/
def cpl : List α → List α → Nat
  | a :: x, b :: y => if a = b then cpl x y + 1 else 0
  | _, _ => 0
/-- edges with t on the way -/
def apn (t : α) : List α → List α → Nat
  | a :: x, b :: y => if a = b then apn t x y else (a :: x).count t + (b :: y).count t
  | x, y => x.count t + y.count t

theorem apn_nil_left (t : α) (w : List α) : apn t [] w = w.count t := by
  cases w <;> simp [apn]
theorem apn_nil_right (t : α) (v : List α) : apn t v [] = v.count t := by
  cases v <;> simp [apn]
theorem apn_drop (t : α) : ∀ v w : List α, apn t v w = (v.drop (cpl v w)).count t + (w.drop (cpl v w)).count t
  | [], w => by rw [apn_nil_left]; cases w <;> simp [cpl]
  | a :: x, [] => by rw [apn_nil_right]; simp [cpl]
  | a :: x, b :: y => by
    by_cases e : a = b
    · simp only [apn, cpl, if_pos e, List.drop_succ_cons]
      exact apn_drop t x y
    · simp only [apn, cpl, if_neg e, List.drop_zero]
theorem cpl_le_left : ∀ v w : List α, cpl v w ≤ v.length
  | [], w => by cases w <;> simp [cpl]
  | a :: x, [] => by simp [cpl]
  | a :: x, b :: y => by
    have := cpl_le_left x y
    simp only [cpl, List.length_cons]
    split <;> omega
theorem cpl_le_right : ∀ v w : List α, cpl v w ≤ w.length
  | [], w => by cases w <;> simp [cpl]
  | a :: x, [] => by simp [cpl]
  | a :: x, b :: y => by
    have := cpl_le_right x y
    simp only [cpl, List.length_cons]
    split <;> omega
/-- as long as the items are equal, the common beginning goes on -/
theorem cpl_lt {n : Nat} : ∀ {v w : List α}, (∀ i, i < n → v[i]? = w[i]?) → n < v.length → n < w.length → v[n]? = w[n]? → n < cpl v w := by
  induction n with
  | zero =>
    intro v w _ hv hw e
    match v, w, hv, hw, e with
    | a :: x, b :: y, _, _, e =>
      have e' : a = b := by simpa using e
      simp only [cpl, if_pos e']
      omega
  | succ n ih =>
    intro v w h hv hw e
    match v, w, hv, hw, h, e with
    | a :: x, b :: y, hv, hw, h, e =>
      have e' : a = b := by simpa using h 0 (by omega)
      have := ih (v := x) (w := y) (fun i hi => by simpa using h (i + 1) (by omega)) (by simpa using hv) (by simpa using hw) (by simpa using e)
      simp only [cpl, if_pos e']
      omega
theorem cpl_same : ∀ (v w : List α) (i : Nat), i < cpl v w → v[i]? = w[i]?
  | [], w, i, h => by cases w <;> simp [cpl] at h
  | a :: x, [], i, h => by simp [cpl] at h
  | a :: x, b :: y, i, h => by
    simp only [cpl] at h
    by_cases e : a = b
    · rw [if_pos e] at h
      cases i with
      | zero => simp [e]
      | succ i => simpa using cpl_same x y i (by omega)
    · rw [if_neg e] at h
      omega
theorem cpl_stop : ∀ (v w : List α), cpl v w < v.length → cpl v w < w.length → v[cpl v w]? ≠ w[cpl v w]?
  | [], w, h, _ => by simp at h
  | a :: x, [], _, h => by simp at h
  | a :: x, b :: y, h1, h2 => by
    simp only [cpl] at h1 h2 ⊢
    by_cases e : a = b
    · rw [if_pos e] at h1 h2 ⊢
      simpa using cpl_stop x y (by simpa using h1) (by simpa using h2)
    · rw [if_neg e]
      simpa using e
/-- what the counting loop finds -/
theorem cpl_at {n : Nat} {v w : List α} (h : ∀ i, i < n → v[i]? = w[i]?) (hv : n ≤ v.length) (hw : n ≤ w.length) (stop : n = v.length ∨ n = w.length ∨ v[n]? ≠ w[n]?) : cpl v w = n := by
  have a := cpl_le_left v w
  have b := cpl_le_right v w
  by_cases h1 : cpl v w < n
  · exact absurd (h _ h1) (cpl_stop v w (by omega) (by omega))
  · by_cases h2 : n < cpl v w
    · rcases stop with e | e | e
      · omega
      · omega
      · exact absurd (cpl_same v w n h2) e
    · omega

theorem apn_comm (t : α) : ∀ v w : List α, apn t v w = apn t w v
  | [], w => by rw [apn_nil_left, apn_nil_right]
  | a :: x, [] => by rw [apn_nil_left, apn_nil_right]
  | a :: x, b :: y => by
    by_cases e : a = b
    · simp only [apn, if_pos e, if_pos e.symm]
      exact apn_comm t x y
    · simp only [apn, if_neg e, if_neg fun q : b = a => e q.symm]
      omega
theorem apn_self (t : α) : ∀ v : List α, apn t v v = 0
  | [] => by simp [apn]
  | a :: x => by simp only [apn, if_pos]; exact apn_self t x

theorem count_snoc (v : List α) (s t : α) : (v ++ [s]).count t = v.count t + if s = t then 1 else 0 := by
  rw [List.count_append, List.count_singleton]
  simp only [beq_iff_eq]
/-- one more letter at the end -/
theorem apn_snoc (s : α) : ∀ v w : List α, (∀ t, t ≠ s → apn t (v ++ [s]) w = apn t v w) ∧ (apn s (v ++ [s]) w = apn s v w + 1 ∨ apn s (v ++ [s]) w + 1 = apn s v w)
  | [], [] => by
    refine ⟨fun t ht => ?_, .inl ?_⟩
    · simp [apn, List.count_singleton, Ne.symm ht]
    · simp [apn]
  | [], b :: y => by
    by_cases e : s = b
    · subst e
      refine ⟨fun t ht => ?_, .inr ?_⟩
      · simp [apn, apn_nil_left, List.count_cons, Ne.symm ht]
      · simp [apn, apn_nil_left]
    · refine ⟨fun t ht => ?_, .inl ?_⟩
      · simp [apn, e, List.count_singleton, Ne.symm ht]
      · simp only [List.nil_append, apn, if_neg e, List.count_cons_self, List.count_nil]
        omega
  | a :: x, [] => by
    refine ⟨fun t ht => ?_, .inl ?_⟩
    · rw [apn_nil_right, apn_nil_right, count_snoc, if_neg (Ne.symm ht)]; rfl
    · rw [apn_nil_right, apn_nil_right, count_snoc, if_pos rfl]
  | a :: x, b :: y => by
    by_cases e : a = b
    · have ih := apn_snoc s x y
      simp only [List.cons_append, apn, if_pos e]
      exact ih
    · simp only [List.cons_append, apn, if_neg e]
      refine ⟨fun t ht => ?_, .inl ?_⟩
      · rw [← List.cons_append, count_snoc, if_neg (Ne.symm ht)]; rfl
      · rw [← List.cons_append, count_snoc, if_pos rfl]; omega
/-- one step over an edge -/
theorem apn_step (s : α) (v w : List α) : (∀ t, t ≠ s → apn t (step v s) w = apn t v w) ∧ (apn s (step v s) w = apn s v w + 1 ∨ apn s (step v s) w + 1 = apn s v w) := by
  by_cases e : v.getLast? = some s
  · rw [step_in e]
    have q := last_split e
    have h := apn_snoc s v.dropLast w
    rw [← q] at h
    exact ⟨fun t ht => (h.1 t ht).symm, h.2.symm.imp Eq.symm Eq.symm⟩
  · rw [step_out e]
    exact apn_snoc s v w

/-- the letters of the way's edges, in order -/
def labels (v w : List α) : List α := (v.drop (cpl v w)).reverse ++ w.drop (cpl v w)
theorem count_labels (t : α) (v w : List α) : (labels v w).count t = apn t v w := by
  rw [apn_drop, labels, List.count_append, List.count_reverse]

/-! ### plans and their vertices -/
/-- the vertex in stretch k: rs the restarts, P the hops -/
def vtx (rs : List α) (P : Nat → Bool) : Nat → List α
  | 0 => []
  | k + 1 => match rs[k]? with
    | some r => if P k = true then step (vtx rs P k) r else vtx rs P k
    | none => vtx rs P k
theorem vtx_succ {rs : List α} {P : Nat → Bool} {k : Nat} {r : α} (h : rs[k]? = some r) : vtx rs P (k + 1) = if P k = true then step (vtx rs P k) r else vtx rs P k := by
  simp only [vtx, h]
theorem vtx_rd (rs : List α) (P : Nat → Bool) : ∀ k, Rd (vtx rs P k)
  | 0 => .nil
  | k + 1 => by
    cases h : rs[k]? with
    | none => simp only [vtx, h]; exact vtx_rd rs P k
    | some r =>
      rw [vtx_succ h]
      split
      · exact (vtx_rd rs P k).step
      · exact vtx_rd rs P k
/-- the vertices' letters are services -/
theorem vtx_mem (rs : List α) (P : Nat → Bool) : ∀ k, ∀ x ∈ vtx rs P k, x ∈ rs
  | 0, x, hx => by simp [vtx] at hx
  | k + 1, x, hx => by
    cases h : rs[k]? with
    | none => simp only [vtx, h] at hx; exact vtx_mem rs P k x hx
    | some r =>
      rw [vtx_succ h] at hx
      split at hx
      · unfold step at hx
        split at hx
        · exact vtx_mem rs P k x ((List.dropLast_sublist _).subset hx)
        · rcases List.mem_append.mp hx with q | q
          · exact vtx_mem rs P k x q
          · rw [List.mem_singleton.mp q]; exact List.mem_of_getElem? h
      · exact vtx_mem rs P k x hx
theorem vtx_len (rs : List α) (P : Nat → Bool) : ∀ k, (vtx rs P k).length ≤ k
  | 0 => by simp [vtx]
  | k + 1 => by
    have ih := vtx_len rs P k
    cases h : rs[k]? with
    | none => simp only [vtx, h]; omega
    | some r =>
      rw [vtx_succ h]
      split
      · unfold step
        split
        · rw [List.length_dropLast]; omega
        · rw [List.length_append, List.length_singleton]; omega
      · omega

/-- e is the end of the lease of s that begins at b -/
structure IsEnd (rs : List α) (s : α) (b e : Nat) : Prop where
  lo : b ≤ e
  hi : e ≤ rs.length
  no : ∀ j, b ≤ j → j < e → rs[j]? ≠ some s
  at_ : e < rs.length → rs[e]? = some s

/-- an edit of the lease of s that begins behind restart i and ends at e: P before, P' behind it -/
structure Edit (rs : List α) (P P' : Nat → Bool) (s : α) (i e : Nat) : Prop where
  rst : rs[i]? = some s
  fin : IsEnd rs s (i + 1) e
  still : ∀ k, i + 1 ≤ k → k < e → P k = false
  turn : P' i = !P i
  turnE : e < rs.length → P' e = !P e
  keep : ∀ k, k < rs.length → k ≠ i → k ≠ e → P' k = P k

variable {rs : List α} {P P' : Nat → Bool} {s : α} {i e : Nat}
theorem Edit.vtx (E : Edit rs P P' s i e) : ∀ k, k ≤ rs.length → K25.vtx rs P' k = if i + 1 ≤ k ∧ k ≤ e then step (K25.vtx rs P k) s else K25.vtx rs P k
  | 0, _ => by
    rw [if_neg (by omega)]
    rfl
  | k + 1, hk => by
    have ih := E.vtx k (by omega)
    have hlt : k < rs.length := by omega
    have hr : rs[k]? = some rs[k] := List.getElem?_eq_getElem hlt
    rw [vtx_succ hr, vtx_succ hr]
    have hlo := E.fin.lo
    by_cases hki : k = i
    · subst hki
      have hs : rs[k] = s := by
        have := E.rst
        rw [hr] at this
        exact Option.some.inj this
      rw [if_neg (by omega)] at ih
      rw [if_pos (show k + 1 ≤ k + 1 ∧ k + 1 ≤ e by omega), ih, E.turn, hs]
      cases P k with
      | false => rfl
      | true => exact (step_step (vtx_rd rs P k)).symm
    · by_cases hke : k = e
      · subst hke
        have hs : rs[k] = s := by
          have := E.fin.at_ hlt
          rw [hr] at this
          exact Option.some.inj this
        rw [if_pos (show i + 1 ≤ k ∧ k ≤ k by omega)] at ih
        rw [if_neg (show ¬ (i + 1 ≤ k + 1 ∧ k + 1 ≤ k) by omega), ih, E.turnE hlt, hs]
        cases P k with
        | false => exact step_step (vtx_rd rs P k)
        | true => rfl
      · rw [E.keep k hlt hki hke]
        by_cases hin : i + 1 ≤ k ∧ k ≤ e
        · have hp := E.still k hin.1 (by omega)
          rw [if_pos hin] at ih
          rw [if_pos (show i + 1 ≤ k + 1 ∧ k + 1 ≤ e by omega), hp, ih, if_neg Bool.false_ne_true, if_neg Bool.false_ne_true]
        · rw [if_neg hin] at ih
          rw [if_neg (show ¬ (i + 1 ≤ k + 1 ∧ k + 1 ≤ e) by omega), ih]

/-! ### leases -/
/-- (t, b) is a lease -/
def IsLease (svs rs : List α) (t : α) (b : Nat) : Prop := (b = 0 ∧ t ∈ svs) ∨ ∃ j, b = j + 1 ∧ rs[j]? = some t
/-- how far two plans are apart at a lease -/
def far (rs : List α) (P W : Nat → Bool) (t : α) (b : Nat) : Nat := apn t (K25.vtx rs P b) (K25.vtx rs W b)
theorem far_zero (rs : List α) (P W : Nat → Bool) (t : α) : far rs P W t 0 = 0 := by
  simp [far, K25.vtx, apn]
theorem Edit.other (E : Edit rs P P' s i e) {svs : List α} (W : Nat → Bool) {t : α} {b : Nat} (h : IsLease svs rs t b) (hne : ¬ (t = s ∧ b = i + 1)) : far rs P' W t b = far rs P W t b := by
  rcases h with ⟨rfl, _⟩ | ⟨j, rfl, hj⟩
  · rw [far_zero, far_zero]
  · have hlt : j < rs.length := (List.getElem?_eq_some_iff.mp hj).1
    unfold far
    rw [E.vtx (j + 1) (by omega)]
    by_cases hin : i + 1 ≤ j + 1 ∧ j + 1 ≤ e
    · rw [if_pos hin]
      refine (apn_step s _ _).1 t fun e1 => ?_
      subst e1
      by_cases hji : j = i
      · exact hne ⟨rfl, by omega⟩
      · exact E.fin.no j (by omega) (by omega) hj
    · rw [if_neg hin]
theorem Edit.moved (E : Edit rs P P' s i e) (W : Nat → Bool) : far rs P' W s (i + 1) = far rs P W s (i + 1) + 1 ∨ far rs P' W s (i + 1) + 1 = far rs P W s (i + 1) := by
  have hlt : i < rs.length := (List.getElem?_eq_some_iff.mp E.rst).1
  have hlo := E.fin.lo
  unfold far
  rw [E.vtx (i + 1) (by omega), if_pos (by omega)]
  exact (apn_step s _ _).2
theorem far_self (rs : List α) (P : Nat → Bool) (t : α) (b : Nat) : far rs P P t b = 0 := apn_self _ _
theorem far_comm (rs : List α) (P W : Nat → Bool) (t : α) (b : Nat) : far rs P W t b = far rs W P t b := apn_comm _ _ _
/-- from the old plan to the new one: one, at the edited lease -/
theorem Edit.one (E : Edit rs P P' s i e) : far rs P P' s (i + 1) = 1 := by
  have h := E.moved P
  rw [far_self] at h
  rw [far_comm]
  omega
theorem Edit.none (E : Edit rs P P' s i e) {svs : List α} {t : α} {b : Nat} (h : IsLease svs rs t b) (hne : ¬ (t = s ∧ b = i + 1)) : far rs P P' t b = 0 := by
  rw [far_comm, E.other P h hne, far_self]
end
end K25
/-! reduced, joined, common_length. -/
namespace K25
open PySem PySem.Spec PyProof.Rows L2
section
variable {P : Program} {w : World} {K : PySem.W.Frag} {mg : Str → Option Value} {base : Heap}
def Wd (H : Hp) (a : Addr) (v : List Str) : Prop := H a = some (.tup (v.map V.str))
theorem Wd.same {H H' : Hp} {a : Addr} {v : List Str} (h : Wd H a v) (s : Same H H') : Wd H' a v := s _ _ h
theorem last_at {xs : List V} {v : V} (h : xs.getLast? = some v) : atI xs (-1) = some v := by
  have e := last_split h
  have := atI_last xs.dropLast v
  rwa [← e] at this
theorem last_ix {α : Type} {xs : List α} {v : α} (h : xs.getLast? = some v) : xs[xs.length - 1]? = some v := by rw [← List.getLast?_eq_getElem?]; exact h
theorem last_map {xs : List Str} {v : Str} (h : xs.getLast? = some v) : (xs.map V.str).getLast? = some (.str v) := by rw [List.getLast?_map, h]; rfl
/-! ### reduced -/
def sp_reduced : Sp := fun vs H Q _ => ∃ (a : Addr) (v : List Str), vs = [.ref a] ∧ Wd H a v ∧ v.length ≤ 1000 ∧ ∀ H' p, Same H H' → Wd H' p (v.foldl step []) → Q (.ref p) H'
theorem ok_reduced {f : Addr} {fd : FuncData} (F : Fun K "reduced" "reduced" s_reduced f fd) (mT : mg "tuple" = none) : FnOk P w K mg base CX0 1 f fd ["word"] sp_reduced := by
  refine F.ok sc_reduced (fun vs H Q E h => ?_) (fun cdv A outer s H vs Q E hr h => ?_)
  · obtain ⟨a, v, rfl, _⟩ := h
    rfl
  · obtain ⟨a, v, rfl, ha, hl, q⟩ := h
    refine ⟨_, pss_cons (ps_set (i := 1) sc_reduced.nd rfl (.inl rfl) (pe_lst pa_nil))
      (pss_cons (ps_for PassesOwn.never rfl (pi_tup (pv 0)) (pg_name (i := 2) sc_reduced.nd rfl (.inl rfl))
        (pss_one (ps_if (pt_mid (PW.pt (pw_and (pt_cmpR (op_neE hr.units0) (pv 1) (pe_lst pa_nil) (nomark _)) (pw_and1 (pt_cmpR op_eq (pe_ix ix_list (pv 1) (pe_un un_neg pe_int) (fun _ _ => rfl)) (pv 2) (nomark _))))))
          (pss_one (ps_expr (pe_bm0 PySem.F.plainAttrs_list PySem.F.slot_list_pop PySem.F.type_list_pop mt_pop (pv 1))))
          (pss_one (ps_expr (pe_bm PySem.F.plainAttrs_list PySem.F.slot_list_append PySem.F.type_list_append mt_append (pv 1) (pa_cons (pv 2) pa_nil)))))))
      (pss_one (ps_ret (pe_callTy call_tuple_of (by rfl) mT bt_tuple (pa_cons (pv 1) pa_nil))))), ?_⟩
    refine ⟨Nat.zero_le _, fun p hp => ?_⟩
    refine ⟨.ref a, rfl, a, rfl, ⟨_, sqT (upd_other ha hp)⟩, for_tup (K := K) (a := a) (xs := v.map V.str)
      (fun i σ H2 => ∃ y2, σ = [some (.ref a), some (.ref p), y2] ∧ (∀ c o, c ≠ p → H c = some o → H2 c = some o) ∧ H2 p = some (.lst (((v.take i).foldl step []).map V.str)) ∧ ((v.take i).foldl step []).length ≤ i)
      ⟨none, rfl, fun c o h1 h => by rw [upd_ne h1]; exact h, upd_same, Nat.le_refl _⟩ (fun i σ H2 _ ⟨_, _, k2, _⟩ => sqT (k2 _ _ (ne_of_none ha hp) ha)) ?_ ?_⟩
    · rintro i x σ H2 hx ⟨y2, rfl, k2, e2, l2⟩
      have hi : i < v.length := by
        have := (List.getElem?_eq_some_iff.mp hx).1
        rwa [List.length_map] at this
      rw [List.getElem?_map, List.getElem?_eq_getElem hi] at hx
      have hx' : V.str v[i] = x := by simpa using hx
      subst hx'
      have et : (v.take (i + 1)).foldl step [] = step ((v.take i).foldl step []) v[i] := by
        rw [List.take_add_one, List.getElem?_eq_getElem hi, List.foldl_append]
        rfl
      generalize hfd : (v.take i).foldl step [] = fd0 at *
      refine ⟨fun b H' => b = decide (fd0.getLast? = some v[i]) ∧ H' p = some (.lst (fd0.map V.str)) ∧ ∀ c o, c ≠ p → H c = some o → H' c = some o, ?_, ?_⟩
      · refine ⟨.ref p, rfl, Nat.zero_le _, fun q0 hq0 => ?_⟩
        have e3 : upd H2 q0 (.lst []) p = some (.lst (fd0.map V.str)) := upd_other e2 hq0
        have k3 : ∀ c o, c ≠ p → H c = some o → upd H2 q0 (.lst []) c = some o := fun c o h1 h => upd_other (k2 c o h1 h) hq0
        refine ⟨_, ⟨p, q0, fd0.map V.str, [], rfl, rfl, .inl ⟨sqL e3, sqL upd_same⟩, .inr rfl, rfl⟩, _, rfl, ?_⟩
        cases hz : fd0.getLast? with
        | none =>
          have : fd0 = [] := List.getLast?_eq_none_iff.mp hz
          subst this
          exact ⟨rfl, e3, k3⟩
        | some z =>
          have hn : fd0 ≠ [] := fun e => by rw [e] at hz; cases hz
          have hb : (!((fd0.map V.str).length == ([] : List V).length)) = true := by
            simp [hn]
          refine (ite2 (fun _ => ?_) (fun k => absurd hb k))
          refine ⟨.ref p, rfl, 1, rfl, p, fd0.map V.str, -1, .str z, rfl, rfl, sqL e3, last_at (last_map hz), .str v[i], rfl, rfl, _, rfl, ?_, e3, k3⟩
          simp
      · rintro b H3 ⟨rfl, e3, k3⟩
        by_cases hz : fd0.getLast? = some v[i]
        · rw [decide_eq_true hz]
          have e5 : (fd0.map V.str).dropLast = (step fd0 v[i]).map V.str := by rw [step_in hz, List.map_dropLast]
          refine (ite2 (fun _ => ?_) (fun k => absurd rfl k))
          refine ⟨.ref p, rfl, .inl ⟨rfl, _, sqL e3⟩, p, fd0.map V.str, .str v[i], rfl, rfl, e3, last_ix (last_map hz), some (.str v[i]), rfl, fun c o h1 h => ?_, ?_, ?_⟩
          · rw [upd_ne h1]; exact k3 _ _ h1 h
          · rw [upd_same, et, e5]
          · rw [et, step_in hz, List.length_dropLast]; omega
        · rw [decide_eq_false hz]
          refine (ite2 (fun k => absurd k (by decide)) (fun _ => ?_))
          refine ⟨.ref p, rfl, .inl ⟨rfl, _, sqL e3⟩, .str v[i], rfl, p, _, _, rfl, rfl, e3, lt_line (by rw [List.length_map]; omega), some (.str v[i]), rfl, fun c o h1 h => ?_, ?_, ?_⟩
          · rw [upd_ne h1]; exact k3 _ _ h1 h
          · rw [et, step_out hz, upd_same, List.map_append]
            rfl
          · rw [et, step_out hz, List.length_append, List.length_singleton]
            omega
    · rintro σ H2 ⟨y2, rfl, k2, e2, l2⟩
      rw [List.length_map, List.take_length] at e2
      refine ⟨.ref p, rfl, p, _, rfl, .inl ⟨sqL e2, fun l hl => q _ l (fun c o h => ?_) upd_same⟩⟩
      rw [upd_ne (ne_of_none (k2 _ _ (ne_of_none h hp) h) hl)]
      exact k2 _ _ (ne_of_none h hp) h
/-! ### joined -/
def sp_joined : Sp := fun vs H Q _ => ∃ (a b : Addr) (v u : List Str), vs = [.ref a, .ref b] ∧ Wd H a v ∧ Wd H b u ∧ v.length + u.length ≤ 1000 ∧ ∀ H' p, Same H H' → Wd H' p ((v ++ u).foldl step []) → Q (.ref p) H'
theorem ok_joined {f : Addr} {fd : FuncData} (F : Fun K "joined" "joined" s_joined f fd) (CR : Cal P w K mg base "reduced" 1 ["word"] sp_reduced) : FnOk P w K mg base CX0 2 f fd ["first", "second"] sp_joined := by
  refine F.ok sc_joined (fun vs H Q E h => ?_) (fun cdv A outer s H vs Q E hr h => ?_)
  · obtain ⟨a, b, v, u, rfl, _⟩ := h
    rfl
  · obtain ⟨a, b, v, u, rfl, ha, hb, hl, q⟩ := h
    refine ⟨_, pss_one (ps_ret (CR.pe hr (by decide) (by rfl) (pa_cons (pe_op op_catA (pv 0) (pv 1)) pa_nil))), ?_⟩
    refine ⟨.ref a, rfl, .ref b, rfl, a, b, v.map V.str, u.map V.str, rfl, rfl, sqT ha, sqT hb, le_line (by simp; omega), fun e => ?_, fun _ e => ?_, fun _ _ p hp => ?_⟩
    · have e' : v = [] := List.map_eq_nil_iff.mp e
      exact ⟨b, u, rfl, hb, by omega, fun H' p s1 h1 => q H' p s1 (by rw [e']; exact h1)⟩
    · have e' : u = [] := List.map_eq_nil_iff.mp e
      exact ⟨a, v, rfl, ha, by omega, fun H' p s1 h1 => q H' p s1 (by rw [e', List.append_nil]; exact h1)⟩
    · exact ⟨p, v ++ u, rfl, by show upd H p _ p = _; rw [upd_same, List.map_append], by rw [List.length_append]; omega, fun H' p s1 h1 => q H' p ((same_new hp).trans s1) h1⟩
/-! ### common_length -/
def sp_common : Sp := fun vs H Q _ => ∃ (a b : Addr) (v u : List Str), vs = [.ref a, .ref b] ∧ Wd H a v ∧ Wd H b u ∧ v.length ≤ 1000 ∧ u.length ≤ 1000 ∧ Q (.int (cpl v u : Nat)) H
theorem ok_common {f : Addr} {fd : FuncData} (F : Fun K "common_length" "common_length" s_common_length f fd) (mL : mg "len" = none) (mN : mg "min" = none) : FnOk P w K mg base CX0 1 f fd ["one", "other"] sp_common := by
  refine F.ok sc_common_length (fun vs H Q E h => ?_) (fun cdv A outer s H vs Q E hr h => ?_)
  · obtain ⟨a, b, v, u, rfl, _⟩ := h
    rfl
  · obtain ⟨a, b, v, u, rfl, ha, hb, hv, hw, q⟩ := h
    refine ⟨_, pss_cons (ps_set (i := 2) sc_common_length.nd rfl (.inl rfl) pe_int)
      (pss_cons (ps_while PassesOwn.never (PW.pt (pw_and (pt_cmpR op_lt (pv 2) (pe_callB (call_min2 rfl) (by rfl) mN bt_min (pa_cons (pe_callB call_len_seq (by rfl) mL bt_len (pa_cons (pv 0) pa_nil)) (pa_cons (pe_callB call_len_seq (by rfl) mL bt_len (pa_cons (pv 1) pa_nil)) pa_nil))) (nomark _))
          (pw_and1 (pt_cmpR op_eq (pe_ix ix_tup (pv 0) (pv 2) (fun _ _ => rfl)) (pe_ix ix_tup (pv 1) (pv 2) (fun _ _ => rfl)) (nomark _)))))
        (pss_one (ps_aug (i := 2) sc_common_length.nd rfl (.inl rfl) pe_int ip_add)))
      (pss_one (ps_ret (pv 2)))), ?_⟩
    refine ⟨fun m σ H2 => ∃ n : Nat, σ = [some (.ref a), some (.ref b), some (.int (n : Nat))] ∧ H2 = H ∧ m = v.length - n ∧ (∀ i, i < n → v[i]? = u[i]?) ∧ n ≤ v.length ∧ n ≤ u.length, ⟨v.length - 0, 0, rfl, rfl, rfl, fun i h => absurd h (Nat.not_lt_zero i), Nat.zero_le _, Nat.zero_le _⟩, ?_⟩
    rintro m σ H2 ⟨n, rfl, rfl, rfl, hs, n1, n2⟩
    have emin : (if (u.length : Int) < (v.length : Int) then (u.length : Int) else (v.length : Int)) = ((min v.length u.length : Nat) : Int) := by
      split <;> omega
    have stopQ : (n = v.length ∨ n = u.length ∨ v[n]? ≠ u[n]?) → ∃ x, ([some (V.ref a), some (.ref b), some (.int (n : Nat))] : L2.St)[2]? = some (some x) ∧ Q x H2 := fun h => ⟨_, rfl, by rw [cpl_at hs n1 n2 h] at q; exact q⟩
    refine ⟨.int n, rfl, .ref a, rfl, a, _, rfl, .inr (sqT ha), .ref b, rfl, b, _, rfl, .inr (sqT hb), ((v.map V.str).length : Int), ((u.map V.str).length : Int), rfl, n, _, rfl, rfl, _, rfl, ?_⟩
    simp only [List.length_map]
    rw [emin]
    by_cases hlt : n < min v.length u.length
    · have l1 : n < v.length := by omega
      have l2 : n < u.length := by omega
      rw [decide_eq_true (by omega)]
      refine ite2 (fun _ => ?_) (fun k => absurd rfl k)
      refine ⟨.ref a, rfl, .int n, rfl, a, v.map V.str, n, .str v[n], rfl, rfl, sqT ha, atI_nat (by rw [List.getElem?_map, List.getElem?_eq_getElem l1]; rfl), .ref b, rfl, .int n, rfl, b, u.map V.str, n, .str u[n], rfl, rfl, sqT hb, atI_nat (by rw [List.getElem?_map, List.getElem?_eq_getElem l2]; rfl), rfl, _, rfl, ?_⟩
      by_cases he : v[n] = u[n]
      · rw [he, decide_eq_true rfl]
        refine ite2 (fun _ => ?_) (fun k => absurd rfl k)
        refine ⟨fun σ' H' => σ' = [some (.ref a), some (.ref b), some (.int ((n + 1 : Nat) : Int))] ∧ H' = H2, ?_, ?_⟩
        · rintro σ' H' ⟨rfl, rfl⟩
          refine ⟨v.length - (n + 1), by omega, n + 1, rfl, rfl, rfl, fun i hi => ?_, by omega, by omega⟩
          by_cases e : i = n
          · subst e
            rw [List.getElem?_eq_getElem l1, List.getElem?_eq_getElem l2, he]
          · exact hs i (by omega)
        · exact ⟨_, rfl, n, 1, rfl, rfl, rfl, rfl⟩
      · rw [decide_eq_false (fun e => he (by injection e))]
        refine ite2 (fun k => absurd k (by decide)) (fun _ => ?_)
        exact stopQ (.inr (.inr fun e => he (by rw [List.getElem?_eq_getElem l1, List.getElem?_eq_getElem l2] at e; injection e)))
    · rw [decide_eq_false (by omega)]
      refine ite2 (fun k => absurd k (by decide)) (fun _ => ?_)
      refine ite2 (fun k => absurd k (by decide)) (fun _ => ?_)
      exact stopQ (by omega)
end
end K25
/-! way, edges_with. -/
namespace K25
open PySem PySem.Spec PyProof.Rows L2
section
variable {P : Program} {w : World} {K : PySem.W.Frag} {mg : Str → Option Value} {base : Heap}
/-- an edge: its address, its lower end, its label -/
abbrev Ed := Addr × V × Str
def refsE (es : List Ed) : List V := es.map fun e => V.ref e.1
def Eds (H : Hp) (es : List Ed) : Prop := ∀ e ∈ es, H e.1 = some (.tup [e.2.1, .str e.2.2])
theorem Eds.same {H H' : Hp} {es : List Ed} (h : Eds H es) (s : Same H H') : Eds H' es := fun e m => s _ _ (h e m)
theorem Eds.upd {H : Hp} {es : List Ed} {D : Addr} {xs : List V} {o : HO} (h : Eds H es) (hD : H D = some (.lst xs)) : Eds (upd H D o) es := fun e m => by
  rw [upd_ne (ne_of (h e m) hD (by simp))]
  exact h e m
theorem Eds.snoc {H : Hp} {es : List Ed} {p : Addr} {v : V} {l : Str} (h : Eds H es) (hp : H p = some (.tup [v, .str l])) : Eds H (es ++ [(p, v, l)]) := fun e m => by
  rcases List.mem_append.mp m with m | m
  · exact h e m
  · rw [List.mem_singleton.mp m]; exact hp
theorem refsE_app (a b : List Ed) : refsE (a ++ b) = refsE a ++ refsE b := List.map_append
def sp_way : Sp := fun vs H Q _ => ∃ (a b : Addr) (v u : List Str), vs = [.ref a, .ref b] ∧ Wd H a v ∧ Wd H b u ∧ v.length ≤ 1000 ∧ u.length ≤ 1000 ∧
  ∀ H' p (es : List Ed), Same H H' → H' p = some (.tup (refsE es)) → Eds H' es → es.map (·.2.2) = labels v u → Q (.ref p) H'
theorem back_get {v : List Str} {c i : Nat} (h : i < v.length - c) : (v.drop c).reverse[i]? = v[v.length - 1 - i]? := by
  rw [List.getElem?_reverse (by rw [List.length_drop]; exact h), List.length_drop, List.getElem?_drop]
  congr 1
  omega
theorem take_snoc {α : Type} {l : List α} {i : Nat} {x : α} (h : l[i]? = some x) : l.take (i + 1) = l.take i ++ [x] := by
  rw [List.take_add_one, h]; rfl
theorem yes_go {σ : L2.St} {H : Hp} {A B : Hp → Prop} (h : A H) : tYes σ H (fun b H3 => if b = true then A H3 else B H3) := by
  show if true = true then A H else B H
  rw [if_pos rfl]
  exact h
theorem edge_turn {k : Nat} {σ : L2.St} {H : Hp} {Q : VK} {a : Addr} {z : List Str} {j : Nat} {l : Str} (h0 : σ[k]? = some (some (.ref a))) (h4 : σ[4]? = some (some (.int (j : Nat)))) (hz : Wd H a z) (hj : z[j]? = some l) (hl : z.length ≤ 1000)
    (q : ∀ x H3 p, Same H H3 → H3 p = some (.tup [x, .str l]) → Q (.ref p) H3) :
    tTup (tCons (tSl (rSlA K) (tVar k) tNoPart (tPart (tVar 4))) (tCons (tOp (rIxT K) (tVar k) (tVar 4)) tNil)) σ H Q := by
  refine ⟨.ref a, h0, .int j, h4, j, rfl, a, z.map V.str, rfl, sqT hz, fun _ => ?_, fun _ p hp => ?_⟩
  · refine ⟨.ref a, h0, .int j, h4, a, z.map V.str, j, .str l, rfl, rfl, sqT hz, atI_nat (by rw [List.getElem?_map, hj]; rfl), le_line (by show 2 ≤ 10000; decide), fun p' hp' => ?_⟩
    exact q (.ref a) _ p' (same_new hp') upd_same
  · have hz' : upd H p (.tup (cutV (z.map V.str) none (some (j : Int)))) a = some (.tup (z.map V.str)) := upd_other hz hp
    refine ⟨.ref a, h0, .int j, h4, a, z.map V.str, j, .str l, rfl, rfl, sqT hz', atI_nat (by rw [List.getElem?_map, hj]; rfl), le_line (by show 2 ≤ 10000; decide), fun p' hp' => ?_⟩
    exact q (.ref p) _ p' ((same_new hp).trans (same_new hp')) upd_same
theorem ok_way {f : Addr} {fd : FuncData} (F : Fun K "way" "way" s_way f fd) (mL : mg "len" = none) (mR : mg "range" = none) (mT : mg "tuple" = none) (CC : Cal P w K mg base "common_length" 1 ["one", "other"] sp_common) :
    FnOk P w K mg base CX0 2 f fd ["one", "other"] sp_way := by
  refine F.ok sc_way (fun vs H Q E h => ?_) (fun cdv A outer s H vs Q E hr h => ?_)
  · obtain ⟨a, b, v, u, rfl, _⟩ := h
    rfl
  · obtain ⟨a, b, v, u, rfl, ha, hb, hv, hw, q⟩ := h
    refine ⟨_, pss_cons (ps_set (i := 2) sc_way.nd rfl (.inl rfl) (CC.pe hr (by decide) (by rfl) (pa_cons (pv 0) (pa_cons (pv 1) pa_nil))))
      (pss_mid (ps_setLc (i := 3) (own := [("at", 4)]) (g := gName 4) (tt := tYes) rfl sc_way.nd rfl rfl rfl
          (pi_range3 (by rfl) mR (pa_cons (pe_op op_sub (pe_callB call_len_seq (by rfl) mL bt_len (pa_cons (pv 0) pa_nil)) pe_int) (pa_cons (pe_op op_sub (pv 2) pe_int) (pa_cons (pe_un un_neg pe_int) pa_nil))))
          (blkOk_by (own := [("at", 4)]) (N := ["one", "other", "many", "up", "at"]) (sc := defScope s_way) (by decide +kernel))
          (fun _ _ _ _ _ => pg_name (i := 4) sc_way.nd rfl (Or.inl rfl)) (fun _ _ _ _ _ => pts_nil)
          (fun _ _ _ _ _ => pe_tup (pa_cons (pe_slice (r := rSlA K) sl_tupA (pv 0) po_none (po_some (pv 4))) (pa_cons (pe_ix (r := rIxT K) ix_tup (pv 0) (pv 4) (fun _ _ => rfl)) pa_nil))))
      (pss_one (ps_ret (pe_callTy call_tuple_of (by rfl) mT bt_tuple (pa_cons (pe_op op_cat (pv 3)
        (pe_mid (pe_lc (own := [("at", 4)]) (g := gName 4) (tt := tYes) rfl sc_way.nd
          (pi_range2 (by rfl) mR (pa_cons (pv 2) (pa_cons (pe_callB call_len_seq (by rfl) mL bt_len (pa_cons (pv 1) pa_nil)) pa_nil)))
          (blkOk_by (own := [("at", 4)]) (N := ["one", "other", "many", "up", "at"]) (sc := defScope s_way) (by decide +kernel))
          (fun _ _ _ _ _ => pg_name (i := 4) sc_way.nd rfl (Or.inl rfl)) (fun _ _ _ _ _ => pts_nil)
          (fun _ _ _ _ _ => pe_tup (pa_cons (pe_slice (r := rSlA K) sl_tupA (pv 1) po_none (po_some (pv 4))) (pa_cons (pe_ix (r := rIxT K) ix_tup (pv 1) (pv 4) (fun _ _ => rfl)) pa_nil)))))) pa_nil))))), ?_⟩
    have c1 := cpl_le_left v u
    have c2 := cpl_le_right v u
    refine ⟨.ref a, rfl, .ref b, rfl, a, b, v, u, rfl, ha, hb, hv, hw, ?_⟩
    generalize hc : cpl v u = c at *
    refine ⟨fun σ H' => ∃ (D : Addr) (es : List Ed), σ = [some (.ref a), some (.ref b), some (.int c), some (.ref D), none] ∧ Same H H' ∧ H' D = some (.lst (refsE es)) ∧ Eds H' es ∧ es.map (·.2.2) = (v.drop c).reverse, ?_, ?_⟩
    · refine ⟨.ref a, rfl, a, _, rfl, .inr (sqT ha), ((v.map V.str).length : Int), 1, rfl, rfl, .int c, rfl, c, 1, rfl, rfl, 1, rfl, ((v.map V.str).length : Int) - 1, (c : Int) - 1, -1, _, rfl, RgC.neg (by omega) (by rw [List.length_map]; omega) (by omega) (by omega), fun D hD => ?_⟩
      have en : (((v.map V.str).length : Int) - 1 - ((c : Int) - 1)).toNat = v.length - c := by rw [List.length_map]; omega
      rw [en]
      refine lc_it walk_rangeC (fun i H2 => Same H H2 ∧ ∃ es : List Ed, H2 D = some (.lst (refsE es)) ∧ es.length = i ∧ Eds H2 es ∧ es.map (·.2.2) = (v.drop c).reverse.take i) ⟨same_new hD, [], upd_same, rfl, fun e m => absurd m List.not_mem_nil, by simp⟩ (fun _ _ _ _ => trivial) ?_ ?_
      · rintro i x H2 H3 hi ⟨s2, es, e2, l2, k2, q2⟩ hy
        obtain ⟨rfl, hx⟩ := hy
        have hj : v.length - 1 - i < v.length := by omega
        have ex : ((v.map V.str).length : Int) - 1 + (i : Nat) * -1 = ((v.length - 1 - i : Nat) : Int) := by rw [List.length_map]; omega
        have hx' : x = V.int ((v.length - 1 - i : Nat) : Int) := hx.trans (congrArg V.int ex)
        subst hx'
        refine ⟨rfl, yes_go ?_⟩
        refine edge_turn (K := K) (k := 0) (j := v.length - 1 - i) (l := v[v.length - 1 - i]) rfl rfl (Wd.same ha s2) (List.getElem?_eq_getElem hj) hv fun x H4 p s4 hp => ?_
        have e4 := s4 _ _ e2
        refine ⟨_, e4, lt_line (by rw [refsE, List.length_map]; omega), fun c' o ho => ?_, es ++ [(p, x, v[v.length - 1 - i])], ?_, by simp [l2], ?_, ?_⟩
        · rw [upd_ne (ne_of_none ho hD)]
          exact s4 _ _ (s2 _ _ ho)
        · rw [upd_same, refsE_app]; rfl
        · exact ((k2.same s4).snoc hp).upd e4
        · rw [List.map_append, q2, take_snoc ((back_get hi).trans (List.getElem?_eq_getElem hj))]; rfl
      · rintro H2 ⟨s2, es, e2, l2, k2, q2⟩
        exact ⟨D, es, rfl, s2, e2, k2, by rw [q2, List.take_of_length_le (by rw [List.length_reverse, List.length_drop]; exact Nat.le_refl _)]⟩
    · rintro σ H1 ⟨D, es, rfl, s1, e1, k1, q1⟩
      have lE : es.length = v.length - c := by
        have := congrArg List.length q1
        rwa [List.length_map, List.length_reverse, List.length_drop] at this
      refine ⟨.ref D, rfl, fun x H' => ∃ (D2 : Addr) (es2 : List Ed), x = .ref D2 ∧ Same H1 H' ∧ H' D2 = some (.lst (refsE es2)) ∧ Eds H' es2 ∧ es2.map (·.2.2) = u.drop c, ?_, ?_⟩
      · refine ⟨.int c, rfl, .ref b, rfl, b, _, rfl, .inr (sqT (s1 _ _ hb)), (c : Int), ((u.map V.str).length : Int), rfl, ⟨by omega, by omega, by omega, by rw [List.length_map]; omega⟩, fun D2 hD => ?_⟩
        have en : (((u.map V.str).length : Int) - (c : Int)).toNat = u.length - c := by rw [List.length_map]; omega
        rw [en]
        refine lc_range (lo := (c : Int)) (fun i H2 => Same H1 H2 ∧ ∃ es : List Ed, H2 D2 = some (.lst (refsE es)) ∧ es.length = i ∧ Eds H2 es ∧ es.map (·.2.2) = (u.drop c).take i) ⟨same_new hD, [], upd_same, rfl, fun e m => absurd m List.not_mem_nil, by simp⟩ ?_ ?_
        · rintro i H2 hi ⟨s2, es2, e2, l2, k2, q2⟩
          have hj : c + i < u.length := by omega
          have ex : (c : Int) + (i : Nat) = ((c + i : Nat) : Int) := by omega
          rw [ex]
          refine ⟨rfl, yes_go ?_⟩
          refine edge_turn (K := K) (k := 1) (j := c + i) (l := u[c + i]) rfl rfl (Wd.same hb (s1.trans s2)) (List.getElem?_eq_getElem hj) hw fun x H4 p s4 hp => ?_
          have e4 := s4 _ _ e2
          refine ⟨_, e4, lt_line (by rw [refsE, List.length_map]; omega), fun c' o ho => ?_, es2 ++ [(p, x, u[c + i])], ?_, by simp [l2], ?_, ?_⟩
          · rw [upd_ne (ne_of_none ho hD)]
            exact s4 _ _ (s2 _ _ ho)
          · rw [upd_same, refsE_app]; rfl
          · exact ((k2.same s4).snoc hp).upd e4
          · rw [List.map_append, q2, take_snoc (by rw [List.getElem?_drop]; exact List.getElem?_eq_getElem hj)]; rfl
        · rintro H2 ⟨s2, es2, e2, l2, k2, q2⟩
          exact ⟨D2, es2, rfl, s2, e2, k2, by rw [q2, List.take_of_length_le (by rw [List.length_drop]; exact Nat.le_refl _)]⟩
      · rintro x H2 ⟨D2, es2, rfl, s2, e2, k2, q2⟩
        have lE2 : es2.length = u.length - c := by
          have := congrArg List.length q2
          rwa [List.length_map, List.length_drop] at this
        refine ⟨D, D2, refsE es, refsE es2, rfl, rfl, s2 _ _ e1, e2, le_line (by rw [refsE, refsE, List.length_map, List.length_map]; omega), fun p hp => ⟨p, refsE es ++ refsE es2, rfl, .inl ⟨sqL upd_same, fun l hl => ?_⟩⟩⟩
        have s3 := same_new (o := .lst (refsE es ++ refsE es2)) hp
        refine q _ l (es ++ es2) (((s1.trans s2).trans s3).trans (same_new hl)) (by rw [upd_same, refsE_app]) ?_ ?_
        · intro e m
          rcases List.mem_append.mp m with m | m
          · exact upd_other (s3 _ _ (s2 _ _ (k1 e m))) hl
          · exact upd_other (s3 _ _ (k2 e m)) hl
        · rw [List.map_append, q1, q2, labels, hc]
end
end K25
/-! edges_with, leases_of, _law_leases, _law_end. -/
namespace K25
open PySem PySem.Spec PyProof.Rows L2
section
variable {P : Program} {w : World} {K : PySem.W.Frag} {mg : Str → Option Value} {base : Heap}
/-! ### edges_with -/
def sp_edges : Sp := fun vs H Q _ => ∃ (a : Addr) (t : Str) (es : List Ed), vs = [.ref a, .str t] ∧ H a = some (.tup (refsE es)) ∧ Eds H es ∧ es.length ≤ 2000 ∧
  ∀ H' p xs, Same H H' → H' p = some (.tup xs) → xs.length = (es.map (·.2.2)).count t → Q (.ref p) H'
theorem ok_edges {f : Addr} {fd : FuncData} (F : Fun K "edges_with" "edges_with" s_edges_with f fd) (mT : mg "tuple" = none) : FnOk P w K mg base CX0 1 f fd ["edges", "service"] sp_edges := by
  refine F.ok sc_edges_with (fun vs H Q E h => ?_) (fun cdv A outer s H vs Q E hr h => ?_)
  · obtain ⟨a, t, es, rfl, _⟩ := h
    rfl
  · obtain ⟨a, t, es, rfl, ha, he, hl, q⟩ := h
    refine ⟨_, pss_one (ps_ret (pe_callTy call_tuple_of (by rfl) mT bt_tuple (pa_cons (pe_lc (own := [("edge", 2)]) (g := gName 2) (te := tVar 2) rfl sc_edges_with.nd (pi_tup (pv 0))
      (blkOk_by (own := [("edge", 2)]) (N := ["edges", "service", "edge"]) (sc := defScope s_edges_with) (by decide +kernel))
      (fun _ _ _ _ _ => pg_name (i := 2) sc_edges_with.nd rfl (Or.inl rfl))
      (fun _ _ _ _ _ => pts_one (pt_cmpR op_eq (pe_ix (r := rIxT K) ix_tup (pv 2) pe_int (fun _ _ => rfl)) (pv 1) (nomark _)))
      (fun _ _ _ _ _ => pv 2)) pa_nil))), ?_⟩
    refine ⟨.ref a, rfl, a, rfl, ⟨_, sqT ha⟩, fun D hD => ?_⟩
    refine lc_tup (K := K) (a := a) (xs := refsE es) (fun i H2 => Same H H2 ∧ ∃ xs, H2 D = some (.lst xs) ∧ xs.length ≤ i ∧ xs.length = ((es.map (·.2.2)).take i).count t) ⟨same_new hD, [], upd_same, Nat.zero_le _, rfl⟩ (fun i H2 _ h2 => sqT (h2.1 _ _ ha)) ?_ ?_
    · rintro i x H2 hx ⟨s2, xs, e2, l2, c2⟩
      have hi : i < es.length := by
        have := (List.getElem?_eq_some_iff.mp hx).1
        rwa [refsE, List.length_map] at this
      have hx' : x = .ref es[i].1 := by
        rw [refsE, List.getElem?_map, List.getElem?_eq_getElem hi] at hx
        exact (Option.some.inj hx).symm
      subst hx'
      have hm := s2 _ _ (he es[i] (List.getElem_mem hi))
      have hc : ((es.map (·.2.2)).take (i + 1)).count t = ((es.map (·.2.2)).take i).count t + if es[i].2.2 = t then 1 else 0 := by
        rw [take_snoc (x := es[i].2.2) (by rw [List.getElem?_map, List.getElem?_eq_getElem hi]; rfl), count_snoc]
      refine ⟨rfl, .ref es[i].1, rfl, es[i].1, _, 1, .str es[i].2.2, rfl, rfl, sqT hm, atI_nat (j := 1) rfl, .str t, rfl, rfl, _, rfl, ?_⟩
      by_cases e : es[i].2.2 = t
      · rw [if_pos e] at hc
        refine ite2 (fun _ => ?_) (fun k => absurd (by rw [e]; simp) k)
        refine ⟨.ref es[i].1, rfl, xs, e2, lt_line (by omega), fun c o ho => ?_, _, upd_same, by rw [List.length_append, List.length_singleton]; omega, by rw [List.length_append, List.length_singleton, hc, c2]⟩
        rw [upd_ne (ne_of_none ho hD)]
        exact s2 _ _ ho
      · rw [if_neg e] at hc
        refine ite2 (fun k => absurd (of_decide_eq_true k) (fun e' => e (by injection e'))) (fun _ => ?_)
        exact ⟨s2, xs, e2, by omega, by rw [hc, c2]; rfl⟩
    · rintro H2 ⟨s2, xs, e2, l2, c2⟩
      refine ⟨D, _, rfl, .inl ⟨sqL e2, fun p hp => q _ p xs (s2.trans (same_new hp)) upd_same ?_⟩⟩
      rw [c2, List.take_of_length_le (by rw [refsE, List.length_map, List.length_map]; exact Nat.le_refl _)]
/-! ### leases -/
def refsT (ps : List TI) : List V := ps.map fun p => V.ref p.1
def TIs (H : Hp) (ps : List TI) : Prop := ∀ p ∈ ps, H p.1 = some (.tup [.str p.2.1, .int p.2.2])
theorem TIs.same {H H' : Hp} {ps : List TI} (h : TIs H ps) (s : Same H H') : TIs H' ps := fun e m => s _ _ (h e m)
theorem TIs.upd {H : Hp} {es : List TI} {D : Addr} {xs : List V} {o : HO} (h : TIs H es) (hD : H D = some (.lst xs)) : TIs (upd H D o) es := fun e m => by
  rw [upd_ne (ne_of (h e m) hD (by simp))]
  exact h e m
theorem TIs.snoc {H : Hp} {es : List TI} {p : Addr} {t : Str} {l : Int} (h : TIs H es) (hp : H p = some (.tup [.str t, .int l])) : TIs H (es ++ [(p, t, l)]) := fun e m => by
  rcases List.mem_append.mp m with m | m
  · exact h e m
  · rw [List.mem_singleton.mp m]; exact hp
theorem TIs.app {H : Hp} {as bs : List TI} (h : TIs H as) (k : TIs H bs) : TIs H (as ++ bs) := fun e m => by
  rcases List.mem_append.mp m with m | m
  · exact h e m
  · exact k e m
theorem refsT_app (a b : List TI) : refsT (a ++ b) = refsT a ++ refsT b := List.map_append
def leaseS (svs : List Str) : List (Str × Int) := svs.map fun s => (s, 0)
def leaseR (rs : List Str) : List (Str × Int) := (List.range rs.length).map fun j => (rs.getD j default, ((j : Nat) : Int) + 1)
theorem leaseR_len (rs : List Str) : (leaseR rs).length = rs.length := by rw [leaseR, List.length_map, List.length_range]
theorem leaseR_get {rs : List Str} {j : Nat} (h : j < rs.length) : (leaseR rs)[j]? = some (rs[j], (j : Int) + 1) := by
  rw [leaseR, List.getElem?_map, List.getElem?_range h, Option.map_some, List.getD_eq_getElem?_getD, List.getElem?_eq_getElem h, Option.getD_some]
/-- the leases of a fleet, in their order -/
def leasesL (svs rs : List Str) : List (Str × Int) := srt (leaseS svs ++ leaseR rs)
theorem leasesL_len (svs rs : List Str) : (leasesL svs rs).length = svs.length + rs.length := by rw [leasesL, (srt_perm _).length_eq, List.length_append, leaseR_len, leaseS, List.length_map]
/-! ### leases_of -/
def sp_leases_of : Sp := fun vs H Q _ => ∃ (a : Addr) (svs : List Str) (pls : List Int) (rs : List Str), vs = [.ref a] ∧ Fleet H a svs pls rs ∧ svs.length ≤ 60 ∧ rs.length ≤ 60 ∧
  ∀ H' p (ps : List TI), Same H H' → H p = none → H' p = some (.tup (refsT ps)) → TIs H' ps → ps.map (·.2) = leasesL svs rs → Q (.ref p) H'
theorem ok_leases_of {f : Addr} {fd : FuncData} (F : Fun K "leases_of" "leases_of" s_leases_of f fd) (mT : mg "tuple" = none) (mS : mg "sorted" = none) (mE : mg "enumerate" = none) : FnOk P w K mg base CX0 1 f fd ["fleet"] sp_leases_of := by
  refine F.ok sc_leases_of (fun vs H Q E h => ?_) (fun cdv A outer s H vs Q E hr h => ?_)
  · obtain ⟨a, svs, pls, rs, rfl, _⟩ := h
    rfl
  · obtain ⟨a, svs, pls, rs, rfl, Fl, hv, hw, q⟩ := h
    refine ⟨_, pss_mid (ps_setLc (i := 1) (own := [("service", 2)]) (g := gName 2) (tt := tYes) (te := tTup (tCons (tVar 2) (tCons (tC (.int 0)) tNil))) rfl sc_leases_of.nd rfl rfl rfl
          (pi_tup (pe_ix ix_tup (pv 0) pe_int (fun _ _ => rfl)))
          (blkOk_by (own := [("service", 2)]) (N := ["fleet", "first", "service", "number"]) (sc := defScope s_leases_of) (by decide +kernel))
          (fun _ _ _ _ _ => pg_name (i := 2) sc_leases_of.nd rfl (Or.inl rfl)) (fun _ _ _ _ _ => pts_nil)
          (fun _ _ _ _ _ => pe_tup (pa_cons (pv 2) (pa_cons pe_int pa_nil))))
      (pss_one (ps_ret (pe_callTy call_tuple_of (by rfl) mT bt_tuple (pa_cons (pe_callB (cr_sortedL hr.units) (by rfl) mS bt_sorted (pa_cons (pe_op op_cat (pv 1) (pe_mid
        (pe_lc (own := [("number", 3), ("service", 2)]) (g := gTup K 2 (gCons (gName 3) (gCons (gName 2) gNil))) (tt := tYes) (te := tTup (tCons (tVar 2) (tCons (tOp (rI0 fun i j => .int (i + j)) (tVar 3) (tC (.int 1))) tNil))) rfl sc_leases_of.nd
          (pi_enumT (by rfl) mE (pa_cons (pe_ix ix_tup (pv 0) pe_int (fun _ _ => rfl)) pa_nil))
          (blkOk_by (own := [("number", 3), ("service", 2)]) (N := ["fleet", "first", "service", "number"]) (sc := defScope s_leases_of) (by decide +kernel))
          (fun _ _ _ _ _ => pg_tup rfl (pgs_cons (pg_name (i := 3) sc_leases_of.nd rfl (Or.inl rfl)) (pgs_cons (pg_name (i := 2) sc_leases_of.nd rfl (Or.inl rfl)) pgs_nil)))
          (fun _ _ _ _ _ => pts_nil)
          (fun _ _ _ _ _ => pe_tup (pa_cons (pv 2) (pa_cons (pe_op op_add (pv 3) pe_int) pa_nil)))))) pa_nil)) pa_nil)))), ?_⟩
    obtain ⟨sa, pa, ra, f1, f2, f3, f4⟩ := Fl.ex
    refine ⟨fun σ H' => ∃ (D : Addr) (es : List TI), σ = [some (.ref a), some (.ref D), none, none] ∧ Same H H' ∧ H D = none ∧ H' D = some (.lst (refsT es)) ∧ TIs H' es ∧ es.map (·.2) = leaseS svs, ?_, ?_⟩
    · refine ⟨.ref a, rfl, a, _, 0, .ref sa, rfl, rfl, sqT f1, atI_nat (j := 0) rfl, sa, rfl, ⟨_, sqT f2⟩, fun D hD => ?_⟩
      refine lc_tup (K := K) (a := sa) (xs := svs.map V.str) (fun i H2 => Same H H2 ∧ ∃ es : List TI, H2 D = some (.lst (refsT es)) ∧ es.length = i ∧ TIs H2 es ∧ es.map (·.2) = (leaseS svs).take i) ⟨same_new hD, [], upd_same, rfl, fun e m => absurd m List.not_mem_nil, rfl⟩ (fun i H2 _ h2 => sqT (h2.1 _ _ f2)) ?_ ?_
      · rintro i x H2 hx ⟨s2, es, e2, l2, k2, q2⟩
        have hi : i < svs.length := by
          have := (List.getElem?_eq_some_iff.mp hx).1
          rwa [List.length_map] at this
        have hx' : x = .str svs[i] := by
          rw [List.getElem?_map, List.getElem?_eq_getElem hi] at hx
          exact (Option.some.inj hx).symm
        subst hx'
        refine ⟨rfl, yes_go ?_⟩
        refine ⟨.str svs[i], rfl, le_line (by show 2 ≤ 10000; decide), fun p hp => ?_⟩
        have e4 := upd_other (o := .tup [.str svs[i], .int 0]) e2 hp
        refine ⟨_, e4, lt_line (by rw [refsT, List.length_map]; omega), fun c o ho => ?_, es ++ [(p, svs[i], 0)], ?_, by simp [l2], ?_, ?_⟩
        · rw [upd_ne (ne_of_none ho hD)]
          exact upd_other (s2 _ _ ho) hp
        · rw [upd_same, refsT_app]; rfl
        · exact ((k2.same (same_new hp)).snoc upd_same).upd e4
        · rw [List.map_append, q2, take_snoc (x := (svs[i], (0 : Int))) (by rw [leaseS, List.getElem?_map, List.getElem?_eq_getElem hi]; rfl)]; rfl
      · rintro H2 ⟨s2, es, e2, l2, k2, q2⟩
        exact ⟨D, es, rfl, s2, hD, e2, k2, by rw [q2, List.take_of_length_le (by rw [leaseS, List.length_map, List.length_map]; exact Nat.le_refl _)]⟩
    · rintro σ H1 ⟨D, es, rfl, s1, hD0, e1, k1, q1⟩
      have lE : es.length = svs.length := by
        have := congrArg List.length q1
        rwa [List.length_map, leaseS, List.length_map] at this
      refine ⟨.ref D, rfl, fun x H' => ∃ (D2 : Addr) (es2 : List TI), x = .ref D2 ∧ Same H1 H' ∧ H' D2 = some (.lst (refsT es2)) ∧ TIs H' es2 ∧ es2.map (·.2) = leaseR rs, ?_, ?_⟩
      · refine ⟨.ref a, rfl, a, _, 2, .ref ra, rfl, rfl, sqT (s1 _ _ f1), atI_nat (j := 2) rfl, ra, rs.map V.str, rfl, sqT (s1 _ _ f4), fun D2 hD => ?_⟩
        refine lc_it (walk_enumT (K := K) (a := ra) (xs := rs.map V.str)) (fun i H2 => Same H1 H2 ∧ ∃ es : List TI, H2 D2 = some (.lst (refsT es)) ∧ es.length = i ∧ TIs H2 es ∧ es.map (·.2) = (leaseR rs).take i) ⟨same_new hD, [], upd_same, rfl, fun e m => absurd m List.not_mem_nil, rfl⟩ (fun i H2 _ h2 => sqT (h2.1 _ _ (s1 _ _ f4))) ?_ ?_
        · rintro i x H2 H3 hi ⟨s2, es2, e2, l2, k2, q2⟩ ⟨T, x1, x2, rfl, hT, rfl, y1, y2⟩
          rw [List.length_map] at hi
          have hx1 : x1 = .int (i : Nat) := (Option.some.inj y1).symm
          have hx2 : x2 = .str rs[i] := by
            have y2' : (rs.map V.str)[i]? = some x2 := y2
            rw [List.getElem?_map, List.getElem?_eq_getElem hi] at y2'
            exact (Option.some.inj y2').symm
          subst hx1 hx2
          refine ⟨T, _, rfl, sqT upd_same, rfl, _, _, rfl, _, _, rfl, rfl, rfl, yes_go ?_⟩
          refine ⟨.str rs[i], rfl, .int (i : Nat), rfl, (i : Nat), 1, rfl, rfl, le_line (by show 2 ≤ 10000; decide), fun p hp => ?_⟩
          have st := same_new (o := .tup [.int (i : Nat), .str rs[i]]) hT
          have e4 := upd_other (o := .tup [.str rs[i], .int ((i : Nat) + 1)]) (st _ _ e2) hp
          refine ⟨_, e4, lt_line (by rw [refsT, List.length_map]; omega), fun c o ho => ?_, es2 ++ [(p, rs[i], ((i : Nat) : Int) + 1)], ?_, by simp [l2], ?_, ?_⟩
          · rw [upd_ne (ne_of_none ho hD)]
            exact upd_other (st _ _ (s2 _ _ ho)) hp
          · rw [upd_same, refsT_app]; rfl
          · exact (((k2.same st).same (same_new hp)).snoc upd_same).upd e4
          · rw [List.map_append, q2, take_snoc (leaseR_get hi)]; rfl
        · rintro H2 ⟨s2, es2, e2, l2, k2, q2⟩
          exact ⟨D2, es2, rfl, s2, e2, k2, by rw [q2, List.take_of_length_le (by rw [leaseR_len, List.length_map]; exact Nat.le_refl _)]⟩
      · rintro x H2 ⟨D2, es2, rfl, s2, e2, k2, q2⟩
        have lE2 : es2.length = rs.length := by
          have := congrArg List.length q2
          rwa [List.length_map, leaseR_len] at this
        refine ⟨D, D2, refsT es, refsT es2, rfl, rfl, s2 _ _ e1, e2, le_line (by rw [refsT, refsT, List.length_map, List.length_map]; omega), fun p hp => ⟨p, es ++ es2, rfl, sqL (by rw [upd_same]; show _ = some (HO.lst (refsT (es ++ es2))); rw [refsT_app]), ?_, fun qs l pm hq hl => ?_⟩⟩
        · exact ((k1.same s2).app k2).same (same_new hp)
        · have s3 := ((s1.trans s2).trans (same_new (o := .lst (refsT es ++ refsT es2)) hp))
          have kq : TIs (upd (upd H2 p (.lst (refsT es ++ refsT es2))) l (.lst (refsT qs))) qs := fun e m => (((k1.same s2).app k2).same (same_new hp)).same (same_new hl) e (pm.mem_iff.mp m)
          have eq : qs.map (·.2) = leasesL svs rs := by rw [hq, List.map_append, q1, q2]; rfl
          refine ⟨l, refsT qs, rfl, .inl ⟨sqL upd_same, fun m hm => ?_⟩⟩
          exact q _ m qs ((s3.trans (same_new hl)).trans (same_new hm)) (s3.free ((same_new hl).free hm)) upd_same (kq.same (same_new hm)) eq
/-! ### _law_leases -/
def sp_w_leases : Sp := fun vs H Q _ => ∃ (a : Addr) (svs : List Str) (pls : List Int) (rs : List Str), vs = [.ref a] ∧ Fleet H a svs pls rs ∧ svs.length ≤ 60 ∧ rs.length ≤ 60 ∧
  ∀ H' p (ps : List TI), Same H H' → H p = none → H' p = some (.lst (refsT ps)) → TIs H' ps → ps.map (·.2) = leasesL svs rs → Q (.ref p) H'
theorem ok_w_leases {f : Addr} {fd : FuncData} (F : Fun K "_law_leases" "_law_leases" s_w_leases f fd) (mS : mg "sorted" = none) (mE : mg "enumerate" = none) : FnOk P w K mg base CX0 1 f fd ["_law_fleet_here"] sp_w_leases := by
  refine F.ok sc_w_leases (fun vs H Q E h => ?_) (fun cdv A outer s H vs Q E hr h => ?_)
  · obtain ⟨a, svs, pls, rs, rfl, _⟩ := h
    rfl
  · obtain ⟨a, svs, pls, rs, rfl, Fl, hv, hw, q⟩ := h
    refine ⟨_, pss_mid (ps_setLc (i := 1) (own := [("_law_service", 2)]) (g := gName 2) (tt := tYes) (te := tTup (tCons (tVar 2) (tCons (tC (.int 0)) tNil))) rfl sc_w_leases.nd rfl rfl rfl
          (pi_tup (pe_ix ix_tup (pv 0) pe_int (fun _ _ => rfl)))
          (blkOk_by (own := [("_law_service", 2)]) (N := ["_law_fleet_here", "_law_found", "_law_service", "_law_j"]) (sc := defScope s_w_leases) (by decide +kernel))
          (fun _ _ _ _ _ => pg_name (i := 2) sc_w_leases.nd rfl (Or.inl rfl)) (fun _ _ _ _ _ => pts_nil)
          (fun _ _ _ _ _ => pe_tup (pa_cons (pv 2) (pa_cons pe_int pa_nil))))
      (pss_one (ps_ret (pe_callB (cr_sortedL hr.units) (by rfl) mS bt_sorted (pa_cons (pe_op op_cat (pv 1) (pe_mid
        (pe_lc (own := [("_law_j", 3), ("_law_service", 2)]) (g := gTup K 2 (gCons (gName 3) (gCons (gName 2) gNil))) (tt := tYes) (te := tTup (tCons (tVar 2) (tCons (tOp (rI0 fun i j => .int (i + j)) (tVar 3) (tC (.int 1))) tNil))) rfl sc_w_leases.nd
          (pi_enumT (by rfl) mE (pa_cons (pe_ix ix_tup (pv 0) pe_int (fun _ _ => rfl)) pa_nil))
          (blkOk_by (own := [("_law_j", 3), ("_law_service", 2)]) (N := ["_law_fleet_here", "_law_found", "_law_service", "_law_j"]) (sc := defScope s_w_leases) (by decide +kernel))
          (fun _ _ _ _ _ => pg_tup rfl (pgs_cons (pg_name (i := 3) sc_w_leases.nd rfl (Or.inl rfl)) (pgs_cons (pg_name (i := 2) sc_w_leases.nd rfl (Or.inl rfl)) pgs_nil)))
          (fun _ _ _ _ _ => pts_nil)
          (fun _ _ _ _ _ => pe_tup (pa_cons (pv 2) (pa_cons (pe_op op_add (pv 3) pe_int) pa_nil)))))) pa_nil)))), ?_⟩
    obtain ⟨sa, pa, ra, f1, f2, f3, f4⟩ := Fl.ex
    refine ⟨fun σ H' => ∃ (D : Addr) (es : List TI), σ = [some (.ref a), some (.ref D), none, none] ∧ Same H H' ∧ H D = none ∧ H' D = some (.lst (refsT es)) ∧ TIs H' es ∧ es.map (·.2) = leaseS svs, ?_, ?_⟩
    · refine ⟨.ref a, rfl, a, _, 0, .ref sa, rfl, rfl, sqT f1, atI_nat (j := 0) rfl, sa, rfl, ⟨_, sqT f2⟩, fun D hD => ?_⟩
      refine lc_tup (K := K) (a := sa) (xs := svs.map V.str) (fun i H2 => Same H H2 ∧ ∃ es : List TI, H2 D = some (.lst (refsT es)) ∧ es.length = i ∧ TIs H2 es ∧ es.map (·.2) = (leaseS svs).take i) ⟨same_new hD, [], upd_same, rfl, fun e m => absurd m List.not_mem_nil, rfl⟩ (fun i H2 _ h2 => sqT (h2.1 _ _ f2)) ?_ ?_
      · rintro i x H2 hx ⟨s2, es, e2, l2, k2, q2⟩
        have hi : i < svs.length := by
          have := (List.getElem?_eq_some_iff.mp hx).1
          rwa [List.length_map] at this
        have hx' : x = .str svs[i] := by
          rw [List.getElem?_map, List.getElem?_eq_getElem hi] at hx
          exact (Option.some.inj hx).symm
        subst hx'
        refine ⟨rfl, yes_go ?_⟩
        refine ⟨.str svs[i], rfl, le_line (by show 2 ≤ 10000; decide), fun p hp => ?_⟩
        have e4 := upd_other (o := .tup [.str svs[i], .int 0]) e2 hp
        refine ⟨_, e4, lt_line (by rw [refsT, List.length_map]; omega), fun c o ho => ?_, es ++ [(p, svs[i], 0)], ?_, by simp [l2], ?_, ?_⟩
        · rw [upd_ne (ne_of_none ho hD)]
          exact upd_other (s2 _ _ ho) hp
        · rw [upd_same, refsT_app]; rfl
        · exact ((k2.same (same_new hp)).snoc upd_same).upd e4
        · rw [List.map_append, q2, take_snoc (x := (svs[i], (0 : Int))) (by rw [leaseS, List.getElem?_map, List.getElem?_eq_getElem hi]; rfl)]; rfl
      · rintro H2 ⟨s2, es, e2, l2, k2, q2⟩
        exact ⟨D, es, rfl, s2, hD, e2, k2, by rw [q2, List.take_of_length_le (by rw [leaseS, List.length_map, List.length_map]; exact Nat.le_refl _)]⟩
    · rintro σ H1 ⟨D, es, rfl, s1, hD0, e1, k1, q1⟩
      have lE : es.length = svs.length := by
        have := congrArg List.length q1
        rwa [List.length_map, leaseS, List.length_map] at this
      refine ⟨.ref D, rfl, fun x H' => ∃ (D2 : Addr) (es2 : List TI), x = .ref D2 ∧ Same H1 H' ∧ H' D2 = some (.lst (refsT es2)) ∧ TIs H' es2 ∧ es2.map (·.2) = leaseR rs, ?_, ?_⟩
      · refine ⟨.ref a, rfl, a, _, 2, .ref ra, rfl, rfl, sqT (s1 _ _ f1), atI_nat (j := 2) rfl, ra, rs.map V.str, rfl, sqT (s1 _ _ f4), fun D2 hD => ?_⟩
        refine lc_it (walk_enumT (K := K) (a := ra) (xs := rs.map V.str)) (fun i H2 => Same H1 H2 ∧ ∃ es : List TI, H2 D2 = some (.lst (refsT es)) ∧ es.length = i ∧ TIs H2 es ∧ es.map (·.2) = (leaseR rs).take i) ⟨same_new hD, [], upd_same, rfl, fun e m => absurd m List.not_mem_nil, rfl⟩ (fun i H2 _ h2 => sqT (h2.1 _ _ (s1 _ _ f4))) ?_ ?_
        · rintro i x H2 H3 hi ⟨s2, es2, e2, l2, k2, q2⟩ ⟨T, x1, x2, rfl, hT, rfl, y1, y2⟩
          rw [List.length_map] at hi
          have hx1 : x1 = .int (i : Nat) := (Option.some.inj y1).symm
          have hx2 : x2 = .str rs[i] := by
            have y2' : (rs.map V.str)[i]? = some x2 := y2
            rw [List.getElem?_map, List.getElem?_eq_getElem hi] at y2'
            exact (Option.some.inj y2').symm
          subst hx1 hx2
          refine ⟨T, _, rfl, sqT upd_same, rfl, _, _, rfl, _, _, rfl, rfl, rfl, yes_go ?_⟩
          refine ⟨.str rs[i], rfl, .int (i : Nat), rfl, (i : Nat), 1, rfl, rfl, le_line (by show 2 ≤ 10000; decide), fun p hp => ?_⟩
          have st := same_new (o := .tup [.int (i : Nat), .str rs[i]]) hT
          have e4 := upd_other (o := .tup [.str rs[i], .int ((i : Nat) + 1)]) (st _ _ e2) hp
          refine ⟨_, e4, lt_line (by rw [refsT, List.length_map]; omega), fun c o ho => ?_, es2 ++ [(p, rs[i], ((i : Nat) : Int) + 1)], ?_, by simp [l2], ?_, ?_⟩
          · rw [upd_ne (ne_of_none ho hD)]
            exact upd_other (st _ _ (s2 _ _ ho)) hp
          · rw [upd_same, refsT_app]; rfl
          · exact (((k2.same st).same (same_new hp)).snoc upd_same).upd e4
          · rw [List.map_append, q2, take_snoc (leaseR_get hi)]; rfl
        · rintro H2 ⟨s2, es2, e2, l2, k2, q2⟩
          exact ⟨D2, es2, rfl, s2, e2, k2, by rw [q2, List.take_of_length_le (by rw [leaseR_len, List.length_map]; exact Nat.le_refl _)]⟩
      · rintro x H2 ⟨D2, es2, rfl, s2, e2, k2, q2⟩
        have lE2 : es2.length = rs.length := by
          have := congrArg List.length q2
          rwa [List.length_map, leaseR_len] at this
        refine ⟨D, D2, refsT es, refsT es2, rfl, rfl, s2 _ _ e1, e2, le_line (by rw [refsT, refsT, List.length_map, List.length_map]; omega), fun p hp => ⟨p, es ++ es2, rfl, sqL (by rw [upd_same]; show _ = some (HO.lst (refsT (es ++ es2))); rw [refsT_app]), ?_, fun qs l pm hq hl => ?_⟩⟩
        · exact ((k1.same s2).app k2).same (same_new hp)
        · have s3 := ((s1.trans s2).trans (same_new (o := .lst (refsT es ++ refsT es2)) hp))
          have kq : TIs (upd (upd H2 p (.lst (refsT es ++ refsT es2))) l (.lst (refsT qs))) qs := fun e m => (((k1.same s2).app k2).same (same_new hp)).same (same_new hl) e (pm.mem_iff.mp m)
          have eq : qs.map (·.2) = leasesL svs rs := by rw [hq, List.map_append, q1, q2]; rfl
          exact q _ l qs (s3.trans (same_new hl)) (s3.free hl) upd_same kq eq
/-! ### _law_end -/
def sp_end : Sp := fun vs H Q _ => ∃ (a l : Addr) (svs : List Str) (pls : List Int) (rs : List Str) (t : Str) (b : Nat), vs = [.ref a, .ref l] ∧ Fleet H a svs pls rs ∧ H l = some (.tup [.str t, .int (b : Nat)]) ∧ b ≤ rs.length ∧ rs.length ≤ 60 ∧
  ∀ H' (e : Nat), Same H H' → IsEnd rs t b e → Q (.int (e : Nat)) H'
theorem ok_end {f : Addr} {fd : FuncData} (F : Fun K "_law_end" "_law_end" s_w_end f fd) (mL : mg "len" = none) (mE : mg "enumerate" = none) : FnOk P w K mg base CX0 1 f fd ["_law_fleet_here", "_law_lease"] sp_end := by
  refine F.ok sc_w_end (fun vs H Q E h => ?_) (fun cdv A outer s H vs Q E hr h => ?_)
  · obtain ⟨a, l, svs, pls, rs, t, b, rfl, _⟩ := h
    rfl
  · obtain ⟨a, l, svs, pls, rs, t, b, rfl, Fl, hl, hb, hw, q⟩ := h
    refine ⟨_, pss_cons (ps_asg (pv 1) (pg_tup rfl (pgs_cons (pg_name (i := 2) sc_w_end.nd rfl (Or.inl rfl)) (pgs_cons (pg_name (i := 3) sc_w_end.nd rfl (Or.inl rfl)) pgs_nil))))
      (pss_cons (ps_for PassesOwn.never rfl (pi_enumT (by rfl) mE (pa_cons (pe_ix ix_tup (pv 0) pe_int (fun _ _ => rfl)) pa_nil))
        (pg_tup rfl (pgs_cons (pg_name (i := 4) sc_w_end.nd rfl (Or.inl rfl)) (pgs_cons (pg_name (i := 5) sc_w_end.nd rfl (Or.inl rfl)) pgs_nil)))
        (pss_one (ps_if (PW.pt (pw_and (pt_cmpR op_ge (pv 4) (pv 3) (nomark _)) (pw_and1 (pt_cmpR op_eq (pv 5) (pv 2) (nomark _))))) (pss_one (ps_ret (pv 4))) pss_nil)))
      (pss_one (ps_ret (pe_callB call_len_seq (by rfl) mL bt_len (pa_cons (pe_ix ix_tup (pv 0) pe_int (fun _ _ => rfl)) pa_nil))))), ?_⟩
    obtain ⟨sa, pa, ra, f1, f2, f3, f4⟩ := Fl.ex
    refine ⟨.ref l, rfl, l, _, rfl, sqT hl, rfl, _, _, rfl, _, _, rfl, rfl, ?_⟩
    refine ⟨.ref a, rfl, a, _, 2, .ref ra, rfl, rfl, sqT f1, atI_nat (j := 2) rfl, ra, rs.map V.str, rfl, sqT f4, ?_⟩
    refine for_it (walk_enumT (K := K) (a := ra) (xs := rs.map V.str)) (fun i σ H2 => ∃ y4 y5, σ = [some (.ref a), some (.ref l), some (.str t), some (.int (b : Nat)), y4, y5] ∧ Same H H2 ∧ ∀ j, b ≤ j → j < i → rs[j]? ≠ some t)
      ⟨none, none, rfl, fun _ _ h => h, fun j _ h => absurd h (Nat.not_lt_zero j)⟩ (fun i σ H2 _ ⟨_, _, _, s2, _⟩ => sqT (s2 _ _ f4)) ?_ ?_
    · rintro i x σ H2 H3 hi ⟨y4, y5, rfl, s2, no⟩ ⟨T, x1, x2, rfl, hT, rfl, z1, z2⟩
      rw [List.length_map] at hi
      have hx1 : x1 = .int (i : Nat) := (Option.some.inj z1).symm
      have hx2 : x2 = .str rs[i] := by
        have y2' : (rs.map V.str)[i]? = some x2 := z2
        rw [List.getElem?_map, List.getElem?_eq_getElem hi] at y2'
        exact (Option.some.inj y2').symm
      subst hx1 hx2
      have s3 := s2.trans (same_new (o := .tup [.int (i : Nat), .str rs[i]]) hT)
      have nxt : ¬ (b ≤ i ∧ rs[i] = t) → ∀ j, b ≤ j → j < i + 1 → rs[j]? ≠ some t := fun h j h1 h2 e => by
        by_cases ej : j = i
        · subst ej
          rw [List.getElem?_eq_getElem hi] at e
          exact h ⟨h1, Option.some.inj e⟩
        · exact no j h1 (by omega) e
      refine ⟨T, _, rfl, sqT upd_same, rfl, _, _, rfl, _, _, rfl, rfl, .int (i : Nat), rfl, .int (b : Nat), rfl, (i : Nat), (b : Nat), rfl, rfl, _, rfl, ?_⟩
      by_cases hbi : b ≤ i
      · rw [decide_eq_true (by omega : (b : Int) ≤ (i : Int))]
        refine ite2 (fun _ => ?_) (fun k => absurd rfl k)
        refine ⟨.str rs[i], rfl, .str t, rfl, rfl, _, rfl, ?_⟩
        by_cases e : rs[i] = t
        · refine ite2 (fun _ => ?_) (fun k => absurd (by rw [e]; simp) k)
          exact ⟨.int (i : Nat), rfl, q _ i s3 ⟨hbi, by omega, no, fun _ => by rw [List.getElem?_eq_getElem hi, e]⟩⟩
        · refine ite2 (fun k => absurd (of_decide_eq_true k) (fun e' => e (by injection e'))) (fun _ => ?_)
          exact ⟨_, _, rfl, s3, nxt fun h => e h.2⟩
      · rw [decide_eq_false (by omega : ¬ (b : Int) ≤ (i : Int))]
        refine ite2 (fun k => absurd k (by decide)) (fun _ => ?_)
        refine ite2 (fun k => absurd k (by decide)) (fun _ => ?_)
        exact ⟨_, _, rfl, s3, nxt fun h => hbi h.1⟩
    · rintro σ H2 ⟨y4, y5, rfl, s2, no⟩
      rw [List.length_map] at no
      refine ⟨.ref a, rfl, a, _, 2, .ref ra, rfl, rfl, sqT (s2 _ _ f1), atI_nat (j := 2) rfl, ra, _, rfl, .inr (sqT (s2 _ _ f4)), ?_⟩
      have := q H2 rs.length s2 ⟨hb, Nat.le_refl _, no, fun h => absurd h (Nat.lt_irrefl _)⟩
      rwa [List.length_map]
end
end K25
/-! vertices_of, aparts, distance. -/
namespace K25
open PySem PySem.Spec PyProof.Rows L2
section
variable {P : Program} {w : World} {K : PySem.W.Frag} {mg : Str → Option Value} {base : Heap}
/-- the restarts of a plan -/
def pOf (ps : List Int) (k : Nat) : Bool := decide ((k : Int) ∈ ps)
theorem inV_ints (i : Int) (ps : List Int) : inV (.int i) (ps.map V.int) = decide (i ∈ ps) := by
  rw [Bool.eq_iff_iff]
  simp only [inV, List.any_eq_true, List.mem_map, decide_eq_true_eq]
  constructor
  · rintro ⟨_, ⟨j, hj, rfl⟩, e⟩
    have e' : j = i := by simpa [eqV] using e
    exact e' ▸ hj
  · intro h
    exact ⟨_, ⟨i, h, rfl⟩, by simp [eqV]⟩
theorem flat_ints (ps : List Int) : (ps.map V.int).all flatV = true := by
  simp [flatV]
/-- the vertices stand in xs, one for each time -/
def Verts (H : Hp) (xs : List V) (rs : List Str) (B : Nat → Bool) (n : Nat) : Prop := ∀ k, k ≤ n → ∃ q, xs[k]? = some (.ref q) ∧ Wd H q (vtx rs B k)
theorem Verts.same {H H' : Hp} {xs : List V} {rs : List Str} {B : Nat → Bool} {n : Nat} (h : Verts H xs rs B n) (s : Same H H') : Verts H' xs rs B n := fun k hk => let ⟨q, e, w⟩ := h k hk; ⟨q, e, s _ _ w⟩
def sp_vertices : Sp := fun vs H Q _ => ∃ (a c : Addr) (svs : List Str) (pls : List Int) (rs : List Str) (ps : List Int), vs = [.ref a, .ref c] ∧ Fleet H a svs pls rs ∧ rs.length ≤ 60 ∧ H c = some (.tup (ps.map V.int)) ∧
  ∀ H' p xs, Same H H' → H' p = some (.tup xs) → xs.length = rs.length + 1 → Verts H' xs rs (pOf ps) rs.length → Q (.ref p) H'
theorem ok_vertices {f : Addr} {fd : FuncData} (F : Fun K "vertices_of" "vertices_of" s_vertices_of f fd) (mT : mg "tuple" = none) (mE : mg "enumerate" = none) (CJ : Cal P w K mg base "joined" 2 ["first", "second"] sp_joined) :
    FnOk P w K mg base CX0 3 f fd ["fleet", "plan"] sp_vertices := by
  refine F.ok sc_vertices_of (fun vs H Q E h => ?_) (fun cdv A outer s H vs Q E hr h => ?_)
  · obtain ⟨a, c, svs, pls, rs, ps, rfl, _⟩ := h
    rfl
  · obtain ⟨a, c, svs, pls, rs, ps, rfl, Fl, hw, hc, q⟩ := h
    refine ⟨_, pss_cons (ps_set (i := 2) sc_vertices_of.nd rfl (.inl rfl) (pe_lst (pa_cons (pe_tup pa_nil) pa_nil)))
      (pss_cons (ps_for PassesOwn.never rfl (pi_enumT (by rfl) mE (pa_cons (pe_ix ix_tup (pv 0) pe_int (fun _ _ => rfl)) pa_nil))
        (pg_tup rfl (pgs_cons (pg_name (i := 3) sc_vertices_of.nd rfl (Or.inl rfl)) (pgs_cons (pg_name (i := 4) sc_vertices_of.nd rfl (Or.inl rfl)) pgs_nil)))
        (pss_one (ps_expr (pe_bm PySem.F.plainAttrs_list PySem.F.slot_list_append PySem.F.type_list_append mt_append (pv 2) (pa_cons
          (pe_mid (pe_ifExp (pt_cmpR op_in_seq (pv 3) (pv 1) (by rfl)) (CJ.pe hr (by decide) (by rfl) (pa_cons (pe_ix ix_list (pv 2) (pe_un un_neg pe_int) (fun _ _ => rfl)) (pa_cons (pe_tup (pa_cons (pv 4) pa_nil)) pa_nil)))
            (pe_ix ix_list (pv 2) (pe_un un_neg pe_int) (fun _ _ => rfl)))) pa_nil)))))
      (pss_one (ps_ret (pe_callTy call_tuple_of (by rfl) mT bt_tuple (pa_cons (pv 2) pa_nil))))), ?_⟩
    obtain ⟨sa, pa, ra, f1, f2, f3, f4⟩ := Fl.ex
    refine ⟨Nat.zero_le _, fun t0 ht0 => ⟨le_line (by show 1 ≤ 10000; decide), fun p hp => ?_⟩⟩
    have s0 : Same H (upd H t0 (.tup [])) := same_new ht0
    have hp0 : H p = none := s0.free hp
    refine ⟨.ref a, rfl, a, _, 2, .ref ra, rfl, rfl, sqT (upd_other (s0 _ _ f1) hp), atI_nat (j := 2) rfl, ra, rs.map V.str, rfl, sqT (upd_other (s0 _ _ f4) hp), ?_⟩
    refine for_it (walk_enumT (K := K) (a := ra) (xs := rs.map V.str)) (fun i σ H2 => ∃ y3 y4 xs, σ = [some (.ref a), some (.ref c), some (.ref p), y3, y4] ∧ (∀ c o, c ≠ p → H c = some o → H2 c = some o) ∧ H2 p = some (.lst xs) ∧ xs.length = i + 1 ∧ Verts H2 xs rs (pOf ps) i)
      ⟨none, none, [.ref t0], rfl, fun c o _ h => upd_other (s0 _ _ h) hp, upd_same, rfl, fun k hk => ?_⟩ (fun i σ H2 _ ⟨_, _, _, _, s2, _⟩ => sqT (s2 _ _ (ne_of_none f4 hp0) f4)) ?_ ?_
    · have : k = 0 := by omega
      subst this
      exact ⟨t0, rfl, upd_other upd_same hp⟩
    · rintro i x σ H2 H3 hi ⟨y3, y4, xs, rfl, s2, e2, l2, v2⟩ ⟨T, x1, x2, rfl, hT, rfl, z1, z2⟩
      rw [List.length_map] at hi
      have hx1 : x1 = .int (i : Nat) := (Option.some.inj z1).symm
      have hx2 : x2 = .str rs[i] := by
        have y2' : (rs.map V.str)[i]? = some x2 := z2
        rw [List.getElem?_map, List.getElem?_eq_getElem hi] at y2'
        exact (Option.some.inj y2').symm
      subst hx1 hx2
      have st := same_new (o := .tup [.int (i : Nat), .str rs[i]]) hT
      have e3 := st _ _ e2
      have c3 : upd H2 T (.tup [.int (i : Nat), .str rs[i]]) c = some (.tup (ps.map V.int)) := st _ _ (s2 _ _ (ne_of_none hc hp0) hc)
      obtain ⟨q0, hq, wq⟩ := v2 i (Nat.le_refl _)
      have hlast : xs.getLast? = some (.ref q0) := by rw [List.getLast?_eq_getElem?, l2]; exact hq
      have v3 := v2.same st
      have hvt := vtx_succ (P := pOf ps) (List.getElem?_eq_getElem hi)
      refine ⟨T, _, rfl, sqT upd_same, rfl, _, _, rfl, _, _, rfl, rfl, .ref p, rfl, .inl ⟨rfl, _, sqL e3⟩, fun v H' => ∃ q1, v = .ref q1 ∧ Same (upd H2 T (.tup [.int (i : Nat), .str rs[i]])) H' ∧ Wd H' q1 (vtx rs (pOf ps) (i + 1)), ?_, ?_⟩
      · refine ⟨.int (i : Nat), rfl, .ref c, rfl, c, ps.map V.int, rfl, .inr (sqT c3), rfl, flat_ints ps, inV (.int (i : Nat)) (ps.map V.int), rfl, ?_⟩
        rw [inV_ints]
        by_cases hm : (i : Int) ∈ ps
        · rw [decide_eq_true hm]
          rw [if_pos (show pOf ps i = true from decide_eq_true hm)] at hvt
          refine ite2 (fun _ => ?_) (fun k => absurd rfl k)
          refine ⟨.ref p, rfl, 1, rfl, p, xs, -1, .ref q0, rfl, rfl, sqL e3, last_at hlast, .str rs[i], rfl, le_line (by show 1 ≤ 10000; decide), fun u hu => ?_⟩
          refine ⟨q0, u, vtx rs (pOf ps) i, [rs[i]], rfl, upd_other (st _ _ wq) hu, upd_same, by have := vtx_len rs (pOf ps) i; simp only [List.length_singleton]; omega, fun H' p' s' w' => ?_⟩
          exact ⟨p', rfl, (same_new hu).trans s', by rw [hvt, ← Rd.joined (vtx_rd rs (pOf ps) i)]; exact w'⟩
        · rw [decide_eq_false hm]
          rw [if_neg (show ¬ pOf ps i = true from fun e => hm (of_decide_eq_true e))] at hvt
          refine ite2 (fun k => absurd k (by decide)) (fun _ => ?_)
          exact ⟨.ref p, rfl, 1, rfl, p, xs, -1, .ref q0, rfl, rfl, sqL e3, last_at hlast, q0, rfl, fun _ _ h => h, by rw [hvt]; exact st _ _ wq⟩
      · rintro v H4 ⟨q1, rfl, s4, w4⟩
        have e4 := s4 _ _ e3
        refine ⟨p, xs, .ref q1, rfl, rfl, e4, lt_line (by omega), _, _, _, rfl, fun c o h1 h => ?_, upd_same, by rw [List.length_append, List.length_singleton, l2], fun k hk => ?_⟩
        · rw [upd_ne h1]
          exact s4 _ _ (st _ _ (s2 _ _ h1 h))
        · by_cases ek : k = i + 1
          · subst ek
            exact ⟨q1, by rw [← l2]; simp, by show upd H4 p _ q1 = _; rw [upd_ne (ne_of w4 e4 (by simp))]; exact w4⟩
          · obtain ⟨qk, g1, g2⟩ := v3 k (by omega)
            have g3 := s4 _ _ g2
            exact ⟨qk, by rw [List.getElem?_append_left (by omega)]; exact g1, by show upd H4 p _ qk = _; rw [upd_ne (ne_of g3 e4 (by simp))]; exact g3⟩
    · rintro σ H2 ⟨y3, y4, xs, rfl, s2, e2, l2, v2⟩
      rw [List.length_map] at l2 v2
      refine ⟨.ref p, rfl, p, _, rfl, .inl ⟨sqL e2, fun l hl => q _ l xs (fun c o h => ?_) upd_same l2 (v2.same (same_new hl))⟩⟩
      exact upd_other (s2 _ _ (ne_of_none h hp0) h) hl
/-! ### aparts -/
theorem leasesL_mem {svs rs : List Str} {x : Str × Int} (h : x ∈ leasesL svs rs) : ∃ k : Nat, x.2 = (k : Int) ∧ k ≤ rs.length ∧ IsLease svs rs x.1 k := by
  rcases List.mem_append.mp ((srt_perm _).mem_iff.mp h) with h | h
  · obtain ⟨s, hs, rfl⟩ := List.mem_map.mp h
    exact ⟨0, rfl, Nat.zero_le _, .inl ⟨rfl, hs⟩⟩
  · obtain ⟨j, hj, rfl⟩ := List.mem_map.mp h
    rw [List.mem_range] at hj
    exact ⟨j + 1, rfl, hj, .inr ⟨j, rfl, by show rs[j]? = some (rs.getD j default); rw [List.getD_eq_getElem?_getD, List.getElem?_eq_getElem hj]; rfl⟩⟩
def farL (rs : List Str) (B W : Nat → Bool) (x : Str × Int) : Nat := far rs B W x.1 x.2.toNat
def aput (rs : List Str) (B W : Nat → Bool) (acc : List (List Key × V)) (x : Str × Int) : List (List Key × V) := if farL rs B W x = 0 then acc else putK acc (kk x) (.int (farL rs B W x : Nat))
/-- what aparts gives -/
def apl (svs rs : List Str) (B W : Nat → Bool) : List (List Key × V) := (leasesL svs rs).foldl (aput rs B W) []
theorem aput_len (rs : List Str) (B W : Nat → Bool) : ∀ (L : List (Str × Int)) (acc : List (List Key × V)), (L.foldl (aput rs B W) acc).length ≤ acc.length + L.length
  | [], _ => Nat.le_refl _
  | x :: L, acc => by
    refine Nat.le_trans (aput_len rs B W L _) ?_
    have : (aput rs B W acc x).length ≤ acc.length + 1 := by
      unfold aput
      split
      · omega
      · exact length_putK _ _ _
    simp only [List.length_cons]
    omega
theorem lt64 {u : Nat} (h : u + 64 < cLine) : u + 1 < cLine := by omega
def sp_aparts : Sp := fun vs H Q _ => ∃ (a c d : Addr) (svs : List Str) (pls : List Int) (rs : List Str) (ps qs : List Int), vs = [.ref a, .ref c, .ref d] ∧ Fleet H a svs pls rs ∧ svs.length ≤ 60 ∧ rs.length ≤ 60 ∧ H c = some (.tup (ps.map V.int)) ∧ H d = some (.tup (qs.map V.int)) ∧
  ∀ H' p, Same H H' → H p = none → H' p = some (.dT (apl svs rs (pOf ps) (pOf qs))) → Q (.ref p) H'
theorem ok_aparts {f : Addr} {fd : FuncData} (F : Fun K "aparts" "aparts" s_aparts f fd) (mL : mg "len" = none) (CV : Cal P w K mg base "vertices_of" 3 ["fleet", "plan"] sp_vertices) (CL : Cal P w K mg base "leases_of" 1 ["fleet"] sp_leases_of)
    (CE : Cal P w K mg base "edges_with" 1 ["edges", "service"] sp_edges) (CW : Cal P w K mg base "way" 2 ["one", "other"] sp_way) : FnOk P w K mg base CX0 4 f fd ["fleet", "one", "other"] sp_aparts := by
  refine F.ok sc_aparts (fun vs H Q E h => ?_) (fun cdv A outer s H vs Q E hr h => ?_)
  · obtain ⟨a, c, d, svs, pls, rs, ps, qs, rfl, _⟩ := h
    rfl
  · obtain ⟨a, c, d, svs, pls, rs, ps, qs, rfl, Fl, hv, hw, hc, hd, q⟩ := h
    refine ⟨_, pss_cons (ps_par3 (i := 3) (j := 4) (l := 5) rfl sc_aparts.nd rfl rfl rfl (by decide) (by decide) (by decide) rfl rfl rfl
        (pa_cons (CV.pe hr (by decide) (by rfl) (pa_cons (pv 0) (pa_cons (pv 1) pa_nil))) (pa_cons (CV.pe hr (by decide) (by rfl) (pa_cons (pv 0) (pa_cons (pv 2) pa_nil))) (pa_cons pe_dnewT pa_nil))) rfl)
      (pss_cons (ps_for PassesOwn.never rfl (pi_tup (CL.pe hr (by decide) (by rfl) (pa_cons (pv 0) pa_nil)))
        (pg_tup rfl (pgs_cons (pg_name (i := 6) sc_aparts.nd rfl (Or.inl rfl)) (pgs_cons (pg_name (i := 7) sc_aparts.nd rfl (Or.inl rfl)) pgs_nil)))
        (pss_cons (ps_set (i := 8) sc_aparts.nd rfl (.inl rfl) (CE.pe hr (by decide) (by rfl) (pa_cons (CW.pe hr (by decide) (by rfl) (pa_cons (pe_ix ix_tup (pv 3) (pv 7) (fun _ _ => rfl)) (pa_cons (pe_ix ix_tup (pv 4) (pv 7) (fun _ _ => rfl)) pa_nil))) (pa_cons (pv 6) pa_nil))))
          (pss_one (ps_if (pt_cmpR (op_neE hr.units0) (pv 8) (pe_tup pa_nil) (nomark _))
            (pss_one (ps_dput (lt64 hr.units) (pv 5) (pe_tup (pa_cons (pv 6) (pa_cons (pv 7) pa_nil))) (pe_callB call_len_seq (by rfl) mL bt_len (pa_cons (pv 8) pa_nil)) rfl)) pss_nil))))
      (pss_one (ps_ret (pv 5)))), ?_⟩
    refine ⟨.ref a, rfl, .ref c, rfl, a, c, svs, pls, rs, ps, rfl, Fl, hw, hc, fun Ha u1 xs1 sa e1 l1 v1 => ?_⟩
    refine ⟨.ref a, rfl, .ref d, rfl, a, d, svs, pls, rs, qs, rfl, Fl.same sa, hw, sa _ _ hd, fun Hb u2 xs2 sb e2 l2 v2 p hp => ?_⟩
    have sab := sa.trans sb
    have hp0 : H p = none := sab.free hp
    have sc : Same Hb (upd Hb p (.dT [])) := same_new hp
    refine ⟨_, _, _, rfl, .ref a, rfl, a, svs, pls, rs, rfl, (Fl.same sab).same sc, hv, hw, fun Hd t ls sd htn ht kt et => ⟨t, rfl, ⟨_, sqT ht⟩, ?_⟩⟩
    have hpd : Hd p = some (.dT []) := sd _ _ upd_same
    have lL : (leasesL svs rs).length = ls.length := by rw [← et, List.length_map]
    have lle : ls.length ≤ 120 := by rw [← lL, leasesL_len]; omega
    refine for_tup (K := K) (a := t) (xs := refsT ls) (fun i σ H2 => ∃ y6 y7 y8, σ = [some (.ref a), some (.ref c), some (.ref d), some (.ref u1), some (.ref u2), some (.ref p), y6, y7, y8] ∧ (∀ c o, c ≠ p → Hd c = some o → H2 c = some o) ∧
        H2 p = some (.dT (((leasesL svs rs).take i).foldl (aput rs (pOf ps) (pOf qs)) [])))
      ⟨none, none, none, rfl, fun _ _ _ h => h, hpd⟩ (fun i σ H2 _ ⟨_, _, _, _, k2, _⟩ => sqT (k2 _ _ (ne_of ht hpd (by simp)) ht)) ?_ ?_
    · rintro i x σ H2 hx ⟨y6, y7, y8, rfl, k2, hp2⟩
      have hi : i < ls.length := by
        have := (List.getElem?_eq_some_iff.mp hx).1
        rwa [refsT, List.length_map] at this
      have hx' : x = .ref ls[i].1 := by
        rw [refsT, List.getElem?_map, List.getElem?_eq_getElem hi] at hx
        exact (Option.some.inj hx).symm
      subst hx'
      have hli := kt ls[i] (List.getElem_mem hi)
      have eL : (leasesL svs rs)[i]? = some ls[i].2 := by rw [← et, List.getElem?_map, List.getElem?_eq_getElem hi]; rfl
      obtain ⟨k, hk, hkm, _⟩ := leasesL_mem (List.mem_of_getElem? eL)
      have efold : ((leasesL svs rs).take (i + 1)).foldl (aput rs (pOf ps) (pOf qs)) [] = aput rs (pOf ps) (pOf qs) (((leasesL svs rs).take i).foldl (aput rs (pOf ps) (pOf qs)) []) ls[i].2 := by
        rw [take_snoc eL, List.foldl_append]; rfl
      have hfar : farL rs (pOf ps) (pOf qs) ls[i].2 = far rs (pOf ps) (pOf qs) ls[i].2.1 k := by unfold farL; rw [hk]; rfl
      generalize hz : ls[i].2 = z at *
      obtain ⟨zs, zi⟩ := z
      have hk' : zi = (k : Int) := hk
      subst hk'
      have np : ∀ {c o}, Hd c = some o → (∀ kvs, o ≠ .dT kvs) → H2 c = some o := fun h n => k2 _ _ (ne_of h hpd (n _)) h
      have h2 : H2 ls[i].1 = some (.tup [.str zs, .int (k : Nat)]) := np hli (by simp)
      have e1' : H2 u1 = some (.tup xs1) := np (sd _ _ (sc _ _ (sb _ _ e1))) (by simp)
      have e2' : H2 u2 = some (.tup xs2) := np (sd _ _ (sc _ _ e2)) (by simp)
      obtain ⟨q1, g1, w1⟩ := v1 k hkm
      obtain ⟨q2, g2, w2⟩ := v2 k hkm
      have w1' : Wd H2 q1 (vtx rs (pOf ps) k) := np (sd _ _ (sc _ _ (sb _ _ w1))) (by simp)
      have w2' : Wd H2 q2 (vtx rs (pOf qs) k) := np (sd _ _ (sc _ _ w2)) (by simp)
      have n1 := vtx_len rs (pOf ps) k
      have n2 := vtx_len rs (pOf qs) k
      refine ⟨ls[i].1, _, rfl, sqT h2, rfl, _, _, rfl, _, _, rfl, rfl, ?_⟩
      refine ⟨.ref u1, rfl, .int (k : Nat), rfl, u1, xs1, (k : Nat), .ref q1, rfl, rfl, sqT e1', atI_nat g1, .ref u2, rfl, .int (k : Nat), rfl, u2, xs2, (k : Nat), .ref q2, rfl, rfl, sqT e2', atI_nat g2, q1, q2, _, _, rfl, w1', w2', by omega, by omega, fun H3 p3 es s3 e3 d3 c3 => ?_⟩
      have les : es.length ≤ 2000 := by
        have := congrArg List.length c3
        rw [List.length_map, labels, List.length_append, List.length_reverse, List.length_drop, List.length_drop] at this
        omega
      refine ⟨.str zs, rfl, p3, zs, es, rfl, e3, d3, les, fun H4 p4 xs4 s4 e4 c4 => ?_⟩
      have hcount : xs4.length = farL rs (pOf ps) (pOf qs) (zs, (k : Int)) := by rw [c4, c3, count_labels, hfar]; rfl
      have hp4 : H4 p = some (.dT (((leasesL svs rs).take i).foldl (aput rs (pOf ps) (pOf qs)) [])) := s4 _ _ (s3 _ _ hp2)
      refine ⟨.ref p4, rfl, Nat.zero_le _, fun q0 hq0 => ⟨_, ⟨p4, q0, xs4, [], rfl, rfl, .inr ⟨sqT (upd_other e4 hq0), sqT upd_same⟩, .inr rfl, rfl⟩, _, rfl, ?_⟩⟩
      have hp5 := upd_other (o := .tup []) hp4 hq0
      have k5 : ∀ c o, c ≠ p → Hd c = some o → upd H4 q0 (.tup []) c = some o := fun c o h1 h => upd_other (s4 _ _ (s3 _ _ (k2 _ _ h1 h))) hq0
      rw [hcount]
      by_cases hzero : farL rs (pOf ps) (pOf qs) (zs, (k : Int)) = 0
      · rw [hzero]
        refine ite2 (fun kf => absurd kf (by decide)) (fun _ => ?_)
        refine ⟨_, _, _, rfl, k5, ?_⟩
        rw [efold, aput, if_pos hzero]
        exact hp5
      · refine ite2 (fun _ => ?_) (fun kf => absurd (by simp [hzero]) kf)
        refine ⟨.ref p4, rfl, p4, xs4, rfl, .inr (sqT (upd_other e4 hq0)), .ref p, rfl, .str zs, rfl, .int (k : Nat), rfl, le_line (by show 2 ≤ 10000; decide), fun b hb => ?_⟩
        refine ⟨p, _, rfl, DPut.t (k := kk (zs, (k : Int))) (upd_other hp5 hb) upd_same (lt_line ?_), _, _, _, rfl, fun c o h1 h => ?_, ?_⟩
        · have := aput_len rs (pOf ps) (pOf qs) ((leasesL svs rs).take i) []
          rw [List.length_take] at this
          simp only [List.length_nil] at this
          omega
        · rw [upd_ne h1]
          exact upd_other (k5 _ _ h1 h) hb
        · rw [upd_same, efold, aput, if_neg hzero, hcount]
    · rintro σ H2 ⟨y6, y7, y8, rfl, k2, hp2⟩
      refine ⟨.ref p, rfl, q _ p (fun c' o h => ?_) hp0 ?_⟩
      · exact k2 _ _ (ne_of_none h hp0) (sd _ _ (sc _ _ (sab _ _ h)))
      · rw [hp2, List.take_of_length_le (by rw [refsT, List.length_map, lL]; exact Nat.le_refl _)]
        rfl
end
end K25
/-! distance; what the dict of aparts holds. -/
namespace K25
open PySem PySem.Spec PyProof.Rows L2
section
variable {P : Program} {w : World} {K : PySem.W.Frag} {mg : Str → Option Value} {base : Heap}
def toI : V → Int
  | .int i => i
  | _ => 0
def IntVals (kvs : List (List Key × V)) : Prop := ∀ p ∈ kvs, ∃ i, p.2 = V.int i
theorem IntVals.eq {kvs : List (List Key × V)} (h : IntVals kvs) : kvs.map (·.2) = (kvs.map fun p => toI p.2).map V.int := by
  rw [List.map_map]
  refine List.map_congr_left fun p hp => ?_
  obtain ⟨i, e⟩ := h p hp
  show p.2 = V.int (toI p.2)
  rw [e]
  rfl
def vsum (kvs : List (List Key × V)) : Int := (kvs.map fun p => toI p.2).sum
theorem mem_putK {kvs : List (List Key × V)} {k : List Key} {v : V} {p : List Key × V} (h : p ∈ putK kvs k v) : p ∈ kvs ∨ p = (k, v) := by
  unfold putK at h
  split at h
  · obtain ⟨q, hq, e⟩ := List.mem_map.mp h
    split at e
    · next hk => exact .inr (by rw [← e, hk])
    · exact .inl (e ▸ hq)
  · rcases List.mem_append.mp h with h | h
    · exact .inl h
    · exact .inr (List.mem_singleton.mp h)
/-- each entry stands for a lease of the list, its value is how far apart -/
theorem aput_mem (rs : List Str) (B W : Nat → Bool) : ∀ (L : List (Str × Int)) (acc : List (List Key × V)) (p), p ∈ L.foldl (aput rs B W) acc → p ∈ acc ∨ ∃ x ∈ L, p = (kk x, .int (farL rs B W x : Nat)) ∧ farL rs B W x ≠ 0
  | [], _, _, h => .inl h
  | x :: L, acc, p, h => by
    rcases aput_mem rs B W L _ p h with h | ⟨y, hy, e⟩
    · unfold aput at h
      split at h
      · exact .inl h
      · next hz =>
        rcases mem_putK h with h | h
        · exact .inl h
        · exact .inr ⟨x, by simp, h, hz⟩
    · exact .inr ⟨y, List.mem_cons_of_mem _ hy, e⟩
theorem apl_mem {svs rs : List Str} {B W : Nat → Bool} {p : List Key × V} (h : p ∈ apl svs rs B W) : ∃ x ∈ leasesL svs rs, p = (kk x, .int (farL rs B W x : Nat)) ∧ farL rs B W x ≠ 0 := by
  rcases aput_mem rs B W _ _ p h with h | h
  · cases h
  · exact h
theorem apl_ints (svs rs : List Str) (B W : Nat → Bool) : IntVals (apl svs rs B W) := fun p hp => by
  obtain ⟨x, _, e, _⟩ := apl_mem hp
  exact ⟨_, by rw [e]⟩
theorem aput_val (rs : List Str) (B W : Nat → Bool) (x : Str × Int) : ∀ (L : List (Str × Int)) (acc : List (List Key × V)),
    valV (L.foldl (aput rs B W) acc) (kk x) = if x ∈ L ∧ farL rs B W x ≠ 0 then some (.int (farL rs B W x : Nat)) else valV acc (kk x)
  | [], acc => by rw [if_neg (fun h => by cases h.1)]; rfl
  | y :: L, acc => by
    rw [List.foldl_cons, aput_val rs B W x L]
    by_cases h1 : x ∈ L ∧ farL rs B W x ≠ 0
    · rw [if_pos h1, if_pos ⟨List.mem_cons_of_mem _ h1.1, h1.2⟩]
    · rw [if_neg h1]
      unfold aput
      by_cases hy : farL rs B W y = 0
      · rw [if_pos hy]
        by_cases h2 : x ∈ y :: L ∧ farL rs B W x ≠ 0
        · rcases List.mem_cons.mp h2.1 with e | e
          · subst e; exact absurd hy h2.2
          · exact absurd ⟨e, h2.2⟩ h1
        · rw [if_neg h2]
      · rw [if_neg hy, valV_put]
        by_cases e : kk x = kk y
        · have e' := kk_inj e
          subst e'
          rw [if_pos rfl, if_pos ⟨by simp, hy⟩]
        · rw [if_neg e, if_neg]
          rintro ⟨h3, h4⟩
          rcases List.mem_cons.mp h3 with e' | e'
          · subst e'; exact e rfl
          · exact h1 ⟨e', h4⟩
theorem apl_val (svs rs : List Str) (B W : Nat → Bool) (x : Str × Int) : valV (apl svs rs B W) (kk x) = if x ∈ leasesL svs rs ∧ farL rs B W x ≠ 0 then some (.int (farL rs B W x : Nat)) else none := by
  rw [apl, aput_val]
  rfl
/-- .get(x, 0) -/
theorem apl_get {svs rs : List Str} {B W : Nat → Bool} {x : Str × Int} (h : x ∈ leasesL svs rs) : (valV (apl svs rs B W) (kk x)).getD (.int 0) = .int (farL rs B W x : Nat) := by
  rw [apl_val]
  by_cases z : farL rs B W x = 0
  · rw [if_neg (fun k => k.2 z), z]; rfl
  · rw [if_pos ⟨h, z⟩]; rfl
theorem apl_len (svs rs : List Str) (B W : Nat → Bool) : (apl svs rs B W).length ≤ svs.length + rs.length := by
  have := aput_len rs B W (leasesL svs rs) []
  rw [leasesL_len] at this
  simpa [apl] using this
def sp_distance : Sp := fun vs H Q _ => ∃ (a c d : Addr) (svs : List Str) (pls : List Int) (rs : List Str) (ps qs : List Int), vs = [.ref a, .ref c, .ref d] ∧ Fleet H a svs pls rs ∧ svs.length ≤ 60 ∧ rs.length ≤ 60 ∧ H c = some (.tup (ps.map V.int)) ∧ H d = some (.tup (qs.map V.int)) ∧
  ∀ H', Same H H' → Q (.int (vsum (apl svs rs (pOf ps) (pOf qs)))) H'
theorem ok_distance {f : Addr} {fd : FuncData} (F : Fun K "distance" "distance" s_distance f fd) (mS : mg "sum" = none) (CA : Cal P w K mg base "aparts" 4 ["fleet", "one", "other"] sp_aparts) : FnOk P w K mg base CX0 5 f fd ["fleet", "one", "other"] sp_distance := by
  refine F.ok sc_distance (fun vs H Q E h => ?_) (fun cdv A outer s H vs Q E hr h => ?_)
  · obtain ⟨a, c, d, svs, pls, rs, ps, qs, rfl, _⟩ := h
    rfl
  · obtain ⟨a, c, d, svs, pls, rs, ps, qs, rfl, Fl, hv, hw, hc, hd, q⟩ := h
    refine ⟨_, pss_one (ps_ret (pe_callB (cr_sumV rfl) (by rfl) mS bt_sum (pa_cons (pe_bm0 PySem.F.plainAttrs_dict PySem.F.slot_dict_values PySem.F.type_dict_values mt_valsT
      (CA.pe hr (by decide) (by rfl) (pa_cons (pv 0) (pa_cons (pv 1) (pa_cons (pv 2) pa_nil))))) pa_nil))), ?_⟩
    refine ⟨.ref a, rfl, .ref c, rfl, .ref d, rfl, a, c, d, svs, pls, rs, ps, qs, rfl, Fl, hv, hw, hc, hd, fun H' p s1 _ hp => ?_⟩
    refine ⟨.inr (.inr (.inl ⟨rfl, .inr ⟨_, hp⟩⟩)), p, _, rfl, rfl, hp, fun v hv => ⟨v, p, _, _, rfl, upd_same, upd_other hp hv, (apl_ints svs rs _ _).eq, ?_⟩⟩
    exact q _ (s1.trans (same_new hv))
end
end K25
/-! _law_names. -/
namespace K25
open PySem PySem.Spec PyProof.Rows L2
/-! ### texts of at most n plain signs -/
def Ch (n : Nat) (z : Str) : Prop := z.length ≤ n ∧ ∀ c ∈ z.cps.toList, c < 128
theorem Ch.mono {n m : Nat} {z : Str} (h : Ch n z) (l : n ≤ m) : Ch m z := ⟨Nat.le_trans h.1 l, h.2⟩
theorem Ch.len {n : Nat} {z : Str} (h : Ch n z) : z.cps.toList.length ≤ n := by rw [Array.length_toList]; exact h.1
theorem Ch.sign {u : Nat} (h : u < 128) : Ch 1 ⟨#[u]⟩ := ⟨Nat.le_refl _, fun c m => by
  have : c = u := by simpa using m
  omega⟩
theorem Ch.add {n m : Nat} {a b : Str} (h : Ch n a) (k : Ch m b) : Ch (n + m) (a ++ b) := by
  refine ⟨?_, fun c hc => ?_⟩
  · show (a.cps ++ b.cps).size ≤ _
    rw [Array.size_append]
    exact Nat.add_le_add h.1 k.1
  · have : c ∈ (a.cps ++ b.cps).toList := hc
    rw [Array.toList_append] at this
    rcases List.mem_append.mp this with m | m
    · exact h.2 c m
    · exact k.2 c m
theorem Ch.nil : Ch 0 Str.empty := ⟨Nat.le_refl _, fun c m => by cases m⟩
theorem Ch.cut {n : Nat} {z : Str} (h : Ch n z) (lo hi : Option Int) : Ch n (cutS z lo hi) := by
  refine ⟨Nat.le_trans (cutS_length z lo hi) h.1, fun c hc => h.2 c ?_⟩
  have : c ∈ (z.cps.toList.drop (HT.sIx z.length 0 lo)).take (HT.sIx z.length z.length hi - HT.sIx z.length 0 lo) := hc
  exact List.mem_of_mem_drop (List.mem_of_mem_take this)
theorem fold_cat {z : Array Nat} {n : Nat} (hz : z.size ≤ n ∧ ∀ c ∈ z.toList, c < 128) : ∀ (k m : Nat) (acc : Array Nat), (acc.size ≤ m ∧ ∀ c ∈ acc.toList, c < 128) →
    ((List.replicate k z).foldl (· ++ ·) acc).size ≤ m + k * n ∧ ∀ c ∈ ((List.replicate k z).foldl (· ++ ·) acc).toList, c < 128
  | 0, m, acc, h => by simpa using h
  | k + 1, m, acc, h => by
    rw [List.replicate_succ, List.foldl_cons]
    have := fold_cat hz k (m + n) (acc ++ z) ⟨by rw [Array.size_append]; omega, fun c hc => by
      rw [Array.toList_append] at hc
      rcases List.mem_append.mp hc with i | i
      · exact h.2 c i
      · exact hz.2 c i⟩
    refine ⟨?_, this.2⟩
    have e : m + n + k * n = m + (k + 1) * n := by rw [Nat.add_mul]; omega
    omega
theorem Ch.mul {n : Nat} {z : Str} (h : Ch n z) (k : Nat) : Ch (k * n + n) (Txt.mul z (k : Int)) := by
  unfold Txt.mul
  split
  · exact Ch.nil.mono (Nat.zero_le _)
  · split
    · exact h.mono (by omega)
    · have := fold_cat (z := z.cps) (n := n) ⟨h.1, h.2⟩ k 0 #[] ⟨Nat.le_refl _, fun c m => by cases m⟩
      rw [Int.toNat_natCast]
      exact ⟨Nat.le_trans this.1 (by omega), this.2⟩
theorem join_fold {a : Str} (ha : a.length = 0) : ∀ (ys : List Str) (acc : Array Nat) (m : Nat), (acc.size ≤ m ∧ ∀ c ∈ acc.toList, c < 128) → (∀ y ∈ ys, Ch 1 y) →
    (ys.foldl (fun acc p => acc ++ a.cps ++ p.cps) acc).size ≤ m + ys.length ∧ ∀ c ∈ (ys.foldl (fun acc p => acc ++ a.cps ++ p.cps) acc).toList, c < 128
  | [], acc, m, h, _ => h
  | y :: ys, acc, m, h, k => by
    have ea : a.cps = #[] := Array.size_eq_zero_iff.mp ha
    have hy := k y (by simp)
    rw [List.foldl_cons]
    have := join_fold ha ys (acc ++ a.cps ++ y.cps) (m + 1) ⟨by rw [ea, Array.append_empty, Array.size_append]; have := hy.1; have e : y.length = y.cps.size := rfl; omega, fun c hc => by
      rw [ea, Array.append_empty, Array.toList_append] at hc
      rcases List.mem_append.mp hc with i | i
      · exact h.2 c i
      · exact hy.2 c i⟩ fun z hz => k z (by simp [hz])
    refine ⟨?_, this.2⟩
    rw [List.length_cons]
    omega
theorem Ch.join {a : Str} (ha : a.length = 0) {ys : List Str} (h : ∀ y ∈ ys, Ch 1 y) : Ch ys.length (Txt.join a ys) := by
  cases ys with
  | nil => exact Ch.nil
  | cons y ys =>
    have hy := h y (by simp)
    have := join_fold ha ys y.cps 1 ⟨hy.1, hy.2⟩ fun z hz => h z (by simp [hz])
    exact ⟨Nat.le_trans this.1 (by rw [List.length_cons]; omega), this.2⟩
theorem Ch.name {n : Nat} {z : Str} (h : Ch n z) (l : n ≤ 20) : NameOk z := h.mono l
/-- text * n -/
def rMulS : R2 := fun x y H Q => ∃ (z : Str) (k : Nat), x = .str z ∧ y = .int (k : Nat) ∧ z.length ≤ 20 ∧ k ≤ 100 ∧ Q (.str (Txt.mul z (k : Nat))) H
theorem op_mulS {X : Cx} : OpR X (binaryOp .Mult) rMulS := by
  intro pins s σ H x y v u Q I rx ry h
  obtain ⟨z, k, rfl, rfl, hz, hk, q⟩ := h
  obtain ⟨t, rfl⟩ := rx
  obtain ⟨t', rfl⟩ := ry
  have hm : z.length * k ≤ 20 * 100 := Nat.mul_le_mul hz hk
  refine PySem.SB.mul ⟨?_, fun h1 _ => ?_, fun _ _ => ?_⟩ fun t2 tk => ⟨.str _, H, I.tok _, ⟨t2, rfl⟩, q⟩
  · simp
    omega
  · have : (z.length : Int) ≤ (2 ^ 63 - 1) / (k : Int) := by
      rw [Int.le_ediv_iff_mul_le (by omega)]
      have : (z.length : Int) * (k : Int) = ((z.length * k : Nat) : Int) := by push_cast; rfl
      rw [this]
      omega
    omega
  · rw [Int.toNat_natCast]
    unfold Builtin.Str.tooLong
    exact decide_eq_false (by have := sizeLine_eq; omega)
def toS : V → Str
  | .str z => z
  | _ => Str.empty
theorem perm_strs {ys : List V} {ns : List Str} (h : ys.Perm (ns.map V.str)) : ∃ ms : List Str, ys = ms.map V.str ∧ ms.Perm ns := by
  refine ⟨ys.map toS, ?_, ?_⟩
  · rw [List.map_map]
    conv => lhs; rw [← List.map_id ys]
    refine List.map_congr_left fun y hy => ?_
    obtain ⟨n, _, rfl⟩ := List.mem_map.mp (h.mem_iff.mp hy)
    rfl
  · have := h.map toS
    rwa [List.map_map, show (toS ∘ V.str) = id from rfl, List.map_id] at this
/-- a list of texts, one for each turn of a range, the bag at b drawn from -/
theorem lcN {te : TE} {σ : L2.St} {H1 : Hp} {n k : Nat} {vs : List Nat} {Qd : Hp → Prop} {b c D : Addr} {Good : Str → Prop} (hw : ∀ x, wipe ((wipe σ vs).set k (some x)) vs = wipe σ vs) (hn : n ≤ 100) (B : Bag H1 b c) (hD : H1 D = none)
    (el : ∀ (i : Nat) H2, i < n → Kp b H1 H2 → Bag H2 b c → te ((wipe σ vs).set k (some (.int (0 + (i : Int))))) H2 (fun v H3 => ∃ s, v = .str s ∧ Good s ∧ Kp b H2 H3 ∧ Bag H3 b c))
    (q : ∀ (H2 : Hp) (ns : List Str), D ≠ b → Kp b H1 H2 → Bag H2 b c → H2 D = some (.lst (ns.map V.str)) → ns.length = n → (∀ s ∈ ns, Good s) → Qd H2) :
    ∃ W : Nat → Nat → Hp → Prop, (∃ m, W 0 m (upd H1 D (.lst []))) ∧ ∀ i m H, W i m H →
      ((Itr 0 n).stop i H ∧ Qd H) ∨ ((Itr 0 n).go i H ∧ ∃ Nx : Hp → Prop, (∀ H', Nx H' → ∃ m', m' < m ∧ W (i + 1) m' H') ∧ ∀ x H', (Itr 0 n).yld i H x H' → gName k x (wipe σ vs) H' fun σ2 H2 => wipe σ2 vs = wipe σ vs ∧ tYes σ2 H2 fun b H3 =>
        if b = true then cutE te σ2 H3 fun y H4 => ∃ acc, H4 D = some (.lst acc) ∧ acc.length < sizeLine ∧ Nx (upd H4 D (.lst (acc ++ [y]))) else Nx H3) := by
  have nb : D ≠ b := B.nb hD
  refine lc_range (lo := 0) (fun i H2 => Kp b H1 H2 ∧ Bag H2 b c ∧ ∃ ns : List Str, H2 D = some (.lst (ns.map V.str)) ∧ ns.length = i ∧ ∀ s ∈ ns, Good s) ⟨Kp.new hD, B.new hD, [], upd_same, rfl, by simp⟩ ?_ ?_
  · rintro i H2 hi ⟨k2, B2, ns, e2, l2, g2⟩
    refine ⟨hw _, yes_go ⟨_, el i H2 hi k2 B2, ?_⟩⟩
    rintro v H3 ⟨s, rfl, gs, k3, B3⟩
    have e3 := k3 _ _ nb e2
    refine ⟨_, e3, lt_line (by rw [List.length_map]; omega), fun c' o h1 h2 => ?_, B3.upd nb (B.nc hD), ns ++ [s], by rw [upd_same, List.map_append]; rfl, by simp [l2], fun z hz => ?_⟩
    · rw [upd_ne (ne_of_none h2 hD)]
      exact k3 _ _ h1 (k2 _ _ h1 h2)
    · rcases List.mem_append.mp hz with m | m
      · exact g2 z m
      · rw [List.mem_singleton.mp m]; exact gs
  · rintro H2 ⟨k2, B2, ns, e2, l2, g2⟩
    exact q H2 ns nb k2 B2 e2 l2 g2
section
variable {P : Program} {w : World} {K : PySem.W.Frag} {mg : Str → Option Value} {base : Heap}
def abc : Str := "abcdefghijklmnopqrstuvwxyz"
theorem abc_len : abc.length = 26 := by decide +kernel
theorem abc_ok : ∀ c ∈ abc.cps.toList, c < 128 := by decide +kernel
theorem abc_at {j : Int} (h0 : 0 ≤ j) (h1 : j < 26) : ∃ u, atI abc.cps.toList j = some u ∧ u < 128 := by
  obtain ⟨i, rfl⟩ : ∃ i : Nat, j = (i : Int) := ⟨j.toNat, by omega⟩
  have hl : abc.cps.toList.length = 26 := by rw [Array.length_toList]; exact abc_len
  have hi : i < abc.cps.toList.length := by omega
  exact ⟨abc.cps.toList[i], atI_nat (List.getElem?_eq_getElem hi), abc_ok _ (List.getElem_mem hi)⟩
def sp_names : Sp := fun vs H Q _ => ∃ (b c : Addr) (m : Nat), vs = [.ref b, .int (m : Nat)] ∧ Bag H b c ∧ m ≤ 8 ∧
  ∀ (H' : Hp) (p : Addr) (ns : List Str), Kp b H H' → Bag H' b c → H p = none → H' p = some (.lst (ns.map V.str)) → ns.length = m → (∀ n ∈ ns, NameOk n) → Q (.ref p) H'
theorem ok_names {f : Addr} {fd : FuncData} (F : Fun K "_law_names" "_law_names" s_w_names f fd) (mI : mg "int" = none) (mR : mg "range" = none)
    (CT : Cal P w K mg base "_law_take" 1 ["_law_bag_here", "_law_many"] sp_take) (CS : Cal P w K mg base "_law_some" 2 ["_law_bag_here", "_law_things"] sp_some) (CM : Cal P w K mg base "_law_mixed" 2 ["_law_bag_here", "_law_things"] sp_mixed) :
    FnOk P w K mg base CX0 3 f fd ["_law_bag_here", "_law_many"] sp_names := by
  refine F.ok sc_w_names (fun vs H Q E h => ?_) (fun cdv A outer s H vs Q E hr h => ?_)
  · obtain ⟨b, c, m, rfl, _⟩ := h
    rfl
  · obtain ⟨b, c, m, rfl, B, hm, q⟩ := h
    refine ⟨_, pss_cons (ps_asg (pe_tup (pa_cons pe_str (pa_cons (CT.pe hr (by decide) (by rfl) (pa_cons (pv 0) (pa_cons pe_int pa_nil))) (pa_cons (CT.pe hr (by decide) (by rfl) (pa_cons (pv 0) (pa_cons pe_int pa_nil))) pa_nil))))
        (pg_tup rfl (pgs_cons (pg_name (i := 2) sc_w_names.nd rfl (Or.inr rfl)) (pgs_cons (pg_name (i := 3) sc_w_names.nd rfl (Or.inl rfl)) (pgs_cons (pg_name (i := 4) sc_w_names.nd rfl (Or.inr rfl)) pgs_nil)))))
      (pss_mid (ps_if (pt_cmpR op_eq (pv 3) pe_int (nomark _))
          (pss_one (ps_setLc (i := 5) (own := [("_law_at", 7)]) (g := gName 7) (tt := tYes) rfl sc_w_names.nd rfl rfl rfl (pi_range1 (by rfl) mR (pa_cons (pv 1) pa_nil))
            (blkOk_by (own := [("_law_at", 7)]) (N := ["_law_bag_here", "_law_many", "_law_letters", "_law_kind", "_law_first", "_law_found", "_law_stem", "_law_at", "_law_turn"]) (sc := defScope s_w_names) (by decide +kernel)) (fun _ _ _ _ _ => pg_name (i := 7) sc_w_names.nd rfl (Or.inl rfl)) (fun _ _ _ _ _ => pts_nil)
            (fun _ _ _ _ _ => pe_mid (pe_ix ix_str (pv 2) (pe_op op_mod (pe_intC (by rfl) mI (pe_op op_add (pv 4) (pv 7))) pe_int) (fun _ _ => rfl)))))
          (pss_one (ps_if (pt_cmpR op_eq (pv 3) pe_int (nomark _))
            (pss_one (ps_setLc (i := 5) (own := [("_law_at", 7)]) (g := gName 7) (tt := tYes) rfl sc_w_names.nd rfl rfl rfl (pi_range1 (by rfl) mR (pa_cons (pv 1) pa_nil))
            (blkOk_by (own := [("_law_at", 7)]) (N := ["_law_bag_here", "_law_many", "_law_letters", "_law_kind", "_law_first", "_law_found", "_law_stem", "_law_at", "_law_turn"]) (sc := defScope s_w_names) (by decide +kernel)) (fun _ _ _ _ _ => pg_name (i := 7) sc_w_names.nd rfl (Or.inl rfl)) (fun _ _ _ _ _ => pts_nil)
            (fun _ _ _ _ _ => pe_mid (pe_op op_mulS (pe_ix ix_str (pv 2) (pv 4) (fun _ _ => rfl)) (pe_op op_add (pv 7) pe_int)))))
            (pss_one (ps_if (pt_cmpR op_eq (pv 3) pe_int (nomark _))
              (pss_cons (ps_set (i := 6) sc_w_names.nd rfl (.inr rfl) (pe_join pe_str (pe_lc (own := [("_law_turn", 8)]) (g := gName 8) (tt := tYes) rfl sc_w_names.nd (pi_range1 (by rfl) mR (pa_cons (CT.pe hr (by decide) (by rfl) (pa_cons (pv 0) (pa_cons pe_int pa_nil))) pa_nil))
            (blkOk_by (own := [("_law_turn", 8)]) (N := ["_law_bag_here", "_law_many", "_law_letters", "_law_kind", "_law_first", "_law_found", "_law_stem", "_law_at", "_law_turn"]) (sc := defScope s_w_names) (by decide +kernel)) (fun _ _ _ _ _ => pg_name (i := 8) sc_w_names.nd rfl (Or.inl rfl)) (fun _ _ _ _ _ => pts_nil)
            (fun _ _ _ _ _ => pe_mid (CS.pe hr (by decide) (by rfl) (pa_cons (pv 0) (pa_cons (pv 2) pa_nil))))))) (pss_one (ps_setLc (i := 5) (own := [("_law_at", 7)]) (g := gName 7) (tt := tYes) rfl sc_w_names.nd rfl rfl rfl (pi_range1 (by rfl) mR (pa_cons (pv 1) pa_nil))
            (blkOk_by (own := [("_law_at", 7)]) (N := ["_law_bag_here", "_law_many", "_law_letters", "_law_kind", "_law_first", "_law_found", "_law_stem", "_law_at", "_law_turn"]) (sc := defScope s_w_names) (by decide +kernel)) (fun _ _ _ _ _ => pg_name (i := 7) sc_w_names.nd rfl (Or.inl rfl)) (fun _ _ _ _ _ => pts_nil)
            (fun _ _ _ _ _ => pe_mid (pe_op op_add_str (pv 6) (pe_ix ix_str (pv 2) (pe_op op_mod (pe_intC (by rfl) mI (pe_op op_add (pv 4) (pv 7))) pe_int) (fun _ _ => rfl)))))))
              (pss_one (ps_setLc (i := 5) (own := [("_law_at", 7)]) (g := gName 7) (tt := tYes) rfl sc_w_names.nd rfl rfl rfl (pi_range1 (by rfl) mR (pa_cons (pv 1) pa_nil))
            (blkOk_by (own := [("_law_at", 7)]) (N := ["_law_bag_here", "_law_many", "_law_letters", "_law_kind", "_law_first", "_law_found", "_law_stem", "_law_at", "_law_turn"]) (sc := defScope s_w_names) (by decide +kernel)) (fun _ _ _ _ _ => pg_name (i := 7) sc_w_names.nd rfl (Or.inl rfl)) (fun _ _ _ _ _ => pts_nil)
            (fun _ _ _ _ _ => pe_mid (pe_op op_add_str (pe_ix ix_str (pv 2) (pe_op op_mod (pe_intC (by rfl) mI (pe_op op_add (pv 4) (pv 7))) pe_int) (fun _ _ => rfl)) (CS.pe hr (by decide) (by rfl) (pa_cons (pv 0) (pa_cons (pe_lst (pa_cons pe_str (pa_cons pe_str (pa_cons pe_str (pa_cons (pe_slice sl_str (pv 2) po_none (po_some pe_int)) pa_nil))))) pa_nil))))))))))))
      (pss_one (ps_ret (CM.pe hr (by decide) (by rfl) (pa_cons (pv 0) (pa_cons (pv 5) pa_nil)))))), ?_⟩
    refine ⟨.ref b, rfl, b, c, 4, rfl, B, by decide, by decide, fun Ha kd ka Ba kd0 kd1 => ⟨.ref b, rfl, b, c, 26, rfl, Ba, by decide, by decide, fun Hb fi kb Bb fi0 fi1 => ⟨le_line (by show 3 ≤ 10000; decide), fun t0 ht0 => ?_⟩⟩⟩
    refine ⟨t0, _, rfl, sqT upd_same, rfl, _, _, rfl, _, _, rfl, _, _, rfl, rfl, ?_⟩
    have k0 : Kp b H (upd Hb t0 (.tup [.str abc, .int kd, .int fi])) := (ka.trans kb).trans (Kp.new ht0)
    have B0 : Bag (upd Hb t0 (.tup [.str abc, .int kd, .int fi])) b c := Bb.new ht0
    change Kp b H (upd Hb t0 (.tup [.str (Str.ofString "abcdefghijklmnopqrstuvwxyz"), .int kd, .int fi])) at k0
    change Bag (upd Hb t0 (.tup [.str (Str.ofString "abcdefghijklmnopqrstuvwxyz"), .int kd, .int fi])) b c at B0
    generalize upd Hb t0 (.tup [.str (Str.ofString "abcdefghijklmnopqrstuvwxyz"), .int kd, .int fi]) = H0 at k0 B0 ⊢
    have fin : ∀ (H1 : Hp), Kp b H0 H1 → ∀ D H2 (ns : List Str), H1 D = none → D ≠ b → Kp b H1 H2 → Bag H2 b c → H2 D = some (.lst (ns.map V.str)) → ns.length = m → (∀ s ∈ ns, NameOk s) →
        (H D = none ∧ D ≠ b ∧ Kp b H H2 ∧ Bag H2 b c ∧ H2 D = some (.lst (ns.map V.str)) ∧ ns.length = m ∧ ∀ s ∈ ns, NameOk s) := fun H1 ka D H2 ns h1 h2 h3 h4 h5 h6 h7 => ⟨(k0.trans ka).free h1 h2, h2, (k0.trans ka).trans h3, h4, h5, h6, h7⟩
    refine ⟨fun σ' H' => ∃ (D : Addr) (ns : List Str) (y6 : Option V), σ' = [some (.ref b), some (.int (m : Nat)), some (.str abc), some (.int kd), some (.int fi), some (.ref D), y6, none, none] ∧ (H D = none ∧ D ≠ b ∧ Kp b H H' ∧ Bag H' b c ∧ H' D = some (.lst (ns.map V.str)) ∧ ns.length = m ∧ ∀ s ∈ ns, NameOk s), ?_, ?_⟩
    · have len26 : abc.length ≤ 10000 := by rw [abc_len]; decide
      have hmm : ((m : Nat) : Int).toNat = m := Int.toNat_natCast m
      refine ⟨.int kd, rfl, rfl, _, rfl, ite2 (fun _ => ?_) (fun _ => ⟨.int kd, rfl, rfl, _, rfl, ite2 (fun _ => ?_) (fun _ => ⟨.int kd, rfl, rfl, _, rfl, ite2 (fun _ => ?_) (fun _ => ?_)⟩)⟩)⟩
      · refine ⟨.int m, rfl, m, rfl, by omega, by omega, fun D hD => lcN (Good := NameOk) (fun _ => rfl) (by omega) B0 hD (fun i H2 hi k2 B2 => ?_) (fun H2 ns h2 h3 h4 h5 h6 h7 => ⟨D, ns, none, rfl, fin _ (Kp.refl _ _) D H2 ns hD h2 h3 h4 h5 (by omega) h7⟩)⟩
        obtain ⟨u, hu, uo⟩ := abc_at (j := (fi + (0 + (i : Int))) % 26) (Int.emod_nonneg _ (by decide)) (Int.emod_lt_of_pos _ (by decide))
        exact ⟨.str abc, rfl, .int fi, rfl, .int (0 + i), rfl, fi, 0 + i, rfl, rfl, _, rfl, _, 26, rfl, rfl, (by show (0 : Int) < 26; decide), abc, _, u, rfl, rfl, le_line len26, hu, _, rfl, (Ch.sign uo).name (by decide), Kp.refl _ _, B2⟩
      · refine ⟨.int m, rfl, m, rfl, by omega, by omega, fun D hD => lcN (Good := NameOk) (fun _ => rfl) (by omega) B0 hD (fun i H2 hi k2 B2 => ?_) (fun H2 ns h2 h3 h4 h5 h6 h7 => ⟨D, ns, none, rfl, fin _ (Kp.refl _ _) D H2 ns hD h2 h3 h4 h5 (by omega) h7⟩)⟩
        obtain ⟨u, hu, uo⟩ := abc_at fi0 fi1
        have ei : (0 + (i : Int)) + 1 = ((i + 1 : Nat) : Int) := by omega
        exact ⟨.str abc, rfl, .int fi, rfl, abc, fi, u, rfl, rfl, le_line len26, hu, .int (0 + i), rfl, 0 + i, 1, rfl, rfl, ⟨#[u]⟩, i + 1, rfl, congrArg V.int ei, Nat.le_trans (Ch.sign uo).1 (by decide), by omega, _, rfl, ((Ch.sign uo).mul (i + 1)).name (by omega), Kp.refl _ _, B2⟩
      · refine ⟨⟨_, rfl⟩, .ref b, rfl, b, c, 12, rfl, B0, by decide, by decide, fun H1 n k1 B1 n0 n1 => ⟨n, rfl, by omega, by omega, fun D hD => lcN (Good := Ch 1) (fun _ => rfl) (by omega) B1 hD (fun i H2 hi k2 B2 => ?_) (fun H2 ys h2 h3 h4 h5 h6 h7 => ?_)⟩⟩
        · refine ⟨.ref b, rfl, .str abc, rfl, b, c, .str abc, rfl, B2, .inr ⟨abc, rfl, by rw [abc_len]; decide, by rw [abc_len]; decide, fun H3 u k3 B3 hu => ?_⟩⟩
          exact ⟨_, rfl, Ch.sign (abc_ok u hu), k3, B3⟩
        · have hs : (ys.map (·.length)).sum ≤ ys.length := by
            clear h5 h6
            induction ys with
            | nil => exact Nat.le_refl _
            | cons y ys ih =>
              have := ih fun s hs => h7 s (by simp [hs])
              have := (h7 y (by simp)).1
              simp only [List.map_cons, List.sum_cons, List.length_cons]
              omega
          have stem : Ch 11 (Txt.join (Str.ofString "") ys) := (Ch.join (by decide) h7).mono (by omega)
          have ez : (Str.ofString "").length = 0 := by decide
          refine ⟨_, D, ys, rfl, rfl, .inl (sqL h5), by rw [ez]; omega, ?_⟩
          refine ⟨.int m, rfl, m, rfl, by omega, by omega, fun D' hD' => lcN (Good := NameOk) (fun _ => rfl) (by omega) h4 hD' (fun i H3 hi k3 B3 => ?_) (fun H3 ns g2 g3 g4 g5 g6 g7 => ⟨D', ns, _, rfl, fin _ (k1.trans h3) D' H3 ns hD' g2 g3 g4 g5 (by omega) g7⟩)⟩
          obtain ⟨u, hu, uo⟩ := abc_at (j := (fi + (0 + (i : Int))) % 26) (Int.emod_nonneg _ (by decide)) (Int.emod_lt_of_pos _ (by decide))
          exact ⟨.str _, rfl, .str abc, rfl, .int fi, rfl, .int (0 + i), rfl, fi, 0 + i, rfl, rfl, _, rfl, _, 26, rfl, rfl, (by show (0 : Int) < 26; decide), abc, _, u, rfl, rfl, le_line len26, hu, _, _, rfl, rfl, le_line (by have := stem.1; have := (Ch.sign uo).1; omega), _, rfl, (stem.add (Ch.sign uo)).name (by decide), Kp.refl _ _, B3⟩
      · refine ⟨.int m, rfl, m, rfl, by omega, by omega, fun D hD => lcN (Good := NameOk) (fun _ => rfl) (by omega) B0 hD (fun i H2 hi k2 B2 => ?_) (fun H2 ns h2 h3 h4 h5 h6 h7 => ⟨D, ns, none, rfl, fin _ (Kp.refl _ _) D H2 ns hD h2 h3 h4 h5 (by omega) h7⟩)⟩
        obtain ⟨u, hu, uo⟩ := abc_at (j := (fi + (0 + (i : Int))) % 26) (Int.emod_nonneg _ (by decide)) (Int.emod_lt_of_pos _ (by decide))
        refine ⟨.str abc, rfl, .int fi, rfl, .int (0 + i), rfl, fi, 0 + i, rfl, rfl, _, rfl, _, 26, rfl, rfl, (by show (0 : Int) < 26; decide), abc, _, u, rfl, rfl, le_line len26, hu, ?_⟩
        refine ⟨.ref b, rfl, .str abc, rfl, 11, rfl, abc, rfl, le_line len26, le_line (by show 4 ≤ 10000; decide), fun l hl => ⟨b, c, .ref l, rfl, B2.new hl, .inl ⟨l, _, rfl, B2.nb hl, upd_same, by decide, by decide, fun H3 v k3 B3 hv => ?_⟩⟩⟩
        have hz : ∃ z, v = V.str z ∧ Ch 11 z := by
          simp only [List.mem_cons, List.not_mem_nil, or_false] at hv
          rcases hv with rfl | rfl | rfl | rfl
          · exact ⟨_, rfl, by decide +kernel, by decide +kernel⟩
          · exact ⟨_, rfl, by decide +kernel, by decide +kernel⟩
          · exact ⟨_, rfl, by decide +kernel, by decide +kernel⟩
          · exact ⟨_, rfl, by decide +kernel, by decide +kernel⟩
        obtain ⟨z, rfl, hz⟩ := hz
        exact ⟨_, _, rfl, rfl, le_line (by have := hz.1; have := (Ch.sign uo).1; omega), _, rfl, ((Ch.sign uo).add hz).name (by decide), (Kp.new hl).trans k3, B3⟩
    · rintro σ' H1 ⟨D, ns, y6, rfl, hD, nD, k1, B1, e1, l1, g1⟩
      refine ⟨.ref b, rfl, .ref D, rfl, b, c, D, ns.map V.str, rfl, B1, nD, e1, by rw [List.length_map]; omega, fun H2 p ys k2 B2 hp e2 pm => ?_⟩
      obtain ⟨ms, rfl, pm'⟩ := perm_strs pm
      exact q H2 p ms (k1.trans k2) B2 (k1.free hp (B1.nb hp)) e2 (by rw [pm'.length_eq]; exact l1) fun n hn => g1 n (pm'.mem_iff.mp hn)
end
end K25
/-! _law_fleet. -/
namespace K25
open PySem PySem.Spec PyProof.Rows L2
section
variable {P : Program} {w : World} {K : PySem.W.Frag} {mg : Str → Option Value} {base : Heap}
theorem Kp.mut {b p : Addr} {H H2 : Hp} {o : HO} (k : Kp b H H2) (h : H p = none) : Kp b H (L2.upd H2 p o) := fun a u n e => by
  rw [upd_ne (ne_of_none e h)]
  exact k a u n e
def toInt : V → Int
  | .int z => z
  | _ => 0
theorem perm_ints {ys : List V} {ns : List Int} (h : ys.Perm (ns.map V.int)) : ∃ ms : List Int, ys = ms.map V.int ∧ ms.Perm ns := by
  refine ⟨ys.map toInt, ?_, ?_⟩
  · rw [List.map_map]
    conv => lhs; rw [← List.map_id ys]
    refine List.map_congr_left fun y hy => ?_
    obtain ⟨n, _, rfl⟩ := List.mem_map.mp (h.mem_iff.mp hy)
    rfl
  · have := h.map toInt
    rwa [List.map_map, show (toInt ∘ V.int) = id from rfl, List.map_id] at this
def upTo (m : Nat) : List Int := (List.range (m + 1)).map fun i : Nat => (i : Int)
theorem rg_upTo (m : Nat) : rgV 0 ((m : Int) + 1) = (upTo m).map V.int := by
  unfold rgV upTo
  rw [List.map_map, show ((m : Int) + 1 - 0).toNat = m + 1 by omega]
  exact List.map_congr_left fun i _ => by show V.int (0 + (i : Int)) = V.int (i : Int); rw [Int.zero_add]
theorem upTo_nd (m : Nat) : (upTo m).Nodup := by
  unfold upTo List.Nodup
  rw [List.pairwise_map]
  exact List.Pairwise.imp (fun h e => h (by omega)) (List.nodup_range (n := m + 1))
theorem upTo_mem {m : Nat} {p : Int} (h : p ∈ upTo m) : 0 ≤ p ∧ p ≤ (m : Int) := by
  obtain ⟨i, hi, rfl⟩ := List.mem_map.mp h
  rw [List.mem_range] at hi
  omega
theorem cut_take (xs : List V) (m : Nat) : cutV xs none (some (m : Int)) = xs.take m := by
  unfold cutV
  rw [HT.sIx_none, HT.sIx_nat, List.drop_zero, Nat.sub_zero]
  by_cases h : m ≤ xs.length
  · rw [Nat.min_eq_left h]
  · rw [Nat.min_eq_right (by omega), List.take_length, List.take_of_length_le (by omega)]
theorem map_erase {α β : Type} (f : α → β) : ∀ (l : List α) (j : Nat), (l.map f).eraseIdx j = (l.eraseIdx j).map f
  | [], _ => rfl
  | _ :: _, 0 => rfl
  | x :: l, j + 1 => by
    show f x :: (l.map f).eraseIdx j = f x :: (l.eraseIdx j).map f
    rw [map_erase f l j]
/-- what stands while a fleet is made -/
structure FI (H : Hp) (b c s pl so re : Addr) (svs : List Str) (pls : List Int) (ss rs : List Str) (H2 : Hp) : Prop where
  kp : Kp b H H2
  bag : Bag H2 b c
  es : H2 s = some (.tup (svs.map V.str))
  ep : H2 pl = some (.tup (pls.map V.int))
  eo : H2 so = some (.lst (ss.map V.str))
  er : H2 re = some (.lst (rs.map V.str))
theorem FI.next {H H2 H3 : Hp} {b c s pl so re : Addr} {svs : List Str} {pls : List Int} {ss rs : List Str} (I : FI H b c s pl so re svs pls ss rs H2) (no : so ≠ b) (nr : re ≠ b) (k : Kp b H2 H3) (B : Bag H3 b c) : FI H b c s pl so re svs pls ss rs H3 :=
  ⟨I.kp.trans k, B, k.tup I.bag I.es, k.tup I.bag I.ep, k _ _ no I.eo, k _ _ nr I.er⟩
def sp_fleet : Sp := fun vs H Q _ => ∃ (b c : Addr) (m n : Nat), vs = [.ref b, .int (m : Nat), .int (n : Nat)] ∧ Bag H b c ∧ 1 ≤ m ∧ m ≤ 8 ∧ n ≤ 60 ∧
  ∀ (H' : Hp) (p : Addr) (svs : List Str) (pls : List Int) (rs : List Str), Kp b H H' → Bag H' b c → Fleet H' p svs pls rs → FleetOk svs pls rs → H p = none → Q (.ref p) H'
theorem ok_fleet {f : Addr} {fd : FuncData} (F : Fun K "_law_fleet" "_law_fleet" s_w_fleet f fd) (mI : mg "int" = none) (mR : mg "range" = none) (mT : mg "tuple" = none) (mS : mg "sorted" = none) (mLi : mg "list" = none) (mL : mg "len" = none)
    (CN : Cal P w K mg base "_law_names" 3 ["_law_bag_here", "_law_many"] sp_names)
    (CT : Cal P w K mg base "_law_take" 1 ["_law_bag_here", "_law_many"] sp_take) (CS : Cal P w K mg base "_law_some" 2 ["_law_bag_here", "_law_things"] sp_some) (CM : Cal P w K mg base "_law_mixed" 2 ["_law_bag_here", "_law_things"] sp_mixed) :
    FnOk P w K mg base CX0 4 f fd ["_law_bag_here", "_law_many", "_law_most"] sp_fleet := by
  refine F.ok sc_w_fleet (fun vs H Q E h => ?_) (fun cdv A outer s H vs Q E hr h => ?_)
  · obtain ⟨b, c, m, n, rfl, _⟩ := h
    rfl
  · obtain ⟨b, c, m, n, rfl, B, m1, m8, hn, q⟩ := h
    refine ⟨_, pss_mid (ps_par (i := 3) (j := 4) rfl sc_w_fleet.nd rfl rfl (by decide) rfl rfl (pa_cons (pe_callTy call_tuple_of (by rfl) mT bt_tuple (pa_cons (pe_callB cr_sortedS (by rfl) mS bt_sorted (pa_cons (CN.pe hr (by decide) (by rfl) (pa_cons (pv 0) (pa_cons (pv 1) pa_nil))) pa_nil)) pa_nil))
          (pa_cons (CT.pe hr (by decide) (by rfl) (pa_cons (pv 0) (pa_cons pe_int pa_nil))) pa_nil)) rfl)
      (pss_mid (ps_set (i := 5) sc_w_fleet.nd rfl (.inl rfl) (pe_callTy call_tuple_of (by rfl) mT bt_tuple (pa_cons (pe_slice sl_list (CM.pe hr (by decide) (by rfl) (pa_cons (pv 0) (pa_cons (pe_listRg rfl (by rfl) mLi (prg_1 (by rfl) mR (pe_op op_add (pv 1) pe_int))) pa_nil))) po_none (po_some (pv 1))) pa_nil)))
      (pss_mid (ps_par (i := 6) (j := 7) rfl sc_w_fleet.nd rfl rfl (by decide) rfl rfl (pa_cons (pe_callTy call_list_of (by rfl) mLi bt_list (pa_cons (pv 3) pa_nil)) (pa_cons (pe_lst pa_nil) pa_nil)) rfl)
      (pss_mid (ps_if (PW.pt (pw_and (pt_cmpR op_eq (pv 4) pe_int (nomark _)) (pw_and1 (pt_cmpR op_gt (pv 1) pe_int (nomark _)))))
          (pss_one (ps_expr (pe_bm PySem.F.plainAttrs_list PySem.F.slot_list_pop PySem.F.type_list_pop mt_popAt (pv 6) (pa_cons (CT.pe hr (by decide) (by rfl) (pa_cons (pv 0) (pa_cons (pv 1) pa_nil))) pa_nil)))) pss_nil)
      (pss_cons (ps_for PassesOwn.never rfl (pi_range1 (by rfl) mR (pa_cons (CT.pe hr (by decide) (by rfl) (pa_cons (pv 0) (pa_cons (pe_op op_add (pv 2) pe_int) pa_nil))) pa_nil)) (pg_name (i := 8) sc_w_fleet.nd rfl (.inl rfl))
          (pss_mid (ps_if (pt_cmpR op_eq (pv 4) pe_int (nomark _))
              (pss_one (ps_set (i := 9) sc_w_fleet.nd rfl (.inl rfl) (pe_ix ix_list (pv 6) (pe_op op_mod (pe_intC (by rfl) mI (pv 8)) (pe_callB call_len_seq (by rfl) mL bt_len (pa_cons (pv 6) pa_nil))) (fun _ _ => rfl))))
              (pss_one (ps_if (pt_mid (PW.pt (pw_and (pt_cmpR op_eq (pv 4) pe_int (nomark _)) (pw_and (pt_cmpR (op_neE hr.units0) (pv 7) (pe_lst pa_nil) (nomark _)) (pw_and1 (pt_cmpR op_eq (CT.pe hr (by decide) (by rfl) (pa_cons (pv 0) (pa_cons pe_int pa_nil))) pe_int (nomark _)))))))
                (pss_one (ps_set (i := 9) sc_w_fleet.nd rfl (.inl rfl) (pe_ix ix_list (pv 7) (pe_un un_neg pe_int) (fun _ _ => rfl))))
                (pss_one (ps_set (i := 9) sc_w_fleet.nd rfl (.inl rfl) (CS.pe hr (by decide) (by rfl) (pa_cons (pv 0) (pa_cons (pv 6) pa_nil))))))))
            (pss_one (ps_expr (pe_bm PySem.F.plainAttrs_list PySem.F.slot_list_append PySem.F.type_list_append mt_append (pv 7) (pa_cons (pv 9) pa_nil))))))
      (pss_one (ps_ret (pe_tup (pa_cons (pv 3) (pa_cons (pv 5) (pa_cons (pe_callTy call_tuple_of (by rfl) mT bt_tuple (pa_cons (pv 7) pa_nil)) pa_nil))))))))))
      , ?_⟩
    -- the services, the kind
    refine ⟨fun σ' H' => ∃ (s : Addr) (kd : Int) (svs : List Str), σ' = [some (.ref b), some (.int (m : Nat)), some (.int (n : Nat)), some (.ref s), some (.int kd), none, none, none, none, none] ∧ Kp b H H' ∧ Bag H' b c ∧ H' s = some (.tup (svs.map V.str)) ∧ svs.length = m ∧ ∀ z ∈ svs, NameOk z, ?_, ?_⟩
    · refine ⟨.ref b, rfl, .int m, rfl, b, c, m, rfl, B, m8, fun H1 p ns k1 B1 _ e1 l1 g1 => ⟨p, ns, rfl, sqL e1, by omega, fun ys p2 pm _ hp2 => ⟨p2, ys.map V.str, rfl, .inl ⟨sqL upd_same, fun s hs => ?_⟩⟩⟩⟩
      have k2 := (k1.trans (Kp.new (o := .lst (ys.map V.str)) hp2)).trans (Kp.new (o := .tup (ys.map V.str)) hs)
      have B2 := (B1.new (o := .lst (ys.map V.str)) hp2).new (o := .tup (ys.map V.str)) hs
      refine ⟨.ref b, rfl, b, c, 5, rfl, B2, by decide, by decide, fun H3 kd k3 B3 _ _ => ⟨_, _, rfl, s, kd, ys, rfl, k2.trans k3, B3, k3.tup B2 upd_same, by rw [pm.length_eq]; exact l1, fun z hz => g1 z (pm.mem_iff.mp hz)⟩⟩
    rintro σ1 H1 ⟨s, kd, svs, rfl, k1, B1, es1, ls, gs⟩
    -- the places
    refine ⟨fun σ' H' => ∃ (pl : Addr) (pls : List Int), σ' = [some (.ref b), some (.int (m : Nat)), some (.int (n : Nat)), some (.ref s), some (.int kd), some (.ref pl), none, none, none, none] ∧ Kp b H1 H' ∧ Bag H' b c ∧ H' pl = some (.tup (pls.map V.int)) ∧ pls.length = m ∧ pls.Nodup ∧ ∀ p ∈ pls, 0 ≤ p ∧ p ≤ (m : Int), ?_, ?_⟩
    · refine ⟨.ref b, rfl, .int m, rfl, m, 1, rfl, rfl, (m : Int) + 1, rfl, RgOk.of_le (by decide) (by omega) (by decide) (by omega), fun r hr0 => ?_⟩
      refine ⟨b, c, r, rgV 0 ((m : Int) + 1), rfl, B1.new hr0, B1.nb hr0, upd_same, by rw [rgV_length]; omega, fun H2 p ys k2 B2 hp e2 pm => ?_⟩
      rw [rg_upTo] at pm
      obtain ⟨ms, rfl, pm'⟩ := perm_ints pm
      refine ⟨.int m, rfl, m, rfl, p, ms.map V.int, rfl, sqL e2, fun l hl => ?_⟩
      rw [cut_take, ← List.map_take]
      refine ⟨l, (ms.take m).map V.int, rfl, .inl ⟨sqL upd_same, fun pl hpl => ⟨pl, ms.take m, rfl, ?_, (B2.new hl).new hpl, upd_same, ?_, ?_, fun p hp => ?_⟩⟩⟩
      · exact (((Kp.new hr0).trans k2).trans (Kp.new hl)).trans (Kp.new hpl)
      · rw [List.length_take, pm'.length_eq, upTo, List.length_map, List.length_range]; omega
      · exact List.Pairwise.sublist (List.take_sublist _ _) (pm'.nodup_iff.mpr (upTo_nd m))
      · exact upTo_mem (pm'.mem_iff.mp (List.mem_of_mem_take hp))
    rintro σ2 H2 ⟨pl, pls, rfl, k2, B2, ep2, lp, np, gp⟩
    have es2 := k2.tup B1 es1
    -- the lists
    refine ⟨fun σ' H' => ∃ (so re : Addr) (ss : List Str), σ' = [some (.ref b), some (.int (m : Nat)), some (.int (n : Nat)), some (.ref s), some (.int kd), some (.ref pl), some (.ref so), some (.ref re), none, none] ∧ H so = none ∧ H re = none ∧ so ≠ b ∧ re ≠ b ∧ so ≠ re ∧ so ≠ c ∧ re ≠ c ∧ FI H b c s pl so re svs pls svs [] H', ?_, ?_⟩
    · refine ⟨.ref s, rfl, s, svs.map V.str, rfl, .inr (sqT es2), fun so hso => ⟨Nat.zero_le _, fun re hre => ⟨_, _, rfl, so, re, svs, rfl, ?_⟩⟩⟩
      have B3 := B2.new (o := .lst (svs.map V.str)) hso
      have k12 := k1.trans k2
      have hso0 := k12.free hso (B2.nb hso)
      have k3 := k12.trans (Kp.new (o := .lst (svs.map V.str)) hso)
      have hre0 := k3.free hre (B3.nb hre)
      exact ⟨hso0, hre0, B2.nb hso, B3.nb hre, ne_of_none upd_same hre, B2.nc hso, B3.nc hre, k3.trans (Kp.new hre), B3.new hre, upd_other (upd_other es2 hso) hre, upd_other (upd_other ep2 hso) hre, upd_other upd_same hre, upd_same⟩
    rintro σ3 H3 ⟨so, re, _, rfl, hso, hre, nso, nre, nsr, nsc, nrc, I3⟩
    -- one service may lack
    refine ⟨fun σ' H' => ∃ ss : List Str, σ' = [some (.ref b), some (.int (m : Nat)), some (.int (n : Nat)), some (.ref s), some (.int kd), some (.ref pl), some (.ref so), some (.ref re), none, none] ∧ 1 ≤ ss.length ∧ ss.length ≤ 8 ∧ (∀ z ∈ ss, z ∈ svs) ∧ FI H b c s pl so re svs pls ss [] H', ?_, ?_⟩
    · have stay : ∃ ss : List Str, ([some (.ref b), some (.int (m : Nat)), some (.int (n : Nat)), some (.ref s), some (.int kd), some (.ref pl), some (.ref so), some (.ref re), none, none] : L2.St) = [some (.ref b), some (.int (m : Nat)), some (.int (n : Nat)), some (.ref s), some (.int kd), some (.ref pl), some (.ref so), some (.ref re), none, none] ∧ 1 ≤ ss.length ∧ ss.length ≤ 8 ∧ (∀ z ∈ ss, z ∈ svs) ∧ FI H b c s pl so re svs pls ss [] H3 :=
        ⟨svs, rfl, by omega, by omega, fun z h => h, I3⟩
      refine ⟨.int kd, rfl, rfl, _, rfl, ite2 (fun _ => ⟨.int m, rfl, m, 1, rfl, rfl, _, rfl, ?_⟩) (fun _ => ite2 (fun k => absurd k (by decide)) (fun _ => stay))⟩
      by_cases hm : (1 : Int) < (m : Int)
      · rw [decide_eq_true hm]
        refine ite2 (fun _ => ?_) (fun k => absurd rfl k)
        refine ⟨.ref so, rfl, .inl ⟨rfl, _, sqL I3.eo⟩, .ref b, rfl, .int m, rfl, b, c, m, rfl, I3.bag, by omega, by omega, fun H4 v k4 B4 v0 v1 => ?_⟩
        have I4 := I3.next nso nre k4 B4
        obtain ⟨j, rfl⟩ : ∃ j : Nat, v = (j : Int) := ⟨v.toNat, by omega⟩
        have hj : j < svs.length := by omega
        refine ⟨so, svs.map V.str, (j : Int), j, .str svs[j], rfl, rfl, I4.eo, by omega, by omega, ?_, by rw [List.getElem?_map, List.getElem?_eq_getElem hj]; rfl, svs.eraseIdx j, rfl, ?_, ?_, fun z hz => List.mem_of_mem_eraseIdx hz, ?_⟩
        · unfold seqIndex?
          rw [List.length_map]
          have e1 : (if (j : Int) < 0 then (j : Int) + (svs.length : Nat) else (j : Int)) = (j : Int) := if_neg (by omega)
          simp only [e1]
          have e2 : (decide ((0 : Int) ≤ (j : Int)) && decide ((j : Int) < (svs.length : Nat))) = true := by
            rw [Bool.and_eq_true]
            exact ⟨decide_eq_true (by omega), decide_eq_true (by omega)⟩
          rw [if_pos e2, Int.toNat_natCast]
        · rw [List.length_eraseIdx]; split <;> omega
        · rw [List.length_eraseIdx]; split <;> omega
        · refine ⟨I4.kp.mut hso, I4.bag.upd nso nsc, ?_, ?_, ?_, ?_⟩
          · rw [upd_ne (ne_of I4.es I4.eo (by simp))]; exact I4.es
          · rw [upd_ne (ne_of I4.ep I4.eo (by simp))]; exact I4.ep
          · rw [upd_same, map_erase]
          · rw [upd_ne (Ne.symm nsr)]; exact I4.er
      · rw [decide_eq_false hm]
        exact ite2 (fun k => absurd k (by decide)) (fun _ => stay)
    rintro σ4 H4 ⟨ss, rfl, l1, l8, iss, I4⟩
    refine ⟨.ref b, rfl, .int n, rfl, n, 1, rfl, rfl, b, c, (n : Int) + 1, rfl, I4.bag, by omega, by omega, fun H5 k k5 B5 hk0 hk1 => ⟨k, rfl, by omega, by omega, ?_⟩⟩
    refine for_range (lo := 0) (fun i σ H6 => ∃ (y8 y9 : Option V) (rs : List Str), σ = [some (.ref b), some (.int (m : Nat)), some (.int (n : Nat)), some (.ref s), some (.int kd), some (.ref pl), some (.ref so), some (.ref re), y8, y9] ∧ rs.length = i ∧ (∀ z ∈ rs, z ∈ svs) ∧ FI H b c s pl so re svs pls ss rs H6)
      ⟨none, none, [], rfl, rfl, by simp, I4.next nso nre k5 B5⟩ ?_ ?_
    · rintro i σ H6 hi ⟨y8, y9, rs, rfl, lr, ir, I6⟩
      refine ⟨fun σ' H' => ∃ o : Str, σ' = [some (.ref b), some (.int (m : Nat)), some (.int (n : Nat)), some (.ref s), some (.int kd), some (.ref pl), some (.ref so), some (.ref re), some (.int (0 + (i : Int))), some (.str o)] ∧ o ∈ svs ∧ FI H b c s pl so re svs pls ss rs H', ?_, ?_⟩
      · refine ⟨.int kd, rfl, rfl, _, rfl, ite2 (fun _ => ?_) (fun _ => ?_)⟩
        · have hlt : ((0 + (i : Int)) % (ss.length : Int)).toNat < ss.length := by
            have h1 := Int.emod_nonneg (0 + (i : Int)) (by omega : (ss.length : Int) ≠ 0)
            have h2 := Int.emod_lt_of_pos (0 + (i : Int)) (by omega : (0 : Int) < ss.length)
            omega
          have h1 := Int.emod_nonneg (0 + (i : Int)) (by omega : (ss.length : Int) ≠ 0)
          obtain ⟨j, hj⟩ : ∃ j : Nat, (0 + (i : Int)) % (ss.length : Int) = (j : Int) := ⟨((0 + (i : Int)) % (ss.length : Int)).toNat, by omega⟩
          have hj' : j < ss.length := by rw [hj] at hlt; omega
          refine ⟨.ref so, rfl, .int (0 + i), rfl, _, rfl, .ref so, rfl, so, ss.map V.str, rfl, .inl (sqL I6.eo), _, _, rfl, rfl, (by show (0 : Int) < ((ss.map V.str).length : Int); rw [List.length_map]; omega), so, ss.map V.str, _, .str ss[j], rfl, rfl, sqL I6.eo, ?_, ss[j], rfl, iss _ (List.getElem_mem hj'), I6⟩
          rw [List.length_map, hj]
          exact atI_nat (by rw [List.getElem?_map, List.getElem?_eq_getElem hj']; rfl)
        · refine ⟨fun bl H' => FI H b c s pl so re svs pls ss rs H' ∧ (bl = true → rs ≠ []), ?_, ?_⟩
          · refine ⟨.int kd, rfl, rfl, _, rfl, ite2 (fun _ => ?_) (fun _ => ⟨I6, fun k => absurd k (by decide)⟩)⟩
            refine ⟨.ref re, rfl, Nat.zero_le _, fun q0 hq0 => ⟨_, ⟨re, q0, rs.map V.str, [], rfl, rfl, .inl ⟨sqL (upd_other I6.er hq0), sqL upd_same⟩, .inr rfl, rfl⟩, _, rfl, ?_⟩⟩
            have I7 := I6.next nso nre (Kp.new (o := .lst []) hq0) (I6.bag.new hq0)
            cases rs with
            | nil => exact ite2 (fun k => absurd k (by decide)) (fun _ => ⟨I7, fun k => absurd k (by decide)⟩)
            | cons r rs =>
              refine ite2 (fun _ => ?_) (fun k => absurd (by simp) k)
              exact ⟨.ref b, rfl, b, c, 2, rfl, I7.bag, by decide, by decide, fun H8 v k8 B8 _ _ => ⟨rfl, _, rfl, I7.next nso nre k8 B8, fun _ e => by cases e⟩⟩
          · rintro bl H7 ⟨I7, hne⟩
            refine ite2 (fun k => ?_) (fun _ => ?_)
            · have h0 := hne k
              have hg : rs.getLast? = some (rs.getLast h0) := List.getLast?_eq_getLast h0
              exact ⟨.ref re, rfl, 1, rfl, re, rs.map V.str, -1, .str (rs.getLast h0), rfl, rfl, sqL I7.er, last_at (last_map hg), _, rfl, ir _ (List.getLast_mem h0), I7⟩
            · refine ⟨.ref b, rfl, .ref so, rfl, b, c, .ref so, rfl, I7.bag, .inl ⟨so, ss.map V.str, rfl, nso, I7.eo, by rw [List.length_map]; omega, by rw [List.length_map]; omega, fun H8 v k8 B8 hv => ?_⟩⟩
              obtain ⟨z, hz, rfl⟩ := List.mem_map.mp hv
              exact ⟨z, rfl, iss z hz, I7.next nso nre k8 B8⟩
      · rintro σ' H7 ⟨o, rfl, ho, I7⟩
        refine ⟨.ref re, rfl, .inl ⟨rfl, _, sqL I7.er⟩, .str o, rfl, re, rs.map V.str, .str o, rfl, rfl, I7.er, lt_line (by rw [List.length_map]; omega), _, _, rs ++ [o], rfl, by simp [lr], fun z hz => ?_, ?_⟩
        · rcases List.mem_append.mp hz with h | h
          · exact ir z h
          · rw [List.mem_singleton.mp h]; exact ho
        · refine ⟨I7.kp.mut hre, I7.bag.upd nre nrc, ?_, ?_, ?_, ?_⟩
          · rw [upd_ne (ne_of I7.es I7.er (by simp))]; exact I7.es
          · rw [upd_ne (ne_of I7.ep I7.er (by simp))]; exact I7.ep
          · rw [upd_ne nsr]; exact I7.eo
          · rw [upd_same, List.map_append]; rfl
    · rintro σ H6 ⟨y8, y9, rs, rfl, lr, ir, I6⟩
      refine ⟨.ref s, rfl, .ref pl, rfl, .ref re, rfl, re, rs.map V.str, rfl, .inl ⟨sqL I6.er, fun rt hrt => ⟨le_line (by show 3 ≤ 10000; decide), fun p hp => ?_⟩⟩⟩
      have I7 := I6.next nso nre (Kp.new (o := .tup (rs.map V.str)) hrt) (I6.bag.new hrt)
      have I8 := I7.next nso nre (Kp.new (o := .tup [.ref s, .ref pl, .ref rt]) hp) (I7.bag.new hp)
      refine q _ p svs pls rs I8.kp I8.bag ⟨s, pl, rt, upd_same, I8.es, I8.ep, upd_other upd_same hp⟩ ⟨by omega, by omega, gs, by omega, ir, by rw [lp, ls], np, fun z hz => by rw [ls]; exact gp z hz⟩ (I7.kp.free hp (I7.bag.nb hp))
end
end K25
/-! _law_wide, _law_cut_fleet, _law_middle, _law_pins. -/
namespace K25
open PySem PySem.Spec PyProof.Rows L2
section
variable {P : Program} {w : World} {K : PySem.W.Frag} {mg : Str → Option Value} {base : Heap}
def sp_wide : Sp := fun vs H Q _ => ∃ (b c : Addr), vs = [.ref b] ∧ Bag H b c ∧
  ∀ (H' : Hp) (p : Addr) (svs : List Str) (pls : List Int) (rs : List Str), Kp b H H' → Bag H' b c → Fleet H' p svs pls rs → FleetOk svs pls rs → H p = none → Q (.ref p) H'
theorem ok_wide {f : Addr} {fd : FuncData} (F : Fun K "_law_wide" "_law_wide" s_w_wide f fd) (CS : Cal P w K mg base "_law_some" 2 ["_law_bag_here", "_law_things"] sp_some) (CF : Cal P w K mg base "_law_fleet" 4 ["_law_bag_here", "_law_many", "_law_most"] sp_fleet) :
    FnOk P w K mg base CX0 5 f fd ["_law_bag_here"] sp_wide := by
  refine F.ok sc_w_wide (fun vs H Q E h => ?_) (fun cdv A outer s H vs Q E hr h => ?_)
  · obtain ⟨b, c, rfl, _⟩ := h
    rfl
  · obtain ⟨b, c, rfl, B, q⟩ := h
    refine ⟨_, pss_one (ps_ret (CF.pe hr (by decide) (by rfl) (pa_cons (pv 0)
      (pa_cons (CS.pe hr (by decide) (by rfl) (pa_cons (pv 0) (pa_cons (pe_lst (pa_cons pe_int (pa_cons pe_int (pa_cons pe_int (pa_cons pe_int pa_nil))))) pa_nil)))
      (pa_cons (CS.pe hr (by decide) (by rfl) (pa_cons (pv 0) (pa_cons (pe_lst (pa_cons pe_int (pa_cons pe_int (pa_cons pe_int pa_nil)))) pa_nil))) pa_nil))))), ?_⟩
    refine ⟨.ref b, rfl, .ref b, rfl, le_line (by show 4 ≤ 10000; decide), fun l hl => ⟨b, c, .ref l, rfl, B.new hl, .inl ⟨l, _, rfl, B.nb hl, upd_same, by decide, by decide, fun H1 v k1 B1 hv => ?_⟩⟩⟩
    obtain ⟨m, rfl, m1, m8⟩ : ∃ m : Nat, v = V.int (m : Nat) ∧ 1 ≤ m ∧ m ≤ 8 := by
      simp only [List.mem_cons, List.not_mem_nil, or_false] at hv
      rcases hv with rfl | rfl | rfl | rfl
      · exact ⟨3, rfl, by decide, by decide⟩
      · exact ⟨5, rfl, by decide, by decide⟩
      · exact ⟨8, rfl, by decide, by decide⟩
      · exact ⟨2, rfl, by decide, by decide⟩
    have k0 := (Kp.new (b := b) (o := .lst [.int 3, .int 5, .int 8, .int 2]) hl).trans k1
    refine ⟨.ref b, rfl, le_line (by show 3 ≤ 10000; decide), fun l2 hl2 => ⟨b, c, .ref l2, rfl, B1.new hl2, .inl ⟨l2, _, rfl, B1.nb hl2, upd_same, by decide, by decide, fun H2 v k2 B2 hv => ?_⟩⟩⟩
    obtain ⟨n, rfl, hn⟩ : ∃ n : Nat, v = V.int (n : Nat) ∧ n ≤ 60 := by
      simp only [List.mem_cons, List.not_mem_nil, or_false] at hv
      rcases hv with rfl | rfl | rfl
      · exact ⟨20, rfl, by decide⟩
      · exact ⟨60, rfl, by decide⟩
      · exact ⟨40, rfl, by decide⟩
    have k3 := (k0.trans (Kp.new (o := .lst [.int 20, .int 60, .int 40]) hl2)).trans k2
    exact ⟨b, c, m, n, rfl, B2, m1, m8, hn, fun H' p svs pls rs k B' Fl FO hp => q H' p svs pls rs (k3.trans k) B' Fl FO (k3.free hp (B2.nb hp))⟩
def sp_cut : Sp := fun vs H Q _ => ∃ (b c : Addr) (m n : Nat), vs = [.ref b, .int (m : Nat), .int (n : Nat)] ∧ Bag H b c ∧ 1 ≤ m ∧ m ≤ 8 ∧ n ≤ 20 ∧
  ∀ (H' : Hp) (p : Addr) (svs : List Str) (pls : List Int) (rs : List Str), Kp b H H' → Bag H' b c → Fleet H' p svs pls rs → FleetOk svs pls rs → H p = none → Q (.ref p) H'
theorem ok_cut {f : Addr} {fd : FuncData} (F : Fun K "_law_cut_fleet" "_law_cut_fleet" s_w_cut_fleet f fd) (CF : Cal P w K mg base "_law_fleet" 4 ["_law_bag_here", "_law_many", "_law_most"] sp_fleet) :
    FnOk P w K mg base CX0 5 f fd ["_law_bag_here", "_law_many", "_law_most"] sp_cut := by
  refine F.ok sc_w_cut_fleet (fun vs H Q E h => ?_) (fun cdv A outer s H vs Q E hr h => ?_)
  · obtain ⟨b, c, m, n, rfl, _⟩ := h
    rfl
  · obtain ⟨b, c, m, n, rfl, B, m1, m8, hn, q⟩ := h
    refine ⟨_, pss_cons (ps_asg (CF.pe hr (by decide) (by rfl) (pa_cons (pv 0) (pa_cons (pv 1) (pa_cons (pe_op op_mul pe_int (pv 2)) pa_nil))))
        (pg_tup rfl (pgs_cons (pg_name (i := 3) sc_w_cut_fleet.nd rfl (Or.inl rfl)) (pgs_cons (pg_name (i := 4) sc_w_cut_fleet.nd rfl (Or.inl rfl)) (pgs_cons (pg_name (i := 5) sc_w_cut_fleet.nd rfl (Or.inl rfl)) pgs_nil)))))
      (pss_one (ps_ret (pe_tup (pa_cons (pv 3) (pa_cons (pv 4) (pa_cons (pe_slice sl_tupA (pv 5) po_none (po_some (pv 2))) pa_nil)))))), ?_⟩
    have e3 : (3 : Int) * (n : Int) = ((3 * n : Nat) : Int) := by omega
    refine ⟨.ref b, rfl, .int m, rfl, .int n, rfl, 3, n, rfl, rfl, (by unfold CMul; omega), b, c, m, 3 * n, congrArg (fun z => [V.ref b, V.int (m : Int), V.int z]) e3, B, m1, m8, by omega, fun H1 p svs pls rs k1 B1 Fl FO hp => ?_⟩
    obtain ⟨sa, pa, ra, f1, f2, f3, f4⟩ := Fl.ex
    refine ⟨p, _, rfl, sqT f1, rfl, _, _, rfl, _, _, rfl, _, _, rfl, rfl, .ref sa, rfl, .ref pa, rfl, .ref ra, rfl, .int n, rfl, n, rfl, ra, rs.map V.str, rfl, sqT f4, fun hw => ?_, fun _ r hr0 => ?_⟩
    · refine ⟨le_line (by show 3 ≤ 10000; decide), fun p2 hp2 => q _ p2 svs pls rs (k1.trans (Kp.new hp2)) (B1.new hp2) ⟨sa, pa, ra, upd_same, upd_other f2 hp2, upd_other f3 hp2, upd_other f4 hp2⟩ FO (k1.free hp2 (B1.nb hp2))⟩
    · rw [cut_take, ← List.map_take]
      have B2 := B1.new (o := .tup ((rs.take n).map V.str)) hr0
      refine ⟨le_line (by show 3 ≤ 10000; decide), fun p2 hp2 => q _ p2 svs pls (rs.take n) ((k1.trans (Kp.new hr0)).trans (Kp.new hp2)) (B2.new hp2)
        ⟨sa, pa, r, upd_same, upd_other (upd_other f2 hr0) hp2, upd_other (upd_other f3 hr0) hp2, upd_other upd_same hp2⟩
        ⟨FO.s1, FO.s8, FO.nm, by have := FO.r60; rw [List.length_take]; omega, fun r h => FO.rin r (List.mem_of_mem_take h), FO.pl, FO.nd, FO.pin⟩ ((k1.trans (Kp.new hr0)).free hp2 (B2.nb hp2))⟩
def sp_middle : Sp := sp_wide
theorem ok_middle {f : Addr} {fd : FuncData} (F : Fun K "_law_middle" "_law_middle" s_w_middle f fd) (CS : Cal P w K mg base "_law_some" 2 ["_law_bag_here", "_law_things"] sp_some) (CF : Cal P w K mg base "_law_cut_fleet" 5 ["_law_bag_here", "_law_many", "_law_most"] sp_cut) :
    FnOk P w K mg base CX0 6 f fd ["_law_bag_here"] sp_middle := by
  refine F.ok sc_w_middle (fun vs H Q E h => ?_) (fun cdv A outer s H vs Q E hr h => ?_)
  · obtain ⟨b, c, rfl, _⟩ := h
    rfl
  · obtain ⟨b, c, rfl, B, q⟩ := h
    refine ⟨_, pss_one (ps_ret (CF.pe hr (by decide) (by rfl) (pa_cons (pv 0)
      (pa_cons (CS.pe hr (by decide) (by rfl) (pa_cons (pv 0) (pa_cons (pe_lst (pa_cons pe_int (pa_cons pe_int (pa_cons pe_int (pa_cons pe_int (pa_cons pe_int pa_nil)))))) pa_nil)))
      (pa_cons (CS.pe hr (by decide) (by rfl) (pa_cons (pv 0) (pa_cons (pe_lst (pa_cons pe_int (pa_cons pe_int (pa_cons pe_int pa_nil)))) pa_nil))) pa_nil))))), ?_⟩
    refine ⟨.ref b, rfl, .ref b, rfl, le_line (by show 5 ≤ 10000; decide), fun l hl => ⟨b, c, .ref l, rfl, B.new hl, .inl ⟨l, _, rfl, B.nb hl, upd_same, by decide, by decide, fun H1 v k1 B1 hv => ?_⟩⟩⟩
    obtain ⟨m, rfl, m1, m8⟩ : ∃ m : Nat, v = V.int (m : Nat) ∧ 1 ≤ m ∧ m ≤ 8 := by
      simp only [List.mem_cons, List.not_mem_nil, or_false] at hv
      rcases hv with rfl | rfl | rfl | rfl | rfl
      · exact ⟨2, rfl, by decide, by decide⟩
      · exact ⟨3, rfl, by decide, by decide⟩
      · exact ⟨1, rfl, by decide, by decide⟩
      · exact ⟨4, rfl, by decide, by decide⟩
      · exact ⟨2, rfl, by decide, by decide⟩
    have k0 := (Kp.new (b := b) (o := .lst [.int 2, .int 3, .int 1, .int 4, .int 2]) hl).trans k1
    refine ⟨.ref b, rfl, le_line (by show 3 ≤ 10000; decide), fun l2 hl2 => ⟨b, c, .ref l2, rfl, B1.new hl2, .inl ⟨l2, _, rfl, B1.nb hl2, upd_same, by decide, by decide, fun H2 v k2 B2 hv => ?_⟩⟩⟩
    obtain ⟨n, rfl, hn⟩ : ∃ n : Nat, v = V.int (n : Nat) ∧ n ≤ 20 := by
      simp only [List.mem_cons, List.not_mem_nil, or_false] at hv
      rcases hv with rfl | rfl | rfl
      · exact ⟨6, rfl, by decide⟩
      · exact ⟨4, rfl, by decide⟩
      · exact ⟨8, rfl, by decide⟩
    have k3 := (k0.trans (Kp.new (o := .lst [.int 6, .int 4, .int 8]) hl2)).trans k2
    exact ⟨b, c, m, n, rfl, B2, m1, m8, hn, fun H' p svs pls rs k B' Fl FO hp => q H' p svs pls rs (k3.trans k) B' Fl FO (k3.free hp (B2.nb hp))⟩
/-! ### pins -/
theorem lease_name {svs rs : List Str} {pls : List Int} (FO : FleetOk svs pls rs) {x : Str × Int} (h : x ∈ leasesL svs rs) : NameOk x.1 := by
  obtain ⟨k, _, _, l⟩ := leasesL_mem h
  rcases l with ⟨_, l⟩ | ⟨j, _, l⟩
  · exact FO.nm _ l
  · exact FO.nm _ (FO.rin _ (List.mem_of_getElem? l))
theorem TIs.kp {b c : Addr} {H H' : Hp} {ps : List TI} (h : TIs H ps) (B : Bag H b c) (k : Kp b H H') : TIs H' ps := fun e m => k.tup B (h e m)
def sp_pins : Sp := fun vs H Q _ => ∃ (b c a : Addr) (svs : List Str) (pls : List Int) (rs : List Str), vs = [.ref b, .ref a] ∧ Bag H b c ∧ Fleet H a svs pls rs ∧ FleetOk svs pls rs ∧
  ∀ (H' : Hp) (p : Addr) (ps : List TI), Kp b H H' → Bag H' b c → H p = none → H' p = some (.tup (refsT ps)) → TIs H' ps → (∀ x ∈ ps, NameOk x.2.1) → Q (.ref p) H'
theorem ok_pins {f : Addr} {fd : FuncData} (F : Fun K "_law_pins" "_law_pins" s_w_pins f fd) (mT : mg "tuple" = none) (CT : Cal P w K mg base "_law_take" 1 ["_law_bag_here", "_law_many"] sp_take) (CS : Cal P w K mg base "_law_some" 2 ["_law_bag_here", "_law_things"] sp_some)
    (CL : Cal P w K mg base "_law_leases" 1 ["_law_fleet_here"] sp_w_leases) : FnOk P w K mg base CX0 3 f fd ["_law_bag_here", "_law_fleet_here"] sp_pins := by
  refine F.ok sc_w_pins (fun vs H Q E h => ?_) (fun cdv A outer s H vs Q E hr h => ?_)
  · obtain ⟨b, c, a, svs, pls, rs, rfl, _⟩ := h
    rfl
  · obtain ⟨b, c, a, svs, pls, rs, rfl, B, Fl, FO, q⟩ := h
    refine ⟨_, pss_cons (ps_asg (pe_tup (pa_cons (pe_mid (pe_lc (own := [("_law_lease", 4)]) (g := gName 4) (te := tVar 4) rfl sc_w_pins.nd (pi_list (CL.pe hr (by decide) (by rfl) (pa_cons (pv 1) pa_nil)))
          (blkOk_by (own := [("_law_lease", 4)]) (N := ["_law_bag_here", "_law_fleet_here", "_law_some_here", "_law_of", "_law_lease"]) (sc := defScope s_w_pins) (by decide +kernel))
          (fun _ _ _ _ _ => pg_name (i := 4) sc_w_pins.nd rfl (Or.inl rfl))
          (fun _ _ _ _ _ => pts_one (pt_cmpR op_gt (pe_ix (r := rIxT K) ix_tup (pv 4) pe_int (fun _ _ => rfl)) pe_int (nomark _)))
          (fun _ _ _ _ _ => pv 4)))
        (pa_cons (CS.pe hr (by decide) (by rfl) (pa_cons (pv 0) (pa_cons (pe_lst (pa_cons pe_int (pa_cons pe_int (pa_cons pe_int (pa_cons pe_int (pa_cons pe_int pa_nil)))))) pa_nil))) pa_nil)))
        (pg_tup rfl (pgs_cons (pg_name (i := 2) sc_w_pins.nd rfl (Or.inl rfl)) (pgs_cons (pg_name (i := 3) sc_w_pins.nd rfl (Or.inr rfl)) pgs_nil))))
      (pss_one (ps_ret (pe_callTy call_tuple_of (by rfl) mT bt_tuple (pa_cons (pe_lc (own := [("_law_lease", 4)]) (g := gName 4) (te := tVar 4) rfl sc_w_pins.nd (pi_list (pv 2))
          (blkOk_by (own := [("_law_lease", 4)]) (N := ["_law_bag_here", "_law_fleet_here", "_law_some_here", "_law_of", "_law_lease"]) (sc := defScope s_w_pins) (by decide +kernel))
          (fun _ _ _ _ _ => pg_name (i := 4) sc_w_pins.nd rfl (Or.inl rfl))
          (fun _ _ _ _ _ => pts_one (PW.pt (pw_and (pt_cmpR op_gt (pv 3) pe_int (nomark _)) (pw_and1 (pt_cmpR op_eq (CT.pe hr (by decide) (by rfl) (pa_cons (pv 0) (pa_cons (pv 3) pa_nil))) pe_int (nomark _))))))
          (fun _ _ _ _ _ => pv 4)) pa_nil)))), ?_⟩
    refine ⟨fun x H' => ∃ (D : Addr) (es : List TI), x = .ref D ∧ Same H H' ∧ H D = none ∧ H' D = some (.lst (refsT es)) ∧ TIs H' es ∧ es.length ≤ 100 ∧ ∀ z ∈ es, NameOk z.2.1, ?_, ?_⟩
    · refine ⟨.ref a, rfl, a, svs, pls, rs, rfl, Fl, by have := FO.s8; omega, FO.r60, fun H1 l ls s1 hl0 hl kt et => ⟨l, rfl, ⟨_, sqL hl⟩, fun D hD => ?_⟩⟩
      have lL : ls.length ≤ 70 := by
        have := congrArg List.length et
        rw [List.length_map, leasesL_len] at this
        have := FO.s8
        have := FO.r60
        omega
      refine lc_list (K := K) (a := l) (xs := refsT ls) (fun i H2 => Same H1 H2 ∧ ∃ es : List TI, H2 D = some (.lst (refsT es)) ∧ es.length ≤ i ∧ TIs H2 es ∧ ∀ z ∈ es, NameOk z.2.1) ⟨same_new hD, [], upd_same, Nat.zero_le _, fun e m => absurd m List.not_mem_nil, by simp⟩ (fun i H2 _ h2 => sqL (h2.1 _ _ hl)) ?_ ?_
      · rintro i x H2 hx ⟨s2, es, e2, l2, k2, g2⟩
        have hi : i < ls.length := by
          have := (List.getElem?_eq_some_iff.mp hx).1
          rwa [refsT, List.length_map] at this
        have hx' : x = .ref ls[i].1 := by
          rw [refsT, List.getElem?_map, List.getElem?_eq_getElem hi] at hx
          exact (Option.some.inj hx).symm
        subst hx'
        have hm : ls[i] ∈ ls := List.getElem_mem hi
        have h2 := s2 _ _ (kt _ hm)
        have hn : NameOk ls[i].2.1 := lease_name FO (by rw [← et]; exact List.mem_map.mpr ⟨_, hm, rfl⟩)
        refine ⟨rfl, .ref ls[i].1, rfl, ls[i].1, _, 1, .int ls[i].2.2, rfl, rfl, sqT h2, atI_nat (j := 1) rfl, _, 0, rfl, rfl, _, rfl, ite2 (fun _ => ?_) (fun _ => ⟨s2, es, e2, by omega, k2, g2⟩)⟩
        refine ⟨.ref ls[i].1, rfl, refsT es, e2, lt_line (by rw [refsT, List.length_map]; omega), fun c o ho => ?_, es ++ [ls[i]], ?_, by simp; omega, ?_, fun z hz => ?_⟩
        · rw [upd_ne (ne_of_none ho hD)]
          exact s2 _ _ ho
        · rw [upd_same, refsT_app]; rfl
        · exact (k2.snoc h2).upd e2
        · rcases List.mem_append.mp hz with m | m
          · exact g2 z m
          · rw [List.mem_singleton.mp m]; exact hn
      · rintro H2 ⟨s2, es, e2, l2, k2, g2⟩
        exact ⟨D, es, rfl, s1.trans s2, s1.free hD, e2, k2, by rw [refsT, List.length_map] at l2; omega, g2⟩
    · rintro x H1 ⟨D, es, rfl, s1, hD, e1, t1, l1, g1⟩
      have B1 := B.same s1
      have nD : D ≠ b := B.nb hD
      refine ⟨.ref b, rfl, le_line (by show 5 ≤ 10000; decide), fun l hl => ⟨b, c, .ref l, rfl, B1.new hl, .inl ⟨l, _, rfl, B1.nb hl, upd_same, by decide, by decide, fun H2 v k2 B2 hv => ?_⟩⟩⟩
      obtain ⟨n, rfl, n8⟩ : ∃ n, v = V.int n ∧ n ≤ 8 := by
        simp only [List.mem_cons, List.not_mem_nil, or_false] at hv
        rcases hv with rfl | rfl | rfl | rfl | rfl <;> exact ⟨_, rfl, by decide⟩
      refine ⟨le_line (by show 2 ≤ 10000; decide), fun t0 ht0 => ⟨t0, _, rfl, sqT upd_same, rfl, _, _, rfl, _, _, rfl, rfl, ?_⟩⟩
      have k02 : Kp b H H2 := ((Kp.of s1).trans (Kp.new hl)).trans k2
      have k12 : Kp b H1 H2 := (Kp.new hl).trans k2
      have k3 := k12.trans (Kp.new (o := .tup [.ref D, .int n]) ht0)
      have B3 := B2.new (o := .tup [.ref D, .int n]) ht0
      have t3 := t1.kp B1 k3
      have e3 := k3 _ _ nD e1
      have k03 := k02.trans (Kp.new (b := b) (o := .tup [.ref D, .int n]) ht0)
      generalize upd H2 t0 (.tup [.ref D, .int n]) = H3 at k3 B3 t3 e3 k03 ⊢
      refine ⟨.ref D, rfl, D, rfl, ⟨_, sqL e3⟩, fun D2 hD2 => ?_⟩
      have nD2 : D2 ≠ b := B3.nb hD2
      refine lc_list (K := K) (a := D) (xs := refsT es) (fun i H4 => Kp b H3 H4 ∧ Bag H4 b c ∧ ∃ ps : List TI, H4 D2 = some (.lst (refsT ps)) ∧ ps.length ≤ i ∧ TIs H4 ps ∧ ∀ z ∈ ps, NameOk z.2.1) ⟨Kp.new hD2, B3.new hD2, [], upd_same, Nat.zero_le _, fun e m => absurd m List.not_mem_nil, by simp⟩ (fun i H4 _ h4 => sqL (h4.1 _ _ nD e3)) ?_ ?_
      · rintro i x H4 hx ⟨k4, B4, ps, e4, l4, t4, g4⟩
        have hi : i < es.length := by
          have := (List.getElem?_eq_some_iff.mp hx).1
          rwa [refsT, List.length_map] at this
        have hx' : x = .ref es[i].1 := by
          rw [refsT, List.getElem?_map, List.getElem?_eq_getElem hi] at hx
          exact (Option.some.inj hx).symm
        subst hx'
        have hm : es[i] ∈ es := List.getElem_mem hi
        refine ⟨rfl, .int n, rfl, n, 0, rfl, rfl, _, rfl, ?_⟩
        by_cases hn : 0 < n
        · rw [decide_eq_true hn]
          refine ite2 (fun _ => ?_) (fun k => absurd rfl k)
          refine ⟨.ref b, rfl, .int n, rfl, b, c, n, rfl, B4, by omega, by omega, fun H5 v k5 B5 _ _ => ⟨rfl, _, rfl, ite2 (fun _ => ?_) (fun _ => ?_)⟩⟩
          · have t5 := t4.kp B4 k5
            have e5 := k5 _ _ nD2 e4
            have h5 : H5 es[i].1 = some (.tup [.str es[i].2.1, .int es[i].2.2]) := (t3.kp B3 (k4.trans k5)) _ hm
            refine ⟨.ref es[i].1, rfl, refsT ps, e5, lt_line (by rw [refsT, List.length_map]; omega), ?_, B5.upd nD2 (B3.nc hD2), ps ++ [es[i]], ?_, by simp; omega, ?_, fun z hz => ?_⟩
            · exact (k4.trans k5).mut hD2
            · rw [upd_same, refsT_app]; rfl
            · exact (t5.snoc h5).upd e5
            · rcases List.mem_append.mp hz with m | m
              · exact g4 z m
              · rw [List.mem_singleton.mp m]; exact g1 _ hm
          · exact ⟨k4.trans k5, B5, ps, k5 _ _ nD2 e4, by omega, t4.kp B4 k5, g4⟩
        · rw [decide_eq_false hn]
          refine ite2 (fun k => absurd k (by decide)) (fun _ => ?_)
          refine ite2 (fun k => absurd k (by decide)) (fun _ => ?_)
          exact ⟨k4, B4, ps, e4, by omega, t4, g4⟩
      · rintro H4 ⟨k4, B4, ps, e4, l4, t4, g4⟩
        refine ⟨D2, _, rfl, .inl ⟨sqL e4, fun p hp => ?_⟩⟩
        exact q _ p ps ((k03.trans k4).trans (Kp.new hp)) (B4.new hp) ((k03.trans k4).free hp (B4.nb hp)) upd_same (t4.same (same_new hp)) g4
end
end K25
/-! _law_exchanged. -/
namespace K25
open PySem PySem.Spec PyProof.Rows L2
section
variable {P : Program} {w : World} {K : PySem.W.Frag} {mg : Str → Option Value} {base : Heap}
/-- restarts within m, at most n of them -/
def PlanL (ps : List Int) (m n : Nat) : Prop := ps.length ≤ n ∧ ∀ j ∈ ps, 0 ≤ j ∧ j < (m : Int)
def endsL (i e m : Nat) : List Int := (i : Int) :: (if e < m then [(e : Int)] else [])
def noneOf (ns ms : List Int) : List Int := ns.filter fun j => !decide (j ∈ ms)
/-- a turn of [j for j in ns if j not in ms] -/
theorem turn_none {σ : L2.St} {H : Hp} {D q : Addr} {ns ms : List Int} {i : Nat} {x : V} {Pv : Nat → Hp → Prop} (hx : (ns.map V.int)[i]? = some x) (h5 : σ[5]? = some (some x)) {k : Nat} (hk : σ[k]? = some (some (.ref q))) (hq : SqL K H q (ms.map V.int) ∨ SqT K H q (ms.map V.int))
    (hD : H D = some (.lst ((noneOf (ns.take i) ms).map V.int))) (hl : ns.length ≤ 1000)
    (q1 : ∀ H', H' = upd H D (.lst ((noneOf (ns.take (i + 1)) ms).map V.int)) → Pv (i + 1) H') (q2 : noneOf (ns.take (i + 1)) ms = noneOf (ns.take i) ms → Pv (i + 1) H) :
    tTest (tOp (rIn K true) (tVar 5) (tVar k)) σ H fun b H3 => if b = true then tVar 5 σ H3 fun y H4 => ∃ acc, H4 D = some (.lst acc) ∧ acc.length < sizeLine ∧ Pv (i + 1) (upd H4 D (.lst (acc ++ [y]))) else Pv (i + 1) H3 := by
  have hi : i < ns.length := by
    have := (List.getElem?_eq_some_iff.mp hx).1
    rwa [List.length_map] at this
  have hx' : x = .int ns[i] := by
    rw [List.getElem?_map, List.getElem?_eq_getElem hi] at hx
    exact (Option.some.inj hx).symm
  subst hx'
  have et : ns.take (i + 1) = ns.take i ++ [ns[i]] := by rw [List.take_add_one, List.getElem?_eq_getElem hi]; rfl
  have hlen : (noneOf (ns.take i) ms).length ≤ ns.length := Nat.le_trans (List.length_filter_le _ _) (by rw [List.length_take]; omega)
  refine ⟨.int ns[i], h5, .ref q, hk, q, ms.map V.int, rfl, hq, rfl, flat_ints ms, !inV (.int ns[i]) (ms.map V.int), rfl, ?_⟩
  rw [inV_ints]
  by_cases hm : ns[i] ∈ ms
  · rw [decide_eq_true hm]
    refine ite2 (fun k => absurd k (by decide)) (fun _ => q2 ?_)
    rw [noneOf, et, List.filter_append, List.filter_cons_of_neg (by simp [hm])]
    simp [noneOf]
  · rw [decide_eq_false hm]
    refine ite2 (fun _ => ?_) (fun k => absurd rfl k)
    refine ⟨.int ns[i], h5, _, hD, lt_line (by rw [List.length_map]; omega), q1 _ ?_⟩
    congr 2
    rw [noneOf, noneOf, et, List.filter_append, List.filter_cons_of_pos (by simp [hm]), List.map_append]
    rfl
def sp_exchanged : Sp := fun vs H Q _ => ∃ (a c l : Addr) (svs : List Str) (pls : List Int) (rs : List Str) (ps : List Int) (t : Str) (i n : Nat), vs = [.ref a, .ref c, .ref l] ∧ Fleet H a svs pls rs ∧ rs.length ≤ 60 ∧ H c = some (.tup (ps.map V.int)) ∧ PlanL ps rs.length n ∧ n ≤ 200 ∧
  H l = some (.tup [.str t, .int ((i + 1 : Nat) : Int)]) ∧ rs[i]? = some t ∧
  ∀ (H' : Hp) (p : Addr) (qs : List Int) (e : Nat), Same H H' → H p = none → H' p = some (.tup (qs.map V.int)) → PlanL qs rs.length (n + 2) → IsEnd rs t (i + 1) e →
    (∀ j : Int, j ∈ qs ↔ (j ∈ ps ∧ j ∉ endsL i e rs.length) ∨ (j ∈ endsL i e rs.length ∧ j ∉ ps)) → Q (.ref p) H'
theorem ok_exchanged {f : Addr} {fd : FuncData} (F : Fun K "_law_exchanged" "_law_exchanged" s_w_exchanged f fd) (mL : mg "len" = none) (mI : mg "int" = none) (mT : mg "tuple" = none) (mS : mg "sorted" = none)
    (CE : Cal P w K mg base "_law_end" 1 ["_law_fleet_here", "_law_lease"] sp_end) : FnOk P w K mg base CX0 2 f fd ["_law_fleet_here", "_law_plan_here", "_law_lease"] sp_exchanged := by
  refine F.ok sc_w_exchanged (fun vs H Q E h => ?_) (fun cdv A outer s H vs Q E hr h => ?_)
  · obtain ⟨a, c, l, svs, pls, rs, ps, t, i, n, rfl, _⟩ := h
    rfl
  · obtain ⟨a, c, l, svs, pls, rs, ps, t, i, n, rfl, Fl, hw, hc, PO, hn, hl, hi, q⟩ := h
    refine ⟨_, pss_cons (ps_set (i := 3) sc_w_exchanged.nd rfl (.inl rfl) (CE.pe hr (by decide) (by rfl) (pa_cons (pv 0) (pa_cons (pv 2) pa_nil))))
      (pss_mid (ps_set (i := 4) sc_w_exchanged.nd rfl (.inr rfl) (pe_op op_cat (pe_lst (pa_cons (pe_op op_sub (pe_ix ix_tup (pv 2) pe_int (fun _ _ => rfl)) pe_int) pa_nil))
          (pe_op op_rep (pe_lst (pa_cons (pv 3) pa_nil)) (pe_callTy call_int1 (by rfl) mI bt_int (pa_cons (pe_cmp (pc_lt (pv 3) (pe_callB call_len_seq (by rfl) mL bt_len (pa_cons (pe_ix ix_tup (pv 0) pe_int (fun _ _ => rfl)) pa_nil)))) pa_nil)))))
      (pss_one (ps_ret (pe_callTy call_tuple_of (by rfl) mT bt_tuple (pa_cons (pe_callB cr_sortedI (by rfl) mS bt_sorted (pa_cons (pe_op op_cat
        (pe_mid (pe_lc (own := [("_law_j", 5)]) (g := gName 5) (te := tVar 5) rfl sc_w_exchanged.nd (pi_tup (pv 1))
          (blkOk_by (own := [("_law_j", 5)]) (N := ["_law_fleet_here", "_law_plan_here", "_law_lease", "_law_end_here", "_law_ends", "_law_j"]) (sc := defScope s_w_exchanged) (by decide +kernel))
          (fun _ _ _ _ _ => pg_name (i := 5) sc_w_exchanged.nd rfl (Or.inl rfl)) (fun _ _ _ _ _ => pts_one (pt_cmpR (r := rIn K true) op_notIn_seq (pv 5) (pv 4) (by rfl))) (fun _ _ _ _ _ => pv 5)))
        (pe_mid (pe_lc (own := [("_law_j", 5)]) (g := gName 5) (te := tVar 5) rfl sc_w_exchanged.nd (pi_list (pv 4))
          (blkOk_by (own := [("_law_j", 5)]) (N := ["_law_fleet_here", "_law_plan_here", "_law_lease", "_law_end_here", "_law_ends", "_law_j"]) (sc := defScope s_w_exchanged) (by decide +kernel))
          (fun _ _ _ _ _ => pg_name (i := 5) sc_w_exchanged.nd rfl (Or.inl rfl)) (fun _ _ _ _ _ => pts_one (pt_cmpR (r := rIn K true) op_notIn_seq (pv 5) (pv 1) (by rfl))) (fun _ _ _ _ _ => pv 5)))) pa_nil)) pa_nil))))), ?_⟩
    obtain ⟨sa, pa, ra, f1, f2, f3, f4⟩ := Fl.ex
    have him : i < rs.length := (List.getElem?_eq_some_iff.mp hi).1
    refine ⟨.ref a, rfl, .ref l, rfl, a, l, svs, pls, rs, t, i + 1, rfl, Fl, hl, him, hw, fun H1 e s1 hend => ?_⟩
    refine ⟨fun σ' H' => ∃ E0 : Addr, σ' = [some (.ref a), some (.ref c), some (.ref l), some (.int (e : Nat)), some (.ref E0), none] ∧ Same H H' ∧ H' E0 = some (.lst ((endsL i e rs.length).map V.int)), ?_, ?_⟩
    · refine ⟨.ref l, rfl, l, _, 1, _, rfl, rfl, sqT (s1 _ _ hl), atI_nat (j := 1) rfl, ((i + 1 : Nat) : Int), 1, rfl, rfl, le_line (by show 1 ≤ 10000; decide), fun l1 hl1 => ⟨.int (e : Nat), rfl, le_line (by show 1 ≤ 10000; decide), fun l2 hl2 => ?_⟩⟩
      have s2 := (s1.trans (same_new (o := .lst [.int (((i + 1 : Nat) : Int) - 1)]) hl1)).trans (same_new (o := .lst [.int (e : Nat)]) hl2)
      refine ⟨.int (e : Nat), rfl, .ref a, rfl, a, _, 2, .ref ra, rfl, rfl, sqT (s2 _ _ f1), atI_nat (j := 2) rfl, ra, rs.map V.str, rfl, .inr (sqT (s2 _ _ f4)), (e : Int), ((rs.map V.str).length : Int), rfl, rfl, .inr ⟨decide ((e : Int) < (rs.length : Int)), by rw [List.length_map], ?_⟩⟩
      have i1 : ((i + 1 : Nat) : Int) - 1 = (i : Int) := by omega
      by_cases he : e < rs.length
      · rw [decide_eq_true (by omega : (e : Int) < (rs.length : Int)), if_pos rfl]
        refine ⟨l2, 1, [.int (e : Nat)], rfl, rfl, upd_same, by decide, by decide, le_line (by show 1 * 1 ≤ 10000; decide), fun l3 hl3 => ⟨l1, l3, [.int (((i + 1 : Nat) : Int) - 1)], [.int (e : Nat)], rfl, rfl, upd_other (upd_other upd_same hl2) hl3, upd_same, le_line (by show 2 ≤ 10000; decide), fun E0 hE0 => ⟨E0, rfl, (s2.trans (same_new hl3)).trans (same_new hE0), ?_⟩⟩⟩
        rw [upd_same, endsL, if_pos he, i1]
        rfl
      · rw [decide_eq_false (by omega : ¬ (e : Int) < (rs.length : Int)), if_neg (by decide)]
        refine ⟨l2, 0, [.int (e : Nat)], rfl, rfl, upd_same, by decide, by decide, le_line (by show 1 * 0 ≤ 10000; decide), fun l3 hl3 => ⟨l1, l3, [.int (((i + 1 : Nat) : Int) - 1)], [], rfl, rfl, upd_other (upd_other upd_same hl2) hl3, upd_same, le_line (by show 1 ≤ 10000; decide), fun E0 hE0 => ⟨E0, rfl, (s2.trans (same_new hl3)).trans (same_new hE0), ?_⟩⟩⟩
        rw [upd_same, endsL, if_neg he, i1]
        rfl
    · rintro σ H2 ⟨E0, rfl, s2, e0⟩
      have c2 := s2 _ _ hc
      have le : (endsL i e rs.length).length ≤ 2 := by unfold endsL; split <;> simp
      have lp := PO.1
      refine ⟨fun x H' => ∃ D : Addr, x = .ref D ∧ Same H2 H' ∧ H' D = some (.lst ((noneOf ps (endsL i e rs.length)).map V.int)), ?_, ?_⟩
      · refine ⟨.ref c, rfl, c, rfl, ⟨_, sqT c2⟩, fun D hD => ?_⟩
        refine lc_tup (K := K) (a := c) (xs := ps.map V.int) (fun k H3 => Same H2 H3 ∧ H3 D = some (.lst ((noneOf (ps.take k) (endsL i e rs.length)).map V.int))) ⟨same_new hD, upd_same⟩ (fun k H3 _ h3 => sqT (h3.1 _ _ c2)) ?_ ?_
        · rintro k x H3 hx ⟨s3, e3⟩
          refine ⟨rfl, turn_none (K := K) (k := 4) (Pv := fun k H3 => Same H2 H3 ∧ H3 D = some (.lst ((noneOf (ps.take k) (endsL i e rs.length)).map V.int))) hx rfl rfl (.inl (sqL (s3 _ _ e0))) e3 (by omega) (fun H' eh => ?_) (fun eq => ⟨s3, by rw [eq]; exact e3⟩)⟩
          subst eh
          exact ⟨fun c' o ho => by rw [upd_ne (ne_of_none ho hD)]; exact s3 _ _ ho, upd_same⟩
        · rintro H3 ⟨s3, e3⟩
          rw [List.length_map, List.take_length] at e3
          exact ⟨D, rfl, s3, e3⟩
      · rintro x H3 ⟨D, rfl, s3, e3⟩
        refine ⟨fun x H' => ∃ D2 : Addr, x = .ref D2 ∧ Same H3 H' ∧ H' D2 = some (.lst ((noneOf (endsL i e rs.length) ps).map V.int)), ?_, ?_⟩
        · have e0' := s3 _ _ e0
          refine ⟨.ref E0, rfl, E0, rfl, ⟨_, sqL e0'⟩, fun D2 hD2 => ?_⟩
          refine lc_list (K := K) (a := E0) (xs := (endsL i e rs.length).map V.int) (fun k H4 => Same H3 H4 ∧ H4 D2 = some (.lst ((noneOf ((endsL i e rs.length).take k) ps).map V.int))) ⟨same_new hD2, upd_same⟩ (fun k H4 _ h4 => sqL (h4.1 _ _ e0')) ?_ ?_
          · rintro k x H4 hx ⟨s4, e4⟩
            refine ⟨rfl, turn_none (K := K) (k := 1) (Pv := fun k H4 => Same H3 H4 ∧ H4 D2 = some (.lst ((noneOf ((endsL i e rs.length).take k) ps).map V.int))) hx rfl rfl (.inr (sqT (s4 _ _ (s3 _ _ c2)))) e4 (by omega) (fun H' eh => ?_) (fun eq => ⟨s4, by rw [eq]; exact e4⟩)⟩
            subst eh
            exact ⟨fun c' o ho => by rw [upd_ne (ne_of_none ho hD2)]; exact s4 _ _ ho, upd_same⟩
          · rintro H4 ⟨s4, e4⟩
            rw [List.length_map, List.take_length] at e4
            exact ⟨D2, rfl, s4, e4⟩
        · rintro x H4 ⟨D2, rfl, s4, e4⟩
          have b1 : (noneOf ps (endsL i e rs.length)).length ≤ ps.length := List.length_filter_le _ _
          have b2 : (noneOf (endsL i e rs.length) ps).length ≤ (endsL i e rs.length).length := List.length_filter_le _ _
          refine ⟨D, D2, _, _, rfl, rfl, s4 _ _ e3, e4, le_line (by rw [List.length_map, List.length_map]; omega), fun p1 hp1 => ?_⟩
          refine ⟨p1, noneOf ps (endsL i e rs.length) ++ noneOf (endsL i e rs.length) ps, rfl, sqL (by rw [upd_same, List.map_append]), fun qs p2 pm _ hp2 => ⟨p2, qs.map V.int, rfl, .inl ⟨sqL upd_same, fun p3 hp3 => ?_⟩⟩⟩
          have s5 := ((((s2.trans s3).trans s4).trans (same_new hp1)).trans (same_new (o := .lst (qs.map V.int)) hp2))
          have mem : ∀ j : Int, j ∈ qs ↔ (j ∈ ps ∧ j ∉ endsL i e rs.length) ∨ (j ∈ endsL i e rs.length ∧ j ∉ ps) := fun j => by
            rw [pm.mem_iff, List.mem_append, noneOf, noneOf, List.mem_filter, List.mem_filter]
            simp
          refine q _ p3 qs e (s5.trans (same_new hp3)) (s5.free hp3) upd_same ⟨?_, fun j hj => ?_⟩ hend mem
          · rw [pm.length_eq, List.length_append]; omega
          · rcases (mem j).mp hj with h | h
            · exact PO.2 j h.1
            · have := h.1
              unfold endsL at this
              rcases List.mem_cons.mp this with rfl | this
              · omega
              · split at this
                · rw [List.mem_singleton.mp this]; omega
                · cases this
end
end K25
/-! _law_stands: of its answer only the spares count. -/
namespace K25
open PySem PySem.Spec PyProof.Rows L2
/-! ### who stands where -/
structure Good (kvs : List (Key × V)) : Prop where
  nums : ∀ k v, valV kvs k = some v → ∃ i, v = V.int i
  inj : ∀ k1 k2 v, valV kvs k1 = some v → valV kvs k2 = some v → k1 = k2
theorem Good.nil : Good [] := ⟨fun _ _ h => (by cases h), fun _ _ _ h => (by cases h)⟩
theorem Good.put {kvs : List (Key × V)} (g : Good kvs) (k : Key) {n : Int} (h : ∀ j, valV kvs j ≠ some (.int n)) : Good (putK kvs k (.int n)) := by
  refine ⟨fun j v e => ?_, fun j1 j2 v e1 e2 => ?_⟩
  · rw [valV_put] at e
    split at e
    · exact ⟨n, (Option.some.inj e).symm⟩
    · exact g.nums j v e
  · rw [valV_put] at e1 e2
    split at e1
    · next h1 =>
      split at e2
      · next h2 => rw [h1, h2]
      · rw [← e1] at e2; exact absurd e2 (h j2)
    · split at e2
      · rw [← e2] at e1; exact absurd e1 (h j1)
      · exact g.inj j1 j2 v e1 e2
def pairsOf (ks : List Str) (ns : List Int) : List (Key × V) := (ks.zip ns).map fun p => ((.inr p.1 : Key), V.int p.2)
theorem merge_good : ∀ (ks : List Str) (ns : List Int) (acc : List (Key × V)), Good acc → ns.Nodup → (∀ n ∈ ns, ∀ j, valV acc j ≠ some (.int n)) → ks.length = ns.length →
    Good (mergeK acc (pairsOf ks ns)) ∧ (∀ j v, valV (mergeK acc (pairsOf ks ns)) j = some v → valV acc j = some v ∨ ∃ n ∈ ns, v = V.int n) ∧
      (∀ j, (valV acc j).isSome = true → (valV (mergeK acc (pairsOf ks ns)) j).isSome = true) ∧ ∀ s ∈ ks, (valV (mergeK acc (pairsOf ks ns)) (.inr s)).isSome = true
  | [], [], acc, g, _, _, _ => ⟨g, fun _ _ h => .inl h, fun _ h => h, fun _ h => by cases h⟩
  | k :: ks, n :: ns, acc, g, nd, dj, hl => by
    have nd' := List.nodup_cons.mp nd
    have g1 := g.put (.inr k) (dj n (by simp))
    obtain ⟨r1, r2, r3, r4⟩ := merge_good ks ns (putK acc (.inr k) (.int n)) g1 nd'.2 (fun m hm j e => by
      rw [valV_put] at e
      split at e
      · have : n = m := by injection (Option.some.inj e)
        exact nd'.1 (this ▸ hm)
      · exact dj m (by simp [hm]) j e) (by simpa using hl)
    refine ⟨r1, fun j v e => ?_, fun j h => r3 j ?_, fun s hs => ?_⟩
    · rcases r2 j v e with h | ⟨m, hm, h⟩
      · rw [valV_put] at h
        split at h
        · exact .inr ⟨n, by simp, (Option.some.inj h).symm⟩
        · exact .inl h
      · exact .inr ⟨m, by simp [hm], h⟩
    · rw [valV_put]
      split
      · rfl
      · exact h
    · rcases List.mem_cons.mp hs with rfl | hs
      · exact r3 _ (by rw [valV_put, if_pos rfl]; rfl)
      · exact r4 s hs
/-- one more number than there are -/
theorem sub_len : ∀ (l l' : List Int), l.Nodup → (∀ x ∈ l, x ∈ l') → l.length ≤ l'.length
  | [], _, _, _ => Nat.zero_le _
  | x :: t, l', nd, h => by
    have nd' := List.nodup_cons.mp nd
    have hx := h x (by simp)
    have := sub_len t (l'.erase x) nd'.2 fun y hy => (List.mem_erase_of_ne (fun e => nd'.1 (by rw [← e]; exact hy))).mpr (h y (by simp [hy]))
    rw [List.length_erase_of_mem hx] at this
    have hpos := List.length_pos_of_mem hx
    simp only [List.length_cons]
    omega
section
variable {P : Program} {w : World} {K : PySem.W.Frag} {mg : Str → Option Value} {base : Heap}
def sp_stands : Sp := fun vs H Q _ => ∃ (a c : Addr) (svs : List Str) (pls : List Int) (rs : List Str) (ps : List Int) (n : Nat), vs = [.ref a, .ref c] ∧ Fleet H a svs pls rs ∧ FleetOk svs pls rs ∧ H c = some (.tup (ps.map V.int)) ∧ PlanL ps rs.length n ∧
  ∀ (H' : Hp) (p D S : Addr) (ss : List Int), Same H H' → H' p = some (.tup [.ref D, .ref S]) → H' S = some (.lst (ss.map V.int)) → ss.length = rs.length + 1 → (∀ k, k < rs.length → pOf ps k = true → ss[k]? ≠ ss[k + 1]?) → Q (.ref p) H'
theorem ok_stands {f : Addr} {fd : FuncData} (F : Fun K "_law_stands" "_law_stands" s_w_stands f fd) (mL : mg "len" = none) (mD : mg "dict" = none) (mZ : mg "zip" = none) (mR : mg "range" = none) : FnOk P w K mg base CX0 1 f fd ["_law_fleet_here", "_law_plan_here"] sp_stands := by
  refine F.ok sc_w_stands (fun vs H Q E h => ?_) (fun cdv A outer s H vs Q E hr h => ?_)
  · obtain ⟨a, c, svs, pls, rs, ps, n, rfl, _⟩ := h
    rfl
  · obtain ⟨a, c, svs, pls, rs, ps, n, rfl, Fl, FO, hc, PO, q⟩ := h
    refine ⟨_, pss_mid (ps_par3 (i := 2) (j := 3) (l := 4) rfl sc_w_stands.nd rfl rfl rfl (by decide) (by decide) (by decide) rfl rfl rfl
        (pa_cons (pe_dzip rfl (by rfl) mD (by rfl) mZ (pa_cons (pe_ix ix_tup (pv 0) pe_int (fun _ _ => rfl)) (pa_cons (pe_ix ix_tup (pv 0) pe_int (fun _ _ => rfl)) pa_nil))) (pa_cons (pe_lst pa_nil) (pa_cons (pe_lst pa_nil) pa_nil))) rfl)
      (pss_mid (ps_set (i := 5) sc_w_stands.nd rfl (.inl rfl) (pe_ix ix_list (pe_mid (pe_lc (own := [("_law_machine", 8)]) (g := gName 8) (te := tVar 8) rfl sc_w_stands.nd
          (pi_range1 (by rfl) mR (pa_cons (pe_op op_add (pe_callB call_len_seq (by rfl) mL bt_len (pa_cons (pe_ix ix_tup (pv 0) pe_int (fun _ _ => rfl)) pa_nil)) pe_int) pa_nil))
          (blkOk_by (own := [("_law_machine", 8)]) (N := ["_law_fleet_here", "_law_plan_here", "_law_now", "_law_found", "_law_spares", "_law_free", "_law_j", "_law_service", "_law_machine"]) (sc := defScope s_w_stands) (by decide +kernel))
          (fun _ _ _ _ _ => pg_name (i := 8) sc_w_stands.nd rfl (Or.inl rfl)) (fun _ _ _ _ _ => pts_one (pt_cmpR (r := rIn K true) op_notIn_seq (pv 8) (pe_ix (r := rIxT K) ix_tup (pv 0) pe_int (fun _ _ => rfl)) (by rfl))) (fun _ _ _ _ _ => pv 8))) pe_int (fun _ _ => rfl)))
      (pss_cons (ps_for PassesOwn.never rfl (pi_range1 (by rfl) mR (pa_cons (pe_op op_add (pe_callB call_len_seq (by rfl) mL bt_len (pa_cons (pe_ix ix_tup (pv 0) pe_int (fun _ _ => rfl)) pa_nil)) pe_int) pa_nil)) (pg_name (i := 6) sc_w_stands.nd rfl (.inl rfl))
          (pss_cons (ps_expr (pe_bm PySem.F.plainAttrs_list PySem.F.slot_list_append PySem.F.type_list_append mt_append (pv 3) (pa_cons (pe_callTy call_dictD (by rfl) mD bt_dict (pa_cons (pv 2) pa_nil)) pa_nil)))
          (pss_cons (ps_expr (pe_bm PySem.F.plainAttrs_list PySem.F.slot_list_append PySem.F.type_list_append mt_append (pv 4) (pa_cons (pv 5) pa_nil)))
          (pss_one (ps_if (pt_cmpR op_in_seq (pv 6) (pv 1) (by rfl))
            (pss_cons (ps_set (i := 7) sc_w_stands.nd rfl (.inl rfl) (pe_ix ix_tup (pe_ix ix_tup (pv 0) pe_int (fun _ _ => rfl)) (pv 6) (fun _ _ => rfl)))
            (pss_one (ps_asg (pe_tup (pa_cons (pv 5) (pa_cons (pe_dget (lt64 hr.units) (pv 2) (pv 7) (fun _ _ => rfl)) pa_nil)))
              (pg_tup rfl (pgs_cons (pg_sub (pv 2) (pv 7) (set_dict (lt64 hr.units))) (pgs_cons (pg_name (i := 5) sc_w_stands.nd rfl (Or.inl rfl)) pgs_nil)))))) pss_nil)))))
      (pss_one (ps_ret (pe_tup (pa_cons (pv 3) (pa_cons (pv 4) pa_nil))))))), ?_⟩
    obtain ⟨sa, pa, ra, f1, f2, f3, f4⟩ := Fl.ex
    have hsl := FO.s8
    -- who stands where at first
    refine ⟨fun σ' H' => ∃ (nw fo sp : Addr) (kvs : List (Key × V)), σ' = [some (.ref a), some (.ref c), some (.ref nw), some (.ref fo), some (.ref sp), none, none, none, none] ∧ nw ≠ fo ∧ nw ≠ sp ∧ fo ≠ sp ∧ H nw = none ∧ H fo = none ∧ H sp = none ∧ Same H H' ∧
      H' nw = some (.dK kvs) ∧ H' fo = some (.lst []) ∧ H' sp = some (.lst []) ∧ Good kvs ∧ kvs.length ≤ 100 ∧ (∀ j v, valV kvs j = some v → ∃ m ∈ pls, v = V.int m) ∧ ∀ s ∈ svs, (valV kvs (.inr s)).isSome = true, ?_, ?_⟩
    · refine ⟨.ref a, rfl, a, _, 0, .ref sa, rfl, rfl, sqT f1, atI_nat (j := 0) rfl, .ref a, rfl, a, _, 1, .ref pa, rfl, rfl, sqT f1, atI_nat (j := 1) rfl, sa, pa, svs, pls, rfl, sqT f2, sqT f3, FO.pl.symm, by omega, fun nw hnw => ⟨Nat.zero_le _, fun fo hfo => ⟨Nat.zero_le _, fun sp hsp => ?_⟩⟩⟩
      obtain ⟨m1, m2, m3, m4⟩ := merge_good svs pls [] Good.nil FO.nd (fun _ _ _ e => by cases e) FO.pl.symm
      have s1 := same_new (o := .dK (mergeK [] (pairsOf svs pls))) hnw
      have s2 := s1.trans (same_new (o := .lst []) hfo)
      have hl := length_mergeK (pairsOf svs pls) []
      rw [pairsOf, List.length_map, List.length_zip] at hl
      simp only [List.length_nil] at hl
      refine ⟨_, _, _, rfl, nw, fo, sp, mergeK [] (pairsOf svs pls), rfl, ne_of_none upd_same hfo, ne_of_none (upd_other upd_same hfo) hsp, ne_of_none upd_same hsp, hnw, s1.free hfo, s2.free hsp, s2.trans (same_new hsp), upd_other (upd_other upd_same hfo) hsp, upd_other upd_same hsp, upd_same, m1, ?_, fun j v e => ?_, m4⟩
      · show (mergeK [] (List.map _ _)).length ≤ 100
        omega
      · rcases m2 j v e with h | h
        · cases h
        · exact h
    rintro σ1 H1 ⟨nw, fo, sp, kvs, rfl, n1, n2, n3, hnw, hfo, hsp, s1, enw, efo, esp, gd, lk, vin, keys⟩
    -- the machine that is free
    refine ⟨fun σ' H' => ∃ fr : Int, σ' = [some (.ref a), some (.ref c), some (.ref nw), some (.ref fo), some (.ref sp), some (.int fr), none, none, none] ∧ Same H1 H' ∧ fr ∉ pls, ?_, ?_⟩
    · refine ⟨fun x H' => ∃ (D : Addr) (ms : List Int), x = .ref D ∧ Same H1 H' ∧ H' D = some (.lst (ms.map V.int)) ∧ ms = noneOf (upTo svs.length) pls, ?_, ?_⟩
      · refine ⟨.ref a, rfl, a, _, 0, .ref sa, rfl, rfl, sqT (s1 _ _ f1), atI_nat (j := 0) rfl, sa, svs.map V.str, rfl, .inr (sqT (s1 _ _ f2)), _, 1, rfl, rfl, _, rfl, by rw [List.length_map]; omega, by rw [List.length_map]; omega, fun D hD => ?_⟩
        have en : (((svs.map V.str).length : Int) + 1).toNat = svs.length + 1 := by rw [List.length_map]; omega
        rw [en]
        have lu : (upTo svs.length).length = svs.length + 1 := by rw [upTo, List.length_map, List.length_range]
        refine lc_range (lo := 0) (fun i H2 => Same H1 H2 ∧ H2 D = some (.lst ((noneOf ((upTo svs.length).take i) pls).map V.int))) ⟨same_new hD, upd_same⟩ ?_ ?_
        · rintro i H2 hi ⟨s2, e2⟩
          have eu : (upTo svs.length)[i]? = some (i : Int) := by rw [upTo, List.getElem?_map, List.getElem?_range hi]; rfl
          have ei : (0 : Int) + (i : Int) = (i : Int) := Int.zero_add _
          have et : (upTo svs.length).take (i + 1) = (upTo svs.length).take i ++ [(i : Int)] := take_snoc eu
          have hlen : (noneOf ((upTo svs.length).take i) pls).length ≤ svs.length + 1 := Nat.le_trans (List.length_filter_le _ _) (by rw [List.length_take, lu]; omega)
          rw [ei]
          refine ⟨rfl, .int (i : Nat), rfl, .ref a, rfl, a, _, 1, .ref pa, rfl, rfl, sqT (s2 _ _ (s1 _ _ f1)), atI_nat (j := 1) rfl, pa, pls.map V.int, rfl, .inr (sqT (s2 _ _ (s1 _ _ f3))), rfl, flat_ints pls, !inV (.int (i : Nat)) (pls.map V.int), rfl, ?_⟩
          rw [inV_ints]
          by_cases hm : (i : Int) ∈ pls
          · rw [decide_eq_true hm]
            refine ite2 (fun k => absurd k (by decide)) (fun _ => ⟨s2, ?_⟩)
            rw [e2, noneOf, noneOf, et, List.filter_append, List.filter_cons_of_neg (by simp [hm])]
            simp
          · rw [decide_eq_false hm]
            refine ite2 (fun _ => ?_) (fun k => absurd rfl k)
            refine ⟨.int (i : Nat), rfl, _, e2, lt_line (by rw [List.length_map]; omega), fun c' o ho => by rw [upd_ne (ne_of_none ho hD)]; exact s2 _ _ ho, ?_⟩
            rw [upd_same, noneOf, noneOf, et, List.filter_append, List.filter_cons_of_pos (by simp [hm]), List.map_append]
            rfl
        · rintro H2 ⟨s2, e2⟩
          rw [List.take_of_length_le (by omega)] at e2
          exact ⟨D, _, rfl, s2, e2, rfl⟩
      · rintro x H2 ⟨D, ms, rfl, s2, e2, hms⟩
        have hne : ms ≠ [] := fun e => by
          rw [e] at hms
          have sub : ∀ x ∈ upTo svs.length, x ∈ pls := fun x hx => by
            by_cases h : x ∈ pls
            · exact h
            · have : x ∈ noneOf (upTo svs.length) pls := List.mem_filter.mpr ⟨hx, by simp [h]⟩
              rw [← hms] at this
              cases this
          have := sub_len _ _ (upTo_nd svs.length) sub
          rw [upTo, List.length_map, List.length_range, FO.pl] at this
          omega
        obtain ⟨fr, tl, e⟩ := List.exists_cons_of_ne_nil hne
        have hfr : fr ∉ pls := by
          have : fr ∈ noneOf (upTo svs.length) pls := by rw [← hms, e]; simp
          simpa using (List.mem_filter.mp this).2
        exact ⟨D, ms.map V.int, 0, .int fr, rfl, rfl, sqL e2, atI_nat (j := 0) (by rw [e]; rfl), fr, rfl, s2, hfr⟩
    rintro σ2 H2 ⟨fr0, rfl, s2, hfr0⟩
    have s12 := s1.trans s2
    refine ⟨.ref a, rfl, a, _, 2, .ref ra, rfl, rfl, sqT (s12 _ _ f1), atI_nat (j := 2) rfl, ra, rs.map V.str, rfl, .inr (sqT (s12 _ _ f4)), _, 1, rfl, rfl, _, rfl, by rw [List.length_map]; omega, by have := FO.r60; rw [List.length_map]; omega, ?_⟩
    have en : (((rs.map V.str).length : Int) + 1).toNat = rs.length + 1 := by rw [List.length_map]; omega
    rw [en]
    have r60 := FO.r60
    refine for_range (lo := 0) (fun i σ H3 => ∃ (fr : Int) (y6 y7 : Option V) (kvs : List (Key × V)) (xs : List V) (ss : List Int), σ = [some (.ref a), some (.ref c), some (.ref nw), some (.ref fo), some (.ref sp), some (.int fr), y6, y7, none] ∧ Same H H3 ∧
        H3 nw = some (.dK kvs) ∧ H3 fo = some (.lst xs) ∧ H3 sp = some (.lst (ss.map V.int)) ∧ xs.length = i ∧ ss.length = i ∧ Good kvs ∧ kvs.length ≤ 100 + i ∧ (∀ j, valV kvs j ≠ some (.int fr)) ∧ (∀ s ∈ svs, (valV kvs (.inr s)).isSome = true) ∧
        (∀ k, k + 1 < i → pOf ps k = true → ss[k]? ≠ ss[k + 1]?) ∧ ∀ k, k + 1 = i → pOf ps k = true → ss[k]? ≠ some fr)
      ⟨fr0, none, none, kvs, [], [], rfl, s12, s2 _ _ enw, s2 _ _ efo, s2 _ _ esp, rfl, rfl, gd, lk, fun j e => ?_, keys, fun k h => absurd h (Nat.not_lt_zero _), fun k h => absurd h (Nat.succ_ne_zero _)⟩ ?_ ?_
    · obtain ⟨m, hm, e'⟩ := vin j _ e
      have : fr0 = m := by injection e'
      exact hfr0 (this ▸ hm)
    · rintro i σ H3 hi ⟨fr, y6, y7, kvs, xs, ss, rfl, s3, enw, efo, esp, lx, ls, gd, lk, hfr, keys, hold, link⟩
      refine ⟨.ref fo, rfl, .inl ⟨rfl, _, sqL efo⟩, .ref nw, rfl, nw, kvs, rfl, enw, fun cp hcp => ?_⟩
      refine ⟨fo, xs, .ref cp, rfl, rfl, upd_other efo hcp, lt_line (by omega), ?_⟩
      have s4 : Same H (upd (upd H3 cp (.dK kvs)) fo (.lst (xs ++ [.ref cp]))) := fun z o ho => by
        rw [upd_ne (ne_of_none ho hfo)]
        exact upd_other (s3 _ _ ho) hcp
      have enw4 : upd (upd H3 cp (.dK kvs)) fo (.lst (xs ++ [.ref cp])) nw = some (.dK kvs) := by rw [upd_ne n1]; exact upd_other enw hcp
      have esp4 : upd (upd H3 cp (.dK kvs)) fo (.lst (xs ++ [.ref cp])) sp = some (.lst (ss.map V.int)) := by rw [upd_ne n3.symm]; exact upd_other esp hcp
      have efo4 : upd (upd H3 cp (.dK kvs)) fo (.lst (xs ++ [.ref cp])) fo = some (.lst (xs ++ [.ref cp])) := upd_same
      generalize upd (upd H3 cp (.dK kvs)) fo (.lst (xs ++ [.ref cp])) = H4 at s4 enw4 esp4 efo4 ⊢
      refine ⟨.ref sp, rfl, .inl ⟨rfl, _, sqL esp4⟩, .int fr, rfl, sp, ss.map V.int, .int fr, rfl, rfl, esp4, lt_line (by rw [List.length_map]; omega), ?_⟩
      have s5 : Same H (upd H4 sp (.lst (ss.map V.int ++ [.int fr]))) := fun z o ho => by
        rw [upd_ne (ne_of_none ho hsp)]
        exact s4 _ _ ho
      have enw5 : upd H4 sp (.lst (ss.map V.int ++ [.int fr])) nw = some (.dK kvs) := by rw [upd_ne n2]; exact enw4
      have efo5 : upd H4 sp (.lst (ss.map V.int ++ [.int fr])) fo = some (.lst (xs ++ [.ref cp])) := by rw [upd_ne n3]; exact efo4
      have esp5 : upd H4 sp (.lst (ss.map V.int ++ [.int fr])) sp = some (.lst ((ss ++ [fr]).map V.int)) := by rw [upd_same, List.map_append]; rfl
      generalize upd H4 sp (.lst (ss.map V.int ++ [.int fr])) = H5 at s5 enw5 efo5 esp5 ⊢
      have hold5 : ∀ k, k + 1 < i + 1 → pOf ps k = true → (ss ++ [fr])[k]? ≠ (ss ++ [fr])[k + 1]? := fun k hk hp => by
        rw [List.getElem?_append_left (by omega)]
        by_cases e : k + 1 = i
        · have : (ss ++ [fr])[k + 1]? = some fr := by rw [e, ← ls]; simp
          rw [this]
          exact link k e hp
        · rw [List.getElem?_append_left (by omega)]
          exact hold k (by omega) hp
      have hat : (ss ++ [fr])[i]? = some fr := by rw [← ls]; simp
      have ei : (0 : Int) + (i : Int) = (i : Int) := Int.zero_add _
      rw [ei]
      refine ⟨.int (i : Nat), rfl, .ref c, rfl, c, ps.map V.int, rfl, .inr (sqT (s5 _ _ hc)), rfl, flat_ints ps, inV (.int (i : Nat)) (ps.map V.int), rfl, ?_⟩
      rw [inV_ints]
      by_cases hp : (i : Int) ∈ ps
      · rw [decide_eq_true hp]
        refine ite2 (fun _ => ?_) (fun k => absurd rfl k)
        have him : i < rs.length := by have := (PO.2 _ hp).2; omega
        refine ⟨.ref a, rfl, a, _, 2, .ref ra, rfl, rfl, sqT (s5 _ _ f1), atI_nat (j := 2) rfl, .int (i : Nat), rfl, ra, rs.map V.str, (i : Nat), .str rs[i], rfl, rfl, sqT (s5 _ _ f4), atI_nat (by rw [List.getElem?_map, List.getElem?_eq_getElem him]; rfl), ?_⟩
        have hk := keys rs[i] (FO.rin _ (List.getElem_mem him))
        obtain ⟨v, hv⟩ := Option.isSome_iff_exists.mp hk
        obtain ⟨old, rfl⟩ := gd.nums _ _ hv
        refine ⟨.int fr, rfl, .ref nw, rfl, .str rs[i], rfl, nw, .int old, rfl, by have := DGet.k (k := .inr rs[i]) enw5; rw [hv] at this; exact this, le_line (by show 2 ≤ 10000; decide), fun t0 ht0 => ?_⟩
        have nwt : upd H5 t0 (.tup [.int fr, .int old]) nw = some (.dK kvs) := upd_other enw5 ht0
        refine ⟨t0, _, rfl, sqT upd_same, rfl, _, _, rfl, .ref nw, rfl, .str rs[i], rfl, nw, _, rfl, DPut.k (k := .inr rs[i]) nwt (lt_line (by omega)), _, _, rfl, rfl, ?_⟩
        refine ⟨old, _, _, putK kvs (.inr rs[i]) (.int fr), xs ++ [.ref cp], ss ++ [fr], rfl, ?_, upd_same, ?_, ?_, by rw [List.length_append, lx]; rfl, by rw [List.length_append, ls]; rfl, gd.put _ hfr, ?_, fun j e => ?_, fun z hz => ?_, hold5, fun k e _ => ?_⟩
        · intro z o ho
          rw [upd_ne (ne_of_none ho hnw)]
          exact upd_other (s5 _ _ ho) ht0
        · rw [upd_ne n1.symm]; exact upd_other efo5 ht0
        · rw [upd_ne n2.symm]; exact upd_other esp5 ht0
        · have := length_putK kvs (.inr rs[i]) (.int fr); omega
        · rw [valV_put] at e
          split at e
          · have e' : fr = old := by injection (Option.some.inj e)
            exact hfr _ (e' ▸ hv)
          · next hj => exact hj (gd.inj _ _ _ e hv)
        · rw [valV_put]
          split
          · rfl
          · exact keys z hz
        · have : k = i := by omega
          subst this
          rw [hat]
          intro e'
          have e2 : fr = old := Option.some.inj e'
          exact hfr _ (e2 ▸ hv)
      · rw [decide_eq_false hp]
        refine ite2 (fun k => absurd k (by decide)) (fun _ => ?_)
        refine ⟨fr, _, _, kvs, xs ++ [.ref cp], ss ++ [fr], rfl, s5, enw5, efo5, esp5, by rw [List.length_append, lx]; rfl, by rw [List.length_append, ls]; rfl, gd, by omega, hfr, keys, hold5, fun k e hk => ?_⟩
        have : k = i := by omega
        subst this
        exact absurd (of_decide_eq_true hk) hp
    · rintro σ H3 ⟨fr, y6, y7, kvs, xs, ss, rfl, s3, enw, efo, esp, lx, ls, gd, lk, hfr, keys, hold, link⟩
      refine ⟨.ref fo, rfl, .ref sp, rfl, le_line (by show 2 ≤ 10000; decide), fun p hp => q _ p fo sp ss (s3.trans (same_new hp)) upd_same (upd_other esp hp) ls fun k hk => hold k (by omega)⟩
end
end K25
/-! _law_near: each answer is an edit of the plan. -/
namespace K25
open PySem PySem.Spec PyProof.Rows L2
theorem roomu {k : Nat} {A : Around} (r : Room k A) : A.units + 66 < cLine := by have := r.un; omega
/-! ### lists of ints as data -/
theorem lay_ints : ∀ ns : List Int, PyData.canLayAll0 (ns.map PyData.int) = true
  | [] => rfl
  | n :: ns => by
    show ((PyData.int n).canLay0 && PyData.canLayAll0 (ns.map PyData.int)) = true
    rw [lay_ints ns]
    rfl
theorem depth_ints : ∀ ns : List Int, PyData.depthAll (ns.map PyData.int) ≤ 1
  | [] => by simp [PyData.depthAll]
  | n :: ns => by
    have := depth_ints ns
    simp only [List.map_cons, PyData.depthAll, PyData.depth]
    omega
theorem shaped_ints (ns : List Int) : SeqAt.shaped (.list (ns.map PyData.int)) = true := by
  unfold SeqAt.shaped
  have h1 := depth_ints ns
  rw [Bool.and_eq_true]
  refine ⟨by show PyData.canLayAll0 _ = true; exact lay_ints ns, decide_eq_true ?_⟩
  simp only [PyData.depth]
  omega
theorem eqvAll_ints : ∀ xs ys : List Int, PyData.eqvAll (xs.map PyData.int) (ys.map PyData.int) = decide (xs = ys)
  | [], [] => rfl
  | [], _ :: _ => rfl
  | _ :: _, [] => rfl
  | x :: xs, y :: ys => by
    show (PyData.eqv (.int x) (.int y) && PyData.eqvAll (xs.map PyData.int) (ys.map PyData.int)) = _
    rw [eqvAll_ints xs ys, PyData.eqv, Bool.eq_iff_iff]
    simp
theorem dp_ints {K : PySem.W.Frag} {H : Hp} : ∀ ns : List Int, DpAll K H (ns.map V.int) (ns.map PyData.int)
  | [] => .nil
  | n :: ns => .cons (.int n) (dp_ints ns)
/-! ### one number throughout -/
theorem rep_one (x : Int) (n : Nat) : (List.replicate n [x]).flatten = List.replicate n x := by
  induction n with
  | zero => rfl
  | succ n ih => rw [List.replicate_succ, List.flatten_cons, ih]; rfl
theorem all_same {xs : List Int} (h : xs = (List.replicate xs.length (xs.take 1)).flatten) : ∀ j, j < xs.length → xs[j]? = xs[0]? := by
  cases xs with
  | nil => intro j hj; cases hj
  | cons x t =>
    intro j hj
    have e : (x :: t) = List.replicate (x :: t).length x := by
      have h' := h
      rw [show (x :: t).take 1 = [x] from rfl, rep_one] at h'
      exact h'
    rw [e, List.getElem?_replicate, List.getElem?_replicate, if_pos hj, if_pos (by simp)]
theorem cut_mid (ss : List Int) {b e : Nat} (h : b ≤ e) (he : e < ss.length) : cutV (ss.map V.int) (some (b : Int)) (some ((e : Int) + 1)) = ((ss.drop b).take (e + 1 - b)).map V.int := by
  unfold cutV
  rw [HT.sIx_nat, show ((e : Int) + 1) = ((e + 1 : Nat) : Int) by omega, HT.sIx_nat, List.length_map, Nat.min_eq_left (by omega), Nat.min_eq_left (by omega), List.map_take, List.map_drop]
/-! ### near plans -/
/-- a lease and the plan that its edit gives -/
def NearAt (H : Hp) (rs : List Str) (ps : List Int) (n : Nat) (q : Addr) : Prop := ∃ (l c : Addr) (t : Str) (i e : Nat) (qs : List Int), H q = some (.tup [.ref l, .ref c]) ∧ H l = some (.tup [.str t, .int ((i + 1 : Nat) : Int)]) ∧ H c = some (.tup (qs.map V.int)) ∧
  PlanL qs rs.length (n + 2) ∧ Edit rs (pOf ps) (pOf qs) t i e
theorem NearAt.same {H H' : Hp} {rs : List Str} {ps : List Int} {n : Nat} {q : Addr} (h : NearAt H rs ps n q) (s : Same H H') : NearAt H' rs ps n q := by
  obtain ⟨l, c, t, i, e, qs, h1, h2, h3, r⟩ := h
  exact ⟨l, c, t, i, e, qs, s _ _ h1, s _ _ h2, s _ _ h3, r⟩
theorem NearAt.upd {H : Hp} {rs : List Str} {ps : List Int} {n : Nat} {q D : Addr} {xs : List V} {o : HO} (h : NearAt H rs ps n q) (hD : H D = some (.lst xs)) : NearAt (L2.upd H D o) rs ps n q := by
  obtain ⟨l, c, t, i, e, qs, h1, h2, h3, r⟩ := h
  exact ⟨l, c, t, i, e, qs, by rw [upd_ne (ne_of h1 hD (by simp))]; exact h1, by rw [upd_ne (ne_of h2 hD (by simp))]; exact h2, by rw [upd_ne (ne_of h3 hD (by simp))]; exact h3, r⟩
theorem ends_mem {i e m : Nat} {j : Int} : j ∈ endsL i e m ↔ j = (i : Int) ∨ (e < m ∧ j = (e : Int)) := by
  unfold endsL
  rw [List.mem_cons]
  split
  · next h => simp [h]
  · next h => simp [h]
theorem edit_of {rs : List Str} {ps qs : List Int} {t : Str} {i e : Nat} {ss : List Int} (hi : rs[i]? = some t) (hend : IsEnd rs t (i + 1) e) (hl : ss.length = rs.length + 1)
    (hsp : ∀ k, k < rs.length → pOf ps k = true → ss[k]? ≠ ss[k + 1]?) (same : ∀ k, i + 1 ≤ k → k ≤ e → ss[k]? = ss[i + 1]?)
    (mem : ∀ j : Int, j ∈ qs ↔ (j ∈ ps ∧ j ∉ endsL i e rs.length) ∨ (j ∈ endsL i e rs.length ∧ j ∉ ps)) : Edit rs (pOf ps) (pOf qs) t i e := by
  refine ⟨hi, hend, fun k h1 h2 => ?_, ?_, fun he => ?_, fun k hk h1 h2 => ?_⟩
  · cases hp : pOf ps k with
    | false => rfl
    | true =>
      have := hend.hi
      exact absurd ((same k h1 (by omega)).trans (same (k + 1) (by omega) (by omega)).symm) (hsp k (by omega) hp)
  · have h := mem (i : Int)
    have hm : (i : Int) ∈ endsL i e rs.length := ends_mem.mpr (.inl rfl)
    by_cases hp : (i : Int) ∈ ps
    · have : ¬ (i : Int) ∈ qs := fun k => by rcases h.mp k with z | z; exact z.2 hm; exact z.2 hp
      show decide ((i : Int) ∈ qs) = !decide ((i : Int) ∈ ps)
      rw [decide_eq_true hp, decide_eq_false this]
      rfl
    · have : (i : Int) ∈ qs := h.mpr (.inr ⟨hm, hp⟩)
      show decide ((i : Int) ∈ qs) = !decide ((i : Int) ∈ ps)
      rw [decide_eq_false hp, decide_eq_true this]
      rfl
  · have h := mem (e : Int)
    have hm : (e : Int) ∈ endsL i e rs.length := ends_mem.mpr (.inr ⟨he, rfl⟩)
    by_cases hp : (e : Int) ∈ ps
    · have : ¬ (e : Int) ∈ qs := fun k => by rcases h.mp k with z | z; exact z.2 hm; exact z.2 hp
      show decide ((e : Int) ∈ qs) = !decide ((e : Int) ∈ ps)
      rw [decide_eq_true hp, decide_eq_false this]
      rfl
    · have : (e : Int) ∈ qs := h.mpr (.inr ⟨hm, hp⟩)
      show decide ((e : Int) ∈ qs) = !decide ((e : Int) ∈ ps)
      rw [decide_eq_false hp, decide_eq_true this]
      rfl
  · have h := mem (k : Int)
    have hm : ¬ (k : Int) ∈ endsL i e rs.length := fun z => by rcases ends_mem.mp z with z | ⟨_, z⟩ <;> omega
    show decide ((k : Int) ∈ qs) = decide ((k : Int) ∈ ps)
    rw [Bool.eq_iff_iff, decide_eq_true_iff, decide_eq_true_iff, h]
    exact ⟨fun z => by rcases z with z | z; exact z.1; exact absurd z.1 hm, fun z => .inl ⟨z, hm⟩⟩
section
variable {P : Program} {w : World} {K : PySem.W.Frag} {mg : Str → Option Value} {base : Heap}
def sp_near : Sp := fun vs H Q _ => ∃ (a c d : Addr) (svs : List Str) (pls : List Int) (rs : List Str) (ps : List Int) (pn : List TI) (n : Nat), vs = [.ref a, .ref c, .ref d] ∧ Fleet H a svs pls rs ∧ FleetOk svs pls rs ∧ H c = some (.tup (ps.map V.int)) ∧ PlanL ps rs.length n ∧ n ≤ 200 ∧
  H d = some (.tup (refsT pn)) ∧ TIs H pn ∧ (∀ x ∈ pn, NameOk x.2.1) ∧
  ∀ (H' : Hp) (p : Addr) (ns : List Addr), Same H H' → H p = none → H' p = some (.lst (ns.map V.ref)) → ns.length ≤ 100 → (∀ q ∈ ns, NearAt H' rs ps n q) → Q (.ref p) H'
theorem ok_near {f : Addr} {fd : FuncData} (F : Fun K "_law_near" "_law_near" s_w_near f fd) (mL : mg "len" = none)
    (CSt : Cal P w K mg base "_law_stands" 1 ["_law_fleet_here", "_law_plan_here"] sp_stands) (CL : Cal P w K mg base "_law_leases" 1 ["_law_fleet_here"] sp_w_leases)
    (CE : Cal P w K mg base "_law_end" 1 ["_law_fleet_here", "_law_lease"] sp_end) (CX : Cal P w K mg base "_law_exchanged" 2 ["_law_fleet_here", "_law_plan_here", "_law_lease"] sp_exchanged) :
    FnOk P w K mg base CX0 3 f fd ["_law_fleet_here", "_law_plan_here", "_law_pins_here"] sp_near := by
  refine F.ok sc_w_near (fun vs H Q E h => ?_) (fun cdv A outer s H vs Q E hr h => ?_)
  · obtain ⟨a, c, d, svs, pls, rs, ps, pn, n, rfl, _⟩ := h
    rfl
  · obtain ⟨a, c, d, svs, pls, rs, ps, pn, n, rfl, Fl, FO, hc, PO, hn, hd, hpn, npn, q⟩ := h
    refine ⟨_, pss_cons (ps_par (i := 3) (j := 4) rfl sc_w_near.nd rfl rfl (by decide) rfl rfl (pa_cons (pe_ix ix_tup (CSt.pe hr (by decide) (by rfl) (pa_cons (pv 0) (pa_cons (pv 1) pa_nil))) pe_int (fun _ _ => rfl)) (pa_cons (pe_lst pa_nil) pa_nil)) rfl)
      (pss_cons (ps_for PassesOwn.never rfl (pi_list (CL.pe hr (by decide) (by rfl) (pa_cons (pv 0) pa_nil))) (pg_name (i := 5) sc_w_near.nd rfl (.inl rfl))
        (pss_cons (ps_set (i := 6) sc_w_near.nd rfl (.inl rfl) (pe_slice sl_list (pv 3) (po_some (pe_ix ix_tup (pv 5) pe_int (fun _ _ => rfl))) (po_some (pe_op op_add (CE.pe hr (by decide) (by rfl) (pa_cons (pv 0) (pa_cons (pv 5) pa_nil))) pe_int))))
          (pss_one (ps_if (pt_mid (PW.pt (pw_and (pt_cmpR op_gt (pe_ix ix_tup (pv 5) pe_int (fun _ _ => rfl)) pe_int (nomark _)) (pw_and (pt_cmpR (op_ninT (roomu hr)) (pv 5) (pv 2) (by rfl))
              (pw_and1 (pt_cmpR (op_eqD hr.units) (pv 6) (pe_op op_rep (pe_slice sl_list (pv 6) po_none (po_some pe_int)) (pe_callB call_len_seq (by rfl) mL bt_len (pa_cons (pv 6) pa_nil))) (nomark _)))))))
            (pss_one (ps_expr (pe_bm PySem.F.plainAttrs_list PySem.F.slot_list_append PySem.F.type_list_append mt_append (pv 4) (pa_cons (pe_tup (pa_cons (pv 5) (pa_cons (CX.pe hr (by decide) (by rfl) (pa_cons (pv 0) (pa_cons (pv 1) (pa_cons (pv 5) pa_nil)))) pa_nil))) pa_nil)))) pss_nil))))
      (pss_one (ps_ret (pv 4)))), ?_⟩
    have r60 := FO.r60
    have s8 := FO.s8
    refine ⟨.ref a, rfl, .ref c, rfl, a, c, svs, pls, rs, ps, n, rfl, Fl, FO, hc, PO, fun H1 p1 D1 S ss s1 e1 eS lS hsp => ⟨p1, _, 1, .ref S, rfl, rfl, sqT e1, atI_nat (j := 1) rfl, Nat.zero_le _, fun fo hfo => ?_⟩⟩
    have hfo0 : H fo = none := s1.free hfo
    have sF := same_new (o := .lst []) hfo
    have s1F := s1.trans sF
    refine ⟨_, _, rfl, .ref a, rfl, a, svs, pls, rs, rfl, Fl.same s1F, by omega, r60, fun H2 L ls s2 hL0 hL kt et => ⟨L, rfl, ⟨_, sqL hL⟩, ?_⟩⟩
    have lL : ls.length ≤ 70 := by
      have := congrArg List.length et
      rw [List.length_map, leasesL_len] at this
      omega
    have efo2 : H2 fo = some (.lst []) := s2 _ _ upd_same
    have eS2 : H2 S = some (.lst (ss.map V.int)) := s2 _ _ (sF _ _ eS)
    have nSf : S ≠ fo := ne_of_none eS hfo
    have nLf : L ≠ fo := (ne_of_none (upd_same (H := H1) (a := fo) (o := .lst [])) hL0).symm
    have s02 := s1F.trans s2
    refine for_list (K := K) (a := L) (xs := refsT ls) (fun i σ H3 => ∃ (y5 y6 : Option V) (ns : List Addr), σ = [some (.ref a), some (.ref c), some (.ref d), some (.ref S), some (.ref fo), y5, y6] ∧ (∀ z o, z ≠ fo → H2 z = some o → H3 z = some o) ∧
        H3 fo = some (.lst (ns.map V.ref)) ∧ ns.length ≤ i ∧ ∀ q ∈ ns, NearAt H3 rs ps n q)
      ⟨none, none, [], rfl, fun _ _ _ h => h, efo2, Nat.zero_le _, fun _ h => absurd h List.not_mem_nil⟩ (fun i σ H3 _ ⟨_, _, _, _, k3, _⟩ => sqL (k3 _ _ nLf hL)) ?_ ?_
    · rintro i x σ H3 hx ⟨y5, y6, ns, rfl, k3, e3, l3, g3⟩
      have hi : i < ls.length := by
        have := (List.getElem?_eq_some_iff.mp hx).1
        rwa [refsT, List.length_map] at this
      have hx' : x = .ref ls[i].1 := by
        rw [refsT, List.getElem?_map, List.getElem?_eq_getElem hi] at hx
        exact (Option.some.inj hx).symm
      subst hx'
      have s03 : Same H H3 := fun z o ho => k3 _ _ (ne_of_none ho hfo0) (s02 _ _ ho)
      have hm : ls[i] ∈ ls := List.getElem_mem hi
      have hml : ls[i].2 ∈ leasesL svs rs := by rw [← et]; exact List.mem_map.mpr ⟨_, hm, rfl⟩
      have h3 : H3 ls[i].1 = some (.tup [.str ls[i].2.1, .int ls[i].2.2]) := k3 _ _ (ne_of (kt _ hm) efo2 (by simp)) (kt _ hm)
      obtain ⟨b, hb, hbm, hlease⟩ := leasesL_mem hml
      have hnm := lease_name FO hml
      generalize ls[i] = lz at *
      obtain ⟨la, lt, li⟩ := lz
      have hb' : li = (b : Int) := hb
      subst hb'
      have h3' : H3 la = some (.tup [.str lt, .int (b : Nat)]) := h3
      refine ⟨.ref S, rfl, .ref la, rfl, la, _, 1, .int (b : Nat), rfl, rfl, sqT h3', atI_nat (j := 1) rfl, (b : Nat), rfl, .ref a, rfl, .ref la, rfl, a, la, svs, pls, rs, lt, b, rfl, Fl.same s03, h3', hbm, r60, fun H4 e s4 hend => ?_⟩
      have eS4 := s4 _ _ (k3 _ _ nSf eS2)
      have hbe := hend.lo
      have hem := hend.hi
      refine ⟨(e : Int), 1, rfl, rfl, (e : Int) + 1, rfl, S, ss.map V.int, rfl, sqL eS4, fun w1 hw1 => ?_⟩
      rw [cut_mid ss hbe (by omega)]
      have s5 := s4.trans (same_new (o := .lst (((ss.drop b).take (e + 1 - b)).map V.int)) hw1)
      have ew : upd H4 w1 (.lst (((ss.drop b).take (e + 1 - b)).map V.int)) w1 = some (.lst (((ss.drop b).take (e + 1 - b)).map V.int)) := upd_same
      generalize upd H4 w1 (.lst (((ss.drop b).take (e + 1 - b)).map V.int)) = H5 at s5 ew ⊢
      have hlen : ((ss.drop b).take (e + 1 - b)).length = e + 1 - b := by rw [List.length_take, List.length_drop]; omega
      have hget : ∀ j, j < e + 1 - b → ((ss.drop b).take (e + 1 - b))[j]? = ss[b + j]? := fun j hj => by rw [List.getElem?_take_of_lt hj, List.getElem?_drop]
      generalize (ss.drop b).take (e + 1 - b) = xs at *
      have h5 : H5 la = some (.tup [.str lt, .int (b : Nat)]) := s5 _ _ h3'
      refine ⟨fun bl H' => Same H5 H' ∧ (bl = true → 0 < b ∧ ∀ j, j < xs.length → xs[j]? = xs[0]?), ?_, ?_⟩
      · refine ⟨.ref la, rfl, la, _, 1, .int (b : Nat), rfl, rfl, sqT h5, atI_nat (j := 1) rfl, (b : Int), 0, rfl, rfl, _, rfl, ?_⟩
        by_cases hb0 : 0 < b
        · rw [decide_eq_true (by omega : (0 : Int) < (b : Int))]
          refine ite2 (fun _ => ?_) (fun k => absurd rfl k)
          have s05 := s03.trans s5
          refine ⟨.ref la, rfl, .ref d, rfl, encT (la, lt, (b : Int)), pn.map encT, dp_ti (p := (la, lt, (b : Int))) h5, .tup (sqT (s05 _ _ hd)) (dp_all pn (hpn.same s05)), ti_shaped hnm, lay_all pn npn, fun bl => ⟨bl, rfl, ite2 (fun _ => ?_) (fun hf => ?_)⟩⟩
          · refine ⟨.ref w1, rfl, .ref w1, rfl, 1, rfl, w1, xs.map V.int, rfl, sqL ew, fun w2 hw2 => ⟨.ref w1, rfl, w1, xs.map V.int, rfl, .inl (sqL (upd_other ew hw2)), w2, ((xs.map V.int).length : Int), _, rfl, rfl, upd_same, by omega, by rw [List.length_map]; omega, ?_, fun w3 hw3 => ?_⟩⟩
            · rw [show (1 : Int) = ((1 : Nat) : Int) from rfl, cut_take, List.length_take, Int.toNat_natCast, List.length_map]
              exact le_line (by
                have : min 1 xs.length * xs.length ≤ 1 * 61 := Nat.mul_le_mul (Nat.min_le_left _ _) (by omega)
                omega)
            · rw [show (1 : Int) = ((1 : Nat) : Int) from rfl, cut_take, ← List.map_take] at hw3
              rw [show (1 : Int) = ((1 : Nat) : Int) from rfl, cut_take, Int.toNat_natCast, List.length_map, ← List.map_take, ← List.map_replicate, ← List.map_flatten]
              refine ⟨.list (xs.map PyData.int), .list (((List.replicate xs.length (xs.take 1)).flatten).map PyData.int), .lst (sqL (upd_other (upd_other ew hw2) hw3)) (dp_ints xs), .lst (sqL upd_same) (dp_ints _), shaped_ints _, shaped_ints _, _, rfl, (same_new hw2).trans (same_new hw3), fun hb => ⟨hb0, ?_⟩⟩
              have hb2 : PyData.eqvAll (xs.map PyData.int) (((List.replicate xs.length (xs.take 1)).flatten).map PyData.int) = true := hb
              rw [eqvAll_ints] at hb2
              exact all_same (of_decide_eq_true hb2)
          · exact ⟨fun _ _ h => h, fun k => absurd k (by decide)⟩
        · rw [decide_eq_false (by omega : ¬ (0 : Int) < (b : Int))]
          exact ite2 (fun k => absurd k (by decide)) (fun _ => ⟨fun _ _ h => h, fun k => absurd k (by decide)⟩)
      · rintro bl H6 ⟨s6, hbl⟩
        have s36 := s5.trans s6
        have e6 := s36 _ _ e3
        refine ite2 (fun hbt => ?_) (fun _ => ⟨_, _, ns, rfl, fun z o hz ho => s36 _ _ (k3 _ _ hz ho), e6, by omega, fun q hq => (g3 q hq).same s36⟩)
        obtain ⟨hb0, hsame⟩ := hbl hbt
        obtain ⟨j, rfl⟩ : ∃ j, b = j + 1 := ⟨b - 1, by omega⟩
        have hrj : rs[j]? = some lt := by
          rcases hlease with ⟨z, _⟩ | ⟨j', ej, hr⟩
          · exact absurd z (Nat.succ_ne_zero _)
          · have : j' = j := by omega
            rw [← this]; exact hr
        have s06 := s03.trans s36
        refine ⟨.ref fo, rfl, .inl ⟨rfl, _, sqL e6⟩, .ref la, rfl, .ref a, rfl, .ref c, rfl, .ref la, rfl, a, c, la, svs, pls, rs, ps, lt, j, n, rfl, Fl.same s06, r60, s06 _ _ hc, PO, hn, s36 _ _ h3', hrj, fun H7 p7 qs e' s7 hp7 h7 PL hend' mem => ⟨le_line (by show 2 ≤ 10000; decide), fun tp htp => ?_⟩⟩
        have e8 := upd_other (o := .tup [.ref la, .ref p7]) (s7 _ _ e6) htp
        have ee : e' = e := by
          have h1 := hend.no
          have h2 := hend'.no
          have a1 := hend.at_
          have a2 := hend'.at_
          have b1 := hend.lo
          have b2 := hend'.lo
          have c2 := hend'.hi
          by_cases lt1 : e < e'
          · exact absurd (a1 (by omega)) (h2 e b1 lt1)
          · by_cases lt2 : e' < e
            · exact absurd (a2 (by omega)) (h1 e' b2 lt2)
            · omega
        subst ee
        have ed : Edit rs (pOf ps) (pOf qs) lt j e' := edit_of hrj hend' lS hsp (fun k hk1 hk2 => by
          have := hsame (k - (j + 1)) (by omega)
          rw [hget _ (by omega), hget _ (by omega)] at this
          rwa [show j + 1 + (k - (j + 1)) = k by omega] at this) mem
        refine ⟨fo, ns.map V.ref, .ref tp, rfl, rfl, e8, lt_line (by rw [List.length_map]; omega), _, _, ns ++ [tp], rfl, fun z o hz ho => ?_, by rw [upd_same, List.map_append]; rfl, by rw [List.length_append, List.length_singleton]; omega, fun q hq => ?_⟩
        · rw [upd_ne hz]
          exact upd_other (s7 _ _ (s36 _ _ (k3 _ _ hz ho))) htp
        · rcases List.mem_append.mp hq with m | m
          · exact (((g3 q m).same s36).same (s7.trans (same_new htp))).upd e8
          · rw [List.mem_singleton.mp m]
            refine NearAt.upd ?_ e8
            exact ⟨la, p7, lt, j, e', qs, upd_same, upd_other (s7 _ _ (s36 _ _ h3')) htp, upd_other h7 htp, PL, ed⟩
    · rintro σ H3 ⟨y5, y6, ns, rfl, k3, e3, l3, g3⟩
      rw [refsT, List.length_map] at l3
      exact ⟨.ref fo, rfl, q _ fo ns (fun z o ho => k3 _ _ (ne_of_none ho hfo0) (s02 _ _ ho)) hfo0 e3 (by omega) g3⟩
end
end K25
/-! Two dicts of one lease each: ==, repr. -/
namespace K25
open PySem PySem.W PySem.Spec PyProof.Rows L2
section
variable {X : Cx}
/-- d == e, both with one key of the same items and the same int -/
def rEqT : R2 := fun x y H Q => ∃ (a b : Addr) (k : List L2.Key) (n : Int), x = .ref a ∧ y = .ref b ∧ H a = some (.dT [(k, .int n)]) ∧ H b = some (.dT [(k, .int n)]) ∧ Q (.bl true) H
theorem one_kt {H : Hp} {k : List L2.Key} {n : Int} {xs : List (List L2.Key × Addr × Value)} (r : KT H [(k, .int n)] xs) : ∃ b t, xs = [(k, b, Value.int n t)] ∧ H b = some (.tup (k.map kV)) := by
  cases r with
  | cons h t =>
    cases t
    obtain ⟨h1, h2, t, h3⟩ := h
    rename_i q
    obtain ⟨k', b, v⟩ := q
    exact ⟨b, t, by
      have e1 : k = k' := h1
      have e3 : v = Value.int n t := h3
      rw [e1, e3], h2⟩
theorem op_eqT (hu : X.A.units + 64 < cLine) : OpR X (compareOp .Eq) rEqT := by
  intro pins s σ H x y v u Q I rx ry h
  obtain ⟨a, b, k, n, rfl, rfl, ha, hb, q⟩ := h
  cases rx
  cases ry
  obtain ⟨z1, sa, xs, r1, oa, es, ep, hoa, hxa, hda, hea, hia, hna⟩ := dt_of I.hok ha
  obtain ⟨z2, sb, ys, r2, ob, es', ep', hob, hxb, hdb, heb, hib, hnb⟩ := dt_of I.hok hb
  obtain ⟨b1, t1, rfl, hk1⟩ := one_kt r1
  obtain ⟨b2, t2, rfl, hk2⟩ := one_kt r2
  have la : es.size = 1 := by rw [← Array.length_toList, hea]; rfl
  have lb : es'.size = 1 := by rw [← Array.length_toList, heb]; rfl
  have ga : es[0]? = some (entryOfKey (tupleKind (mixKind X.prog X.w)) (k, b1, Value.int n t1)) := by rw [← Array.getElem?_toList, hea]; rfl
  have gb : es'[0]? = some (entryOfKey (tupleKind (mixKind X.prog X.w)) (k, b2, Value.int n t2)) := by rw [← Array.getElem?_toList, heb]; rfl
  have ta : s.TypeIs (.ref a) "dict" := ⟨oa, hoa, hxa.1⟩
  have tb : s.TypeIs (.ref b) "dict" := ⟨ob, hob, hxb.1⟩
  refine wpAny_richCompare_same_room (op := .Eq) ta tb PySem.F.slot_dict_eq (wpAny_call_entry PySem.F.slot_dict_eq ta PySem.F.entry_dict_eq ?_ (PySem.F.args_dict_eq_2 _ _)) (by omega)
  show wpAny _ _ (Builtin.Dict.dictSlotArgs "__eq__" ⟨[.ref a, .ref b], []⟩ >>= _) _ _ s
  refine wpAny_bind ?_
  unfold Builtin.Dict.dictSlotArgs
  refine wpAny_bind (wpAny_notOrdered_dict ta ?_)
  show wpAny _ _ (pure (Value.ref a, Value.ref b)) _ _ s
  refine wpAny_pure ?_
  refine wpAny_bind (wpAny_isInstance (T := "dict") tb PySem.F.sub_dict_dict ?_)
  simp only [Bool.not_true, Bool.false_eq_true, if_false]
  refine wpAny_bind (wpAny_pure (wpAny_bind (wpAny_pure ?_)))
  refine wpAny_bind ?_
  unfold Builtin.Dict.samePairs Builtin.Dict.showsAll
  rw [if_neg (show ¬ (a == sysModules) = true by rw [sa]; exact Bool.false_ne_true), if_neg (show ¬ (b == sysModules) = true by rw [sb]; exact Bool.false_ne_true)]
  refine wpAny_bind (wpAny_pure (wpAny_bind (wpAny_pure ?_)))
  refine wpAny_bind (wpAny_dictEntries hoa hda ?_)
  dsimp only
  refine wpAny_bind (wpAny_dictEntries hob hdb ?_)
  rw [la, lb, if_neg (by decide)]
  refine wpAny_bind (wpAny_dictEpoch hoa hda ?_)
  refine wpAny_bind ?_
  rw [Std.Legacy.Range.forIn_eq_forIn_range']
  rw [show List.range' 0 (Std.Legacy.Range.size [:1]) 1 = [0] from rfl]
  simp only [List.forIn_cons, List.forIn_nil]
  refine wpAny_bind (wpAny_bind (wpAny_dictEntries hoa hda ?_))
  rw [ga]
  refine wpAny_bind (wpAny_holding (wpAny_bind ?_))
  have hkey : (tupleKind (mixKind X.prog X.w)).is s.heap k b1 := hia (k, b1, Value.int n t1) List.mem_cons_self
  refine wpAny_dictFind_heap (knd := tupleKind (mixKind X.prog X.w)) (k := k) ?_ hkey hob hdb heb hib hnb (fun hn => absurd rfl (hn 0 (b2, Value.int n t2))) fun j p hj => ?_
  · show X.A.in1.units < cLine
    show X.A.units + 1 < cLine
    omega
  · have hj0 : j = 0 := by
      rcases j with _ | j
      · rfl
      · simp at hj
    subst hj0
    refine wpAny_bind (wpAny_dictEntries hob hdb ?_)
    rw [gb]
    refine wpAny_holding ?_
    show wpAny _ _ (eqBool (Value.int n t1) (Value.int n t2)) _ _ s
    refine SeqAt.EqAt.int_int n t1 n t2 _ _ _ _ ?_
    rw [beq_self_eq_true, if_neg (by decide)]
    refine wpAny_bind (wpAny_dictEpoch hoa hda ?_)
    rw [if_neg (by simp)]
    refine wpAny_pure (wpAny_pure (wpAny_pure ?_))
    exact wpAny_pure ⟨_, rfl, (fun x => nomatch x), ⟨.bl true, H, I, rfl, q⟩⟩
/-! ### repr -/
def dataT (p : Str × Int) (n : Int) : PyData := .dict [(encS p, .int n)]
def showT (p : Str × Int) (n : Int) : Str := (dataT p n).shown
def SmallI (n : Int) : Prop := ∃ k : Nat, n = (k : Int) ∧ k ≤ 61
theorem small_text : ∀ k : Nat, k ≤ 61 → ((toString ((k : Nat) : Int) : String) : Str).length ≤ 3 ∧ ((k : Int).natAbs.log2 < 1920) := by
  have h : ∀ k ∈ List.range 62, ((toString ((k : Nat) : Int) : String) : Str).length ≤ 3 ∧ ((k : Int).natAbs.log2 < 1920) := by decide +kernel
  exact fun k hk => h k (List.mem_range.mpr (by omega))
theorem len_app (a b : Str) : (a ++ b).length = a.length + b.length := by
  show (a.cps ++ b.cps).size = _
  rw [Array.size_append]
  rfl
theorem name_text {z : Str} (h : NameOk z) : (reprText z).length ≤ 202 := by
  have := StrLaws.reprText_len z fun c hc => Nat.lt_trans (h.2 c hc) (by decide)
  have := h.1
  omega
theorem key_text {p : Str × Int} (h : NameOk p.1) (hi : SmallI p.2) : ((encS p).shown).length ≤ 300 := by
  obtain ⟨k, e, hk⟩ := hi
  have h1 := name_text h
  have h2 := (small_text k hk).1
  rw [← e] at h2
  have e1 : (encS p).shown = ("(" : Str) ++ (reprText p.1 ++ ", " ++ (toString p.2 : String)) ++ ((")" : String) : Str) := by
    show tupleText [reprText p.1, ((toString p.2 : String) : Str)] = _
    rfl
  rw [e1, len_app, len_app, len_app, len_app]
  have a1 : ("(" : Str).length = 1 := by decide
  have a2 : (", " : Str).length = 2 := by decide
  have a3 : (((")" : String) : Str)).length = 1 := by decide
  omega
theorem showT_len {p : Str × Int} {n : Int} (h : NameOk p.1) (hi : SmallI p.2) (hn : SmallI n) : (showT p n).length ≤ 400 := by
  obtain ⟨k, e, hk⟩ := hn
  have h1 := key_text h hi
  have h2 := (small_text k hk).1
  rw [← e] at h2
  have e1 : showT p n = ("{" : Str) ++ ((encS p).shown ++ ": " ++ ((toString n : String) : Str)) ++ ("}" : Str) := rfl
  rw [e1, len_app, len_app, len_app, len_app]
  have a1 : ("{" : Str).length = 1 := by decide
  have a2 : (": " : Str).length = 2 := by decide
  have a3 : ("}" : Str).length = 1 := by decide
  omega
def rReprT : List V → Hp → VK → Prop := fun xs H Q => ∃ (a : Addr) (p : Str × Int) (n : Int), xs = [.ref a] ∧ H a = some (.dT [(kk p, .int n)]) ∧ NameOk p.1 ∧ SmallI p.2 ∧ SmallI n ∧ Q (.str (showT p n)) H
theorem small_show {n : Int} (h : SmallI n) : (PyData.int n).showable = true := by
  obtain ⟨k, e, hk⟩ := h
  have := (small_text k hk).2
  rw [← e] at this
  exact decide_eq_true this
theorem cr_reprT (hg : X.A.guards = some []) (hu : X.A.units + 64 < cLine) : CallR X (.builtin "repr") rReprT := by
  intro pins s σ H xs us Q I r h
  obtain ⟨a, p, n, rfl, ha, hp, hi, hn, q⟩ := h
  obtain ⟨u, rfl, ru⟩ := vals1 r
  cases ru
  obtain ⟨z1, sa, ys, r1, oa, es, ep, hoa, hxa, hda, hea, hia, hna⟩ := dt_of I.hok ha
  obtain ⟨b, t, rfl, hk⟩ := one_kt r1
  obtain ⟨as, rk⟩ := reads_ti I (p := (b, p)) (show H b = some (.tup [.str p.1, .int p.2]) from hk)
  have rk' : Reads s.heap (.ref b) (encS p) as := rk
  have R1 : ReadsAll s.heap [.ref b] [encS p] _ := .cons rk' .nil
  have R2 : ReadsAll s.heap [.int n t] [.int n] _ := .cons (.int n t) .nil
  have e1 : es.toList.map (·.key) = [.ref b] := by rw [hea]; rfl
  have e2 : es.toList.map (·.val) = [.int n t] := by rw [hea]; rfl
  have sk : (encS p).showable = true := by
    have := small_show hi
    show (true && ((PyData.int p.2).showable && true)) = true
    rw [this]
    rfl
  have hz := showT_len hp hi hn
  have hzk := key_text hp hi
  obtain ⟨k, ek, hk61⟩ := id hn
  have hzn : ((PyData.int n).shown).length ≤ 3 := by
    have := (small_text k hk61).1
    rw [← ek] at this
    exact this
  obtain ⟨c1, hc1, k1⟩ := ReprAllK.of_readsAll (prog := X.prog) (w := X.w) R1 (by show ((encS p).showable && true) = true; rw [sk]; rfl) (fun hx => absurd (show false = true from hx) (by decide)) (fun t ht => by
    have : t = (encS p).shown := by simpa [PyData.shownAll] using ht
    rw [this]
    exact le_line (by omega))
  obtain ⟨c2, hc2, k2⟩ := ReprAllK.of_readsAll (prog := X.prog) (w := X.w) R2 (by show ((PyData.int n).showable && true) = true; rw [small_show hn]; rfl) (fun hx => absurd (show false = true from hx) (by decide)) (fun t ht => by
    have : t = (PyData.int n).shown := by simpa [PyData.shownAll] using ht
    rw [this]
    exact le_line (by omega))
  have hb : ReadAtMost s.heap (PyData.depthKv [(encS p, .int n)]) (c1 ++ c2) := (hc1.mono (PyData.depthAll_keys_le [(encS p, .int n)])).append (hc2.mono (PyData.depthAll_vals_le [(encS p, .int n)]))
  have rd : Reads s.heap (.ref a) (dataT p n) _ := Reads.dict hoa hxa.1 hda (by rw [e1]; exact R1) (by rw [e2]; exact R2)
  have hna' : a ∉ c1 ++ c2 := not_mem_of_deeper rd (by show PyData.depthKv _ < PyData.depth (.dict _); simp only [PyData.depth]; omega) hb
  have hd : PyData.depthKv [(encS p, PyData.int n)] ≤ 10 := by simp [PyData.depthKv, encS, PyData.depth, PyData.depthAll]
  rw [← e1] at k1
  rw [← e2] at k2
  refine call_repr_slot (by omega) ⟨oa, hoa, hxa.1⟩ PySem.F.slot_dict_repr ?_
  refine call_dict_reprK (d := PyData.depthKv [(encS p, .int n)]) hoa hxa.1 hda sa hna' (ReprEntriesK.of_two es.toList _ _
    (k1.more_le (fun b hb => List.mem_append_left _ hb) (PyData.depthAll_keys_le [(encS p, .int n)])) (k2.more_le (fun b hb => List.mem_append_right _ hb) (PyData.depthAll_vals_le [(encS p, .int n)]))) (g := []) hg (fun b _ => Clear.nil b) (by show X.A.units + 1 + (_ + 1) < cLine; omega) (fun _ _ e => e) ?_ ?_
  · intro h' u tk hk'
    exact ⟨_, _, rfl, .str (showT p n), H, I.kept (t' := tk) hk', ⟨u, rfl⟩, q⟩
  · exact le_line (Nat.le_trans hz (by decide))
end
end K25
/-! What law's loop keeps; one edit seen from aparts. -/
namespace K25
open PySem PySem.Spec PyProof.Rows L2
theorem ne_refs {H : Hp} {b c a r : Addr} {l : List V} (B : Bag H b c) (h : H a = some (.lst (.ref r :: l))) : a ≠ b := by
  obtain ⟨x, y, z, cs, h1, _⟩ := B.ex
  exact ne_of h h1 (by simp)
/-- what law's loop keeps -/
structure LS (H : Hp) (b c fl pn be bf pl w1 w2 d1 d2 : Addr) (svs : List Str) (pls : List Int) (rs : List Str) (pt : List TI) (W1 W2 ps : List Int) (n : Nat) : Prop where
  bag : Bag H b c
  flt : Fleet H fl svs pls rs
  pin : H pn = some (.tup (refsT pt))
  tis : TIs H pt
  pln : H pl = some (.tup (ps.map V.int))
  pok : PlanL ps rs.length n
  bes : H be = some (.lst [.ref w1, .ref w2])
  ew1 : H w1 = some (.tup (W1.map V.int))
  ew2 : H w2 = some (.tup (W2.map V.int))
  bef : H bf = some (.lst [.ref d1, .ref d2])
  ed1 : H d1 = some (.dT (apl svs rs (pOf ps) (pOf W1)))
  ed2 : H d2 = some (.dT (apl svs rs (pOf ps) (pOf W2)))
theorem LS.next {H H' : Hp} {b c fl pn be bf pl w1 w2 d1 d2 : Addr} {svs : List Str} {pls : List Int} {rs : List Str} {pt : List TI} {W1 W2 ps : List Int} {n : Nat} (L : LS H b c fl pn be bf pl w1 w2 d1 d2 svs pls rs pt W1 W2 ps n) (k : Kp b H H') (B : Bag H' b c) :
    LS H' b c fl pn be bf pl w1 w2 d1 d2 svs pls rs pt W1 W2 ps n :=
  ⟨B, L.flt.kp L.bag k, k.tup L.bag L.pin, L.tis.kp L.bag k, k.tup L.bag L.pln, L.pok, k _ _ (ne_refs L.bag L.bes) L.bes, k.tup L.bag L.ew1, k.tup L.bag L.ew2, k _ _ (ne_refs L.bag L.bef) L.bef, k.dT L.bag L.ed1, k.dT L.bag L.ed2⟩
theorem LS.same {H H' : Hp} {b c fl pn be bf pl w1 w2 d1 d2 : Addr} {svs : List Str} {pls : List Int} {rs : List Str} {pt : List TI} {W1 W2 ps : List Int} {n : Nat} (L : LS H b c fl pn be bf pl w1 w2 d1 d2 svs pls rs pt W1 W2 ps n) (k : Same H H') :
    LS H' b c fl pn be bf pl w1 w2 d1 d2 svs pls rs pt W1 W2 ps n := L.next (.of k) (L.bag.same k)
section
variable {K : PySem.W.Frag}
/-- [aparts(fleet, plan, other) for other in beside] -/
theorem lcA {σ : L2.St} {H1 : Hp} {D fl pl be w1 w2 : Addr} {k : Nat} {svs : List Str} {pls : List Int} {rs : List Str} {ps W1 W2 : List Int} {Qd : Hp → Prop}
    (hw : ∀ x, wipe ((wipe σ [7]).set 7 (some x)) [7] = wipe σ [7]) (h3 : ∀ x, ((wipe σ [7]).set 7 (some x))[3]? = some (some (V.ref fl))) (hk : ∀ x, ((wipe σ [7]).set 7 (some x))[k]? = some (some (V.ref pl))) (h7 : ∀ x, ((wipe σ [7]).set 7 (some x))[7]? = some (some x))
    (hD : H1 D = none) (Fl : Fleet H1 fl svs pls rs) (FO : FleetOk svs pls rs) (hp : H1 pl = some (.tup (ps.map V.int))) (hb : H1 be = some (.lst [.ref w1, .ref w2])) (e1 : H1 w1 = some (.tup (W1.map V.int))) (e2 : H1 w2 = some (.tup (W2.map V.int)))
    (q : ∀ (H2 : Hp) (d1 d2 : Addr), Same H1 H2 → H2 D = some (.lst [.ref d1, .ref d2]) → H2 d1 = some (.dT (apl svs rs (pOf ps) (pOf W1))) → H2 d2 = some (.dT (apl svs rs (pOf ps) (pOf W2))) → Qd H2) :
    ∃ W : Nat → Nat → Hp → Prop, (∃ m, W 0 m (upd H1 D (.lst []))) ∧ ∀ i m H, W i m H →
      ((Itl K be).stop i H ∧ Qd H) ∨ ((Itl K be).go i H ∧ ∃ Nx : Hp → Prop, (∀ H', Nx H' → ∃ m', m' < m ∧ W (i + 1) m' H') ∧ ∀ x H', (Itl K be).yld i H x H' → gName 7 x (wipe σ [7]) H' fun σ2 H2 => wipe σ2 [7] = wipe σ [7] ∧ tYes σ2 H2 fun b H3 =>
        if b = true then tCall sp_aparts [] E0 (tCons (tVar 3) (tCons (tVar k) (tCons (tVar 7) tNil))) σ2 H3 fun y H4 => ∃ acc, H4 D = some (.lst acc) ∧ acc.length < sizeLine ∧ Nx (upd H4 D (.lst (acc ++ [y]))) else Nx H3) := by
  have s8 := FO.s8
  have r60 := FO.r60
  refine lc_list (K := K) (a := be) (xs := [.ref w1, .ref w2]) (fun i H2 => Same H1 H2 ∧ ∃ ds : List Addr, H2 D = some (.lst (ds.map V.ref)) ∧ ds.length = i ∧ (∀ d, ds[0]? = some d → H2 d = some (.dT (apl svs rs (pOf ps) (pOf W1)))) ∧ ∀ d, ds[1]? = some d → H2 d = some (.dT (apl svs rs (pOf ps) (pOf W2))))
    ⟨same_new hD, [], upd_same, rfl, fun _ h => (by cases h), fun _ h => (by cases h)⟩ (fun i H2 _ h2 => sqL (h2.1 _ _ hb)) ?_ ?_
  · rintro i x H2 hx ⟨s2, ds, eD, lD, g1, g2⟩
    have fin : ∀ (H3 : Hp) (p : Addr), Same H2 H3 → ∀ X, H3 p = some (.dT X) → (i = 0 → X = apl svs rs (pOf ps) (pOf W1)) → (i = 1 → X = apl svs rs (pOf ps) (pOf W2)) → ∃ acc, H3 D = some (.lst acc) ∧ acc.length < sizeLine ∧
        (Same H1 (upd H3 D (.lst (acc ++ [.ref p]))) ∧ ∃ ds : List Addr, upd H3 D (.lst (acc ++ [.ref p])) D = some (.lst (ds.map V.ref)) ∧ ds.length = i + 1 ∧ (∀ d, ds[0]? = some d → upd H3 D (.lst (acc ++ [.ref p])) d = some (.dT (apl svs rs (pOf ps) (pOf W1)))) ∧ ∀ d, ds[1]? = some d → upd H3 D (.lst (acc ++ [.ref p])) d = some (.dT (apl svs rs (pOf ps) (pOf W2)))) := by
      intro H3 p s3 X hX x1 x2
      have hi : i < 2 := (List.getElem?_eq_some_iff.mp hx).1
      have eD3 := s3 _ _ eD
      have old : ∀ {d Y}, H2 d = some (.dT Y) → upd H3 D (.lst (ds.map V.ref ++ [.ref p])) d = some (.dT Y) := fun {d Y} h => by
        rw [upd_ne (ne_of (s3 _ _ h) eD3 (by simp))]
        exact s3 _ _ h
      have new : upd H3 D (.lst (ds.map V.ref ++ [.ref p])) p = some (.dT X) := by
        rw [upd_ne (ne_of hX eD3 (by simp))]
        exact hX
      refine ⟨_, eD3, lt_line (by rw [List.length_map]; omega), fun z o ho => ?_, ds ++ [p], by rw [upd_same, List.map_append]; rfl, by rw [List.length_append, lD]; rfl, fun d hd => ?_, fun d hd => ?_⟩
      · rw [upd_ne (ne_of_none ho hD)]
        exact s3 _ _ (s2 _ _ ho)
      · by_cases h0 : i = 0
        · subst h0
          have : ds = [] := List.eq_nil_of_length_eq_zero lD
          subst this
          have e : p = d := by simpa using hd
          rw [← e, new, x1 rfl]
        · rw [List.getElem?_append_left (by omega)] at hd
          exact old (g1 d hd)
      · by_cases h1 : i = 1
        · have e : p = d := by
            rw [List.getElem?_append_right (by omega), lD, h1] at hd
            simpa using hd
          rw [← e, new, x2 h1]
        · have : (ds ++ [p])[1]? = none := List.getElem?_eq_none (by rw [List.length_append, lD, List.length_singleton]; omega)
          rw [this] at hd
          cases hd
    refine ⟨hw _, yes_go ?_⟩
    have hi : i < 2 := (List.getElem?_eq_some_iff.mp hx).1
    rcases (show i = 0 ∨ i = 1 by omega) with h0 | h0
    · subst h0
      have : V.ref w1 = x := Option.some.inj hx
      subst this
      exact ⟨.ref fl, h3 _, .ref pl, hk _, .ref w1, h7 _, fl, pl, w1, svs, pls, rs, ps, W1, rfl, Fl.same s2, by omega, r60, s2 _ _ hp, s2 _ _ e1, fun H3 p s3 _ h => fin H3 p s3 _ h (fun _ => rfl) (fun z => absurd z (by decide))⟩
    · subst h0
      have : V.ref w2 = x := Option.some.inj hx
      subst this
      exact ⟨.ref fl, h3 _, .ref pl, hk _, .ref w2, h7 _, fl, pl, w2, svs, pls, rs, ps, W2, rfl, Fl.same s2, by omega, r60, s2 _ _ hp, s2 _ _ e2, fun H3 p s3 _ h => fin H3 p s3 _ h (fun z => absurd z (by decide)) (fun _ => rfl)⟩
  · rintro H2 ⟨s2, ds, eD, lD, g1, g2⟩
    obtain ⟨d1, d2, rfl⟩ : ∃ d1 d2, ds = [d1, d2] := by
      match ds, lD with
      | [d1, d2], _ => exact ⟨d1, d2, rfl⟩
    exact q H2 d1 d2 s2 eD (g1 d1 rfl) (g2 d2 rfl)
end
/-! ### one edit, seen from aparts -/
theorem farL_lease {svs rs : List Str} {B W : Nat → Bool} {x : Str × Int} (h : x ∈ leasesL svs rs) (hz : farL rs B W x ≠ 0) : x ∈ leaseR rs := by
  rcases List.mem_append.mp ((srt_perm _).mem_iff.mp h) with h | h
  · obtain ⟨s, hs, rfl⟩ := List.mem_map.mp h
    exact absurd (far_zero rs B W s) hz
  · exact h
theorem mem_leases {svs rs : List Str} {t : Str} {i : Nat} (h : rs[i]? = some t) : (t, ((i + 1 : Nat) : Int)) ∈ leasesL svs rs := by
  refine (srt_perm _).mem_iff.mpr (List.mem_append.mpr (.inr ?_))
  have hi : i < rs.length := (List.getElem?_eq_some_iff.mp h).1
  refine List.mem_map.mpr ⟨i, List.mem_range.mpr hi, ?_⟩
  rw [List.getD_eq_getElem?_getD, h]
  rfl
theorem edit_other {svs rs : List Str} {B B' W : Nat → Bool} {t : Str} {i e : Nat} (E : Edit rs B B' t i e) {x : Str × Int} (h : x ∈ leasesL svs rs) (hne : x ≠ (t, ((i + 1 : Nat) : Int))) : farL rs B' W x = farL rs B W x := by
  obtain ⟨k, hk, _, hl⟩ := leasesL_mem h
  have e1 : x.2.toNat = k := by rw [hk]; rfl
  unfold farL
  rw [e1]
  exact E.other W hl fun z => hne (Prod.ext z.1 (by rw [hk, z.2]))
theorem edit_moved {rs : List Str} {B B' : Nat → Bool} (W : Nat → Bool) {t : Str} {i e : Nat} (E : Edit rs B B' t i e) : farL rs B' W (t, ((i + 1 : Nat) : Int)) = farL rs B W (t, ((i + 1 : Nat) : Int)) + 1 ∨ farL rs B' W (t, ((i + 1 : Nat) : Int)) + 1 = farL rs B W (t, ((i + 1 : Nat) : Int)) := E.moved W
theorem fold_one (rs : List Str) (B W : Nat → Bool) (x0 : Str × Int) (h1 : farL rs B W x0 = 1) : ∀ (L : List (Str × Int)) (acc : List (List Key × V)), (∀ x ∈ L, x ≠ x0 → farL rs B W x = 0) → (acc = [] ∨ acc = [(kk x0, .int 1)]) →
    (L.foldl (aput rs B W) acc = [] ∧ x0 ∉ L) ∨ L.foldl (aput rs B W) acc = [(kk x0, .int 1)]
  | [], acc, _, h => by
    rcases h with h | h
    · exact .inl ⟨h, by simp⟩
    · exact .inr h
  | x :: L, acc, hz, h => by
    rw [List.foldl_cons]
    have hz' : ∀ y ∈ L, y ≠ x0 → farL rs B W y = 0 := fun y hy => hz y (by simp [hy])
    by_cases e : x = x0
    · subst e
      have : aput rs B W acc x = [(kk x, .int 1)] := by
        rw [aput, if_neg (by rw [h1]; decide), h1]
        rcases h with h | h
        · rw [h]; rfl
        · rw [h]; simp [putK]
      refine .inr ?_
      rcases fold_one rs B W x h1 L _ hz' (.inr this) with ⟨k, _⟩ | k
      · have := aput_val rs B W x L (aput rs B W acc x)
        rw [k] at this
        rw [‹aput rs B W acc x = _›] at this
        have e3 : valV [(kk x, V.int 1)] (kk x) = some (.int 1) := valV_pos rfl
        split at this
        · cases this
        · rw [e3] at this; cases this
      · exact k
    · have : aput rs B W acc x = acc := by rw [aput, if_pos (hz x (by simp) e)]
      rw [this]
      rcases fold_one rs B W x0 h1 L acc hz' h with ⟨k1, k2⟩ | k
      · exact .inl ⟨k1, by
          rw [List.mem_cons]
          exact fun z => z.elim (fun z => e z.symm) k2⟩
      · exact .inr k
theorem apl_one {svs rs : List Str} {B B' : Nat → Bool} {t : Str} {i e : Nat} (E : Edit rs B B' t i e) : apl svs rs B B' = [(kk (t, ((i + 1 : Nat) : Int)), .int 1)] := by
  have h1 : farL rs B B' (t, ((i + 1 : Nat) : Int)) = 1 := E.one
  have hz : ∀ x ∈ leasesL svs rs, x ≠ (t, ((i + 1 : Nat) : Int)) → farL rs B B' x = 0 := fun x hx hne => by
    obtain ⟨k, hk, _, hl⟩ := leasesL_mem hx
    have e1 : x.2.toNat = k := by rw [hk]; rfl
    unfold farL
    rw [e1]
    exact E.none hl fun z => hne (Prod.ext z.1 (by rw [hk, z.2]))
  rcases fold_one rs B B' _ h1 (leasesL svs rs) [] hz (.inl rfl) with ⟨_, k⟩ | k
  · exact absurd (mem_leases E.rst) k
  · exact k
/-! ### one turn of law's loop -/
structure TF (H : Hp) (b c fl pn be bf pl w1 w2 d1 d2 la lt nw n1 n2 : Addr) (svs : List Str) (pls : List Int) (rs : List Str) (pt : List TI) (W1 W2 ps qs : List Int) (t : Str) (j n : Nat) : Prop where
  ls : LS H b c fl pn be bf pl w1 w2 d1 d2 svs pls rs pt W1 W2 ps n
  ela : H la = some (.tup [.str t, .int ((j + 1 : Nat) : Int)])
  elt : H lt = some (.tup (qs.map V.int))
  enw : H nw = some (.lst [.ref n1, .ref n2])
  en1 : H n1 = some (.dT (apl svs rs (pOf qs) (pOf W1)))
  en2 : H n2 = some (.dT (apl svs rs (pOf qs) (pOf W2)))
theorem TF.same {H H' : Hp} {b c fl pn be bf pl w1 w2 d1 d2 la lt nw n1 n2 : Addr} {svs : List Str} {pls : List Int} {rs : List Str} {pt : List TI} {W1 W2 ps qs : List Int} {t : Str} {j n : Nat}
    (T : TF H b c fl pn be bf pl w1 w2 d1 d2 la lt nw n1 n2 svs pls rs pt W1 W2 ps qs t j n) (s : Same H H') : TF H' b c fl pn be bf pl w1 w2 d1 d2 la lt nw n1 n2 svs pls rs pt W1 W2 ps qs t j n :=
  ⟨T.ls.same s, s _ _ T.ela, s _ _ T.elt, s _ _ T.enw, s _ _ T.en1, s _ _ T.en2⟩
theorem TIs.sub {H : Hp} {L L' : List TI} (h : TIs H L) (s : ∀ p ∈ L', p ∈ L) : TIs H L' := fun p hp => h p (s p hp)
theorem keys_any {H : Hp} {C : Str × Int → Prop} : ∀ {kvs : List (List Key × V)} {bs : List Addr}, IsKeys H kvs bs → (∀ p ∈ kvs, ∃ x, C x ∧ p.1 = kk x) → ∃ ks : List TI, bs.map V.ref = refsT ks ∧ TIs H ks ∧ (∀ p ∈ ks, C p.2) ∧ ks.length = kvs.length
  | _, _, .nil, _ => ⟨[], rfl, fun _ h => (by cases h), fun _ h => (by cases h), rfl⟩
  | p :: kvs, b :: bs, .cons h r, hc => by
    obtain ⟨ks, e, k1, k2, k3⟩ := keys_any (C := C) r fun p hp => hc p (by simp [hp])
    obtain ⟨x, cx, ex⟩ := hc p (by simp)
    have hb : H b = some (.tup [.str x.1, .int x.2]) := by
      have h' : H b = some (.tup (p.1.map kV)) := h
      rw [ex] at h'
      exact h'
    refine ⟨(b, x) :: ks, by rw [List.map_cons, e]; rfl, fun q hq => ?_, fun q hq => ?_, by rw [List.length_cons, k3, List.length_cons]⟩
    · rcases List.mem_cons.mp hq with rfl | hq
      · exact hb
      · exact k1 q hq
    · rcases List.mem_cons.mp hq with rfl | hq
      · exact cx
      · exact k2 q hq
theorem keys_ti {H : Hp} {svs rs : List Str} {B W : Nat → Bool} {bs : List Addr} (h : IsKeys H (apl svs rs B W) bs) : ∃ ks : List TI, bs.map V.ref = refsT ks ∧ TIs H ks ∧ (∀ p ∈ ks, p.2 ∈ leaseR rs ∧ p.2 ∈ leasesL svs rs) ∧ ks.length = (apl svs rs B W).length :=
  keys_any (C := fun x => x ∈ leaseR rs ∧ x ∈ leasesL svs rs) h fun p hp => by
    obtain ⟨x, hx, e, hz⟩ := apl_mem hp
    exact ⟨x, ⟨farL_lease hx hz, hx⟩, by rw [e]⟩
/-- the names of law -/
abbrev sg (a b : Addr) (isw : Bool) (fl pn pl be : Addr) (y7 : Option V) (bf : Addr) (y9 y10 y11 y12 y13 y14 y15 y16 : Option V) : L2.St :=
  [some (.ref a), some (.ref b), some (.bl isw), some (.ref fl), some (.ref pn), some (.ref pl), some (.ref be), y7, some (.ref bf), y9, y10, y11, y12, y13, y14, y15, y16]
end K25
/-! A def that is entered while no repr runs (its guards are known to be none); _law_alike. -/
namespace K25
open PySem PySem.Spec PyProof.Rows L2
/-- FnOk, for entries without guards -/
structure FnG (P : Program) (w : World) (K : PySem.W.Frag) (mg : Str → Option Value) (base : Heap) (k : Nat) (f : Addr) (fd : FuncData) (ps : List Str) (sp : Sp) : Prop where
  len : ∀ vs H Q E, sp vs H Q E → vs.length = ps.length
  run : ∀ (A : Around) (outer : List Env) (s : Shared) (H : Hp) (args : Args) (us : List Value) (vs : List V) (Q : VK) (E : XK), Room k A → A.guards = some [] → Env0 P w K mg base A outer s H → BindsTo s fd args (ps.zip us) → Vals vs us → sp vs H Q E →
    codeAny (model P w) A (.call (.ref f) args) (CR CX0 outer P w H s Q E) s
section
variable {P : Program} {w : World} {K : PySem.W.Frag} {mg : Str → Option Value} {base : Heap}
theorem okG {x qual : Str} {st : Stmt} {f : Addr} {fd : FuncData} {N ps : List Str} {k : Nat} {sp : Sp} (F : Fun K x qual st f fd) (S : FnScope N ps (defScope st)) (len : ∀ vs H Q E, sp vs H Q E → vs.length = ps.length)
    (hbody : ∀ (cdv : Value) (A : Around) (outer : List Env) (s : Shared) (H : Hp) (vs : List V) (Q : VK) (E : XK), Room k (A.deeper (envOfC qual (defScope st) s.heap.objs.size f cdv)) → A.guards = some [] → sp vs H Q E →
      ∃ t, PSs (cxOf CX0 P w K mg base N qual (defScope st) f cdv A outer s H E).nox (defBody st) t ∧ t { nx := fun _ H' => Q .non H', rt := Q } (start N vs) H) : FnG P w K mg base (k + 1) f fd ps sp := by
  obtain ⟨oc, od, kV, doc, pm, an, cdv, ct, osl, rfl, lk, hcd⟩ := F.ex
  refine ⟨len, fun A outer s H args us vs Q E hr hgu e0 hb r hsp => ?_⟩
  have hl := len _ _ _ _ hsp
  have KX : K.In s.heap := e0.mod.kin.keeps fun b o e => (e0.bs b o e).1
  have lim : s.heap.NoLimit := e0.mod.nolimit.keeps fun b o e => (e0.bs b o e).1
  obtain ⟨t, ht0, hq⟩ := hbody cdv A outer s H vs Q E (hr.deeper _) hgu hsp
  have ht := ht0.nox
  refine codeAny_call_function hr.depth (KX _ _ lk) rfl S.co S.gen rfl (PySem.W.codeRec_of KX hcd) (hb _ _ _ _ ?_)
  refine wpAny_newFunctionEnv_cells S.kind (fun ⟨n, v⟩ hy => ?_) fun env he s1 x => ?_
  · rcases S.par n (List.of_mem_zip hy).1 with q | q
    · exact .inl q
    · exact .inr ⟨q, PySem.W.cellsFrom_some _ _ _ (.inl q)⟩
  subst he
  refine ⟨lim.keeps x.toInCall.keep, codeAny_func ?_⟩
  refine wpAny_mono (ht.run [] s1 (start N vs) H _ (inv_start S hr.hd e0 hl r x) hq) (fun fl s' hs => ?_) fun e s' hs => hs
  cases fl with
  | ret u =>
    obtain ⟨v, σ', H', J, rv, q⟩ := hs
    exact ⟨v, H', J.os, J.bare, J.base, J.hok, rv, q⟩
  | next =>
    obtain ⟨σ', H', J, q⟩ := hs
    exact ⟨.non, H', J.os, J.bare, J.base, J.hok, rfl, q⟩
  | brk => exact False.elim hs.choose_spec.choose_spec.2
  | cont => exact False.elim hs.choose_spec.choose_spec.2
/-- a callee that wants no guards -/
structure CalG (P : Program) (w : World) (K : PySem.W.Frag) (mg : Str → Option Value) (base : Heap) (x : Str) (k : Nat) (ps : List Str) (sp : Sp) where
  f : Addr
  fd : FuncData
  ok : FnG P w K mg base k f fd ps sp
  gl : mg x = some (.ref f)
  kp : PySem.W.keepIn K (.ref f) = true
  bi : Binds K fd ps []
end
section
variable {X : Cx} {x : Str} {k : Nat} {ps : List Str} {sp : Sp} {e : PySem.Expr} {es : List PySem.Expr} {t : TA} {p pos : Pos}
theorem CalG.pe (C : CalG X.prog X.w X.K X.mg X.base x k ps sp) (hr : Room k X.A) (hgu : X.A.guards = some []) (hg : Gl X x) (ha : PA X (e :: es) t) (hdb : (x == ("__debug__" : Str)) = false := by decide)
    (he : starEach (e :: es) X.env = (false, eval e X.env) :: starEach es X.env := by rfl) (hpl : (backTo pos (starEach es X.env)).any (·.1) = false := by rfl) :
    PE X (.Call (.Name x p) (e :: es) [] pos) (tCall sp [] E0 t) := by
  refine ⟨fun pins s σ H Q I h => ?_⟩
  refine wpAny_Call_Name_kw (ld_glob I hg C.gl ?_ hdb)
  refine PySem.W.callWith_K (h₀ := X.base) I.ok.mod.kin C.kp (thn (ha.run pos pins s σ H _ I h) fun us s1 ⟨vs, H1, I1, r, q⟩ => ⟨I1.kIn, ?_⟩) he hpl
  have q' : sp vs H1 Q E0 := by rw [← List.append_nil vs]; exact q
  have hl : us.length = ps.length := by rw [← r.length]; exact C.ok.len _ _ _ _ q'
  refine wpAny_call (codeAny_mono (C.ok.run X.A X.stack s1 H1 ⟨us, []⟩ us vs Q E0 hr hgu I1.env0 ?_ r q') fun r s' hq => ?_)
  · have := C.bi s1 us I1.kIn (by rw [List.append_nil]; exact hl)
    rwa [List.append_nil] at this
  · cases r with
    | error e => exact False.elim hq
    | ok fl =>
      cases fl with
      | ret u => exact I1.after hq
      | next => exact False.elim hq
      | brk => exact False.elim hq
      | cont => exact False.elim hq
end
/-! ### _law_alike -/
section
variable {P : Program} {w : World} {K : PySem.W.Frag} {mg : Str → Option Value} {base : Heap}
def sp_alike : Sp := fun vs H Q _ => ∃ (a b : Addr) (p : Str × Int) (n : Int), vs = [.ref a, .ref b] ∧ H a = some (.dT [(kk p, .int n)]) ∧ H b = some (.dT [(kk p, .int n)]) ∧ NameOk p.1 ∧ SmallI p.2 ∧ SmallI n ∧ Q (.bl true) H
theorem ok_alike {f : Addr} {fd : FuncData} (F : Fun K "_law_alike" "_law_alike" s_w_alike f fd) (mR : mg "repr" = none) : FnG P w K mg base 1 f fd ["_law_found", "_law_due"] sp_alike := by
  refine okG F sc_w_alike (fun vs H Q E h => ?_) (fun cdv A outer s H vs Q E hr hgu h => ?_)
  · obtain ⟨a, b, p, n, rfl, _⟩ := h
    rfl
  · obtain ⟨a, b, p, n, rfl, ha, hb, hp, hi, hn, q⟩ := h
    refine ⟨_, pss_one (ps_ret (pe_and (pe_cmpR (op_eqT hr.units) (pv 0) (pv 1) (nomark _)) (pe_one (pe_cmpR op_eq (pe_callB (cr_reprT hgu hr.units) (by rfl) mR bt_repr (pa_cons (pv 0) pa_nil)) (pe_callB (cr_reprT hgu hr.units) (by rfl) mR bt_repr (pa_cons (pv 1) pa_nil)) (nomark _))))), ?_⟩
    refine ⟨.ref a, rfl, .ref b, rfl, a, b, kk p, n, rfl, rfl, ha, hb, true, rfl, ite2 (fun _ => ?_) (fun k => absurd rfl k)⟩
    refine ⟨.ref a, rfl, a, p, n, rfl, ha, hp, hi, hn, .ref b, rfl, b, p, n, rfl, hb, hp, hi, hn, rfl, ?_⟩
    rw [decide_eq_true rfl]
    exact q
end
end K25
/-! {k: v} whose key is a tuple. -/
namespace K25
open PySem PySem.W PySem.Spec PyProof.Rows L2
section
variable {X : Cx}
def tDispT (tk tv : TE) : TE := fun σ H Q => ∀ p, H p = none → tk σ (L2.upd H p (.dT [])) fun x H1 => tv σ H1 fun y H2 => ∃ (b : Addr) (ks : List L2.Key), x = .ref b ∧ H2 b = some (.tup (ks.map kV)) ∧ H2 p = some (.dT []) ∧ Q (.ref p) (L2.upd H2 p (.dT [(ks, y)]))
theorem pe_dispT {k v : PySem.Expr} {tk tv : TE} {pos : Pos} (hu : X.A.units + 64 < cLine) (hk : PE X k tk) (hv : PE X v tv) : PE X (.Dict [some k] [v] pos) (tDispT tk tv) := by
  refine ⟨fun pins s σ H Q I q => ?_⟩
  have hn := I.hok.fresh (Nat.le_refl s.heap.objs.size)
  have I1 := I.laid (a := s.heap.objs.size) (o := .dT []) (h' := s.heap.push { cls := .type "dict", data := .dict #[] }) (t' := s.toks) (fun _ _ q => Heap.get?_push_of_some _ q) (Nat.le_refl _) (dt_empty s.heap I.big)
  rw [arm_eval_Dict, zip_pairTrees [some k] [v] X.env pos rfl rfl, dictDisplay_pairs (pairTrees [some k] [v] X.env pos) (by simp [pairTrees]) (by rw [pairTrees_length _ _ _ _ rfl rfl]; show 1 < 17; decide)]
  refine wpAny_bind (wpAny_standAt (wpAny_bind (wpAny_subDictH (knd := tupleKind (mixKind X.prog X.w)) (by show X.A.units < cLine; omega) (by rw [pairTrees_length _ _ _ _ rfl rfl]; show 1 ≤ 15; decide) ?_)))
  refine pairTrees_cons_walk (thn (hk.run pins _ σ _ _ I1 (q _ hn)) fun u s1 ⟨x, H1, I2, rx, q1⟩ => thn (hv.run pins s1 σ H1 _ I2 q1) fun w2 s2 ⟨y, H2, I3, ry, q2⟩ => pairTrees_nil_walk ?_)
  obtain ⟨b, ks, rfl, hb, hp, q2⟩ := q2
  cases rx
  obtain ⟨z, hd, xs, rel, dd⟩ := dt_of I3.hok hp
  cases rel
  refine ⟨[(ks, b, w2)], ⟨rfl, rfl, key_of I3.hok hb, trivial⟩, dd, fun h' tk dd' hs => ?_⟩
  obtain ⟨o', es, ep, g1, g2, g3, g4, _, g5⟩ := dd'
  refine wpAny_pure ⟨.ref s.heap.objs.size, _, d_write I3 (t' := tk) (ob := .dT [(ks, y)]) (by rw [hp]; exact True.intro) hs ⟨o', g1⟩ ⟨le_line (by show 1 ≤ 10000; decide), hd, [(ks, b, w2)], .cons ⟨rfl, ?_, ry⟩ .nil, o', es, ep, g1, g2, g3, g4, g5⟩, rfl, q2⟩
  rw [L2.upd_ne (ne_of hb hp (by simp))]
  exact hb
end
end K25
/-! From the law's promise, kept without guards, to the walk that the head leaves. -/
namespace K25
open PySem PySem.Spec PyProof.Rows L2
/-- the heap that is known at the start: the script, where the module does not own it -/
def H0 (K : PySem.W.Frag) (a : Addr) (vs : List Value) (ns : List Int) : Hp := fun b => if b = a ∧ K.lookup a = none then some (.frz { cls := .type "list", data := .seq vs.toArray } (.lst (ns.map V.int))) else none
theorem H0_some {K : PySem.W.Frag} {a b : Addr} {vs : List Value} {ns : List Int} {o : HO} (h : H0 K a vs ns b = some o) : b = a ∧ K.lookup a = none ∧ o = .frz { cls := .type "list", data := .seq vs.toArray } (.lst (ns.map V.int)) := by
  unfold H0 at h
  split at h
  · next k => exact ⟨k.1, k.2, (Option.some.inj h).symm⟩
  · cases h
theorem law_callG {P : Program} {w : World} {K : PySem.W.Frag} {mg mb : Str → Option Value} {k : Nat} {fa a : Addr} {fd : FuncData} {x : Str} {sp : Sp} {s₁ : Shared} {vs : List Value} {ns : List Int}
    (KX : K.In s₁.heap) (hns : s₁.heap.Ns mainGlobals mg) (hb : s₁.heap.Ns builtinsNs mb) (hbb : ∀ x : Str, x ≠ "__name__" → mb x = bootBuiltins x) (hlim : s₁.heap.NoLimit) (hg : s₁.gens = #[])
    (ha : s₁.heap.get? a = some { cls := .type "list", data := .seq vs.toArray }) (hi : IntsAre vs ns) (hl : ns.length ≤ sizeLine) (hr : Room k callerA)
    (F : ∀ base : Heap, K.In base → base.Ns mainGlobals mg → FnG P w K mg base k fa fd [x] sp) (hbind : ∀ (s : Shared) (u : Value), BindsTo s fd ⟨[u], []⟩ [(x, u)])
    (hsp : ∀ H : Hp, SqL K H a (ns.map V.int) → sp [.ref a] H (fun v _ => v = .bl true) fun _ _ _ => False) :
    codeAny (model P w) callerA (.call (.ref fa) ⟨[.ref a], []⟩) (fun r s' => r = .ok (.ret (.bool true)) ∧ OldK s₁.heap s'.heap ∧ s'.os = s₁.os ∧ AllBare s'.gens) s₁ := by
  have rv := vals_ints hi
  have lenV := hi.length
  have hok : HOk P w (H0 K a vs ns) s₁.heap := fun b o e => by
    obtain ⟨rfl, _, rfl⟩ := H0_some e
    exact ⟨ha, by rw [List.length_map]; exact hl, vs, _, rv, ha⟩
  have hS : SqL K (H0 K a vs ns) a (ns.map V.int) := by
    cases hk : K.lookup a with
    | none => exact .inl (.inr ⟨_, if_pos ⟨rfl, hk⟩⟩)
    | some o =>
      have e := KX a o hk
      rw [ha] at e
      cases e
      exact .inr ⟨_, vs.toArray, _, hk, rfl, rfl, rfl, by rw [List.size_toArray, lenV]; exact hl, by simpa using rv⟩
  -- what is not tracked stands in the base
  have inB : ∀ {b : Addr} {o : Obj}, s₁.heap.get? b = some o → (b = a → K.lookup a ≠ none) → (hidT s₁.heap (H0 K a vs ns)).get? b = some o := fun {b o} e n => by
    refine hidT_get e ?_
    unfold H0
    exact if_neg fun z => n z.1 z.2
  have nsK : ∀ {b : Addr} {m : Str → Option Value}, s₁.heap.Ns b m → (hidT s₁.heap (H0 K a vs ns)).Ns b m := fun {b m} ⟨o, es, ep, e, d, r⟩ => by
    refine ⟨o, es, ep, inB e fun z _ => ?_, d, r⟩
    subst z
    rw [ha] at e
    cases e
    have d' : Data.seq vs.toArray _ = Data.dict es ep := d
    cases d'
  have hKb : K.In (hidT s₁.heap (H0 K a vs ns)) := fun b o e => inB (KX b o e) fun z n => by
    subst z
    rw [n] at e
    cases e
  have e0 : Env0 P w K mg (hidT s₁.heap (H0 K a vs ns)) callerA [] s₁ (H0 K a vs ns) :=
    ⟨rfl, ⟨hKb, nsK hns, ⟨mb, nsK hb, hbb⟩, let ⟨mc, h1, h2⟩ := hlim; ⟨mc, nsK h1, h2⟩⟩, fun b o e => of_hidT e, Nat.le_of_eq (hidT_size _ _), trivial, fun b hb => absurd (show b ∈ ([] : List Addr) from hb) (by simp), hok, .of_eq hg⟩
  refine codeAny_mono ((F _ hKb (nsK hns)).run callerA [] s₁ _ ⟨[.ref a], []⟩ [.ref a] [.ref a] _ _ hr rfl e0 (hbind s₁ (.ref a)) (.cons rfl .nil) (hsp _ hS)) fun r s' h => ?_
  cases r with
  | error e => exact False.elim h
  | ok fl =>
    cases fl with
    | next => exact False.elim h
    | brk => exact False.elim h
    | cont => exact False.elim h
    | ret u =>
      obtain ⟨v, H', os, bare, un, hok', r', q⟩ := h
      have q' : v = .bl true := q
      subst q'
      obtain rfl : u = Value.bool true := r'
      refine ⟨rfl, OldK.of_keep fun b o e => ?_, os, bare⟩
      cases q : H0 K a vs ns b with
      | none => exact un.keep b o e q (by intro z; exact absurd (show b ∈ ([] : List Addr) from z) (by simp)) (by simp)
      | some u =>
        obtain ⟨rfl, _, rfl⟩ := H0_some q
        have z2 := un.frzs b _ _ q
        obtain ⟨e1, _⟩ := hok b _ q
        obtain ⟨e2, _⟩ := hok' b _ z2
        rw [e] at e1
        cases e1
        exact e2
/-- the goal that k_head leaves (case hc) -/
theorem walk_ofG {l : PySem.W.OpenLaw} {n k : Nat} {q : Program} {loose : List Str} {XP : (Str → Option Value) → Heap → Prop} {YP : World → Heap → Prop} {d : DefRec} {K : Params → PySem.W.Frag} {sp : World → Sp} {x : Str}
    (hn : l.most = some n) (hn2 : n ≤ sizeLine) (hdf : d.params.defaults = []) (hr : Room k callerA)
    (hY : ∀ (w : World) (h : Heap), YP w h → (K w.params).In h)
    (F : ∀ (w : World) (mg : Str → Option Value) (fa : Addr) (h : Heap), (K w.params).In h → h.Ns mainGlobals mg → mg d.name = some (.ref fa) →
      ∃ fd : FuncData, (∀ (s : Shared) (u : Value), BindsTo s fd ⟨[u], []⟩ [(x, u)]) ∧
        ∀ base : Heap, (K w.params).In base → base.Ns mainGlobals mg → FnG l.prog w (K w.params) mg base k fa fd [x] (sp w))
    (hsp : ∀ (w : World) (H : Hp) (a : Addr) (ns : List Int), ns.length ≤ n → SqL (K w.params) H a (ns.map V.int) → sp w [.ref a] H (fun v _ => v = .bl true) fun _ _ _ => False) :
    PySem.W.WalkO q loose XP YP l.row.toRowW d [] (fun f vs => PySem.call f vs) := by
  refine Att.attach_call hn hdf fun w s₀ s₁ mg mb fa o pm cd doc a vs ns G Y ho hd hcd hmg hobj hints hlen hg => ?_
  have KX := hY w _ Y
  obtain ⟨fd, hb, hF⟩ := F w mg fa _ KX G.T.g hmg
  exact law_callG KX G.T.g G.T.b G.T.builtins G.T.nolimit hg hobj hints (Nat.le_trans hlen hn2) hr hF hb fun H hS => hsp w H a ns hlen hS
end K25
/-! law. -/
namespace K25
open PySem PySem.Spec PyProof.Rows L2
section
variable {P : Program} {w : World} {K : PySem.W.Frag} {mg : Str → Option Value} {base : Heap}
def NL : List Str := ["_law_script", "_law_bag_here", "_law_is_wide", "_law_fleet_here", "_law_pins_here", "_law_plan_here", "_law_beside", "_law_other", "_law_before", "_law_step", "_law_some_here", "_law_lease", "_law_later", "_law_now", "_law_one", "_law_two", "_law_its"]
def sp_law (K : PySem.W.Frag) : Sp := fun vs H Q _ => ∃ (a : Addr) (ns : List Int), vs = [.ref a] ∧ SqL K H a (ns.map V.int) ∧ ns.length ≤ 63 ∧ ∀ H', Q (.bl true) H'
structure Mg (mg : Str → Option Value) : Prop where
  set : mg "set" = none
  list : mg "list" = none
  sorted : mg "sorted" = none
  range : mg "range" = none
  zip : mg "zip" = none
  abs : mg "abs" = none
  sum : mg "sum" = none
theorem ok_law {f : Addr} {fd : FuncData} (F : Fun K "law" "law" s_law f fd) (M : Mg mg)
    (CB : Cal P w K mg base "_law_bag" 1 ["_law_script"] (sp_bag K)) (CT : Cal P w K mg base "_law_take" 1 ["_law_bag_here", "_law_many"] sp_take) (CS : Cal P w K mg base "_law_some" 2 ["_law_bag_here", "_law_things"] sp_some)
    (CW : Cal P w K mg base "_law_wide" 5 ["_law_bag_here"] sp_wide) (CM : Cal P w K mg base "_law_middle" 6 ["_law_bag_here"] sp_middle) (CPi : Cal P w K mg base "_law_pins" 3 ["_law_bag_here", "_law_fleet_here"] sp_pins)
    (CPl : Cal P w K mg base "_law_plan" 3 ["_law_bag_here", "_law_fleet_here"] sp_plan) (CA : Cal P w K mg base "aparts" 4 ["fleet", "one", "other"] sp_aparts) (CN : Cal P w K mg base "_law_near" 3 ["_law_fleet_here", "_law_plan_here", "_law_pins_here"] sp_near)
    (CD : Cal P w K mg base "distance" 5 ["fleet", "one", "other"] sp_distance) (CAl : CalG P w K mg base "_law_alike" 1 ["_law_found", "_law_due"] sp_alike) :
    FnG P w K mg base 7 f fd ["_law_script"] (sp_law K) := by
  refine okG F sc_law (fun vs H Q E h => ?_) (fun cdv A outer s H vs Q E hr hgu h => ?_)
  · obtain ⟨a, ns, rfl, _⟩ := h
    rfl
  · obtain ⟨a, ns, rfl, hS, hl, q⟩ := h
    refine ⟨_, (pss_mid (ps_set (i := 1) sc_law.nd rfl (.inl rfl) (CB.pe hr (by decide) (by rfl) (pa_cons (pv 0) pa_nil)))
      (pss_mid (ps_set (i := 2) sc_law.nd rfl (.inl rfl) (pe_cmpR op_eq (CT.pe hr (by decide) (by rfl) (pa_cons (pv 1) (pa_cons pe_int pa_nil))) pe_int (nomark _)))
      (pss_mid (ps_set (i := 3) sc_law.nd rfl (.inr rfl) (pe_ifExp (pt_val (pv 2)) (CW.pe hr (by decide) (by rfl) (pa_cons (pv 1) pa_nil)) (CM.pe hr (by decide) (by rfl) (pa_cons (pv 1) pa_nil))))
      (pss_mid (ps_asg (pe_tup (pa_cons (CPi.pe hr (by decide) (by rfl) (pa_cons (pv 1) (pa_cons (pv 3) pa_nil))) (pa_cons (CPl.pe hr (by decide) (by rfl) (pa_cons (pv 1) (pa_cons (pv 3) pa_nil))) pa_nil))) (pg_tup rfl (pgs_cons (pg_name (i := 4) sc_law.nd rfl (Or.inl rfl)) (pgs_cons (pg_name (i := 5) sc_law.nd rfl (Or.inr rfl)) pgs_nil))))
      (pss_mid (ps_set (i := 6) sc_law.nd rfl (.inl rfl) (pe_lst (pa_cons (CPl.pe hr (by decide) (by rfl) (pa_cons (pv 1) (pa_cons (pv 3) pa_nil))) (pa_cons (CS.pe hr (by decide) (by rfl) (pa_cons (pv 1) (pa_cons (pe_lst (pa_cons (pv 5) (pa_cons (pe_tup pa_nil) (pa_cons (CPl.pe hr (by decide) (by rfl) (pa_cons (pv 1) (pa_cons (pv 3) pa_nil))) pa_nil)))) pa_nil))) pa_nil))))
      (pss_mid (ps_setLc (i := 8) (own := [("_law_other", 7)]) (g := gName 7) (tt := tYes) rfl sc_law.nd rfl rfl rfl (pi_list (pv 6)) (blkOk_by (own := [("_law_other", 7)]) (N := NL) (sc := defScope s_law) (by decide +kernel)) (fun _ _ _ _ _ => pg_name (i := 7) sc_law.nd rfl (Or.inl rfl)) (fun _ _ _ _ _ => pts_nil) (fun _ _ _ _ _ => (CA.pe hr (by decide) (by rfl) (pa_cons (pv 3) (pa_cons (pv 5) (pa_cons (pv 7) pa_nil))))))
      (pss_cons (ps_for PassesOwn.never rfl (pi_range1 (by rfl) M.range (pa_cons (pe_mid (pe_ifExp (pt_val (pv 2)) (CS.pe hr (by decide) (by rfl) (pa_cons (pv 1) (pa_cons (pe_lst (pa_cons pe_int (pa_cons pe_int pa_nil))) pa_nil))) (CS.pe hr (by decide) (by rfl) (pa_cons (pv 1) (pa_cons (pe_lst (pa_cons pe_int (pa_cons pe_int (pa_cons pe_int pa_nil)))) pa_nil))))) pa_nil)) (pg_name (i := 9) sc_law.nd rfl (.inl rfl)) (pss_mid (ps_set (i := 10) sc_law.nd rfl (.inl rfl) (CN.pe hr (by decide) (by rfl) (pa_cons (pv 3) (pa_cons (pv 5) (pa_cons (pv 4) pa_nil)))))
      (pss_mid (ps_if (pt_cmpR (op_eqE hr.units0) (pv 10) (pe_lst pa_nil) (nomark _)) (pss_one (ps_ret pe_bl)) pss_nil)
      (pss_mid (ps_asg (CS.pe hr (by decide) (by rfl) (pa_cons (pv 1) (pa_cons (pv 10) pa_nil))) (pg_tup rfl (pgs_cons (pg_name (i := 11) sc_law.nd rfl (Or.inl rfl)) (pgs_cons (pg_name (i := 12) sc_law.nd rfl (Or.inr rfl)) pgs_nil))))
      (pss_mid (ps_setLc (i := 13) (own := [("_law_other", 7)]) (g := gName 7) (tt := tYes) rfl sc_law.nd rfl rfl rfl (pi_list (pv 6)) (blkOk_by (own := [("_law_other", 7)]) (N := NL) (sc := defScope s_law) (by decide +kernel)) (fun _ _ _ _ _ => pg_name (i := 7) sc_law.nd rfl (Or.inl rfl)) (fun _ _ _ _ _ => pts_nil) (fun _ _ _ _ _ => (CA.pe hr (by decide) (by rfl) (pa_cons (pv 3) (pa_cons (pv 12) (pa_cons (pv 7) pa_nil))))))
      (pss_mid (ps_for PassesOwn.never rfl (pi_zip3 (by rfl) M.zip (pa_cons (pv 8) (pa_cons (pv 13) (pa_cons (pv 6) pa_nil)))) (pg_tup rfl (pgs_cons (pg_name (i := 14) sc_law.nd rfl (Or.inl rfl)) (pgs_cons (pg_name (i := 15) sc_law.nd rfl (Or.inl rfl)) (pgs_cons (pg_name (i := 7) sc_law.nd rfl (Or.inl rfl)) pgs_nil)))) (pss_mid (ps_for PassesOwn.never rfl (pi_list (pe_callB (cr_sortedSt rfl hr.units) (by rfl) M.sorted bt_sorted (pa_cons (pe_callTy (cr_setOf rfl hr.units) (by rfl) M.set bt_set (pa_cons (pe_op op_cat (pe_callTy (call_list_dT rfl) (by rfl) M.list bt_list (pa_cons (pv 14) pa_nil)) (pe_callTy (call_list_dT rfl) (by rfl) M.list bt_list (pa_cons (pv 15) pa_nil))) pa_nil)) pa_nil))) (pg_name (i := 16) sc_law.nd rfl (.inl rfl)) (pss_one (ps_if (PW.pt (pw_and (pt_cmpR (op_neD hr.units) (pv 16) (pv 11) (nomark _)) (pw_and1 (pt_cmpR op_ne (pe_dget2 (lt64 hr.units) (pv 14) (pv 16) pe_int ⟨rfl, rfl, rfl, rfl⟩) (pe_dget2 (lt64 hr.units) (pv 15) (pv 16) pe_int ⟨rfl, rfl, rfl, rfl⟩) (nomark _))))) (pss_one (ps_ret pe_bl)) pss_nil)))
      (pss_one (ps_if (PW.pt (pw_or (pt_cmpR op_ne (pe_callB call_abs (by rfl) M.abs bt_abs (pa_cons (pe_op op_sub (pe_dget2 (lt64 hr.units) (pv 14) (pv 11) pe_int ⟨rfl, rfl, rfl, rfl⟩) (pe_dget2 (lt64 hr.units) (pv 15) (pv 11) pe_int ⟨rfl, rfl, rfl, rfl⟩)) pa_nil)) pe_int (nomark _)) (pw_or1 (pt_cmpR op_ne (CD.pe hr (by decide) (by rfl) (pa_cons (pv 3) (pa_cons (pv 12) (pa_cons (pv 7) pa_nil)))) (pe_callB (cr_sumV rfl) (by rfl) M.sum bt_sum (pa_cons (pe_bm0 PySem.F.plainAttrs_dict PySem.F.slot_dict_values PySem.F.type_dict_values mt_valsT (pv 15)) pa_nil)) (nomark _))))) (pss_one (ps_ret pe_bl)) pss_nil))))
      (pss_mid (ps_if (pt_not (pt_val (CAl.pe (hr.mono (by decide)) hgu (by rfl) (pa_cons (CA.pe hr (by decide) (by rfl) (pa_cons (pv 3) (pa_cons (pv 5) (pa_cons (pv 12) pa_nil)))) (pa_cons (pe_dispT hr.units (pv 11) pe_int) pa_nil))))) (pss_one (ps_ret pe_bl)) pss_nil)
      (pss_one (ps_asg (pe_tup (pa_cons (pv 12) (pa_cons (pv 13) pa_nil))) (pg_tup rfl (pgs_cons (pg_name (i := 5) sc_law.nd rfl (Or.inr rfl)) (pgs_cons (pg_name (i := 8) sc_law.nd rfl (Or.inl rfl)) pgs_nil))))))))))))
      (pss_one (ps_ret pe_bl))))))))), ?_⟩
    -- the bag
    refine ⟨fun σ' H' => ∃ b c : Addr, σ' = [some (.ref a), some (.ref b), none, none, none, none, none, none, none, none, none, none, none, none, none, none, none] ∧ Bag H' b c, ⟨.ref a, rfl, a, ns, rfl, hS, hl, fun H' b c _ _ _ B => ⟨b, c, rfl, B⟩⟩, ?_⟩
    rintro σ1 H1 ⟨b, c, rfl, B1⟩
    refine ⟨fun σ' H' => ∃ isw : Bool, σ' = [some (.ref a), some (.ref b), some (.bl isw), none, none, none, none, none, none, none, none, none, none, none, none, none, none] ∧ Bag H' b c, ⟨.ref b, rfl, b, c, 4, rfl, B1, by decide, by decide, fun H' v _ B' _ _ => ⟨rfl, _, rfl, B'⟩⟩, ?_⟩
    rintro σ2 H2 ⟨isw, rfl, B2⟩
    -- the fleet
    refine ⟨fun σ' H' => ∃ (fl : Addr) (svs : List Str) (pls : List Int) (rs : List Str), σ' = [some (.ref a), some (.ref b), some (.bl isw), some (.ref fl), none, none, none, none, none, none, none, none, none, none, none, none, none] ∧ Bag H' b c ∧ Fleet H' fl svs pls rs ∧ FleetOk svs pls rs,
      ⟨.bl isw, rfl, isw, rfl, ite2 (fun _ => ⟨.ref b, rfl, b, c, rfl, B2, fun H' p svs pls rs _ B' Fl FO _ => ⟨p, svs, pls, rs, rfl, B', Fl, FO⟩⟩) (fun _ => ⟨.ref b, rfl, b, c, rfl, B2, fun H' p svs pls rs _ B' Fl FO _ => ⟨p, svs, pls, rs, rfl, B', Fl, FO⟩⟩)⟩, ?_⟩
    rintro σ3 H3 ⟨fl, svs, pls, rs, rfl, B3, Fl3, FO⟩
    have s8 := FO.s8
    have r60 := FO.r60
    -- pins and plan
    refine ⟨fun σ' H' => ∃ (pn pl : Addr) (pt : List TI) (ps : List Int), σ' = [some (.ref a), some (.ref b), some (.bl isw), some (.ref fl), some (.ref pn), some (.ref pl), none, none, none, none, none, none, none, none, none, none, none] ∧ Bag H' b c ∧ Fleet H' fl svs pls rs ∧
        H' pn = some (.tup (refsT pt)) ∧ TIs H' pt ∧ (∀ x ∈ pt, NameOk x.2.1) ∧ H' pl = some (.tup (ps.map V.int)) ∧ PlanL ps rs.length 60, ?_, ?_⟩
    · refine ⟨.ref b, rfl, .ref fl, rfl, b, c, fl, svs, pls, rs, rfl, B3, Fl3, FO, fun Ha pn pt ka Ba _ en tn nn => ⟨.ref b, rfl, .ref fl, rfl, b, c, fl, svs, pls, rs, rfl, Ba, Fl3.kp B3 ka, r60, fun Hb pl ps kb Bb _ ep PO => ⟨le_line (by show 2 ≤ 10000; decide), fun t0 ht0 => ⟨t0, _, rfl, sqT upd_same, rfl, _, _, rfl, _, _, rfl, rfl, ?_⟩⟩⟩⟩
      exact ⟨pn, pl, pt, ps, rfl, Bb.new ht0, ((Fl3.kp B3 ka).kp Ba kb).same (same_new ht0), upd_other (kb.tup Ba en) ht0, (tn.kp Ba kb).same (same_new ht0), nn, upd_other ep ht0, PO⟩
    rintro σ4 H4 ⟨pn, pl, pt, ps, rfl, B4, Fl4, en4, tn4, nn, ep4, PO⟩
    -- beside
    refine ⟨fun σ' H' => ∃ (be w1 w2 : Addr) (W1 W2 : List Int), σ' = [some (.ref a), some (.ref b), some (.bl isw), some (.ref fl), some (.ref pn), some (.ref pl), some (.ref be), none, none, none, none, none, none, none, none, none, none] ∧ Bag H' b c ∧ Fleet H' fl svs pls rs ∧
        H' pn = some (.tup (refsT pt)) ∧ TIs H' pt ∧ H' pl = some (.tup (ps.map V.int)) ∧ H' be = some (.lst [.ref w1, .ref w2]) ∧ H' w1 = some (.tup (W1.map V.int)) ∧ H' w2 = some (.tup (W2.map V.int)), ?_, ?_⟩
    · refine ⟨.ref b, rfl, .ref fl, rfl, b, c, fl, svs, pls, rs, rfl, B4, Fl4, r60, fun Ha w1 W1 ka Ba _ ea _ => ⟨.ref b, rfl, .ref pl, rfl, Nat.zero_le _, fun e0 he0 => ⟨.ref b, rfl, .ref fl, rfl, b, c, fl, svs, pls, rs, rfl, Ba.new he0, (Fl4.kp B4 ka).same (same_new he0), r60, fun Hb w3 W3 kb Bb _ eb _ => ⟨le_line (by show 3 ≤ 10000; decide), fun l hl => ⟨b, c, .ref l, rfl, Bb.new hl, .inl ⟨l, _, rfl, Bb.nb hl, upd_same, by show 1 ≤ 3; decide, by show 3 ≤ 1000; decide, fun Hc v kc Bc hv => ⟨le_line (by show 2 ≤ 10000; decide), fun be hbe => ?_⟩⟩⟩⟩⟩⟩⟩
      have Ba0 := Ba.new (o := .tup []) he0
      have kab : Kp b Ha Hb := (Kp.new (o := .tup []) he0).trans kb
      have kac : Kp b Ha Hc := (kab.trans (Kp.new hl)).trans kc
      have k4 : Kp b H4 Hc := ka.trans kac
      have kbc : Kp b Hb Hc := (Kp.new hl).trans kc
      obtain ⟨w2, W2, rfl, e2⟩ : ∃ (w2 : Addr) (W2 : List Int), v = .ref w2 ∧ Hc w2 = some (.tup (W2.map V.int)) := by
        simp only [List.mem_cons, List.not_mem_nil, or_false] at hv
        rcases hv with rfl | rfl | rfl
        · exact ⟨pl, ps, rfl, k4.tup B4 ep4⟩
        · exact ⟨e0, [], rfl, kbc.tup Bb (kb.tup Ba0 upd_same)⟩
        · exact ⟨w3, W3, rfl, kbc.tup Bb eb⟩
      have sN := same_new (o := .lst [.ref w1, .ref w2]) hbe
      exact ⟨be, w1, w2, W1, W2, rfl, Bc.new hbe, (Fl4.kp B4 k4).same sN, sN _ _ (k4.tup B4 en4), (tn4.kp B4 k4).same sN, sN _ _ (k4.tup B4 ep4), upd_same, sN _ _ (kac.tup Ba ea), sN _ _ e2⟩
    rintro σ5 H5 ⟨be, w1, w2, W1, W2, rfl, B5, Fl5, en5, tn5, ep5, eb5, e15, e25⟩
    -- before
    refine ⟨fun σ' H' => ∃ bf d1 d2 : Addr, σ' = sg a b isw fl pn pl be none bf none none none none none none none none ∧ LS H' b c fl pn be bf pl w1 w2 d1 d2 svs pls rs pt W1 W2 ps 60,
      ⟨.ref be, rfl, be, rfl, ⟨_, sqL eb5⟩, fun D hD => lcA (K := K) (k := 5) (fun _ => rfl) (fun _ => rfl) (fun _ => rfl) (fun _ => rfl) hD Fl5 FO ep5 eb5 e15 e25 fun H2 d1 d2 s2 eD g1 g2 =>
        ⟨D, d1, d2, rfl, B5.same s2, Fl5.same s2, s2 _ _ en5, tn5.same s2, s2 _ _ ep5, PO, s2 _ _ eb5, s2 _ _ e15, s2 _ _ e25, eD, g1, g2⟩⟩, ?_⟩
    rintro σ6 H6 ⟨bf, d1, d2, rfl, L6⟩
    -- the steps
    refine ⟨fun v H' => ∃ k : Int, v = .int k ∧ 0 ≤ k ∧ k ≤ 10 ∧ LS H' b c fl pn be bf pl w1 w2 d1 d2 svs pls rs pt W1 W2 ps 60, ?_, ?_⟩
    · refine ⟨.bl isw, rfl, isw, rfl, ite2 (fun _ => ?_) (fun _ => ?_)⟩
      · refine ⟨.ref b, rfl, le_line (by show 2 ≤ 10000; decide), fun l hl => ⟨b, c, .ref l, rfl, L6.bag.new hl, .inl ⟨l, _, rfl, L6.bag.nb hl, upd_same, by decide, by decide, fun H' v k' B' hv => ?_⟩⟩⟩
        have L7 := L6.next ((Kp.new (o := .lst [.int 3, .int 5]) hl).trans k') B'
        simp only [List.mem_cons, List.not_mem_nil, or_false] at hv
        rcases hv with rfl | rfl
        · exact ⟨3, rfl, by decide, by decide, L7⟩
        · exact ⟨5, rfl, by decide, by decide, L7⟩
      · refine ⟨.ref b, rfl, le_line (by show 3 ≤ 10000; decide), fun l hl => ⟨b, c, .ref l, rfl, L6.bag.new hl, .inl ⟨l, _, rfl, L6.bag.nb hl, upd_same, by decide, by decide, fun H' v k' B' hv => ?_⟩⟩⟩
        have L7 := L6.next ((Kp.new (o := .lst [.int 6, .int 10, .int 4]) hl).trans k') B'
        simp only [List.mem_cons, List.not_mem_nil, or_false] at hv
        rcases hv with rfl | rfl | rfl
        · exact ⟨6, rfl, by decide, by decide, L7⟩
        · exact ⟨10, rfl, by decide, by decide, L7⟩
        · exact ⟨4, rfl, by decide, by decide, L7⟩
    rintro v H7 ⟨k, rfl, k0, k10, L7⟩
    refine ⟨k, rfl, by omega, by omega, ?_⟩
    refine for_range (lo := 0) (fun i σ H8 => ∃ (pl bf d1 d2 : Addr) (ps : List Int) (y7 y9 y10 y11 y12 y13 y14 y15 y16 : Option V), σ = sg a b isw fl pn pl be y7 bf y9 y10 y11 y12 y13 y14 y15 y16 ∧ LS H8 b c fl pn be bf pl w1 w2 d1 d2 svs pls rs pt W1 W2 ps (60 + 2 * i))
      ⟨pl, bf, d1, d2, ps, none, none, none, none, none, none, none, none, none, rfl, L7⟩ ?_ (fun σ H' _ => q H')
    clear L6 L7 PO ep4 ep5 en4 en5 tn4 tn5 e15 e25 eb5 B1 B2 B3 B4 B5 Fl3 Fl4 Fl5
    rintro i σ H8 hi ⟨pl, bf, d1, d2, ps, y7, y9, y10, y11, y12, y13, y14, y15, y16, rfl, L8⟩
    -- near plans
    refine ⟨fun σ' H' => ∃ (ne : Addr) (es : List Addr), σ' = sg a b isw fl pn pl be y7 bf (some (.int (0 + (i : Int)))) (some (.ref ne)) y11 y12 y13 y14 y15 y16 ∧ LS H' b c fl pn be bf pl w1 w2 d1 d2 svs pls rs pt W1 W2 ps (60 + 2 * i) ∧
        H' ne = some (.lst (es.map V.ref)) ∧ es.length ≤ 100 ∧ ∀ z ∈ es, NearAt H' rs ps (60 + 2 * i) z,
      ⟨.ref fl, rfl, .ref pl, rfl, .ref pn, rfl, fl, pl, pn, svs, pls, rs, ps, pt, 60 + 2 * i, rfl, L8.flt, FO, L8.pln, L8.pok, by omega, L8.pin, L8.tis, nn, fun H' p es s' _ e' l' g' => ⟨p, es, rfl, L8.same s', e', l', g'⟩⟩, ?_⟩
    rintro σ9 H9 ⟨ne, es, rfl, L9, ene, lne, gne⟩
    -- none is near
    refine ⟨fun σ' H' => σ' = sg a b isw fl pn pl be y7 bf (some (.int (0 + (i : Int)))) (some (.ref ne)) y11 y12 y13 y14 y15 y16 ∧ Same H9 H' ∧ 1 ≤ es.length, ?_, ?_⟩
    · refine ⟨.ref ne, rfl, Nat.zero_le _, fun q0 hq0 => ⟨_, ⟨ne, q0, es.map V.ref, [], rfl, rfl, .inl ⟨sqL (upd_other ene hq0), sqL upd_same⟩, .inr rfl, rfl⟩, _, rfl, ?_⟩⟩
      cases es with
      | nil => exact ite2 (fun _ => q _) (fun kf => absurd (by decide) kf)
      | cons z es => exact ite2 (fun kf => absurd kf (by simp)) (fun _ => ⟨rfl, same_new hq0, by simp⟩)
    rintro σ10 H10 ⟨rfl, s10, les⟩
    have L10 := L9.same s10
    have ene10 := s10 _ _ ene
    -- one of them
    refine ⟨fun σ' H' => ∃ (la lt : Addr) (t : Str) (j e : Nat) (qs : List Int), σ' = sg a b isw fl pn pl be y7 bf (some (.int (0 + (i : Int)))) (some (.ref ne)) (some (.ref la)) (some (.ref lt)) y13 y14 y15 y16 ∧ LS H' b c fl pn be bf pl w1 w2 d1 d2 svs pls rs pt W1 W2 ps (60 + 2 * i) ∧
        H' la = some (.tup [.str t, .int ((j + 1 : Nat) : Int)]) ∧ H' lt = some (.tup (qs.map V.int)) ∧ PlanL qs rs.length (60 + 2 * i + 2) ∧ Edit rs (pOf ps) (pOf qs) t j e, ?_, ?_⟩
    · refine ⟨.ref b, rfl, .ref ne, rfl, b, c, .ref ne, rfl, L10.bag, .inl ⟨ne, es.map V.ref, rfl, ?_, ene10, by rw [List.length_map]; exact les, by rw [List.length_map]; omega, fun H' v k' B' hv => ?_⟩⟩
      · cases es with
        | nil => exact absurd les (by decide)
        | cons z es => exact ne_refs L10.bag ene10
      · obtain ⟨z, hz, rfl⟩ := List.mem_map.mp hv
        obtain ⟨la, lt, t, j, e, qs, g1, g2, g3, g4, g5⟩ := (gne z hz).same s10
        exact ⟨z, _, rfl, sqT (k'.tup L10.bag g1), rfl, _, _, rfl, _, _, rfl, rfl, la, lt, t, j, e, qs, rfl, L10.next k' B', k'.tup L10.bag g2, k'.tup L10.bag g3, g4, g5⟩
    rintro σ11 H11 ⟨la, lt, t, j, e, qs, rfl, L11, ela, elt, PQ, ed⟩
    -- the dicts behind the edit
    refine ⟨fun σ' H' => ∃ (nw n1 n2 : Addr) (x7 : Option V), σ' = sg a b isw fl pn pl be x7 bf (some (.int (0 + (i : Int)))) (some (.ref ne)) (some (.ref la)) (some (.ref lt)) (some (.ref nw)) y14 y15 y16 ∧ TF H' b c fl pn be bf pl w1 w2 d1 d2 la lt nw n1 n2 svs pls rs pt W1 W2 ps qs t j (60 + 2 * i),
      ⟨.ref be, rfl, be, rfl, ⟨_, sqL L11.bes⟩, fun D hD => lcA (K := K) (k := 12) (fun _ => rfl) (fun _ => rfl) (fun _ => rfl) (fun _ => rfl) hD L11.flt FO elt L11.bes L11.ew1 L11.ew2 fun H2 n1 n2 s2 eD g1 g2 =>
        ⟨D, n1, n2, _, rfl, L11.same s2, s2 _ _ ela, s2 _ _ elt, eD, g1, g2⟩⟩, ?_⟩
    rintro σ12 H12 ⟨nw, n1, n2, x7, rfl, T12⟩
    have hrj := ed.rst
    have hjm : j < rs.length := (List.getElem?_eq_some_iff.mp hrj).1
    have hml := mem_leases (svs := svs) hrj
    have hnm : NameOk t := lease_name FO hml
    have gml : ∀ W, (valV (apl svs rs (pOf ps) W) (kk (t, ((j + 1 : Nat) : Int)))).getD (.int 0) = .int (farL rs (pOf ps) W (t, ((j + 1 : Nat) : Int)) : Nat) := fun W => apl_get hml
    have gml' : ∀ W, (valV (apl svs rs (pOf qs) W) (kk (t, ((j + 1 : Nat) : Int)))).getD (.int 0) = .int (farL rs (pOf qs) W (t, ((j + 1 : Nat) : Int)) : Nat) := fun W => apl_get hml
    -- each of the dicts
    refine ⟨fun σ' H' => ∃ x7 x14 x15 x16 : Option V, σ' = sg a b isw fl pn pl be x7 bf (some (.int (0 + (i : Int)))) (some (.ref ne)) (some (.ref la)) (some (.ref lt)) (some (.ref nw)) x14 x15 x16 ∧ TF H' b c fl pn be bf pl w1 w2 d1 d2 la lt nw n1 n2 svs pls rs pt W1 W2 ps qs t j (60 + 2 * i), ?_, ?_⟩
    · refine ⟨.ref bf, rfl, .ref nw, rfl, .ref be, rfl, bf, nw, be, [.ref d1, .ref d2], [.ref n1, .ref n2], [.ref w1, .ref w2], rfl, sqL T12.ls.bef, sqL T12.enw, sqL T12.ls.bes, ?_⟩
      refine for_it (walk_zip3 (K := K) (a := bf) (b := nw) (c := be) (xs := [.ref d1, .ref d2]) (ys := [.ref n1, .ref n2]) (zs := [.ref w1, .ref w2]) (n := 2) rfl rfl rfl)
        (fun _ σ H' => ∃ x7 x14 x15 x16 : Option V, σ = sg a b isw fl pn pl be x7 bf (some (.int (0 + (i : Int)))) (some (.ref ne)) (some (.ref la)) (some (.ref lt)) (some (.ref nw)) x14 x15 x16 ∧ TF H' b c fl pn be bf pl w1 w2 d1 d2 la lt nw n1 n2 svs pls rs pt W1 W2 ps qs t j (60 + 2 * i))
        ⟨x7, y14, y15, y16, rfl, T12⟩ (fun _ σ H' _ ⟨_, _, _, _, _, T⟩ => ⟨sqL T.ls.bef, sqL T.enw, sqL T.ls.bes⟩) ?_ (fun σ H' h => h)
      rintro jj x σ H13 H14 hjj ⟨x7, x14, x15, x16, rfl, T13⟩ ⟨T, x, y, z, rfl, hT, rfl, gx, gy, gz⟩
      have T14 := T13.same (same_new (o := .tup [x, y, z]) hT)
      obtain ⟨d, m, w', W, rfl, rfl, rfl, hd, hm, hw'⟩ : ∃ (d m w' : Addr) (W : List Int), x = .ref d ∧ y = .ref m ∧ z = .ref w' ∧ (∀ H', TF H' b c fl pn be bf pl w1 w2 d1 d2 la lt nw n1 n2 svs pls rs pt W1 W2 ps qs t j (60 + 2 * i) → H' d = some (.dT (apl svs rs (pOf ps) (pOf W)))) ∧
          (∀ H', TF H' b c fl pn be bf pl w1 w2 d1 d2 la lt nw n1 n2 svs pls rs pt W1 W2 ps qs t j (60 + 2 * i) → H' m = some (.dT (apl svs rs (pOf qs) (pOf W)))) ∧ (∀ H', TF H' b c fl pn be bf pl w1 w2 d1 d2 la lt nw n1 n2 svs pls rs pt W1 W2 ps qs t j (60 + 2 * i) → H' w' = some (.tup (W.map V.int))) := by
        rcases (show jj = 0 ∨ jj = 1 by omega) with h | h
        · subst h
          exact ⟨d1, n1, w1, W1, (Option.some.inj gx).symm, (Option.some.inj gy).symm, (Option.some.inj gz).symm, fun _ T => T.ls.ed1, fun _ T => T.en1, fun _ T => T.ls.ew1⟩
        · subst h
          exact ⟨d2, n2, w2, W2, (Option.some.inj gx).symm, (Option.some.inj gy).symm, (Option.some.inj gz).symm, fun _ T => T.ls.ed2, fun _ T => T.en2, fun _ T => T.ls.ew2⟩
      refine ⟨T, _, rfl, sqT upd_same, rfl, _, _, rfl, _, _, rfl, _, _, rfl, rfl, ?_⟩
      generalize upd H13 T (.tup [.ref d, .ref m, .ref w']) = H14 at T14 ⊢
      -- all other leases
      refine ⟨fun σ' H' => ∃ x16 : Option V, σ' = sg a b isw fl pn pl be (some (.ref w')) bf (some (.int (0 + (i : Int)))) (some (.ref ne)) (some (.ref la)) (some (.ref lt)) (some (.ref nw)) (some (.ref d)) (some (.ref m)) x16 ∧ TF H' b c fl pn be bf pl w1 w2 d1 d2 la lt nw n1 n2 svs pls rs pt W1 W2 ps qs t j (60 + 2 * i), ?_, ?_⟩
      · refine ⟨.ref d, rfl, d, _, rfl, .inl (hd _ T14), fun p1 bs1 hp1 ik1 => ⟨.ref m, rfl, m, _, rfl, .inl (hm _ (T14.same (same_new hp1))), fun p2 bs2 hp2 ik2 => ?_⟩⟩
        obtain ⟨ks1, ek1, tk1, lk1, lk1'⟩ := keys_ti ik1
        obtain ⟨ks2, ek2, tk2, lk2, lk2'⟩ := keys_ti ik2
        have T15 := T14.same (same_new (o := .lst (bs1.map V.ref)) hp1)
        have T16 := T15.same (same_new (o := .lst (bs2.map V.ref)) hp2)
        have z1 := apl_len svs rs (pOf ps) (pOf W)
        have z2 := apl_len svs rs (pOf qs) (pOf W)
        refine ⟨p1, p2, bs1.map V.ref, bs2.map V.ref, rfl, rfl, upd_other upd_same hp2, upd_same, le_line (by rw [ek1, ek2, refsT, refsT, List.length_map, List.length_map]; omega), fun p3 hp3 => ?_⟩
        have T17 := T16.same (same_new (o := .lst (bs1.map V.ref ++ bs2.map V.ref)) hp3)
        have tall : TIs (upd (upd (upd H14 p1 (.lst (bs1.map V.ref))) p2 (.lst (bs2.map V.ref))) p3 (.lst (bs1.map V.ref ++ bs2.map V.ref))) (ks1 ++ ks2) :=
          (((tk1.same (same_new hp1)).same (same_new hp2)).app (tk2.same (same_new hp2))).same (same_new hp3)
        refine ⟨p3, ks1 ++ ks2, leaseR rs, rfl, sqL (by rw [upd_same, ek1, ek2]; show _ = some (HO.lst (refsT (ks1 ++ ks2))); rw [refsT_app]), tall, by rw [leaseR_len]; omega, fun p hp => ?_, fun p4 L hp4 hL => ⟨p4, L, rfl, upd_same, (tall.same (same_new hp4)).sub hL, fun L' p5 hL' l64 hp5 => ?_⟩⟩
        · rcases List.mem_append.mp hp with h | h
          · exact (lk1 p h).1
          · exact (lk2 p h).1
        · have T18 := (T17.same (same_new (o := SetKO P w p4 L) hp4)).same (same_new (o := .lst (refsT L')) hp5)
          have tL : TIs _ L' := ((tall.same (same_new (o := SetKO P w p4 L) hp4)).same (same_new (o := .lst (refsT L')) hp5)).sub fun p h => hL p (hL' p h)
          have eL : upd (upd (upd (upd (upd H14 p1 (.lst (bs1.map V.ref))) p2 (.lst (bs2.map V.ref))) p3 (.lst (bs1.map V.ref ++ bs2.map V.ref))) p4 (SetKO P w p4 L)) p5 (.lst (refsT L')) p5 = some (.lst (refsT L')) := upd_same
          have memL : ∀ p ∈ L', p.2 ∈ leasesL svs rs := fun p h => by
            rcases List.mem_append.mp (hL p (hL' p h)) with h | h
            · exact (lk1 p h).2
            · exact (lk2 p h).2
          refine ⟨p5, rfl, ⟨_, sqL eL⟩, ?_⟩
          refine for_list (K := K) (a := p5) (xs := refsT L') (fun _ σ H' => ∃ x16 : Option V, σ = sg a b isw fl pn pl be (some (.ref w')) bf (some (.int (0 + (i : Int)))) (some (.ref ne)) (some (.ref la)) (some (.ref lt)) (some (.ref nw)) (some (.ref d)) (some (.ref m)) x16 ∧ TF H' b c fl pn be bf pl w1 w2 d1 d2 la lt nw n1 n2 svs pls rs pt W1 W2 ps qs t j (60 + 2 * i) ∧ TIs H' L' ∧ H' p5 = some (.lst (refsT L'))) ⟨x16, rfl, T18, tL, eL⟩ (fun _ σ H' _ ⟨_, _, _, _, h⟩ => sqL h) ?_ (fun σ H' ⟨x16, e, T, _, _⟩ => ⟨x16, e, T⟩)
          rintro ii x σ H19 hx ⟨x16, rfl, T19, t19, e19⟩
          obtain ⟨p, hpm, rfl⟩ : ∃ p ∈ L', V.ref p.1 = x := List.mem_map.mp (List.mem_of_getElem? hx)
          have hpl := memL p hpm
          have hp19 := t19 p hpm
          refine ⟨.ref p.1, rfl, .ref la, rfl, encT p, encT (la, t, ((j + 1 : Nat) : Int)), dp_ti hp19, dp_ti (p := (la, t, ((j + 1 : Nat) : Int))) T19.ela, ti_shaped (lease_name FO hpl), ti_shaped hnm, _, rfl, ?_⟩
          rw [ti_eqv]
          by_cases hne : p.2 = (t, ((j + 1 : Nat) : Int))
          · rw [decide_eq_true hne]
            refine ite2 (fun kf => absurd kf (by decide)) (fun _ => ?_)
            refine ite2 (fun kf => absurd kf (by decide)) (fun _ => ?_)
            exact ⟨_, rfl, T19, t19, e19⟩
          · rw [decide_eq_false hne]
            refine ite2 (fun _ => ?_) (fun kf => absurd rfl kf)
            refine ⟨.ref d, rfl, d, rfl, .inr ⟨_, .inl (hd _ T19)⟩, .ref p.1, rfl, _, DGet.t (k := kk p.2) (hd _ T19) hp19, .ref m, rfl, m, rfl, .inr ⟨_, .inl (hm _ T19)⟩, .ref p.1, rfl, _, DGet.t (k := kk p.2) (hm _ T19) hp19, ?_⟩
            rw [apl_get hpl, apl_get hpl, edit_other ed hpl hne]
            refine ⟨rfl, _, rfl, ?_⟩
            rw [decide_eq_true rfl]
            refine ite2 (fun kf => absurd kf (by decide)) (fun _ => ?_)
            exact ⟨_, rfl, T19, t19, e19⟩
      · rintro σ15 H15 ⟨x16, rfl, T15⟩
        refine ⟨.ref d, rfl, d, rfl, .inr ⟨_, .inl (hd _ T15)⟩, .ref la, rfl, _, DGet.t (k := kk (t, ((j + 1 : Nat) : Int))) (hd _ T15) T15.ela, .ref m, rfl, m, rfl, .inr ⟨_, .inl (hm _ T15)⟩, .ref la, rfl, _, DGet.t (k := kk (t, ((j + 1 : Nat) : Int))) (hm _ T15) T15.ela, ?_⟩
        rw [gml, gml']
        refine ⟨_, _, rfl, rfl, _, rfl, rfl, _, rfl, ?_⟩
        have hab : (if ((farL rs (pOf ps) (pOf W) (t, ((j + 1 : Nat) : Int)) : Nat) : Int) - ((farL rs (pOf qs) (pOf W) (t, ((j + 1 : Nat) : Int)) : Nat) : Int) < 0 then -(((farL rs (pOf ps) (pOf W) (t, ((j + 1 : Nat) : Int)) : Nat) : Int) - ((farL rs (pOf qs) (pOf W) (t, ((j + 1 : Nat) : Int)) : Nat) : Int))
            else ((farL rs (pOf ps) (pOf W) (t, ((j + 1 : Nat) : Int)) : Nat) : Int) - ((farL rs (pOf qs) (pOf W) (t, ((j + 1 : Nat) : Int)) : Nat) : Int)) = 1 := by
          have := edit_moved (pOf W) ed
          split <;> omega
        rw [hab, decide_eq_true rfl]
        refine ite2 (fun kf => absurd kf (by decide)) (fun _ => ?_)
        refine ⟨.ref fl, rfl, .ref lt, rfl, .ref w', rfl, fl, lt, w', svs, pls, rs, qs, W, rfl, T15.ls.flt, by omega, r60, T15.elt, hw' _ T15, fun H16 s16 => ?_⟩
        have T16 := T15.same s16
        refine ⟨.ref m, rfl, .inr (.inr (.inl ⟨rfl, .inr ⟨_, hm _ T16⟩⟩)), m, _, rfl, rfl, hm _ T16, fun v hv => ⟨v, m, _, _, rfl, upd_same, upd_other (hm _ T16) hv, (apl_ints svs rs _ _).eq, rfl, _, rfl, ?_⟩⟩
        have hs : (V.int (vsum (apl svs rs (pOf qs) (pOf W))) : V) = V.int (((apl svs rs (pOf qs) (pOf W)).map fun p => toI p.2).sum) := rfl
        rw [decide_eq_true hs]
        refine ite2 (fun kf => absurd kf (by decide)) (fun _ => ?_)
        exact ⟨_, _, _, _, rfl, T16.same (same_new hv)⟩
    · rintro σ13 H13 ⟨x7, x14, x15, x16, rfl, T13⟩
      refine ⟨fun σ' H' => σ' = sg a b isw fl pn pl be x7 bf (some (.int (0 + (i : Int)))) (some (.ref ne)) (some (.ref la)) (some (.ref lt)) (some (.ref nw)) x14 x15 x16 ∧ TF H' b c fl pn be bf pl w1 w2 d1 d2 la lt nw n1 n2 svs pls rs pt W1 W2 ps qs t j (60 + 2 * i), ?_, ?_⟩
      · refine ⟨.ref fl, rfl, .ref pl, rfl, .ref lt, rfl, fl, pl, lt, svs, pls, rs, ps, qs, rfl, T13.ls.flt, by omega, r60, T13.ls.pln, T13.elt, fun H14 p14 s14 _ e14 p15 hp15 => ?_⟩
        have T14 := T13.same s14
        have n15 := ne_of_none e14 hp15
        rw [apl_one ed] at e14
        refine ⟨.ref la, rfl, la, kk (t, ((j + 1 : Nat) : Int)), rfl, upd_other T14.ela hp15, upd_same, p14, p15, (t, ((j + 1 : Nat) : Int)), 1, rfl, ?_, upd_same, hnm, ⟨j + 1, rfl, by omega⟩, ⟨1, rfl, by decide⟩, true, rfl, ite2 (fun kf => absurd kf (by decide)) (fun _ => ⟨rfl, ?_⟩)⟩
        · rw [upd_ne n15, upd_ne n15]
          exact e14
        · exact T14.same fun z o ho => by
            rw [upd_ne (ne_of_none ho hp15), upd_ne (ne_of_none ho hp15)]
            exact ho
      · rintro σ14 H14 ⟨rfl, T14⟩
        refine ⟨.ref lt, rfl, .ref nw, rfl, le_line (by show 2 ≤ 10000; decide), fun t0 ht0 => ⟨t0, _, rfl, sqT upd_same, rfl, _, _, rfl, _, _, rfl, rfl, ?_⟩⟩
        have T15 := T14.same (same_new (o := .tup [.ref lt, .ref nw]) ht0)
        exact ⟨lt, nw, n1, n2, qs, _, _, _, _, _, _, _, _, _, rfl, T15.ls.bag, T15.ls.flt, T15.ls.pin, T15.ls.tis, T15.elt, PQ, T15.ls.bes, T15.ls.ew1, T15.ls.ew2, T15.enw, T15.en1, T15.en2⟩
end
end K25
/-! All defs together; the row. -/
namespace K25
open PySem PySem.Spec PyProof.Rows L2
/-- a def of the text, where the top has written it -/
structure DefAt (K : PySem.W.Frag) (x : Str) (st : Stmt) : Prop where
  ex : ∃ (f : Addr) (oc : Value) (od an : Option Addr) (osl : Array (Option Value)) (kV doc pm cdv ct : Value), PySem.W.nsIn K mainGlobals x = some (some (.ref f)) ∧
    K.lookup f = some ⟨oc, od, .func (PySem.W.fnOf x x (defArgs st) (defBody st) (defScope st) .none kV doc pm an cdv ct), osl⟩ ∧ PySem.W.codeIn K cdv x = true ∧ PySem.W.keepIn K (.ref f) = true
theorem def_at {K : PySem.W.Frag} {x : Str} {st : Stmt} {f : Addr} {oc : Value} {od an : Option Addr} {osl : Array (Option Value)} {kV doc pm cdv ct : Value} (a : PySem.W.nsIn K mainGlobals x = some (some (.ref f)))
    (l : K.lookup f = some ⟨oc, od, .func (PySem.W.fnOf x x (defArgs st) (defBody st) (defScope st) .none kV doc pm an cdv ct), osl⟩) (c : PySem.W.codeIn K cdv x = true) (k : PySem.W.keepIn K (.ref f) = true) : DefAt K x st :=
  ⟨f, oc, od, an, osl, kV, doc, pm, cdv, ct, a, l, c, k⟩
theorem DefAt.get {K : PySem.W.Frag} {x : Str} {st : Stmt} {h : Heap} {mg : Str → Option Value} {ps : List Str} (D : DefAt K x st) (X : K.In h) (G : h.Ns mainGlobals mg)
    (hb : ∀ (kV doc pm : Value) (an : Option Addr) (cdv ct : Value) (us : List Value), us.length = ps.length → bindArgs (PySem.W.fnOf x x (defArgs st) (defBody st) (defScope st) .none kV doc pm an cdv ct) ⟨us, []⟩ = pure (ps.zip us)) :
    ∃ (f : Addr) (fd : FuncData), Fun K x x st f fd ∧ mg x = some (.ref f) ∧ PySem.W.keepIn K (.ref f) = true ∧ Binds K fd ps [] := by
  obtain ⟨f, oc, od, an, osl, kV, doc, pm, cdv, ct, a, l, c, k⟩ := D.ex
  have F := fun_mk (st := st) l c k
  exact ⟨f, _, F, PySem.W.mg_of X G a, k, F.binds (ps := ps) hb⟩
theorem all_mk {l : PySem.W.OpenLaw} {w : World} {K : PySem.W.Frag} {h : Heap} {mg : Str → Option Value} {fa : Addr} (X : K.In h) (G : h.Ns mainGlobals mg) (hfa : mg "law" = some (.ref fa))
    (D_bag : DefAt K "_law_bag" s_w_bag) (D_take : DefAt K "_law_take" s_w_take) (D_some : DefAt K "_law_some" s_w_some) (D_mixed : DefAt K "_law_mixed" s_w_mixed) (D_plan : DefAt K "_law_plan" s_w_plan) (D_reduced : DefAt K "reduced" s_reduced) (D_joined : DefAt K "joined" s_joined) (D_common_length : DefAt K "common_length" s_common_length) (D_way : DefAt K "way" s_way) (D_edges_with : DefAt K "edges_with" s_edges_with) (D_leases_of : DefAt K "leases_of" s_leases_of) (D_leases : DefAt K "_law_leases" s_w_leases) (D_end : DefAt K "_law_end" s_w_end) (D_vertices_of : DefAt K "vertices_of" s_vertices_of) (D_aparts : DefAt K "aparts" s_aparts) (D_distance : DefAt K "distance" s_distance) (D_names : DefAt K "_law_names" s_w_names) (D_fleet : DefAt K "_law_fleet" s_w_fleet) (D_wide : DefAt K "_law_wide" s_w_wide) (D_cut_fleet : DefAt K "_law_cut_fleet" s_w_cut_fleet) (D_middle : DefAt K "_law_middle" s_w_middle) (D_pins : DefAt K "_law_pins" s_w_pins) (D_exchanged : DefAt K "_law_exchanged" s_w_exchanged) (D_stands : DefAt K "_law_stands" s_w_stands) (D_near : DefAt K "_law_near" s_w_near) (D_alike : DefAt K "_law_alike" s_w_alike) (D_law : DefAt K "law" s_law)
    (zL : PySem.W.nsIn K mainGlobals "len" = some none) (zT : PySem.W.nsIn K mainGlobals "tuple" = some none) (zLi : PySem.W.nsIn K mainGlobals "list" = some none) (zR : PySem.W.nsIn K mainGlobals "range" = some none) (zI : PySem.W.nsIn K mainGlobals "int" = some none) (zS : PySem.W.nsIn K mainGlobals "sorted" = some none) (zE : PySem.W.nsIn K mainGlobals "enumerate" = some none) (zN : PySem.W.nsIn K mainGlobals "min" = some none) (zA : PySem.W.nsIn K mainGlobals "abs" = some none) (zSu : PySem.W.nsIn K mainGlobals "sum" = some none) (zD : PySem.W.nsIn K mainGlobals "dict" = some none) (zZ : PySem.W.nsIn K mainGlobals "zip" = some none) (zSe : PySem.W.nsIn K mainGlobals "set" = some none) (zRe : PySem.W.nsIn K mainGlobals "repr" = some none) :
    ∃ fd : FuncData, (∀ (s : Shared) (v : Value), BindsTo s fd ⟨[v], []⟩ [("_law_script", v)]) ∧ ∀ base : Heap, K.In base → base.Ns mainGlobals mg → FnG l.prog w K mg base 7 fa fd ["_law_script"] (sp_law K) := by
  have mL := PySem.W.mg_none_of X G zL
  have mT := PySem.W.mg_none_of X G zT
  have mLi := PySem.W.mg_none_of X G zLi
  have mR := PySem.W.mg_none_of X G zR
  have mI := PySem.W.mg_none_of X G zI
  have mS := PySem.W.mg_none_of X G zS
  have mE := PySem.W.mg_none_of X G zE
  have mN := PySem.W.mg_none_of X G zN
  have mA := PySem.W.mg_none_of X G zA
  have mSu := PySem.W.mg_none_of X G zSu
  have mD := PySem.W.mg_none_of X G zD
  have mZ := PySem.W.mg_none_of X G zZ
  have mSe := PySem.W.mg_none_of X G zSe
  have mRe := PySem.W.mg_none_of X G zRe
  obtain ⟨f_bag, fd_bag, F_bag, g_bag, k_bag, b_bag⟩ := D_bag.get (ps := ["_law_script"]) X G (fun _ _ _ _ _ _ us hl => match us, hl with | [_], _ => rfl)
  obtain ⟨f_take, fd_take, F_take, g_take, k_take, b_take⟩ := D_take.get (ps := ["_law_bag_here", "_law_many"]) X G (fun _ _ _ _ _ _ us hl => match us, hl with | [_, _], _ => rfl)
  obtain ⟨f_some, fd_some, F_some, g_some, k_some, b_some⟩ := D_some.get (ps := ["_law_bag_here", "_law_things"]) X G (fun _ _ _ _ _ _ us hl => match us, hl with | [_, _], _ => rfl)
  obtain ⟨f_mixed, fd_mixed, F_mixed, g_mixed, k_mixed, b_mixed⟩ := D_mixed.get (ps := ["_law_bag_here", "_law_things"]) X G (fun _ _ _ _ _ _ us hl => match us, hl with | [_, _], _ => rfl)
  obtain ⟨f_plan, fd_plan, F_plan, g_plan, k_plan, b_plan⟩ := D_plan.get (ps := ["_law_bag_here", "_law_fleet_here"]) X G (fun _ _ _ _ _ _ us hl => match us, hl with | [_, _], _ => rfl)
  obtain ⟨f_reduced, fd_reduced, F_reduced, g_reduced, k_reduced, b_reduced⟩ := D_reduced.get (ps := ["word"]) X G (fun _ _ _ _ _ _ us hl => match us, hl with | [_], _ => rfl)
  obtain ⟨f_joined, fd_joined, F_joined, g_joined, k_joined, b_joined⟩ := D_joined.get (ps := ["first", "second"]) X G (fun _ _ _ _ _ _ us hl => match us, hl with | [_, _], _ => rfl)
  obtain ⟨f_common_length, fd_common_length, F_common_length, g_common_length, k_common_length, b_common_length⟩ := D_common_length.get (ps := ["one", "other"]) X G (fun _ _ _ _ _ _ us hl => match us, hl with | [_, _], _ => rfl)
  obtain ⟨f_way, fd_way, F_way, g_way, k_way, b_way⟩ := D_way.get (ps := ["one", "other"]) X G (fun _ _ _ _ _ _ us hl => match us, hl with | [_, _], _ => rfl)
  obtain ⟨f_edges_with, fd_edges_with, F_edges_with, g_edges_with, k_edges_with, b_edges_with⟩ := D_edges_with.get (ps := ["edges", "service"]) X G (fun _ _ _ _ _ _ us hl => match us, hl with | [_, _], _ => rfl)
  obtain ⟨f_leases_of, fd_leases_of, F_leases_of, g_leases_of, k_leases_of, b_leases_of⟩ := D_leases_of.get (ps := ["fleet"]) X G (fun _ _ _ _ _ _ us hl => match us, hl with | [_], _ => rfl)
  obtain ⟨f_leases, fd_leases, F_leases, g_leases, k_leases, b_leases⟩ := D_leases.get (ps := ["_law_fleet_here"]) X G (fun _ _ _ _ _ _ us hl => match us, hl with | [_], _ => rfl)
  obtain ⟨f_end, fd_end, F_end, g_end, k_end, b_end⟩ := D_end.get (ps := ["_law_fleet_here", "_law_lease"]) X G (fun _ _ _ _ _ _ us hl => match us, hl with | [_, _], _ => rfl)
  obtain ⟨f_vertices_of, fd_vertices_of, F_vertices_of, g_vertices_of, k_vertices_of, b_vertices_of⟩ := D_vertices_of.get (ps := ["fleet", "plan"]) X G (fun _ _ _ _ _ _ us hl => match us, hl with | [_, _], _ => rfl)
  obtain ⟨f_aparts, fd_aparts, F_aparts, g_aparts, k_aparts, b_aparts⟩ := D_aparts.get (ps := ["fleet", "one", "other"]) X G (fun _ _ _ _ _ _ us hl => match us, hl with | [_, _, _], _ => rfl)
  obtain ⟨f_distance, fd_distance, F_distance, g_distance, k_distance, b_distance⟩ := D_distance.get (ps := ["fleet", "one", "other"]) X G (fun _ _ _ _ _ _ us hl => match us, hl with | [_, _, _], _ => rfl)
  obtain ⟨f_names, fd_names, F_names, g_names, k_names, b_names⟩ := D_names.get (ps := ["_law_bag_here", "_law_many"]) X G (fun _ _ _ _ _ _ us hl => match us, hl with | [_, _], _ => rfl)
  obtain ⟨f_fleet, fd_fleet, F_fleet, g_fleet, k_fleet, b_fleet⟩ := D_fleet.get (ps := ["_law_bag_here", "_law_many", "_law_most"]) X G (fun _ _ _ _ _ _ us hl => match us, hl with | [_, _, _], _ => rfl)
  obtain ⟨f_wide, fd_wide, F_wide, g_wide, k_wide, b_wide⟩ := D_wide.get (ps := ["_law_bag_here"]) X G (fun _ _ _ _ _ _ us hl => match us, hl with | [_], _ => rfl)
  obtain ⟨f_cut_fleet, fd_cut_fleet, F_cut_fleet, g_cut_fleet, k_cut_fleet, b_cut_fleet⟩ := D_cut_fleet.get (ps := ["_law_bag_here", "_law_many", "_law_most"]) X G (fun _ _ _ _ _ _ us hl => match us, hl with | [_, _, _], _ => rfl)
  obtain ⟨f_middle, fd_middle, F_middle, g_middle, k_middle, b_middle⟩ := D_middle.get (ps := ["_law_bag_here"]) X G (fun _ _ _ _ _ _ us hl => match us, hl with | [_], _ => rfl)
  obtain ⟨f_pins, fd_pins, F_pins, g_pins, k_pins, b_pins⟩ := D_pins.get (ps := ["_law_bag_here", "_law_fleet_here"]) X G (fun _ _ _ _ _ _ us hl => match us, hl with | [_, _], _ => rfl)
  obtain ⟨f_exchanged, fd_exchanged, F_exchanged, g_exchanged, k_exchanged, b_exchanged⟩ := D_exchanged.get (ps := ["_law_fleet_here", "_law_plan_here", "_law_lease"]) X G (fun _ _ _ _ _ _ us hl => match us, hl with | [_, _, _], _ => rfl)
  obtain ⟨f_stands, fd_stands, F_stands, g_stands, k_stands, b_stands⟩ := D_stands.get (ps := ["_law_fleet_here", "_law_plan_here"]) X G (fun _ _ _ _ _ _ us hl => match us, hl with | [_, _], _ => rfl)
  obtain ⟨f_near, fd_near, F_near, g_near, k_near, b_near⟩ := D_near.get (ps := ["_law_fleet_here", "_law_plan_here", "_law_pins_here"]) X G (fun _ _ _ _ _ _ us hl => match us, hl with | [_, _, _], _ => rfl)
  obtain ⟨f_alike, fd_alike, F_alike, g_alike, k_alike, b_alike⟩ := D_alike.get (ps := ["_law_found", "_law_due"]) X G (fun _ _ _ _ _ _ us hl => match us, hl with | [_, _], _ => rfl)
  obtain ⟨f0, oc, od, an, osl, kV, doc, pm, cdv, ct, a0, l0, c0, k0⟩ := D_law.ex
  have e := hfa.symm.trans (PySem.W.mg_of X G a0)
  cases e
  have F_law := fun_mk (st := s_law) l0 c0 k0
  refine ⟨PySem.W.fnOf "law" "law" (defArgs s_law) (defBody s_law) (defScope s_law) .none kV doc pm an cdv ct, fun s v => .of_eq rfl, fun base _ _ => ?_⟩
  have C_bag : Cal l.prog w K mg base "_law_bag" 1 ["_law_script"] (sp_bag K) := ⟨f_bag, fd_bag, ok_bag (k := 0) F_bag mA, g_bag, k_bag, b_bag⟩
  have C_take : Cal l.prog w K mg base "_law_take" 1 ["_law_bag_here", "_law_many"] sp_take := ⟨f_take, fd_take, ok_take (k := 0) F_take mI, g_take, k_take, b_take⟩
  have C_some : Cal l.prog w K mg base "_law_some" 2 ["_law_bag_here", "_law_things"] sp_some := ⟨f_some, fd_some, ok_some F_some mL C_take, g_some, k_some, b_some⟩
  have C_mixed : Cal l.prog w K mg base "_law_mixed" 2 ["_law_bag_here", "_law_things"] sp_mixed := ⟨f_mixed, fd_mixed, ok_mixed F_mixed mL C_take, g_mixed, k_mixed, b_mixed⟩
  have C_plan : Cal l.prog w K mg base "_law_plan" 3 ["_law_bag_here", "_law_fleet_here"] sp_plan := ⟨f_plan, fd_plan, ok_plan F_plan mL mT mR C_take C_some, g_plan, k_plan, b_plan⟩
  have C_reduced : Cal l.prog w K mg base "reduced" 1 ["word"] sp_reduced := ⟨f_reduced, fd_reduced, ok_reduced F_reduced mT, g_reduced, k_reduced, b_reduced⟩
  have C_joined : Cal l.prog w K mg base "joined" 2 ["first", "second"] sp_joined := ⟨f_joined, fd_joined, ok_joined F_joined C_reduced, g_joined, k_joined, b_joined⟩
  have C_common_length : Cal l.prog w K mg base "common_length" 1 ["one", "other"] sp_common := ⟨f_common_length, fd_common_length, ok_common F_common_length mL mN, g_common_length, k_common_length, b_common_length⟩
  have C_way : Cal l.prog w K mg base "way" 2 ["one", "other"] sp_way := ⟨f_way, fd_way, ok_way F_way mL mR mT C_common_length, g_way, k_way, b_way⟩
  have C_edges_with : Cal l.prog w K mg base "edges_with" 1 ["edges", "service"] sp_edges := ⟨f_edges_with, fd_edges_with, ok_edges F_edges_with mT, g_edges_with, k_edges_with, b_edges_with⟩
  have C_leases_of : Cal l.prog w K mg base "leases_of" 1 ["fleet"] sp_leases_of := ⟨f_leases_of, fd_leases_of, ok_leases_of F_leases_of mT mS mE, g_leases_of, k_leases_of, b_leases_of⟩
  have C_leases : Cal l.prog w K mg base "_law_leases" 1 ["_law_fleet_here"] sp_w_leases := ⟨f_leases, fd_leases, ok_w_leases F_leases mS mE, g_leases, k_leases, b_leases⟩
  have C_end : Cal l.prog w K mg base "_law_end" 1 ["_law_fleet_here", "_law_lease"] sp_end := ⟨f_end, fd_end, ok_end F_end mL mE, g_end, k_end, b_end⟩
  have C_vertices_of : Cal l.prog w K mg base "vertices_of" 3 ["fleet", "plan"] sp_vertices := ⟨f_vertices_of, fd_vertices_of, ok_vertices F_vertices_of mT mE C_joined, g_vertices_of, k_vertices_of, b_vertices_of⟩
  have C_aparts : Cal l.prog w K mg base "aparts" 4 ["fleet", "one", "other"] sp_aparts := ⟨f_aparts, fd_aparts, ok_aparts F_aparts mL C_vertices_of C_leases_of C_edges_with C_way, g_aparts, k_aparts, b_aparts⟩
  have C_distance : Cal l.prog w K mg base "distance" 5 ["fleet", "one", "other"] sp_distance := ⟨f_distance, fd_distance, ok_distance F_distance mSu C_aparts, g_distance, k_distance, b_distance⟩
  have C_names : Cal l.prog w K mg base "_law_names" 3 ["_law_bag_here", "_law_many"] sp_names := ⟨f_names, fd_names, ok_names F_names mI mR C_take C_some C_mixed, g_names, k_names, b_names⟩
  have C_fleet : Cal l.prog w K mg base "_law_fleet" 4 ["_law_bag_here", "_law_many", "_law_most"] sp_fleet := ⟨f_fleet, fd_fleet, ok_fleet F_fleet mI mR mT mS mLi mL C_names C_take C_some C_mixed, g_fleet, k_fleet, b_fleet⟩
  have C_wide : Cal l.prog w K mg base "_law_wide" 5 ["_law_bag_here"] sp_wide := ⟨f_wide, fd_wide, ok_wide F_wide C_some C_fleet, g_wide, k_wide, b_wide⟩
  have C_cut_fleet : Cal l.prog w K mg base "_law_cut_fleet" 5 ["_law_bag_here", "_law_many", "_law_most"] sp_cut := ⟨f_cut_fleet, fd_cut_fleet, ok_cut F_cut_fleet C_fleet, g_cut_fleet, k_cut_fleet, b_cut_fleet⟩
  have C_middle : Cal l.prog w K mg base "_law_middle" 6 ["_law_bag_here"] sp_middle := ⟨f_middle, fd_middle, ok_middle F_middle C_some C_cut_fleet, g_middle, k_middle, b_middle⟩
  have C_pins : Cal l.prog w K mg base "_law_pins" 3 ["_law_bag_here", "_law_fleet_here"] sp_pins := ⟨f_pins, fd_pins, ok_pins F_pins mT C_take C_some C_leases, g_pins, k_pins, b_pins⟩
  have C_exchanged : Cal l.prog w K mg base "_law_exchanged" 2 ["_law_fleet_here", "_law_plan_here", "_law_lease"] sp_exchanged := ⟨f_exchanged, fd_exchanged, ok_exchanged F_exchanged mL mI mT mS C_end, g_exchanged, k_exchanged, b_exchanged⟩
  have C_stands : Cal l.prog w K mg base "_law_stands" 1 ["_law_fleet_here", "_law_plan_here"] sp_stands := ⟨f_stands, fd_stands, ok_stands F_stands mL mD mZ mR, g_stands, k_stands, b_stands⟩
  have C_near : Cal l.prog w K mg base "_law_near" 3 ["_law_fleet_here", "_law_plan_here", "_law_pins_here"] sp_near := ⟨f_near, fd_near, ok_near F_near mL C_stands C_leases C_end C_exchanged, g_near, k_near, b_near⟩
  have C_alike : CalG l.prog w K mg base "_law_alike" 1 ["_law_found", "_law_due"] sp_alike := ⟨f_alike, fd_alike, ok_alike F_alike mRe, g_alike, k_alike, b_alike⟩
  exact ok_law F_law ⟨mSe, mLi, mS, mR, mZ, mA, mSu⟩ C_bag C_take C_some C_wide C_middle C_pins C_plan C_aparts C_near C_distance C_alike
end K25
open PySem PySem.W PyProof.Rows
set_option maxHeartbeats 0 in
theorem PySem.Challenge.cw_sparehop_k25_whole_each_edit_moves_one_l_holds : PySem.Challenge.rw_sparehop_k25_whole_each_edit_moves_one_l.Holds := by
  w_on; o_law; k_head; (case hw => w_witness2)
  k_fill
  refine K25.walk_ofG (l := PySem.Challenge.rw_sparehop_k25_whole_each_edit_moves_one_l) (n := 63) (k := 7) (x := "_law_script") (sp := fun w => K25.sp_law _) rfl (by decide) rfl ⟨rfl, by decide, by decide⟩ (fun w h Y => PySem.W.kIn_of Y) ?F (fun _ _ a ns hl hS => ⟨a, ns, rfl, hS, hl, fun _ => rfl⟩)
  case F =>
    intro w mg fa h KX G hmg
    refine' K25.all_mk KX G hmg  (K25.def_at ?a0 ?l0 ?c0 ?k0) (K25.def_at ?a1 ?l1 ?c1 ?k1) (K25.def_at ?a2 ?l2 ?c2 ?k2) (K25.def_at ?a3 ?l3 ?c3 ?k3) (K25.def_at ?a4 ?l4 ?c4 ?k4) (K25.def_at ?a5 ?l5 ?c5 ?k5) (K25.def_at ?a6 ?l6 ?c6 ?k6) (K25.def_at ?a7 ?l7 ?c7 ?k7) (K25.def_at ?a8 ?l8 ?c8 ?k8) (K25.def_at ?a9 ?l9 ?c9 ?k9) (K25.def_at ?a10 ?l10 ?c10 ?k10) (K25.def_at ?a11 ?l11 ?c11 ?k11) (K25.def_at ?a12 ?l12 ?c12 ?k12) (K25.def_at ?a13 ?l13 ?c13 ?k13) (K25.def_at ?a14 ?l14 ?c14 ?k14) (K25.def_at ?a15 ?l15 ?c15 ?k15) (K25.def_at ?a16 ?l16 ?c16 ?k16) (K25.def_at ?a17 ?l17 ?c17 ?k17) (K25.def_at ?a18 ?l18 ?c18 ?k18) (K25.def_at ?a19 ?l19 ?c19 ?k19) (K25.def_at ?a20 ?l20 ?c20 ?k20) (K25.def_at ?a21 ?l21 ?c21 ?k21) (K25.def_at ?a22 ?l22 ?c22 ?k22) (K25.def_at ?a23 ?l23 ?c23 ?k23) (K25.def_at ?a24 ?l24 ?c24 ?k24) (K25.def_at ?a25 ?l25 ?c25 ?k25) (K25.def_at ?a26 ?l26 ?c26 ?k26)  ?z0 ?z1 ?z2 ?z3 ?z4 ?z5 ?z6 ?z7 ?z8 ?z9 ?z10 ?z11 ?z12 ?z13
    (case a0 => k_is); (case l0 => k_is); (case c0 => k_is); (case k0 => k_is)
    (case a1 => k_is); (case l1 => k_is); (case c1 => k_is); (case k1 => k_is)
    (case a2 => k_is); (case l2 => k_is); (case c2 => k_is); (case k2 => k_is)
    (case a3 => k_is); (case l3 => k_is); (case c3 => k_is); (case k3 => k_is)
    (case a4 => k_is); (case l4 => k_is); (case c4 => k_is); (case k4 => k_is)
    (case a5 => k_is); (case l5 => k_is); (case c5 => k_is); (case k5 => k_is)
    (case a6 => k_is); (case l6 => k_is); (case c6 => k_is); (case k6 => k_is)
    (case a7 => k_is); (case l7 => k_is); (case c7 => k_is); (case k7 => k_is)
    (case a8 => k_is); (case l8 => k_is); (case c8 => k_is); (case k8 => k_is)
    (case a9 => k_is); (case l9 => k_is); (case c9 => k_is); (case k9 => k_is)
    (case a10 => k_is); (case l10 => k_is); (case c10 => k_is); (case k10 => k_is)
    (case a11 => k_is); (case l11 => k_is); (case c11 => k_is); (case k11 => k_is)
    (case a12 => k_is); (case l12 => k_is); (case c12 => k_is); (case k12 => k_is)
    (case a13 => k_is); (case l13 => k_is); (case c13 => k_is); (case k13 => k_is)
    (case a14 => k_is); (case l14 => k_is); (case c14 => k_is); (case k14 => k_is)
    (case a15 => k_is); (case l15 => k_is); (case c15 => k_is); (case k15 => k_is)
    (case a16 => k_is); (case l16 => k_is); (case c16 => k_is); (case k16 => k_is)
    (case a17 => k_is); (case l17 => k_is); (case c17 => k_is); (case k17 => k_is)
    (case a18 => k_is); (case l18 => k_is); (case c18 => k_is); (case k18 => k_is)
    (case a19 => k_is); (case l19 => k_is); (case c19 => k_is); (case k19 => k_is)
    (case a20 => k_is); (case l20 => k_is); (case c20 => k_is); (case k20 => k_is)
    (case a21 => k_is); (case l21 => k_is); (case c21 => k_is); (case k21 => k_is)
    (case a22 => k_is); (case l22 => k_is); (case c22 => k_is); (case k22 => k_is)
    (case a23 => k_is); (case l23 => k_is); (case c23 => k_is); (case k23 => k_is)
    (case a24 => k_is); (case l24 => k_is); (case c24 => k_is); (case k24 => k_is)
    (case a25 => k_is); (case l25 => k_is); (case c25 => k_is); (case k25 => k_is)
    (case a26 => k_is); (case l26 => k_is); (case c26 => k_is); (case k26 => k_is)
    (case z0 => k_is)
    (case z1 => k_is)
    (case z2 => k_is)
    (case z3 => k_is)
    (case z4 => k_is)
    (case z5 => k_is)
    (case z6 => k_is)
    (case z7 => k_is)
    (case z8 => k_is)
    (case z9 => k_is)
    (case z10 => k_is)
    (case z11 => k_is)
    (case z12 => k_is)
    (case z13 => k_is)
