import PyProof.Rows.All
import Wide.All
import OpenK.AllK
import Wide.FinOn
import PySem.Challenge.RW_pq0119_01
set_option Elab.async false
set_option linter.all false
set_option maxRecDepth 100000
open PySem PySem.W PySem.Calls PyProof.Rows
namespace Mine
section
theorem left_run {p q : Program} {loose : List Str} {Xt : Shared → Bool} {α : Type} {Yf : Shared → α} {Ya : World → α} {N : Nat} {g0 : Bool} {H₀ : Params → Heap} {gs₀ : Array GenState} {d₀ : Drawn} {k₀ m₀ : Nat} {ann : Option Value}
    (open_ : ∀ w : World, (fencedOpening treeTable p w N).map (fun s => (s.heap, s.gens, s.drawn, s.toks)) = some (H₀ w.params, gs₀, d₀, k₀))
    (size : ∀ w : World, ((H₀ w.params).isNs mainGlobals && gs₀.size == 0, (H₀ w.params).objs.size, (H₀ w.params).nsMap mainGlobals "__annotations__") = (true, m₀, ann))
    (run : ∀ (w : World) (os : OsState), (topRun treeTable p w m₀ ann N ⟨H₀ w.params, gs₀, d₀, k₀, os⟩ (topStub p)).map (fun s =>
        (staticsOk (importedModules p.main.body) (H₀ w.params) s.heap && namesBound p s.heap && gensDone s && laidKept (H₀ w.params) s.heap, openSeen q loose (importedModules p.main.body) Xt g0 s, Yf s)) = some (true, openGood q loose, Ya w)) :
    LeftO p q loose Xt Yf Ya N g0 := fun w => by
  obtain ⟨⟨h, gs, d, k, os⟩, e, e'⟩ := Option.map_eq_some_iff.mp (open_ w)
  obtain ⟨rfl, rfl, rfl, rfl⟩ : h = H₀ w.params ∧ gs = gs₀ ∧ d = d₀ ∧ k = k₀ := by simpa using e'
  obtain ⟨z1, z2, z3⟩ : _ ∧ _ ∧ _ := by simpa only [Prod.mk.injEq] using size w
  obtain ⟨s, r, e2⟩ := Option.map_eq_some_iff.mp (run w os)
  obtain ⟨l1, l2, l3⟩ : _ ∧ _ ∧ _ := by simpa only [Prod.mk.injEq] using e2
  have t : topFrom treeTable p w N ⟨H₀ w.params, gs, d, k, os⟩ = some s := by
    unfold topFrom
    dsimp only
    rw [z1, z2, z3, r]
    show (match staticsOk (importedModules p.main.body) (H₀ w.params) s.heap && namesBound p s.heap && gensDone s && laidKept (H₀ w.params) s.heap with | true => _ | false => _) = _
    rw [l1]
  unfold openEnds
  rw [e]
  show (topFrom treeTable p w N _).map _ = _
  rw [t]
  exact congrArg some (Prod.ext l2 l3)
end
section
theorem said0 : OpenLaw.wellSaid PySem.Challenge.rw_pq0119_01 = true :=
  (congrFun PySem.W.Fast.te9446332074065402090 PySem.Challenge.rw_pq0119_01).trans (by kernel_rfl)
noncomputable abbrev PG : Program := PySem.Challenge.rw_pq0119_01.row.prog
noncomputable def vw : Program := view PG [0, 2, 3, 4, 6, 7, 8, 9, 11, 13, 14, 15, 16, 17, 18, 19, 20, 22, 23, 24, 25, 26, 27, 28, 29, 30, 31, 32, 33]
noncomputable def XtF (s : Shared) : Bool := xlAt vw [] s && recOk (RowW.records PySem.Challenge.rw_pq0119_01.row.toRowW) s
theorem o_mine (H : Hook) {d : DefRec} {kwd : List (Str × Expr)} (hdef : defOf vw PySem.Challenge.rw_pq0119_01.row.name = some (d, kwd)) (hp : PG.theDef PySem.Challenge.rw_pq0119_01.row.name = some (d.params, d.body, d.scope)) (hk : kwWritten? d.params.kwonlyargs d.params.kw_defaults = some kwd)
    (hw : PySem.Challenge.rw_pq0119_01.row.toRowW.promised) (hc : LeftO PG vw [] XtF H.obs H.val 4928 ∧ WalkO vw [] (XL vw []) H.says PySem.Challenge.rw_pq0119_01.row.toRowW d kwd (fun f vs => PySem.call f vs)) : PySem.Challenge.rw_pq0119_01.row.Holds :=
  PySem.W.holds_open (r := PySem.Challenge.rw_pq0119_01.row) (q := vw) (loose := []) (Xt := XtF) (XP := XL vw []) (Yf := H.obs) (Ya := H.val) (YP := H.says) (N := 4928) hc.1 H.of H.keeps
    (fun s e => xl_of s (Bool.and_eq_true_iff.mp e).1) XL.keeps hdef hp hk (fun s e => recFacts_of (Bool.and_eq_true_iff.mp e).2) (by rfl) (row_said said0) (by decide +kernel) ⟨rfl, rfl, rfl, rfl, rfl, by decide +kernel⟩ hw hc.2
theorem o_lawm (h : PySem.Challenge.rw_pq0119_01.row.Holds) : PySem.Challenge.rw_pq0119_01.Holds := holds_law said0 fun _ => h
local macro_rules | `(tactic| k_head) => `(tactic| x_head)
local macro_rules | `(tactic| o_law) => `(tactic| refine o_lawm ?_)
local macro_rules | `(tactic| o_head $H) => `(tactic| refine o_mine $H (by rfl) (by rfl) (by rfl) ?hw ?hc)
set_option maxRecDepth 100000 in
set_option maxHeartbeats 8000000 in
open_top hd for PySem.Challenge.rw_pq0119_01
end
section
noncomputable def asL : List Addr := [0,1,2,3,4,5,6,7,8,9,10,11,12,13,14,15,16,17,18,19,20,21,22,25,30,31,32,33,34,35,36,37,38,39,40,41,42,43,44,45,46,47,48,51,54,59,60,61,62,63,64,65,66,67,68,69,70,71,72,73,74,75,76,79,86,87,88,91,92,93,94,95,96,97,98,99,100,101,102,103,104,105,106,107,108,109,110,111,112,120,121,122,123,124,125,126,127,128,129,130,131,132,133,134,135,136,139,140,141,142,143,144,145,153,154,155,156,157,158,159,160,161,162,163,164,165,166,167,168,169,170,171,172,173,174,175,176,177,178,179,180,181,182,183,184,185,186,187,188,189,190,191,192,193,194,195,196,197,198,199,200,201,202,203,204,205,206,207,208,209,210,211,212,213,214,215,216,217,218,219,220,221,222,223,224,225,226,227,228,229,230,231,232,233,234,235,236,237,238,239,240,241,242,243,244,245,246,247,248,249,250,251,252,253,254,255,256,257,258,259,260,263,264,265,266,267,268,269,270,271,272,273,274,275,276,277,278,279,280,281,282,283,284,285,286,287,288,289,290,291,292,293,294,295,296,297,298,299,300,301,302,303,304,305,306,307,308,309,310,311,312,313,314,315,316,317,318,319,320,321,322,323,324,325,326,327,328,329,330,331,332,333,334,335,336,337,338,339,340,341,342,343,344,345,346,347,348,349,350,351,352,353,354,355,356,357]
theorem start_open : ∀ w : World, (fencedOpening treeTable PG w 4928).map (fun s => (s.heap, s.gens, s.drawn, s.toks)) = some (boot_heap w.params, #[], boot_drawn, boot_toks) :=
  boot_open (by kernel_rfl) (by decide) (fun s => by rfl)
theorem start_size : ∀ w : World, ((boot_heap w.params).isNs mainGlobals && (#[] : Array GenState).size == 0, (boot_heap w.params).objs.size, (boot_heap w.params).nsMap mainGlobals "__annotations__") = (true, 11, some (.ref 6)) := fun w => by kernel_rfl
theorem start_run (w : World) (os : OsState) : (topRun treeTable PG w 11 (some (.ref 6)) 4928 ⟨boot_heap w.params, #[], boot_drawn, boot_toks, os⟩ (topStub PG)).map (fun s =>
        (staticsOk (importedModules PG.main.body) (boot_heap w.params) s.heap && namesBound PG s.heap && gensDone s && laidKept (boot_heap w.params) s.heap,
         openSeen vw [] (importedModules PG.main.body) XtF true s, asL.map s.heap.get?)) = some (true, openGood vw [], (hd.heap_1 w.params).map fun p => some p.2) := by
  rw [PySem.W.Fast.te5923862056798008813, PySem.W.Fast.te4187177175401517315, PySem.W.Fast.te14082659384304107361, PySem.W.Fast.te14364793385576792824]
  kernel_rfl
theorem left : LeftO PG vw [] XtF (fun s => asL.map s.heap.get?) (fun w => (hd.heap_1 w.params).map fun p => some p.2) 4928 := left_run start_open start_size start_run
end
section
inductive Ex2.{u1,u2} {t1 : Sort u1} {t2 : Sort u2} (p : t1 → t2 → Prop) : Prop
  | mk (a1 : t1) (a2 : t2) (h : p a1 a2) : Ex2 p
inductive Ex3.{u1,u2,u3} {t1 : Sort u1} {t2 : Sort u2} {t3 : Sort u3} (p : t1 → t2 → t3 → Prop) : Prop
  | mk (a1 : t1) (a2 : t2) (a3 : t3) (h : p a1 a2 a3) : Ex3 p
inductive Ex4.{u1,u2,u3,u4} {t1 : Sort u1} {t2 : Sort u2} {t3 : Sort u3} {t4 : Sort u4} (p : t1 → t2 → t3 → t4 → Prop) : Prop
  | mk (a1 : t1) (a2 : t2) (a3 : t3) (a4 : t4) (h : p a1 a2 a3 a4) : Ex4 p
inductive Ex5.{u1,u2,u3,u4,u5} {t1 : Sort u1} {t2 : Sort u2} {t3 : Sort u3} {t4 : Sort u4} {t5 : Sort u5} (p : t1 → t2 → t3 → t4 → t5 → Prop) : Prop
  | mk (a1 : t1) (a2 : t2) (a3 : t3) (a4 : t4) (a5 : t5) (h : p a1 a2 a3 a4 a5) : Ex5 p
inductive Ex6.{u1,u2,u3,u4,u5,u6} {t1 : Sort u1} {t2 : Sort u2} {t3 : Sort u3} {t4 : Sort u4} {t5 : Sort u5} {t6 : Sort u6} (p : t1 → t2 → t3 → t4 → t5 → t6 → Prop) : Prop
  | mk (a1 : t1) (a2 : t2) (a3 : t3) (a4 : t4) (a5 : t5) (a6 : t6) (h : p a1 a2 a3 a4 a5 a6) : Ex6 p
inductive Ex7.{u1,u2,u3,u4,u5,u6,u7} {t1 : Sort u1} {t2 : Sort u2} {t3 : Sort u3} {t4 : Sort u4} {t5 : Sort u5} {t6 : Sort u6} {t7 : Sort u7} (p : t1 → t2 → t3 → t4 → t5 → t6 → t7 → Prop) : Prop
  | mk (a1 : t1) (a2 : t2) (a3 : t3) (a4 : t4) (a5 : t5) (a6 : t6) (a7 : t7) (h : p a1 a2 a3 a4 a5 a6 a7) : Ex7 p
inductive Ex8.{u1,u2,u3,u4,u5,u6,u7,u8} {t1 : Sort u1} {t2 : Sort u2} {t3 : Sort u3} {t4 : Sort u4} {t5 : Sort u5} {t6 : Sort u6} {t7 : Sort u7} {t8 : Sort u8} (p : t1 → t2 → t3 → t4 → t5 → t6 → t7 → t8 → Prop) : Prop
  | mk (a1 : t1) (a2 : t2) (a3 : t3) (a4 : t4) (a5 : t5) (a6 : t6) (a7 : t7) (a8 : t8) (h : p a1 a2 a3 a4 a5 a6 a7 a8) : Ex8 p
inductive Ex9.{u1,u2,u3,u4,u5,u6,u7,u8,u9} {t1 : Sort u1} {t2 : Sort u2} {t3 : Sort u3} {t4 : Sort u4} {t5 : Sort u5} {t6 : Sort u6} {t7 : Sort u7} {t8 : Sort u8} {t9 : Sort u9} (p : t1 → t2 → t3 → t4 → t5 → t6 → t7 → t8 → t9 → Prop) : Prop
  | mk (a1 : t1) (a2 : t2) (a3 : t3) (a4 : t4) (a5 : t5) (a6 : t6) (a7 : t7) (a8 : t8) (a9 : t9) (h : p a1 a2 a3 a4 a5 a6 a7 a8 a9) : Ex9 p
inductive Ex10.{u1,u2,u3,u4,u5,u6,u7,u8,u9,u10} {t1 : Sort u1} {t2 : Sort u2} {t3 : Sort u3} {t4 : Sort u4} {t5 : Sort u5} {t6 : Sort u6} {t7 : Sort u7} {t8 : Sort u8} {t9 : Sort u9} {t10 : Sort u10} (p : t1 → t2 → t3 → t4 → t5 → t6 → t7 → t8 → t9 → t10 → Prop) : Prop
  | mk (a1 : t1) (a2 : t2) (a3 : t3) (a4 : t4) (a5 : t5) (a6 : t6) (a7 : t7) (a8 : t8) (a9 : t9) (a10 : t10) (h : p a1 a2 a3 a4 a5 a6 a7 a8 a9 a10) : Ex10 p
inductive Ex11.{u1,u2,u3,u4,u5,u6,u7,u8,u9,u10,u11} {t1 : Sort u1} {t2 : Sort u2} {t3 : Sort u3} {t4 : Sort u4} {t5 : Sort u5} {t6 : Sort u6} {t7 : Sort u7} {t8 : Sort u8} {t9 : Sort u9} {t10 : Sort u10} {t11 : Sort u11} (p : t1 → t2 → t3 → t4 → t5 → t6 → t7 → t8 → t9 → t10 → t11 → Prop) : Prop
  | mk (a1 : t1) (a2 : t2) (a3 : t3) (a4 : t4) (a5 : t5) (a6 : t6) (a7 : t7) (a8 : t8) (a9 : t9) (a10 : t10) (a11 : t11) (h : p a1 a2 a3 a4 a5 a6 a7 a8 a9 a10 a11) : Ex11 p
inductive Al2 (p1 p2 : Prop) : Prop
  | mk (h1 : p1) (h2 : p2) : Al2 p1 p2
inductive Al3 (p1 p2 p3 : Prop) : Prop
  | mk (h1 : p1) (h2 : p2) (h3 : p3) : Al3 p1 p2 p3
inductive Al4 (p1 p2 p3 p4 : Prop) : Prop
  | mk (h1 : p1) (h2 : p2) (h3 : p3) (h4 : p4) : Al4 p1 p2 p3 p4
inductive Al5 (p1 p2 p3 p4 p5 : Prop) : Prop
  | mk (h1 : p1) (h2 : p2) (h3 : p3) (h4 : p4) (h5 : p5) : Al5 p1 p2 p3 p4 p5
inductive Al6 (p1 p2 p3 p4 p5 p6 : Prop) : Prop
  | mk (h1 : p1) (h2 : p2) (h3 : p3) (h4 : p4) (h5 : p5) (h6 : p6) : Al6 p1 p2 p3 p4 p5 p6
inductive Al7 (p1 p2 p3 p4 p5 p6 p7 : Prop) : Prop
  | mk (h1 : p1) (h2 : p2) (h3 : p3) (h4 : p4) (h5 : p5) (h6 : p6) (h7 : p7) : Al7 p1 p2 p3 p4 p5 p6 p7
inductive Al8 (p1 p2 p3 p4 p5 p6 p7 p8 : Prop) : Prop
  | mk (h1 : p1) (h2 : p2) (h3 : p3) (h4 : p4) (h5 : p5) (h6 : p6) (h7 : p7) (h8 : p8) : Al8 p1 p2 p3 p4 p5 p6 p7 p8
inductive Al9 (p1 p2 p3 p4 p5 p6 p7 p8 p9 : Prop) : Prop
  | mk (h1 : p1) (h2 : p2) (h3 : p3) (h4 : p4) (h5 : p5) (h6 : p6) (h7 : p7) (h8 : p8) (h9 : p9) : Al9 p1 p2 p3 p4 p5 p6 p7 p8 p9
inductive Al10 (p1 p2 p3 p4 p5 p6 p7 p8 p9 p10 : Prop) : Prop
  | mk (h1 : p1) (h2 : p2) (h3 : p3) (h4 : p4) (h5 : p5) (h6 : p6) (h7 : p7) (h8 : p8) (h9 : p9) (h10 : p10) : Al10 p1 p2 p3 p4 p5 p6 p7 p8 p9 p10
inductive Al11 (p1 p2 p3 p4 p5 p6 p7 p8 p9 p10 p11 : Prop) : Prop
  | mk (h1 : p1) (h2 : p2) (h3 : p3) (h4 : p4) (h5 : p5) (h6 : p6) (h7 : p7) (h8 : p8) (h9 : p9) (h10 : p10) (h11 : p11) : Al11 p1 p2 p3 p4 p5 p6 p7 p8 p9 p10 p11
end
section
theorem nsub_le {n p q m : Nat} (h : n - p ≤ m + 1) (h1 : p < q) : n - q ≤ m := Nat.le_trans (Nat.sub_le_sub_left h1 n) (Nat.pred_le_pred h)
theorem nsub_le0 {n p q m : Nat} (h : n - p ≤ m) (h1 : p ≤ q) : n - q ≤ m := Nat.le_trans (Nat.sub_le_sub_left h1 n) h
theorem nsub_lt {n p q k : Nat} (h : k = n - p) (h2 : p < n) (h1 : p < q) : n - q < k := h ▸ Nat.sub_lt_sub_left h2 h1
theorem nsub_eq {n i k : Nat} (h : n - i = k + 1) : n - (i + 1) = k := congrArg Nat.pred h
theorem nsub_pos {n i k : Nat} (h : n - i = k + 1) : i < n := Nat.lt_of_sub_pos (h ▸ Nat.succ_pos k)
theorem nsub_up {n i : Nat} (h : i < n) : n + 1 - (i + 1) < n + 1 - i := Nat.sub_lt_sub_left (Nat.lt_succ_of_lt h) (Nat.lt_succ_self i)
theorem nsub_up' {n i k : Nat} (e : k = n + 1 - i) (h : i < n) : n + 1 - (i + 1) < k := e ▸ nsub_up h
theorem nmin {n l : Nat} : l - n = l - min n l := by rw [Nat.min_comm]; exact Nat.sub_eq_sub_min l n
theorem min_cut {n l : Nat} : min (min (n + 2) l - min n l) (l - min n l) = min (n + 2) l - min n l := Nat.min_eq_left (Nat.sub_le_sub_right (Nat.min_le_right _ _) _)
theorem cut_le {n l x k : Nat} (h : l = x) (hx : x ≤ k) : min (n + 2) l - min n l ≤ k := Nat.le_trans (Nat.sub_le _ _) (Nat.le_trans (Nat.min_le_right _ _) (h ▸ hx))
theorem cut_sum {n l x k s : Nat} (hs : k ≤ min (n + 2) l - min n l) (e3 : k = s) (h : l = x) : s + (x - (n + 2)) ≤ x - n := by
  subst e3 h
  rw [nmin (n := n), nmin (n := n + 2)]
  refine Nat.le_trans (Nat.add_le_add_right hs _) (Nat.le_of_eq ?_)
  rw [Nat.add_comm]
  exact Nat.sub_add_sub_cancel (Nat.min_le_right _ _) (Nat.le_min.mpr ⟨Nat.le_trans (Nat.min_le_left _ _) (Nat.le_add_right _ _), Nat.min_le_right _ _⟩)
theorem tn_lt {r : Int} {k : Nat} (h0 : 0 ≤ r) (h : r < (k : Int)) : r.toNat < k := (Int.toNat_lt h0).mpr h
theorem tn_len {α : Type} {l : List α} {r : Int} {k : Nat} (e : l.length = k) (h0 : 0 ≤ r) (h : r < (k : Int)) : r.toNat < l.length := e ▸ tn_lt h0 h
theorem tn_eq {r : Int} (h : 0 ≤ r) : r = (r.toNat : Int) := (Int.toNat_of_nonneg h).symm
section
variable {α : Type} {l wt : List α} {a : Int} {an k : Nat} {x : α}
theorem td : (l.take k).length + (l.drop k).length = l.length := by rw [← List.length_append, List.take_append_drop]
theorem cutN : (l.take k).length + (l.drop (k + 1)).length ≤ l.length := by
  refine Nat.le_trans (Nat.add_le_add_left ?_ _) (Nat.le_of_eq (td (k := k)))
  rw [List.length_drop, List.length_drop]
  exact Nat.sub_le_sub_left (Nat.le_succ k) _
theorem cutA (h : 0 ≤ a) : (l.take a.toNat).length + (l.drop (a + 1).toNat).length ≤ l.length := by
  obtain ⟨k, rfl⟩ := Int.eq_ofNat_of_zero_le h
  exact cutN (k := k)
theorem cutT : (l.take k).length + [x].length ≤ l.length + 1 := Nat.succ_le_succ (List.length_take_le' k l)
theorem cutB : (l.take k ++ [x]).length + (l.drop k).length ≤ l.length + 1 := by
  rw [List.length_append, Nat.add_right_comm, td]; exact Nat.le_refl _
theorem cutC (h : 0 ≤ a) : (l.take a.toNat ++ [x]).length + (l.drop (a + 1).toNat).length ≤ l.length + 1 := by
  rw [List.length_append, Nat.add_right_comm]; exact Nat.succ_le_succ (cutA h)
theorem cutE (h : wt.length + (l.drop (an + 2)).length ≤ (l.drop an).length) : (l.take (an : Int).toNat).length + wt.length ≤ l.length :=
  Nat.le_trans (Nat.add_le_add_left (Nat.le_trans (Nat.le_add_right _ _) h) _) (Nat.le_of_eq (td (k := an)))
theorem cutD (h : wt.length + (l.drop (an + 2)).length ≤ (l.drop an).length) : (l.take (an : Int).toNat ++ wt).length + (l.drop ((an : Int) + 2).toNat).length ≤ l.length := by
  rw [List.length_append, Nat.add_assoc]
  exact Nat.le_trans (Nat.add_le_add_left h _) (Nat.le_of_eq (td (k := an)))
end
theorem tn3 {r : Int} (hr : r < 3) : r.toNat ≤ 2 := Int.toNat_le.mpr (Int.le_of_lt_add_one hr)
theorem i_le1 {r : Int} {i : Nat} (hi : i < r.toNat) (hr : r < 3) : i ≤ 1 := Nat.le_of_lt_succ (Nat.lt_of_lt_of_le hi (tn3 hr))
theorem bent_n {n n' i : Nat} {r : Int} (h : n + 7 ≤ 900000) (h' : n' ≤ n + 1 + 3 * i) (hi : i < r.toNat) (hr : r < 3) : n' ≤ 1000000 ∧ n' + 1 ≤ 1000000 ∧ n' + 1 + 1 ≤ 1000000 := by
  have h3 : 3 * i ≤ 3 := Nat.mul_le_mul_left 3 (i_le1 hi hr)
  have : n' + 1 + 1 ≤ 1000000 := Nat.le_trans (Nat.add_le_add_right (Nat.le_trans h' (Nat.add_le_add_left h3 _)) 2) (Nat.le_trans (Nat.le_succ (n + 6)) (Nat.le_trans h (by decide)))
  exact ⟨Nat.le_trans (Nat.le_add_right n' 2) this, Nat.le_trans (Nat.le_succ _) this, this⟩
theorem bent_w {x i : Nat} {r : Int} (h' : x ≤ 26 + i) (hi : i < r.toNat) (hr : r < 3) : x ≤ 1000 ∧ x + 1 ≤ 1000 := by
  have h : x ≤ 27 := Nat.le_trans h' (Nat.add_le_add_left (i_le1 hi hr) 26)
  exact ⟨Nat.le_trans h (by decide), Nat.le_trans (Nat.succ_le_succ h) (by decide)⟩
theorem bent_3 {n n' i : Nat} (h : n' ≤ n + 1 + 3 * i) : n' + 1 + 1 + 1 ≤ n + 1 + 3 * (i + 1) := Nat.add_le_add_right h 3
theorem bent_1 {a b i : Nat} (h' : b ≤ a + 1) (h : a ≤ 26 + i) : b ≤ 26 + (i + 1) := Nat.le_trans h' (Nat.succ_le_succ h)
theorem bent_e {n n' : Nat} {r : Int} (h : n' ≤ n + 1 + 3 * r.toNat) (hr : r < 3) : n' ≤ n + 7 := Nat.le_trans h (Nat.add_le_add_left (Nat.mul_le_mul_left 3 (tn3 hr)) _)
end
section
/-- the words of the law's making, and the end -/
inductive Wd where
  | lp | rp | cm | cl | ar | eq | ne | ifw | same | vx | vy | a | f | lb | told | b | r | one | rule | turn | join | under | fin
  deriving DecidableEq
noncomputable def Wd.str : Wd → Str
  | .lp => "(" | .rp => ")" | .cm => "," | .cl => ":" | .ar => "->" | .eq => "=" | .ne => "!=" | .ifw => "if" | .same => "same" | .vx => "?x" | .vy => "?y" | .a => "a" | .f => "f"
  | .lb => "[" | .told => "told" | .b => "b" | .r => "r" | .one => "one" | .rule => "rule" | .turn => "turn" | .join => "join" | .under => "under" | .fin => ""
noncomputable def Wd.all : List Wd := [.lp, .rp, .cm, .cl, .ar, .eq, .ne, .ifw, .same, .vx, .vy, .a, .f, .lb, .told, .b, .r, .one, .rule, .turn, .join, .under, .fin]
theorem Wd.mem (x : Wd) : x ∈ Wd.all := by cases x <;> decide
theorem Wd.beq (x y : Wd) : (x.str == y.str) = decide (x = y) :=
  (by decide +kernel : ∀ x ∈ Wd.all, ∀ y ∈ Wd.all, (x.str == y.str) = decide (x = y)) x x.mem y y.mem
theorem Wd.bne (x y : Wd) : (x.str != y.str) = decide (x ≠ y) := by
  show (!(x.str == y.str)) = _
  rw [Wd.beq]; by_cases h : x = y <;> simp [h]
theorem Wd.len (x : Wd) : x.str.length ≤ 5 := (by decide +kernel : ∀ x ∈ Wd.all, x.str.length ≤ 5) x x.mem
theorem Wd.inj {x y : Wd} (h : x.str = y.str) : x = y := by
  have := Wd.beq x y
  rw [h] at this
  simpa using this.symm
/-- a word that stands for itself (no bracket, no comma, no colon) -/
noncomputable def Wd.op : Wd → Bool
  | .lp | .rp | .cm | .cl | .lb | .fin => false
  | _ => true
noncomputable def Wd.var : Wd → Bool
  | .vx | .vy => true
  | _ => false
end
section
noncomputable abbrev KK (w : World) : Frag := Mine.hd.heap_1 w.params
noncomputable abbrev Led := List (Addr × Obj)
structure Bs (w : World) (mg mb : Str → Option Value) (h₀ : Heap) : Prop where
  K : (KK w).In h₀
  T : TopRead vw (looseW vw []) mg mb h₀
-- what the whole run leaves alone: the generators; the operating system's side
class OSC where
  gens : Array GenState
  os : OsState
/-- the state: the heap and the tokens over a fixed rest -/
noncomputable abbrev S [OSC] (z : Shared) (h : Heap) (tk : Nat) : Shared := ⟨h, OSC.gens, z.drawn, tk, OSC.os⟩
variable [OSC]
/-- the ghost ledger: mu (may change), nw (stays) over the base h₀ -/
structure Gh (h₀ h : Heap) (mu nw : Led) : Prop where
  stays : ∀ b o, h₀.get? b = some o → h.get? b = some o
  le : h₀.objs.size ≤ h.objs.size
  has : ∀ p ∈ mu ++ nw, h.get? p.1 = some p.2 ∧ h₀.get? p.1 = none
  nd : (mu.map (·.1)).Nodup
  apart : ∀ p ∈ mu, ∀ q ∈ nw, p.1 ≠ q.1
/-- what a frame's names hold -/
noncomputable def LV : List Str → List (Option Value) → (Str → Option Value) → Prop
  | [], [], _ => True
  | x :: ns, v :: vs, m => m x = v ∧ LV ns vs m
  | _, _, _ => False
inductive At : List Str → List (Option Value) → Str → Value → Prop
  | head {x ns v vs} : At (x :: ns) (some v :: vs) x v
  | tail {x y ns v u vs} : At ns vs x v → At (y :: ns) (u :: vs) x v
inductive SetAt : List Str → List (Option Value) → Str → Value → List (Option Value) → Prop
  | head {x ns v u vs} : SetAt (x :: ns) (u :: vs) x v (some v :: vs)
  | tail {x y ns v u vs vs'} : SetAt ns vs x v vs' → SetAt (y :: ns) (u :: vs) x v (u :: vs')
inductive Has : List Str → Str → Prop
  | head {x ns} : Has (x :: ns) x
  | tail {x y ns} : Has ns x → Has (y :: ns) x
theorem At.mem {ns vs x v} (a : At ns vs x v) : x ∈ ns := by
  induction a with
  | head => exact .head _
  | tail _ ih => exact .tail _ ih
theorem SetAt.mem {ns vs x v vs'} (a : SetAt ns vs x v vs') : x ∈ ns := by
  induction a with
  | head => exact .head _
  | tail _ ih => exact .tail _ ih
theorem Has.mem {ns x} (a : Has ns x) : x ∈ ns := by
  induction a with
  | head => exact .head _
  | tail _ ih => exact .tail _ ih
theorem At.get {ns vs x v} {m : Str → Option Value} (a : At ns vs x v) (h : LV ns vs m) : m x = some v := by
  induction a with
  | head => exact h.1
  | tail _ ih => exact ih h.2
theorem LV.other {m : Str → Option Value} {x : Str} {v : Value} : ∀ {ns : List Str} {vs : List (Option Value)}, x ∉ ns → LV ns vs m → LV ns vs (fun y => if y = x then some v else m y)
  | [], [], _, _ => trivial
  | y :: ns, u :: vs, hx, h => ⟨(if_neg (c := y = x) (fun e => hx (by rw [e]; exact .head _))).trans h.1, LV.other (ns := ns) (vs := vs) (fun q => hx (.tail _ q)) h.2⟩
  | [], _ :: _, _, h => h.elim
  | _ :: _, [], _, h => h.elim
theorem SetAt.set {ns vs x v vs'} {m : Str → Option Value} (a : SetAt ns vs x v vs') (nd : ns.Nodup) (h : LV ns vs m) : LV ns vs' (fun y => if y = x then some v else m y) := by
  induction a with
  | @head x ns v u vs => exact ⟨if_pos rfl, LV.other (List.nodup_cons.mp nd).1 h.2⟩
  | @tail x y ns v u vs vs' a ih =>
    exact ⟨(if_neg (c := y = x) (fun e => (List.nodup_cons.mp nd).1 (by rw [e]; exact a.mem))).trans h.1, ih (List.nodup_cons.mp nd).2 h.2⟩
theorem LV.of_map {m : Str → Option Value} : ∀ (ns : List Str), LV ns (ns.map m) m
  | [] => trivial
  | _ :: ns => ⟨rfl, LV.of_map ns⟩
/-- a def's names, once for all -/
structure Sc (scope : Scope) (ns gs : List Str) : Prop where
  kind : scope.kind = .function
  loc : ∀ x ∈ ns, scope.names.lookup x = some .local
  glo : ∀ x ∈ gs, scope.names.lookup x = some .globalImplicit
  nd : ns.Nodup
  db : ∀ x ∈ ns ++ gs, (x == ("__debug__" : Str)) = false
structure GS (w : World) (mg mb : Str → Option Value) (h₀ : Heap) (env : Env) (ns gs : List Str) (vs : List (Option Value)) (mu nw : Led) (h : Heap) : Prop where
  bs : Bs w mg mb h₀
  sc : Sc env.scope ns gs
  eg : env.globals = mainGlobals
  eb : env.builtins = builtinsNs
  ns_ : ∃ m, h.Ns env.locals m ∧ LV ns vs m
  above : h₀.objs.size ≤ env.locals
  G : Gh h₀ h mu nw
  ne : ∀ p ∈ mu ++ nw, p.1 ≠ env.locals
section
variable {w : World} {mg mb : Str → Option Value} {h₀ h h' : Heap} {env : Env} {ns gs : List Str} {vs vs' : List (Option Value)} {mu nw mu' nw' : Led}
theorem GS.fr (G : GS w mg mb h₀ env ns gs vs mu nw h) : ∃ m, Fr h₀ env.locals h m ∧ LV ns vs m:= by
  obtain ⟨m, hn, hl⟩ := G.ns_
  exact ⟨m, ⟨hn, G.G.stays, G.above⟩, hl⟩
theorem GS.news (G : GS w mg mb h₀ env ns gs vs mu nw h) : News h₀ env.locals h (mu ++ nw) := fun p hp => ⟨(G.G.has p hp).1, G.ne p hp, (G.G.has p hp).2⟩
/-- back from a step of the library's that keeps the ledger list -/
theorem GS.back {m : Str → Option Value} (G : GS w mg mb h₀ env ns gs vs mu nw h) (F : Fr h₀ env.locals h' m) (hl : LV ns vs' m) (N : News h₀ env.locals h' (mu' ++ nw')) (nd : (mu'.map (·.1)).Nodup) (ap : ∀ p ∈ mu', ∀ q ∈ nw', p.1 ≠ q.1) :
    GS w mg mb h₀ env ns gs vs' mu' nw' h' :=
  ⟨G.bs, G.sc, G.eg, G.eb, ⟨m, F.ns, hl⟩, F.above, ⟨F.keep, Nat.le_of_lt (Nat.lt_of_le_of_lt F.above F.ns.lt), fun p hp => ⟨(N p hp).1, (N p hp).2.2⟩, nd, ap⟩, fun p hp => (N p hp).2.1⟩
theorem GS.back1 {m : Str → Option Value} {d : Addr} {o o' : Obj} (G : GS w mg mb h₀ env ns gs vs ((d, o) :: mu) nw h) (F : Fr h₀ env.locals h' m) (hl : LV ns vs m) (N : News h₀ env.locals h' (((d, o') :: mu) ++ nw)) :
    GS w mg mb h₀ env ns gs vs ((d, o') :: mu) nw h' := by
  refine G.back (mu' := (d, o') :: mu) F hl N G.G.nd fun a ha => ?_
  rcases List.mem_cons.mp ha with rfl | ha
  · exact fun q hq => G.G.apart (d, o) (.head _) q hq
  · exact G.G.apart a (.tail _ ha)
theorem GS.upd {d : Addr} {o o' : Obj} (G : GS w mg mb h₀ env ns gs vs ((d, o) :: mu) nw h) : Upd d o o' (((d, o) :: mu) ++ nw) (((d, o') :: mu) ++ nw) := by
  refine .head fun q hq e => ?_
  rcases List.mem_append.mp hq with hq | hq
  · exact (List.nodup_cons.mp G.G.nd).1 (List.mem_map.mpr ⟨q, hq, e⟩)
  · exact G.G.apart _ (.head _) q hq e.symm
theorem GS.K (G : GS w mg mb h₀ env ns gs vs mu nw h) : (KK w).In h := G.bs.K.keeps G.G.stays
theorem Gh.swap {p q : Addr × Obj} (G : Gh h₀ h (p :: q :: mu) nw) : Gh h₀ h (q :: p :: mu) nw := by
  refine ⟨G.stays, G.le, fun r hr => G.has r ?_, ?_, fun r hr => G.apart r ?_⟩
  · simp only [List.cons_append, List.mem_cons] at hr ⊢
    rcases hr with h | h | h
    · exact .inr (.inl h)
    · exact .inl h
    · exact .inr (.inr h)
  · have := G.nd
    simp only [List.map_cons, List.nodup_cons, List.mem_cons, not_or] at this ⊢
    exact ⟨⟨fun e => this.1.1 e.symm, this.2.1⟩, this.1.2, this.2.2⟩
  · simp only [List.mem_cons] at hr ⊢
    rcases hr with h | h | h
    · exact .inr (.inl h)
    · exact .inl h
    · exact .inr (.inr h)
/-- calling on: the caller's own frame goes onto the ledger -/
theorem GS.call (G : GS w mg mb h₀ env ns gs vs mu nw h) : ∃ oL, Gh h₀ h ((env.locals, oL) :: mu) nw ∧ (∀ u, oL.data ≠ .fields u) ∧ ∀ h' mu' nw', Gh h₀ h' ((env.locals, oL) :: mu') nw' → GS w mg mb h₀ env ns gs vs mu' nw' h':= by
  obtain ⟨m, ⟨o, es, ep, ho, hd, hk, hf⟩, hl⟩ := G.ns_
  refine ⟨o, ⟨G.G.stays, G.G.le, fun p hp => ?_, ?_, fun p hp q hq => ?_⟩, (fun u e => by rw [hd] at e; cases e), fun h' mu' nw' G' => ?_⟩
  · rcases List.mem_cons.mp hp with rfl | hp
    · refine ⟨ho, ?_⟩
      cases e : h₀.get? env.locals with
      | none => rfl
      | some o' => exact absurd (Nat.lt_of_lt_of_le (Heap.lt_size e) G.above) (Nat.lt_irrefl _)
    · exact G.G.has p hp
  · refine List.nodup_cons.mpr ⟨fun hm => ?_, G.G.nd⟩
    obtain ⟨p, hp, e⟩ := List.mem_map.mp hm
    exact G.ne p (List.mem_append_left _ hp) e
  · rcases List.mem_cons.mp hp with rfl | hp
    · exact fun e => G.ne q (List.mem_append_right _ hq) e.symm
    · exact G.G.apart p hp q hq
  · have nd := List.nodup_cons.mp G'.nd
    refine ⟨G.bs, G.sc, G.eg, G.eb, ⟨m, ⟨o, es, ep, (G'.has _ (.head _)).1, hd, hk, hf⟩, hl⟩, G.above, ⟨G'.stays, G'.le, fun p hp => G'.has p (.tail _ hp), nd.2, fun p hp => G'.apart p (.tail _ hp)⟩, fun p hp => ?_⟩
    rcases List.mem_append.mp hp with hp | hp
    · exact fun e => nd.1 (List.mem_map.mpr ⟨p, hp, e⟩)
    · exact fun e => G'.apart _ (.head _) p hp e.symm
theorem GS.call1 {p : Addr × Obj} (G : GS w mg mb h₀ env ns gs vs (p :: mu) nw h) : ∃ oL, Gh h₀ h (p :: (env.locals, oL) :: mu) nw ∧ (∀ u, oL.data ≠ .fields u) ∧ ∀ h' p' mu' nw', Gh h₀ h' (p' :: (env.locals, oL) :: mu') nw' → GS w mg mb h₀ env ns gs vs (p' :: mu') nw' h':= by
  obtain ⟨oL, G1, hf, back⟩ := G.call
  exact ⟨oL, G1.swap, hf, fun h' p' mu' nw' G' => back _ _ _ G'.swap⟩
end
/-- entering a def -/
theorem enter {w : World} {mg mb : Str → Option Value} {h₀ h : Heap} {z : Shared} {tk : Nat} {A : Around} {E Q : Value → Shared → Prop} {mu nw : Led} {f : Addr} {args : List Value} {binds : List (Str × Value)}
    {qual nm : Str} {params : Arguments} {body : List Stmt} {scope : Scope} {dV kV doc pm cdv ct oc : Value} {an od : Option Addr} {osl : Array (Option Value)} (ns gs : List Str) (vs : List (Option Value))
    (B : Bs w mg mb h₀) (G : Gh h₀ h mu nw) (hroom : A.depth < recursionLimit)
    (ho : (KK w).lookup f = some ⟨oc, od, .func (fnOf nm qual params body scope dV kV doc pm an cdv ct), osl⟩) (hcd : codeIn (KK w) cdv qual = true)
    (hbind : bindArgs (fnOf nm qual params body scope dV kV doc pm an cdv ct) ⟨args, []⟩ = pure binds)
    (hloc : (binds.all fun x => decide (scope.names.lookup x.1 = some .local)) = true)
    (hsc : Sc scope ns gs) (hvs : ns.map (fun y => binds.reverse.lookup y) = vs)
    (hh : ∀ L h₁ tk', let ev := envX qual scope L f cdv []; let Av := A.deeper ev
      let Qv : Flow → Shared → Prop := fun fl s' => Q (match fl with | .ret v => v | _ => .none) s'
      let Ev : Value → Shared → Prop := fun e s' => wpAny (model PG w) Av (leaving ev e) (fun _ s'' => E e s'') (fun e' s'' => E e' s'') s'
      GS w mg mb h₀ ev ns gs vs mu nw h₁ → wpAny (model PG w) Av (execs body ev) Qv Ev (S z h₁ tk'))
    (hco : scope.isCoroutine = false) (hgen : scope.isGenerator = false) (hcell : ∀ x ∈ scope.names, x.2 ≠ .cell) :
    wpAny (model PG w) A (call (.ref f) args) Q E (S z h tk) := by
  have X : (KK w).In h := B.K.keeps G.stays
  refine wpAny_call ?_
  refine codeAny_call_def (fd := fnOf nm qual params body scope dV kV doc pm an cdv ct) (body := body) (binds := binds) hroom (X _ _ ho) rfl (B.T.nolimit.keeps G.stays) (codeRec_of X hcd) rfl (BindsTo.of_eq hbind) hcell (locs hloc) (fun h₁ hns hk₁ => ?_) hco hgen hsc.kind
  subst hvs
  have hsz : ∀ b o, h.get? b = some o → b ≠ h.objs.size := fun b o e => Nat.ne_of_lt (Heap.lt_size e)
  exact hh h.objs.size h₁ _ ⟨B, hsc, rfl, rfl, ⟨_, hns, LV.of_map ns⟩, G.le, ⟨fun b o e => hk₁ _ _ (G.stays b o e), Nat.le_of_lt (Nat.lt_of_le_of_lt G.le hns.lt), fun p hp => ⟨hk₁ _ _ (G.has p hp).1, (G.has p hp).2⟩, G.nd, G.apart⟩, fun p hp => hsz _ _ (G.has p hp).1⟩
section
variable {w : World} {mg mb : Str → Option Value} {h₀ h : Heap} {env : Env} {ns gs : List Str} {vs vs' : List (Option Value)} {mu nw : Led} {z : Shared} {tk : Nat} {A : Around} {E : Value → Shared → Prop} {x : Str} {v : Value} {pos : Pos} {M : Model}
theorem r_loc {Q : Value → Shared → Prop} (G : GS w mg mb h₀ env ns gs vs mu nw h) (hx : At ns vs x v) (hq : Q v (S z h tk)) : wpAny M A (eval (.Name x pos) env) Q E (S z h tk) := by
  obtain ⟨m, hn, hl⟩ := G.ns_
  exact wpAny_Name (wpAny_loadName_local G.sc.kind (G.sc.loc x hx.mem) hn (hx.get hl) hq) (G.sc.db x (List.mem_append_left _ hx.mem))
theorem r_glo {Q : Value → Shared → Prop} (G : GS w mg mb h₀ env ns gs vs mu nw h) (hx : Has gs x) (e : nsIn (KK w) mainGlobals x = some (some v)) (hq : Q v (S z h tk)) : wpAny M A (eval (.Name x pos) env) Q E (S z h tk) :=
  Name_function_global G.sc.kind (G.sc.glo x hx.mem) (loadGlobal_global (by rw [G.eg]; exact G.bs.T.g.keeps G.G.stays) (mg_of G.bs.K G.bs.T.g e) hq) (G.sc.db x (List.mem_append_right _ hx.mem))
theorem r_blt {Q : Value → Shared → Prop} (G : GS w mg mb h₀ env ns gs vs mu nw h) (hx : Has gs x) (e : nsIn (KK w) mainGlobals x = some none) (hv : bootBuiltins x = some v) (hn : x ≠ "__name__") (hq : Q v (S z h tk)) : wpAny M A (eval (.Name x pos) env) Q E (S z h tk) :=
  Name_function_global G.sc.kind (G.sc.glo x hx.mem) (loadGlobal_builtin (by rw [G.eg]; exact G.bs.T.g.keeps G.G.stays) (mg_none_of G.bs.K G.bs.T.g e) (by rw [G.eb]; exact G.bs.T.b.keeps G.G.stays) ((G.bs.T.builtins x hn).trans hv) hq) (G.sc.db x (List.mem_append_right _ hx.mem))
theorem r_st {Q : Unit → Shared → Prop} (G : GS w mg mb h₀ env ns gs vs mu nw h) (hx : SetAt ns vs x v vs') (hq : ∀ h' tk', GS w mg mb h₀ env ns gs vs' mu nw h' → Q () (S z h' tk')) : wpAny M A (storeName env x v) Q E (S z h tk) := by
  obtain ⟨m, hn, hl⟩ := G.ns_
  refine wpAny_storeName_local (G.sc.loc x hx.mem) hn (fun h' hn' hs => hq h' _ ⟨G.bs, G.sc, G.eg, G.eb, ⟨_, hn', hx.set G.sc.nd hl⟩, G.above, ?_, G.ne⟩) ?_
  · refine ⟨fun b o e => (hs.2 b (Nat.ne_of_lt (Nat.lt_of_lt_of_le (Heap.lt_size e) G.above))).trans (G.G.stays b o e), Nat.le_of_lt (Nat.lt_of_le_of_lt G.above hn'.lt), fun p hp => ⟨(hs.2 p.1 (G.ne p hp)).trans (G.G.has p hp).1, (G.G.has p hp).2⟩, G.G.nd, G.G.apart⟩
  · have := G.sc.kind
    rw [this]; rfl
theorem r_int {Q : Value → Shared → Prop} {i : Int} {k : Nat} (hq : ∀ t, Q (.int i t) (S z h (tk + 1))) : wpAny M A (eval (.Constant (.int i) k pos) env) Q E (S z h tk) := wpAny_Constant_int (hq _)
theorem r_intN {Q : Value → Shared → Prop} {i : Int} {k : Nat} (hq : Q (.int i tk) (S z h (tk + 1))) : wpAny M A (eval (.Constant (.int i) k pos) env) Q E (S z h tk) := wpAny_Constant_int hq
theorem r_strN {Q : Value → Shared → Prop} {i : Str} {k : Nat} (hq : Q (.str i tk) (S z h (tk + 1))) : wpAny M A (eval (.Constant (.str i) k pos) env) Q E (S z h tk) := wpAny_Constant_str hq
theorem r_str {Q : Value → Shared → Prop} {i : Str} {k : Nat} (hq : ∀ t, Q (.str i t) (S z h (tk + 1))) : wpAny M A (eval (.Constant (.str i) k pos) env) Q E (S z h tk) := wpAny_Constant_str (hq _)
end
end
local macro_rules | `(tactic| omega) => `(tactic| first | with_reducible assumption | decide | (with_reducible refine nsub_le (by assumption) ?_; lia) | (with_reducible refine nsub_lt (by assumption) (by assumption) ?_; lia) | lia)
local macro_rules | `(tactic| walk_at "m:asm") => `(tactic| with_reducible assumption)
local macro_rules | `(tactic| walk_at "m:at") => `(tactic| with_reducible (first | exact At.head | (apply At.tail; walk_at "m:at")))
local macro_rules | `(tactic| walk_at "m:has") => `(tactic| with_reducible (first | exact Has.head | (apply Has.tail; walk_at "m:has")))
local macro_rules | `(tactic| walk_at "m:setat") => `(tactic| with_reducible (first | exact SetAt.head | (apply SetAt.tail; walk_at "m:setat")))
local macro_rules | `(tactic| walk_at "m:loc") => `(tactic| refine r_loc (by walk_at "m:asm") (by walk_at "m:at") ?_)
local macro_rules | `(tactic| walk_at "m:st") => `(tactic| refine r_st (by walk_at "m:asm") (by walk_at "m:setat") ?_)
local macro_rules | `(tactic| walk_at "m:strs") => `(tactic| ((repeat (refine args_cons ?_; refine r_strN ?_)); refine args_nil ?_))
section
variable [OSC]
section
variable (w : World)
theorem k258_words : plainGet (KK w) 258 "words" = true ∧ findIn (KK w) (.ref 258) "words" = some none ∧ takerIn (KK w) 258 "words" = some none := ⟨rfl, rfl, rfl⟩
theorem k258_place : plainGet (KK w) 258 "place" = true ∧ findIn (KK w) (.ref 258) "place" = some none ∧ takerIn (KK w) 258 "place" = some none := ⟨rfl, rfl, rfl⟩
theorem k258_deep : plainGet (KK w) 258 "deep" = true ∧ findIn (KK w) (.ref 258) "deep" = some none ∧ takerIn (KK w) 258 "deep" = some none := ⟨rfl, rfl, rfl⟩
theorem k258_most : plainGet (KK w) 258 "most" = true ∧ findIn (KK w) (.ref 258) "most" = some none ∧ takerIn (KK w) 258 "most" = some none := ⟨rfl, rfl, rfl⟩
theorem k258_dict : hasDictIn (KK w) 258 = true := rfl
theorem k258_set : findIn (KK w) (.ref 258) "__setattr__" = some (some (.builtin "object.__setattr__")) := rfl
theorem k258_over : plainOver (KK w) 258 = true := rfl
end
noncomputable def RDl (w : World) (k1 k2 k3 k4 : Tok) (wl : Addr) (p : Int) (tp : Tok) (d : Int) (td : Tok) (mo : Int) (tm : Tok) : List DictEntry :=
  [⟨PyData.keyHash w.params "words", .str "words" k1, .ref wl⟩, ⟨PyData.keyHash w.params "place", .str "place" k2, .int p tp⟩,
   ⟨PyData.keyHash w.params "deep", .str "deep" k3, .int d td⟩, ⟨PyData.keyHash w.params "most", .str "most" k4, .int mo tm⟩]
inductive IsRD (w : World) (o : Obj) (wl : Addr) (p d mo : Int) : Prop
  | mk (k1 : _) (k2 : _) (k3 : _) (k4 : _) (tp : _) (td : _) (tm : _) (n : _) (hyp1 : o = dictOf (RDl w k1 k2 k3 k4 wl p tp d td mo tm) n) : IsRD w o wl p d mo
section
variable {w : World} {mg mb : Str → Option Value} {h₀ h : Heap} {env : Env} {ns gs : List Str} {vs vs' : List (Option Value)} {mu nw : Led} {z : Shared} {tk : Nat} {A : Around} {E : Value → Shared → Prop} {x dx wl : Addr} {v : Value} {pos : Pos} {M : Model} {o : Obj} {p d mo : Int} {ex : Bool}
theorem inst_at (G : GS w mg mb h₀ env ns gs vs ((dx, o) :: mu) nw h) (hx : (x, instObj 258 dx) ∈ nw) : InstAt h x (instObj 258 dx) 258 (some o) :=
  ⟨(G.G.has _ (List.mem_append_right _ hx)).1, rfl, rfl, (G.G.has _ (.head _)).1⟩
theorem rd_words {Q : Value → Shared → Prop} (G : GS w mg mb h₀ env ns gs vs ((dx, o) :: mu) nw h) (hx : (x, instObj 258 dx) ∈ nw) (ho : IsRD w o wl p d mo) (hq : Q (.ref wl) (S z h (tk + 1))) :
    wpAny (model PG w) A (getAttr (.ref x) "words" ex) Q E (S z h tk) := by
  obtain ⟨m, F, hl⟩ := G.fr
  have I := inst_at G hx
  obtain ⟨k1, k2, k3, k4, tp, td, tm, n, rfl⟩ := ho
  exact get_own F G.bs.K I (k258_words w).1 (k258_dict w) (k258_words w).2.1 rfl rfl rfl hq
theorem rd_place {Q : Value → Shared → Prop} (G : GS w mg mb h₀ env ns gs vs ((dx, o) :: mu) nw h) (hx : (x, instObj 258 dx) ∈ nw) (ho : IsRD w o wl p d mo) (hq : ∀ t, Q (.int p t) (S z h (tk + 1))) :
    wpAny (model PG w) A (getAttr (.ref x) "place" ex) Q E (S z h tk) := by
  obtain ⟨m, F, hl⟩ := G.fr
  have I := inst_at G hx
  obtain ⟨k1, k2, k3, k4, tp, td, tm, n, rfl⟩ := ho
  exact get_own F G.bs.K I (k258_place w).1 (k258_dict w) (k258_place w).2.1 rfl rfl rfl (hq _)
theorem set_place {Q : Unit → Shared → Prop} {p' : Int} {t : Tok} (G : GS w mg mb h₀ env ns gs vs ((dx, o) :: mu) nw h) (hx : (x, instObj 258 dx) ∈ nw) (ho : IsRD w o wl p d mo)
    (hq : ∀ h' tk' o', IsRD w o' wl p' d mo → GS w mg mb h₀ env ns gs vs ((dx, o') :: mu) nw h' → Q () (S z h' tk')) :
    wpAny (model PG w) A (setAttr (.ref x) "place" (.int p' t)) Q E (S z h tk) := by
  obtain ⟨m, F, hl⟩ := G.fr
  have I := inst_at G hx
  obtain ⟨k1, k2, k3, k4, tp, td, tm, n, rfl⟩ := ho
  refine set_dict (es' := RDl w k1 k2 k3 k4 wl p' t d td mo tm) (n' := n) F G.bs.K G.news I rfl (k258_set w) (k258_over w) (k258_place w).2.2 (k258_dict w) rfl rfl G.upd (by show 4 ≤ 1000; decide) fun h' F' N' => ?_
  exact hq h' _ _ ⟨k1, k2, k3, k4, t, td, tm, n, rfl⟩ (G.back1 F' hl N')
theorem rd_deep {Q : Value → Shared → Prop} (G : GS w mg mb h₀ env ns gs vs ((dx, o) :: mu) nw h) (hx : (x, instObj 258 dx) ∈ nw) (ho : IsRD w o wl p d mo) (hq : ∀ t, Q (.int d t) (S z h (tk + 1))) :
    wpAny (model PG w) A (getAttr (.ref x) "deep" ex) Q E (S z h tk) := by
  obtain ⟨m, F, hl⟩ := G.fr
  have I := inst_at G hx
  obtain ⟨k1, k2, k3, k4, tp, td, tm, n, rfl⟩ := ho
  exact get_own F G.bs.K I (k258_deep w).1 (k258_dict w) (k258_deep w).2.1 rfl rfl rfl (hq _)
theorem set_deep {Q : Unit → Shared → Prop} {p' : Int} {t : Tok} (G : GS w mg mb h₀ env ns gs vs ((dx, o) :: mu) nw h) (hx : (x, instObj 258 dx) ∈ nw) (ho : IsRD w o wl p d mo)
    (hq : ∀ h' tk' o', IsRD w o' wl p p' mo → GS w mg mb h₀ env ns gs vs ((dx, o') :: mu) nw h' → Q () (S z h' tk')) :
    wpAny (model PG w) A (setAttr (.ref x) "deep" (.int p' t)) Q E (S z h tk) := by
  obtain ⟨m, F, hl⟩ := G.fr
  have I := inst_at G hx
  obtain ⟨k1, k2, k3, k4, tp, td, tm, n, rfl⟩ := ho
  refine set_dict (es' := RDl w k1 k2 k3 k4 wl p tp p' t mo tm) (n' := n) F G.bs.K G.news I rfl (k258_set w) (k258_over w) (k258_deep w).2.2 (k258_dict w) rfl rfl G.upd (by show 4 ≤ 1000; decide) fun h' F' N' => ?_
  exact hq h' _ _ ⟨k1, k2, k3, k4, tp, t, tm, n, rfl⟩ (G.back1 F' hl N')
theorem rd_most {Q : Value → Shared → Prop} (G : GS w mg mb h₀ env ns gs vs ((dx, o) :: mu) nw h) (hx : (x, instObj 258 dx) ∈ nw) (ho : IsRD w o wl p d mo) (hq : ∀ t, Q (.int mo t) (S z h (tk + 1))) :
    wpAny (model PG w) A (getAttr (.ref x) "most" ex) Q E (S z h tk) := by
  obtain ⟨m, F, hl⟩ := G.fr
  have I := inst_at G hx
  obtain ⟨k1, k2, k3, k4, tp, td, tm, n, rfl⟩ := ho
  exact get_own F G.bs.K I (k258_most w).1 (k258_dict w) (k258_most w).2.1 rfl rfl rfl (hq _)
theorem set_most {Q : Unit → Shared → Prop} {p' : Int} {t : Tok} (G : GS w mg mb h₀ env ns gs vs ((dx, o) :: mu) nw h) (hx : (x, instObj 258 dx) ∈ nw) (ho : IsRD w o wl p d mo)
    (hq : ∀ h' tk' o', IsRD w o' wl p d p' → GS w mg mb h₀ env ns gs vs ((dx, o') :: mu) nw h' → Q () (S z h' tk')) :
    wpAny (model PG w) A (setAttr (.ref x) "most" (.int p' t)) Q E (S z h tk) := by
  obtain ⟨m, F, hl⟩ := G.fr
  have I := inst_at G hx
  obtain ⟨k1, k2, k3, k4, tp, td, tm, n, rfl⟩ := ho
  refine set_dict (es' := RDl w k1 k2 k3 k4 wl p tp d td p' t) (n' := n) F G.bs.K G.news I rfl (k258_set w) (k258_over w) (k258_most w).2.2 (k258_dict w) rfl rfl G.upd (by show 4 ≤ 1000; decide) fun h' F' N' => ?_
  exact hq h' _ _ ⟨k1, k2, k3, k4, tp, td, t, n, rfl⟩ (G.back1 F' hl N')
theorem rm_word {Q : Value × List Value → Shared → Prop} {pl : Sem Bool} (G : GS w mg mb h₀ env ns gs vs ((dx, o) :: mu) nw h) (hx : (x, instObj 258 dx) ∈ nw) (ho : IsRD w o wl p d mo) (hq : Q (.ref 166, [.ref x]) (S z h tk)) :
    wpAny (model PG w) A (getMethod (.ref x) "word" pl) Q E (S z h tk) := by
  obtain ⟨m, F, hl⟩ := G.fr
  have I := inst_at G hx
  obtain ⟨k1, k2, k3, k4, tp, td, tm, n, rfl⟩ := ho
  exact method_inst F G.bs.K I rfl rfl rfl rfl hq
theorem rm_spot {Q : Value × List Value → Shared → Prop} {pl : Sem Bool} (G : GS w mg mb h₀ env ns gs vs ((dx, o) :: mu) nw h) (hx : (x, instObj 258 dx) ∈ nw) (ho : IsRD w o wl p d mo) (hq : Q (.ref 173, [.ref x]) (S z h tk)) :
    wpAny (model PG w) A (getMethod (.ref x) "spot" pl) Q E (S z h tk) := by
  obtain ⟨m, F, hl⟩ := G.fr
  have I := inst_at G hx
  obtain ⟨k1, k2, k3, k4, tp, td, tm, n, rfl⟩ := ho
  exact method_inst F G.bs.K I rfl rfl rfl rfl hq
theorem rm_take {Q : Value × List Value → Shared → Prop} {pl : Sem Bool} (G : GS w mg mb h₀ env ns gs vs ((dx, o) :: mu) nw h) (hx : (x, instObj 258 dx) ∈ nw) (ho : IsRD w o wl p d mo) (hq : Q (.ref 180, [.ref x]) (S z h tk)) :
    wpAny (model PG w) A (getMethod (.ref x) "take" pl) Q E (S z h tk) := by
  obtain ⟨m, F, hl⟩ := G.fr
  have I := inst_at G hx
  obtain ⟨k1, k2, k3, k4, tp, td, tm, n, rfl⟩ := ho
  exact method_inst F G.bs.K I rfl rfl rfl rfl hq
theorem rm_want {Q : Value × List Value → Shared → Prop} {pl : Sem Bool} (G : GS w mg mb h₀ env ns gs vs ((dx, o) :: mu) nw h) (hx : (x, instObj 258 dx) ∈ nw) (ho : IsRD w o wl p d mo) (hq : Q (.ref 187, [.ref x]) (S z h tk)) :
    wpAny (model PG w) A (getMethod (.ref x) "want" pl) Q E (S z h tk) := by
  obtain ⟨m, F, hl⟩ := G.fr
  have I := inst_at G hx
  obtain ⟨k1, k2, k3, k4, tp, td, tm, n, rfl⟩ := ho
  exact method_inst F G.bs.K I rfl rfl rfl rfl hq
theorem rm_op {Q : Value × List Value → Shared → Prop} {pl : Sem Bool} (G : GS w mg mb h₀ env ns gs vs ((dx, o) :: mu) nw h) (hx : (x, instObj 258 dx) ∈ nw) (ho : IsRD w o wl p d mo) (hq : Q (.ref 194, [.ref x]) (S z h tk)) :
    wpAny (model PG w) A (getMethod (.ref x) "op" pl) Q E (S z h tk) := by
  obtain ⟨m, F, hl⟩ := G.fr
  have I := inst_at G hx
  obtain ⟨k1, k2, k3, k4, tp, td, tm, n, rfl⟩ := ho
  exact method_inst F G.bs.K I rfl rfl rfl rfl hq
theorem rm_begin {Q : Value × List Value → Shared → Prop} {pl : Sem Bool} (G : GS w mg mb h₀ env ns gs vs ((dx, o) :: mu) nw h) (hx : (x, instObj 258 dx) ∈ nw) (ho : IsRD w o wl p d mo) (hq : Q (.ref 201, [.ref x]) (S z h tk)) :
    wpAny (model PG w) A (getMethod (.ref x) "begin" pl) Q E (S z h tk) := by
  obtain ⟨m, F, hl⟩ := G.fr
  have I := inst_at G hx
  obtain ⟨k1, k2, k3, k4, tp, td, tm, n, rfl⟩ := ho
  exact method_inst F G.bs.K I rfl rfl rfl rfl hq
theorem rm_close {Q : Value × List Value → Shared → Prop} {pl : Sem Bool} (G : GS w mg mb h₀ env ns gs vs ((dx, o) :: mu) nw h) (hx : (x, instObj 258 dx) ∈ nw) (ho : IsRD w o wl p d mo) (hq : Q (.ref 208, [.ref x]) (S z h tk)) :
    wpAny (model PG w) A (getMethod (.ref x) "close" pl) Q E (S z h tk) := by
  obtain ⟨m, F, hl⟩ := G.fr
  have I := inst_at G hx
  obtain ⟨k1, k2, k3, k4, tp, td, tm, n, rfl⟩ := ho
  exact method_inst F G.bs.K I rfl rfl rfl rfl hq
theorem rm_variable {Q : Value × List Value → Shared → Prop} {pl : Sem Bool} (G : GS w mg mb h₀ env ns gs vs ((dx, o) :: mu) nw h) (hx : (x, instObj 258 dx) ∈ nw) (ho : IsRD w o wl p d mo) (hq : Q (.ref 215, [.ref x]) (S z h tk)) :
    wpAny (model PG w) A (getMethod (.ref x) "variable" pl) Q E (S z h tk) := by
  obtain ⟨m, F, hl⟩ := G.fr
  have I := inst_at G hx
  obtain ⟨k1, k2, k3, k4, tp, td, tm, n, rfl⟩ := ho
  exact method_inst F G.bs.K I rfl rfl rfl rfl hq
theorem rm_term {Q : Value × List Value → Shared → Prop} {pl : Sem Bool} (G : GS w mg mb h₀ env ns gs vs ((dx, o) :: mu) nw h) (hx : (x, instObj 258 dx) ∈ nw) (ho : IsRD w o wl p d mo) (hq : Q (.ref 222, [.ref x]) (S z h tk)) :
    wpAny (model PG w) A (getMethod (.ref x) "term" pl) Q E (S z h tk) := by
  obtain ⟨m, F, hl⟩ := G.fr
  have I := inst_at G hx
  obtain ⟨k1, k2, k3, k4, tp, td, tm, n, rfl⟩ := ho
  exact method_inst F G.bs.K I rfl rfl rfl rfl hq
theorem rm_need {Q : Value × List Value → Shared → Prop} {pl : Sem Bool} (G : GS w mg mb h₀ env ns gs vs ((dx, o) :: mu) nw h) (hx : (x, instObj 258 dx) ∈ nw) (ho : IsRD w o wl p d mo) (hq : Q (.ref 229, [.ref x]) (S z h tk)) :
    wpAny (model PG w) A (getMethod (.ref x) "need" pl) Q E (S z h tk) := by
  obtain ⟨m, F, hl⟩ := G.fr
  have I := inst_at G hx
  obtain ⟨k1, k2, k3, k4, tp, td, tm, n, rfl⟩ := ho
  exact method_inst F G.bs.K I rfl rfl rfl rfl hq
theorem rm_rule {Q : Value × List Value → Shared → Prop} {pl : Sem Bool} (G : GS w mg mb h₀ env ns gs vs ((dx, o) :: mu) nw h) (hx : (x, instObj 258 dx) ∈ nw) (ho : IsRD w o wl p d mo) (hq : Q (.ref 236, [.ref x]) (S z h tk)) :
    wpAny (model PG w) A (getMethod (.ref x) "rule" pl) Q E (S z h tk) := by
  obtain ⟨m, F, hl⟩ := G.fr
  have I := inst_at G hx
  obtain ⟨k1, k2, k3, k4, tp, td, tm, n, rfl⟩ := ho
  exact method_inst F G.bs.K I rfl rfl rfl rfl hq
theorem rm_places {Q : Value × List Value → Shared → Prop} {pl : Sem Bool} (G : GS w mg mb h₀ env ns gs vs ((dx, o) :: mu) nw h) (hx : (x, instObj 258 dx) ∈ nw) (ho : IsRD w o wl p d mo) (hq : Q (.ref 241, [.ref x]) (S z h tk)) :
    wpAny (model PG w) A (getMethod (.ref x) "places" pl) Q E (S z h tk) := by
  obtain ⟨m, F, hl⟩ := G.fr
  have I := inst_at G hx
  obtain ⟨k1, k2, k3, k4, tp, td, tm, n, rfl⟩ := ho
  exact method_inst F G.bs.K I rfl rfl rfl rfl hq
theorem rm_papers {Q : Value × List Value → Shared → Prop} {pl : Sem Bool} (G : GS w mg mb h₀ env ns gs vs ((dx, o) :: mu) nw h) (hx : (x, instObj 258 dx) ∈ nw) (ho : IsRD w o wl p d mo) (hq : Q (.ref 248, [.ref x]) (S z h tk)) :
    wpAny (model PG w) A (getMethod (.ref x) "papers" pl) Q E (S z h tk) := by
  obtain ⟨m, F, hl⟩ := G.fr
  have I := inst_at G hx
  obtain ⟨k1, k2, k3, k4, tp, td, tm, n, rfl⟩ := ho
  exact method_inst F G.bs.K I rfl rfl rfl rfl hq
theorem rm_paper {Q : Value × List Value → Shared → Prop} {pl : Sem Bool} (G : GS w mg mb h₀ env ns gs vs ((dx, o) :: mu) nw h) (hx : (x, instObj 258 dx) ∈ nw) (ho : IsRD w o wl p d mo) (hq : Q (.ref 255, [.ref x]) (S z h tk)) :
    wpAny (model PG w) A (getMethod (.ref x) "paper" pl) Q E (S z h tk) := by
  obtain ⟨m, F, hl⟩ := G.fr
  have I := inst_at G hx
  obtain ⟨k1, k2, k3, k4, tp, td, tm, n, rfl⟩ := ho
  exact method_inst F G.bs.K I rfl rfl rfl rfl hq
end
end
section
variable [OSC]
noncomputable abbrev tupO (l : List Value) (n : Nat) : Obj := { cls := .type "tuple", data := .seq l.toArray n }
noncomputable abbrev lstO (l : List Value) (n : Nat) : Obj := { cls := .type "list", data := .seq l.toArray n }
section
variable {w : World} {mg mb : Str → Option Value} {h₀ h : Heap} {env : Env} {ns gs : List Str} {vs vs' : List (Option Value)} {mu nw : Led} {z : Shared} {tk : Nat} {A : Around} {E : Value → Shared → Prop} {v : Value} {prog : Program}
theorem r_add {a b : Int} {t u : Tok} {Q : Value → Shared → Prop} (hq : ∀ t, Q (.int (a + b) t) (S z h (tk + 1))) : wpAny (model prog w) A (binaryOp .Add (.int a t) (.int b u)) Q E (S z h tk) := PyProof.Rows.add_int (hq _)
theorem r_addN {a b : Int} {t u : Tok} {Q : Value → Shared → Prop} (hq : Q (.int (a + b) tk) (S z h (tk + 1))) : wpAny (model prog w) A (binaryOp .Add (.int a t) (.int b u)) Q E (S z h tk) := PyProof.Rows.add_int hq
theorem r_sub {a b : Int} {t u : Tok} {Q : Value → Shared → Prop} (hq : ∀ t, Q (.int (a - b) t) (S z h (tk + 1))) : wpAny (model prog w) A (binaryOp .Sub (.int a t) (.int b u)) Q E (S z h tk) := PyProof.Rows.sub_int (hq _)
theorem r_item_list {value slice : Expr} {a : Addr} {l : List Value} {n : Nat} {k : Int} {u : Tok} {Q : Value → Shared → Prop} (hl : h.get? a = some (lstO l n)) (h0 : 0 ≤ k) (hhi : k < 2 ^ 63) (hx : l[k.toNat]? = some v) (hq : Q v (S z h tk))
    (hs : subscripted slice false (.ref a) (.int k u) = operate [.ref a, .int k u] (getItem (.ref a) (.int k u)) := by with_unfolding_all rfl) :
    wpAny (model prog w) A (subscriptTail value slice (.ref a) (.int k u)) Q E (S z h tk) :=
  have hl' : h.IsList a l.toArray := ⟨_, hl, rfl, n, rfl⟩
  tail_any hl'.typeIs slot_list_getitem.lookup (wpAny_getItem_list hl' h0 hhi (by simpa using hx) hq) hs
theorem r_item_tup {value slice : Expr} {a : Addr} {l : List Value} {n j : Nat} {k : Int} {u : Tok} {Q : Value → Shared → Prop} (hl : h.get? a = some (tupO l n)) (hlo : -(2 ^ 63) ≤ k) (hhi : k < 2 ^ 63) (hj : seqIndex? k l.length = some j) (hx : l[j]? = some v) (hq : Q v (S z h tk))
    (hs : subscripted slice false (.ref a) (.int k u) = operate [.ref a, .int k u] (getItem (.ref a) (.int k u)) := by with_unfolding_all rfl) :
    wpAny (model prog w) A (subscriptTail value slice (.ref a) (.int k u)) Q E (S z h tk) :=
  item_tupleT ⟨_, hl, rfl, n, rfl⟩ hlo hhi hj hx hq hs
theorem Gh.get (G : Gh h₀ h mu nw) {a : Addr} {o : Obj} (hm : (a, o) ∈ nw) : h.get? a = some o := (G.has _ (List.mem_append_right _ hm)).1
theorem Gh.getM (G : Gh h₀ h mu nw) {a : Addr} {o : Obj} (hm : (a, o) ∈ mu) : h.get? a = some o := (G.has _ (List.mem_append_left _ hm)).1
theorem ifs {b : Bool} {P R : Prop} (ht : b = true → P) (hf : b = false → R) : if b = true then P else R := split_bool ht hf
end
inductive Fa2 {α β : Type} (R : α → β → Prop) : List α → List β → Prop
  | nil : Fa2 R [] []
  | cons {a b l l'} : R a b → Fa2 R l l' → Fa2 R (a :: l) (b :: l')
/-- a word and its place, as a tuple of the ledger -/
inductive TokAt (nw : Led) (v : Value) (wd : Wd × Nat) : Prop
  | mk (a : _) (t : _) (t' : _) (n : _) (hyp1 : v = .ref a) (hyp2 : (a, tupO [.str wd.1.str t, .int wd.2 t'] n) ∈ nw) : TokAt nw v wd
noncomputable def Toks (nw : Led) (wl : Addr) (toks : List (Wd × Nat)) : Prop := toks.length < 2 ^ 31 ∧ ∃ vs n, (wl, lstO vs n) ∈ nw ∧ Fa2 (TokAt nw) vs toks
theorem TokAt.mono {nw nw' : Led} {v wd} (h : TokAt nw v wd) (s : ∀ p ∈ nw, p ∈ nw') : TokAt nw' v wd := let ⟨a, t, t', n, e, m⟩ := h; ⟨a, t, t', n, e, s _ m⟩
theorem forall2_mono {α β : Type} {R R' : α → β → Prop} {l : List α} {l' : List β} (h : Fa2 R l l') (s : ∀ a b, R a b → R' a b) : Fa2 R' l l' := by
  induction h with
  | nil => exact .nil
  | cons a _ ih => exact .cons (s _ _ a) ih
theorem Toks.mono {nw nw' : Led} {wl toks} (h : Toks nw wl toks) (s : ∀ p ∈ nw, p ∈ nw') : Toks nw' wl toks := let ⟨l, vs, n, m, f⟩ := h; ⟨l, vs, n, s _ m, forall2_mono f fun _ _ x => x.mono s⟩
theorem forall2_get {α β : Type} {R : α → β → Prop} {l : List α} {l' : List β} (h : Fa2 R l l') {i : Nat} {b : β} (e : l'[i]? = some b) : ∃ a, l[i]? = some a ∧ R a b:= by
  induction h generalizing i with
  | nil => cases e
  | cons a _ ih => cases i with
    | zero => cases e; exact ⟨_, rfl, a⟩
    | succ i => exact ih e
noncomputable def Room (A : Around) (n : Nat) : Prop := A.depth + n < 900 ∧ A.units + 8 * n < 7900
theorem Room.deeper {A : Around} {env : Env} {n : Nat} (h : Room A (n + 1)) : Room (A.deeper env) n := ⟨by have := h.1; show A.depth + 1 + n < 900; omega, by have := h.2; show A.units + 3 + 8 * n < 7900; omega⟩
theorem Room.le {A : Around} {n m : Nat} (h : Room A n) (l : m ≤ n) : Room A m := ⟨by have := h.1; omega, by have := h.2; omega⟩
theorem Room.depth {A : Around} {n : Nat} (h : Room A n) : A.depth < recursionLimit := by have := h.1; show A.depth < 1000; omega
end
local macro_rules | `(tactic| walk_at "m:fa") => `(tactic| (repeat (first | exact Fa2.nil | refine Fa2.cons ⟨_, rfl⟩ ?_)))
section
variable [OSC]
theorem Room.units {A : Around} {n : Nat} (h : Room A n) : A.units < cLine := by have := h.2; show A.units < 9900; omega
section
variable {w : World} {mg mb : Str → Option Value} {h₀ h h' : Heap} {env : Env} {ns gs : List Str} {vs vs' : List (Option Value)} {mu nw fr : Led} {z : Shared} {tk : Nat} {A : Around} {E Q : Value → Shared → Prop} {M : Model}
theorem Gh.push (G : Gh h₀ h mu nw) (o : Obj) (hf : o.isFreed = false) : Gh h₀ (h.push o) mu ((h.objs.size, o) :: nw) := by
  have keep : ∀ b o', h.get? b = some o' → (h.push o).get? b = some o' := fun b o' e => Heap.get?_push_of_some _ e
  refine ⟨fun b o' e => keep b o' (G.stays b o' e), Nat.le_trans G.le (by rw [Heap.size_push]; exact Nat.le_succ _), fun p hp => ?_, G.nd, fun p hp q hq => ?_⟩
  · rcases List.mem_append.mp hp with hp | hp
    · have := G.has p (List.mem_append_left _ hp)
      exact ⟨keep _ _ this.1, this.2⟩
    · rcases List.mem_cons.mp hp with rfl | hp
      · refine ⟨Heap.get?_push_size _ hf, ?_⟩
        cases q : h₀.get? h.objs.size with
        | none => rfl
        | some o' => exact absurd (Heap.lt_size q) (Nat.not_lt.mpr G.le)
      · have := G.has p (List.mem_append_right _ hp)
        exact ⟨keep _ _ this.1, this.2⟩
  · rcases List.mem_cons.mp hq with rfl | hq
    · exact Nat.ne_of_lt (Heap.lt_size (G.has p (List.mem_append_left _ hp)).1)
    · exact G.apart p hp q hq
theorem Gh.pushM (G : Gh h₀ h mu nw) (o : Obj) (hf : o.isFreed = false) : Gh h₀ (h.push o) ((h.objs.size, o) :: mu) nw := by
  have P := G.push o hf
  refine ⟨P.stays, P.le, fun p hp => P.has p ?_, List.nodup_cons.mpr ⟨fun hm => ?_, G.nd⟩, fun p hp q hq => ?_⟩
  · simp only [List.cons_append, List.mem_cons, List.mem_append] at hp ⊢
    rcases hp with hp | hp | hp
    · exact .inr (.inl hp)
    · exact .inl hp
    · exact .inr (.inr hp)
  · obtain ⟨p, hp, e⟩ := List.mem_map.mp hm
    exact absurd (Heap.lt_size (G.has p (List.mem_append_left _ hp)).1) (by rw [e]; exact Nat.lt_irrefl _)
  · rcases List.mem_cons.mp hp with rfl | hp
    · exact fun e => absurd (Heap.lt_size (G.has q (List.mem_append_right _ hq)).1) (by rw [← e]; exact Nat.lt_irrefl _)
    · exact G.apart p hp q hq
theorem GS.with (G : GS w mg mb h₀ env ns gs vs mu nw h) {mu' nw' : Led} (G' : Gh h₀ h' mu' nw') (k : ∀ o, h.get? env.locals = some o → h'.get? env.locals = some o) (ne : ∀ p ∈ mu' ++ nw', p.1 ≠ env.locals) : GS w mg mb h₀ env ns gs vs mu' nw' h' := by
  obtain ⟨m, ⟨o, es, ep, ho, hd, hk, hf⟩, hl⟩ := G.ns_
  exact ⟨G.bs, G.sc, G.eg, G.eb, ⟨m, ⟨o, es, ep, k _ ho, hd, hk, hf⟩, hl⟩, G.above, G', ne⟩
theorem GS.lt (G : GS w mg mb h₀ env ns gs vs mu nw h) : env.locals < h.objs.size := by
  obtain ⟨m, hn, hl⟩ := G.ns_
  exact hn.lt
theorem GS.push (G : GS w mg mb h₀ env ns gs vs mu nw h) (o : Obj) (hf : o.isFreed = false) : GS w mg mb h₀ env ns gs vs mu ((h.objs.size, o) :: nw) (h.push o) := by
  refine G.with (G.G.push o hf) (fun _ e => Heap.get?_push_of_some _ e) fun p hp => ?_
  simp only [List.mem_append, List.mem_cons] at hp
  rcases hp with hp | rfl | hp
  · exact G.ne p (List.mem_append_left _ hp)
  · exact Nat.ne_of_gt G.lt
  · exact G.ne p (List.mem_append_right _ hp)
theorem GS.pushM (G : GS w mg mb h₀ env ns gs vs mu nw h) (o : Obj) (hf : o.isFreed = false) : GS w mg mb h₀ env ns gs vs ((h.objs.size, o) :: mu) nw (h.push o) := by
  refine G.with (G.G.pushM o hf) (fun _ e => Heap.get?_push_of_some _ e) fun p hp => ?_
  simp only [List.mem_append, List.mem_cons] at hp
  rcases hp with (rfl | hp) | hp
  · exact Nat.ne_of_gt G.lt
  · exact G.ne p (List.mem_append_left _ hp)
  · exact G.ne p (List.mem_append_right _ hp)
noncomputable abbrev lst (l : List Value) : Obj := { cls := .type "list", data := .seq l.toArray }
noncomputable abbrev tup (l : List Value) : Obj := { cls := .type "tuple", data := .seq l.toArray }
theorem r_list {l : List Value} (hsz : l.length ≤ sizeLine) (G : GS w mg mb h₀ env ns gs vs mu nw h) (hq : ∀ D h', GS w mg mb h₀ env ns gs vs mu ((D, lst l) :: nw) h' → Q (.ref D) (S z h' tk)) : wpAny M A (newList l) Q E (S z h tk) :=
  wpAny_newList (hq _ _ (G.push (lst l) rfl)) hsz
theorem r_listM {l : List Value} (hsz : l.length ≤ sizeLine) (G : GS w mg mb h₀ env ns gs vs mu nw h) (hq : ∀ D h', GS w mg mb h₀ env ns gs vs ((D, lst l) :: mu) nw h' → Q (.ref D) (S z h' tk)) : wpAny M A (newList l) Q E (S z h tk) :=
  wpAny_newList (hq _ _ (G.pushM (lst l) rfl)) hsz
/-- a list that the library made -/
theorem GS.made {m : Str → Option Value} {D : Addr} {ys : Array Value} (G : GS w mg mb h₀ env ns gs vs mu nw h) (F : Fr h₀ env.locals h' m) (hl : LV ns vs m) (N : News h₀ env.locals h' (mu ++ nw)) (hD : h₀.get? D = none) (hp : NewPlain h' (mu ++ nw) D ys) :
    ∃ n, GS w mg mb h₀ env ns gs vs mu ((D, { cls := .type "list", data := .seq ys n }) :: nw) h':= by
  obtain ⟨⟨n, hn⟩, hne⟩ := hp
  have hDL : D ≠ env.locals := by
    rintro rfl
    obtain ⟨o, es, ep, ho, hd, hk, hf⟩ := F.ns
    rw [hn] at ho
    cases ho
    cases hd
  refine ⟨n, G.back F hl (nw' := (D, _) :: nw) (mu' := mu) (fun p hp => ?_) G.G.nd fun p hp q hq => ?_⟩
  · simp only [List.mem_append, List.mem_cons] at hp
    rcases hp with hp | rfl | hp
    · exact N p (List.mem_append_left _ hp)
    · exact ⟨hn, hDL, hD⟩
    · exact N p (List.mem_append_right _ hp)
  · rcases List.mem_cons.mp hq with rfl | hq
    · exact hne p (List.mem_append_left _ hp)
    · exact G.G.apart p hp q hq
/-- objects of the ledger that no longer matter -/
theorem GS.less {p : Addr × Obj} (G : GS w mg mb h₀ env ns gs vs mu (p :: nw) h) : GS w mg mb h₀ env ns gs vs mu nw h := by
  have hsub : ∀ q ∈ mu ++ nw, q ∈ mu ++ p :: nw := fun q hq => by
    simp only [List.mem_append, List.mem_cons] at hq ⊢
    rcases hq with hq | hq
    · exact .inl hq
    · exact .inr (.inr hq)
  exact ⟨G.bs, G.sc, G.eg, G.eb, G.ns_, G.above, ⟨G.G.stays, G.G.le, fun q hq => G.G.has q (hsub q hq), G.G.nd, fun a ha q hq => G.G.apart a ha q (.tail _ hq)⟩, fun q hq => G.ne q (hsub q hq)⟩
theorem GS.sub {nw' : Led} (G : GS w mg mb h₀ env ns gs vs mu nw' h) (s : ∀ p ∈ nw, p ∈ nw') : GS w mg mb h₀ env ns gs vs mu nw h := by
  have hsub : ∀ q ∈ mu ++ nw, q ∈ mu ++ nw' := fun q hq => by
    simp only [List.mem_append] at hq ⊢
    rcases hq with hq | hq
    · exact .inl hq
    · exact .inr (s _ hq)
  exact ⟨G.bs, G.sc, G.eg, G.eb, G.ns_, G.above, ⟨G.G.stays, G.G.le, fun q hq => G.G.has q (hsub q hq), G.G.nd, fun a ha q hq => G.G.apart a ha q (s _ hq)⟩, fun q hq => G.ne q (hsub q hq)⟩
theorem Gh.sub {nw' : Led} (G : Gh h₀ h mu nw') (s : ∀ p ∈ nw, p ∈ nw') : Gh h₀ h mu nw := by
  have hsub : ∀ q ∈ mu ++ nw, q ∈ mu ++ nw' := fun q hq => by
    simp only [List.mem_append] at hq ⊢
    rcases hq with hq | hq
    · exact .inl hq
    · exact .inr (s _ hq)
  exact ⟨G.stays, G.le, fun q hq => G.has q (hsub q hq), G.nd, fun a ha q hq => G.apart a ha q (s _ hq)⟩
theorem Gh.lessM {p : Addr × Obj} (G : Gh h₀ h (p :: mu) nw) : Gh h₀ h mu nw :=
  ⟨G.stays, G.le, fun q hq => G.has q (List.mem_cons_of_mem _ hq), (List.nodup_cons.mp G.nd).2, fun a ha q hq => G.apart a (.tail _ ha) q hq⟩
theorem GS.lessM {p : Addr × Obj} (G : GS w mg mb h₀ env ns gs vs (p :: mu) nw h) : GS w mg mb h₀ env ns gs vs mu nw h :=
  ⟨G.bs, G.sc, G.eg, G.eb, G.ns_, G.above, G.G.lessM, fun q hq => G.ne q (List.mem_cons_of_mem _ hq)⟩
/-- an object that no longer changes -/
theorem GS.settle {p : Addr × Obj} (G : GS w mg mb h₀ env ns gs vs (p :: mu) nw h) : GS w mg mb h₀ env ns gs vs mu (p :: nw) h := by
  have hsub : ∀ q, q ∈ mu ++ p :: nw ↔ q ∈ (p :: mu) ++ nw := fun q => by
    simp only [List.mem_append, List.mem_cons]
    constructor
    · rintro (h | h | h)
      · exact .inl (.inr h)
      · exact .inl (.inl h)
      · exact .inr h
    · rintro ((h | h) | h)
      · exact .inr (.inl h)
      · exact .inl h
      · exact .inr (.inr h)
  refine ⟨G.bs, G.sc, G.eg, G.eb, G.ns_, G.above, ⟨G.G.stays, G.G.le, fun q hq => G.G.has q ((hsub q).mp hq), (List.nodup_cons.mp G.G.nd).2, fun a ha q hq => ?_⟩, fun q hq => G.ne q ((hsub q).mp hq)⟩
  rcases List.mem_cons.mp hq with rfl | hq
  · exact fun e => (List.nodup_cons.mp G.G.nd).1 (List.mem_map.mpr ⟨a, ha, e⟩)
  · exact G.G.apart a (.tail _ ha) q hq
theorem GS.swap {p q : Addr × Obj} (G : GS w mg mb h₀ env ns gs vs (p :: q :: mu) nw h) : GS w mg mb h₀ env ns gs vs (q :: p :: mu) nw h :=
  ⟨G.bs, G.sc, G.eg, G.eb, G.ns_, G.above, G.G.swap, fun r hr => G.ne r (by
    simp only [List.cons_append, List.mem_cons] at hr ⊢
    rcases hr with h | h | h
    · exact .inr (.inl h)
    · exact .inl h
    · exact .inr (.inr h))⟩
theorem GS.getM {a : Addr} {o : Obj} (G : GS w mg mb h₀ env ns gs vs mu nw h) (hm : (a, o) ∈ mu) : h.get? a = some o := G.G.getM hm
/-- an object at the head of the ledger is changed -/
theorem GS.set1 {D : Addr} {o o' : Obj} (G : GS w mg mb h₀ env ns gs vs ((D, o) :: mu) nw h) (hs : Heap.SameBut D h h') (ho : h'.get? D = some o') : GS w mg mb h₀ env ns gs vs ((D, o') :: mu) nw h' := by
  have hD := G.G.has (D, o) (.head _)
  have keep : ∀ b ob, b ≠ D → h.get? b = some ob → h'.get? b = some ob := fun b ob hb e => hs.extBut b ob hb e
  refine G.with ⟨fun b ob e => keep b ob (fun q => by rw [q, hD.2] at e; cases e) (G.G.stays b ob e), ?_, fun p hp => ?_, G.G.nd, fun a ha q hq => ?_⟩ (fun ob e => keep _ _ (fun q => G.ne (D, o) (.head _) q.symm) e) fun p hp => ?_
  · exact Nat.le_trans G.G.le (Nat.le_of_eq hs.1.symm)
  · rcases List.mem_cons.mp hp with rfl | hp'
    · exact ⟨ho, hD.2⟩
    · have := G.G.has p (List.mem_cons_of_mem _ hp')
      refine ⟨keep _ _ (fun q => ?_) this.1, this.2⟩
      rcases List.mem_append.mp hp' with hp' | hp'
      · exact (List.nodup_cons.mp G.G.nd).1 (List.mem_map.mpr ⟨p, hp', q⟩)
      · exact G.G.apart (D, o) (.head _) p hp' q.symm
  · rcases List.mem_cons.mp ha with rfl | ha
    · exact G.G.apart (D, o) (.head _) q hq
    · exact G.G.apart a (.tail _ ha) q hq
  · rcases List.mem_cons.mp hp with rfl | hp
    · exact G.ne (D, o) (.head _)
    · exact G.ne p (List.mem_cons_of_mem _ hp)
theorem GS.Ns_keep (G : GS w mg mb h₀ env ns gs vs mu nw h) (k : ∀ b o, h.get? b = some o → h'.get? b = some o) : GS w mg mb h₀ env ns gs vs mu nw h' := by
  refine G.with ⟨fun b o e => k _ _ (G.G.stays b o e), ?_, fun p hp => ⟨k _ _ (G.G.has p hp).1, (G.G.has p hp).2⟩, G.G.nd, G.G.apart⟩ (fun o e => k _ _ e) G.ne
  obtain ⟨m', hn, hl'⟩ := G.ns_
  obtain ⟨ob, es, ep, hob, _⟩ := hn
  exact Nat.le_of_lt (Nat.lt_of_le_of_lt G.above (Heap.lt_size (k _ _ hob)))
theorem GS.chg {D : Addr} {o o' : Obj} (G : GS w mg mb h₀ env ns gs vs ((D, o) :: mu) nw h) (k : ∀ a ob, a ≠ D → h.get? a = some ob → h'.get? a = some ob) (ho : h'.get? D = some o') : GS w mg mb h₀ env ns gs vs ((D, o') :: mu) nw h' := by
  have hD := G.G.has (D, o) (.head _)
  have hne : env.locals ≠ D := fun e => G.ne (D, o) (.head _) e.symm
  refine G.with ⟨fun b ob e => k b ob (fun q => by rw [q, hD.2] at e; cases e) (G.G.stays b ob e), ?_, fun p hp => ?_, G.G.nd, fun a ha q hq => ?_⟩ (fun ob e => k _ _ hne e) fun p hp => ?_
  · obtain ⟨m', hn, hl'⟩ := G.ns_
    obtain ⟨ob, es, ep, hob, _⟩ := hn
    exact Nat.le_of_lt (Nat.lt_of_le_of_lt G.above (Heap.lt_size (k _ _ hne hob)))
  · rcases List.mem_cons.mp hp with rfl | hp'
    · exact ⟨ho, hD.2⟩
    · have := G.G.has p (List.mem_cons_of_mem _ hp')
      refine ⟨k _ _ (fun q => ?_) this.1, this.2⟩
      rcases List.mem_append.mp hp' with hp' | hp'
      · exact (List.nodup_cons.mp G.G.nd).1 (List.mem_map.mpr ⟨p, hp', q⟩)
      · exact G.G.apart (D, o) (.head _) p hp' q.symm
  · rcases List.mem_cons.mp ha with rfl | ha
    · exact G.G.apart (D, o) (.head _) q hq
    · exact G.G.apart a (.tail _ ha) q hq
  · rcases List.mem_cons.mp hp with rfl | hp
    · exact G.ne (D, o) (.head _)
    · exact G.ne p (List.mem_cons_of_mem _ hp)
/-- a new object beside -/
theorem GS.newM {D : Addr} {o : Obj} (G : GS w mg mb h₀ env ns gs vs mu nw h) {hOld : Heap} (hold : ∀ p ∈ mu ++ nw, ∃ ob, hOld.get? p.1 = some ob) (hns : ∃ ob, hOld.get? env.locals = some ob) (hbase : ∀ b ob, h₀.get? b = some ob → ∃ ob', hOld.get? b = some ob') (hf : hOld.get? D = none) (ho : h.get? D = some o) : GS w mg mb h₀ env ns gs vs ((D, o) :: mu) nw h := by
  have hne : ∀ p ∈ mu ++ nw, p.1 ≠ D := fun p hp e => by obtain ⟨ob, h1⟩ := hold p hp; rw [e, hf] at h1; cases h1
  refine G.with ⟨G.G.stays, G.G.le, fun p hp => ?_, List.nodup_cons.mpr ⟨fun hm => ?_, G.G.nd⟩, fun a ha q hq => ?_⟩ (fun ob e => e) fun p hp => ?_
  · rcases List.mem_cons.mp hp with rfl | hp
    · refine ⟨ho, ?_⟩
      cases e : h₀.get? D with
      | none => rfl
      | some ob => obtain ⟨ob', h1⟩ := hbase _ _ e; rw [hf] at h1; cases h1
    · exact G.G.has p hp
  · obtain ⟨p, hp, e⟩ := List.mem_map.mp hm
    exact hne p (List.mem_append_left _ hp) e
  · rcases List.mem_cons.mp ha with rfl | ha
    · exact fun e => hne q (List.mem_append_right _ hq) e.symm
    · exact G.G.apart a ha q hq
  · rcases List.mem_cons.mp hp with rfl | hp
    · rintro rfl
      obtain ⟨ob, h1⟩ := hns
      rw [hf] at h1; cases h1
    · exact G.ne p hp
theorem Gh.perm {mu' : Led} (G : Gh h₀ h mu nw) (p : mu.Perm mu') : Gh h₀ h mu' nw :=
  ⟨G.stays, G.le, fun q hq => G.has q (by
    rcases List.mem_append.mp hq with hq | hq
    · exact List.mem_append_left _ (p.mem_iff.mpr hq)
    · exact List.mem_append_right _ hq), (p.map _).nodup_iff.mp G.nd, fun a ha q hq => G.apart a (p.mem_iff.mpr ha) q hq⟩
theorem GS.perm {mu' : Led} (G : GS w mg mb h₀ env ns gs vs mu nw h) (p : mu.Perm mu') : GS w mg mb h₀ env ns gs vs mu' nw h :=
  ⟨G.bs, G.sc, G.eg, G.eb, G.ns_, G.above, G.G.perm p, fun q hq => G.ne q (by
    rcases List.mem_append.mp hq with hq | hq
    · exact List.mem_append_left _ (p.mem_iff.mpr hq)
    · exact List.mem_append_right _ hq)⟩
end
end
section
variable [OSC]
section
variable (w : World)
theorem g_MOST_DEPTH : nsIn (KK w) mainGlobals "MOST_DEPTH" = some (some (.int 40 353)) := by kernel_rfl
theorem g_MOST_PAPER_DEPTH : nsIn (KK w) mainGlobals "MOST_PAPER_DEPTH" = some (some (.int 120 355)) := by kernel_rfl
theorem g_MOST_SIGNS : nsIn (KK w) mainGlobals "MOST_SIGNS" = some (some (.int 100000 357)) := by kernel_rfl
theorem g_Reader : nsIn (KK w) mainGlobals "Reader" = some (some (.ref 258)) := by kernel_rfl
theorem g_Rule : nsIn (KK w) mainGlobals "Rule" = some (some (.ref 134)) := by kernel_rfl
theorem g_RuleFault : nsIn (KK w) mainGlobals "RuleFault" = some (some (.ref 88)) := by kernel_rfl
theorem g_TextFault : nsIn (KK w) mainGlobals "TextFault" = some (some (.ref 76)) := by kernel_rfl
theorem g_law_bent : nsIn (KK w) mainGlobals "_law_bent" = some (some (.ref 319)) := by kernel_rfl
theorem g_law_deal : nsIn (KK w) mainGlobals "_law_deal" = some (some (.ref 291)) := by kernel_rfl
theorem g_law_is_word : nsIn (KK w) mainGlobals "_law_is_word" = some (some (.ref 340)) := by kernel_rfl
theorem g_law_laid : nsIn (KK w) mainGlobals "_law_laid" = some (some (.ref 326)) := by kernel_rfl
theorem g_law_paper_words : nsIn (KK w) mainGlobals "_law_paper_words" = some (some (.ref 312)) := by kernel_rfl
theorem g_law_pool : nsIn (KK w) mainGlobals "_law_pool" = some (some (.ref 284)) := by kernel_rfl
theorem g_law_rule_words : nsIn (KK w) mainGlobals "_law_rule_words" = some (some (.ref 305)) := by kernel_rfl
theorem g_law_spot : nsIn (KK w) mainGlobals "_law_spot" = some (some (.ref 352)) := by kernel_rfl
theorem g_law_stop : nsIn (KK w) mainGlobals "_law_stop" = some (some (.ref 345)) := by kernel_rfl
theorem g_law_term_words : nsIn (KK w) mainGlobals "_law_term_words" = some (some (.ref 298)) := by kernel_rfl
theorem g_law_wanted : nsIn (KK w) mainGlobals "_law_wanted" = some (some (.ref 333)) := by kernel_rfl
theorem g_wall : nsIn (KK w) mainGlobals "_wall" = some (some (.ref 21)) := by kernel_rfl
theorem g_enumerate : nsIn (KK w) mainGlobals "enumerate" = some none ∧ bootBuiltins "enumerate" = some (.type "enumerate") ∧ ("enumerate" : Str) ≠ "__name__" := ⟨by kernel_rfl, by kernel_rfl, by decide⟩
theorem g_int : nsIn (KK w) mainGlobals "int" = some none ∧ bootBuiltins "int" = some (.type "int") ∧ ("int" : Str) ≠ "__name__" := ⟨by kernel_rfl, by kernel_rfl, by decide⟩
theorem g_is_op : nsIn (KK w) mainGlobals "is_op" = some (some (.ref 95)) := by kernel_rfl
theorem g_is_variable : nsIn (KK w) mainGlobals "is_variable" = some (some (.ref 102)) := by kernel_rfl
theorem g_len : nsIn (KK w) mainGlobals "len" = some none ∧ bootBuiltins "len" = some (.builtin "len") ∧ ("len" : Str) ≠ "__name__" := ⟨by kernel_rfl, by kernel_rfl, by decide⟩
theorem g_list : nsIn (KK w) mainGlobals "list" = some none ∧ bootBuiltins "list" = some (.type "list") ∧ ("list" : Str) ≠ "__name__" := ⟨by kernel_rfl, by kernel_rfl, by decide⟩
theorem g_max : nsIn (KK w) mainGlobals "max" = some none ∧ bootBuiltins "max" = some (.builtin "max") ∧ ("max" : Str) ≠ "__name__" := ⟨by kernel_rfl, by kernel_rfl, by decide⟩
theorem g_parts : nsIn (KK w) mainGlobals "parts" = some (some (.ref 112)) := by kernel_rfl
theorem g_range : nsIn (KK w) mainGlobals "range" = some none ∧ bootBuiltins "range" = some (.type "range") ∧ ("range" : Str) ≠ "__name__" := ⟨by kernel_rfl, by kernel_rfl, by decide⟩
theorem g_read_paper : nsIn (KK w) mainGlobals "read_paper" = some (some (.ref 283)) := by kernel_rfl
theorem g_read_rule : nsIn (KK w) mainGlobals "read_rule" = some (some (.ref 276)) := by kernel_rfl
theorem g_read_term : nsIn (KK w) mainGlobals "read_term" = some (some (.ref 269)) := by kernel_rfl
theorem g_set : nsIn (KK w) mainGlobals "set" = some none ∧ bootBuiltins "set" = some (.type "set") ∧ ("set" : Str) ≠ "__name__" := ⟨by kernel_rfl, by kernel_rfl, by decide⟩
theorem g_sorted : nsIn (KK w) mainGlobals "sorted" = some none ∧ bootBuiltins "sorted" = some (.builtin "sorted") ∧ ("sorted" : Str) ≠ "__name__" := ⟨by kernel_rfl, by kernel_rfl, by decide⟩
theorem g_super : nsIn (KK w) mainGlobals "super" = some none ∧ bootBuiltins "super" = some (.type "super") ∧ ("super" : Str) ≠ "__name__" := ⟨by kernel_rfl, by kernel_rfl, by decide⟩
theorem g_tuple : nsIn (KK w) mainGlobals "tuple" = some none ∧ bootBuiltins "tuple" = some (.type "tuple") ∧ ("tuple" : Str) ≠ "__name__" := ⟨by kernel_rfl, by kernel_rfl, by decide⟩
theorem g_variables : nsIn (KK w) mainGlobals "variables" = some (some (.ref 107)) := by kernel_rfl
theorem g_words_of : nsIn (KK w) mainGlobals "words_of" = some (some (.ref 145)) := by kernel_rfl
end
end
section
variable [OSC]
/-- an exception on its way: its record, its payload, the frames that it may touch -/
structure Fly (h₀ h : Heap) (fr : Led) (C e de : Addr) (od : Obj) (new : Bool) : Prop where
  stays : ∀ b o, h₀.get? b = some o → h.get? b = some o
  fe : h₀.get? e = none
  fde : h₀.get? de = none
  rec_ : Ex3 fun vs sl tb => Al3 (h.get? e = some ⟨.ref C, some de, .fields vs, sl⟩) (vs[1]? = some tb) ((tb = .none ∧ new = true ∨ new = false ∧ Ex3 fun T oT ts => Al6 (tb = .ref T) (T ≠ e) (h₀.get? T = none) (h.get? T = some oT) (oT.data = .fields ts) (3 < ts.size)))
  pay : h.get? de = some od
  payf : ∀ u, od.data ≠ .fields u
  frs : ∀ p ∈ fr, (∃ sl, h.get? p.1 = some { p.2 with slots := sl }) ∧ h₀.get? p.1 = none ∧ (∀ u, p.2.data ≠ .fields u) ∧ p.1 ≠ de
  ctx : C = 88 → ∃ vs sl, h.get? e = some ⟨.ref C, some de, .fields vs, sl⟩ ∧ vs[2]? = some .none
noncomputable def Frs : List Env → Led → Prop
  | [], [] => True
  | env :: r, p :: q => env.scope.kind ≠ .module ∧ env.frame = some p.1 ∧ Frs r q
  | _, _ => False
section
variable {M : Model} {A : Around} {E : Value → Shared → Prop} {z : Shared} {h₀ h : Heap} {tk : Nat} {fr : Led} {C e de : Addr} {od : Obj} {new : Bool}
theorem fun_frames : ∀ {l : List Env} {fr : Led}, Frs l fr → (∀ p ∈ fr, (∃ sl, h.get? p.1 = some { p.2 with slots := sl }) ∧ h₀.get? p.1 = none ∧ (∀ u, p.2.data ≠ .fields u)) → h.FunFrames h₀ l
  | [], [], _, _ => trivial
  | env :: r, p :: q, ⟨a, b, c⟩, H => by
    obtain ⟨⟨sl, h1⟩, h2, h3⟩ := H p (.head _)
    exact ⟨a, ⟨p.1, _, b, h2, h1, h3⟩, fun_frames c fun x hx => H x (.tail _ hx)⟩
  | [], _ :: _, x, _ => x.elim
  | _ :: _, [], x, _ => x.elim
theorem frs_mem : ∀ {l : List Env} {fr : Led}, Frs l fr → ∀ b, b ∈ l.filterMap (·.frame) → ∃ p ∈ fr, p.1 = b
  | [], [], _, _, hb => by simp at hb
  | env :: r, p :: q, ⟨a, b, c⟩, x, hb => by
    rw [List.filterMap_cons, b] at hb
    rcases List.mem_cons.mp hb with rfl | hb
    · exact ⟨p, .head _, rfl⟩
    · obtain ⟨y, hy, e⟩ := frs_mem c x hb
      exact ⟨y, .tail _ hy, e⟩
  | [], _ :: _, x, _, _ => x.elim
  | _ :: _, [], x, _, _ => x.elim
theorem Fly.ff {l : List Env} (X : Fly h₀ h fr C e de od new) (F : Frs l fr) : h.FunFrames h₀ l := fun_frames F fun p hp => ⟨(X.frs p hp).1, (X.frs p hp).2.1, (X.frs p hp).2.2.1⟩
theorem fly_entry {env : Env} {outer : List Env} {L : Addr} {head : Value} {hadNext : Bool} {Q : Unit → Shared → Prop} (hA : A.frames = some (env :: outer)) (F : Frs (env :: outer) fr) (hL : env.frame = some L)
    (X : Fly h₀ h fr C e de od new) (hQ : ∀ h', Fly h₀ h' fr C e de od false → Q () (S z h' tk)) :
    wpAny M A (do let a ← frameOf env; let pl ← entryPlaceOf L hadNext; let b ← EntryCells.newEntry head a .none (rawInt L) .none pl; setField (.ref e) 1 b) Q E (S z h tk) := by
  obtain ⟨vs, sl, tb, he, h1, htb⟩ := X.rec_
  have hff := X.ff F
  refine wpAny_bind (wpAny_frameOf_fun hA hff hL fun h₁ hs₁ => ?_)
  refine wpAny_bind (wpAny_entryPlaceOf fun pl hpl => ?_)
  unfold EntryCells.newEntry newFields
  refine wpAny_bind (wpAny_newObj_type ?_ (hpl.sizeOk5 _ _ _ _ _))
  have noFr : ∀ b o, h.get? b = some o → (∀ p ∈ fr, p.1 ≠ b) → h₁.get? b = some o := fun b o hb hn => (hs₁.2.1 b fun hm => by
    obtain ⟨p, hp, e⟩ := frs_mem F b hm
    exact hn p hp e).trans hb
  have recNe : ∀ b o u, h.get? b = some o → o.data = .fields u → ∀ p ∈ fr, p.1 ≠ b := fun b o u hb hd p hp q => by
    obtain ⟨⟨sl', hx⟩, _, hnf, _⟩ := X.frs p hp
    rw [q, hb] at hx
    cases hx
    exact hnf u hd
  have he₁ := noFr e _ he (recNe e _ vs he rfl)
  have hpay₁ := noFr de _ X.pay fun p hp => (X.frs p hp).2.2.2
  have kb₁ : ∀ b o, h₀.get? b = some o → h₁.get? b = some o := fun b o hb => noFr b o (X.stays b o hb) fun p hp q => by rw [← q, (X.frs p hp).2.1] at hb; cases hb
  have sz : 1 < vs.size := (Array.getElem?_eq_some_iff.mp h1).1
  generalize htbo : ([head, .ref L, .none, rawInt L, .none] ++ (if pl.isEmpty then List.replicate 6 Value.none else pl)).toArray = ta
  have hta : 3 < ta.size := by rw [← htbo]; simp only [List.size_toArray, List.length_append, List.length_cons, List.length_nil]; omega
  have fresh : ∀ b o, h₁.get? b = some o → h₁.objs.size ≠ b := fun b o hb => Nat.ne_of_gt (Heap.lt_size hb)
  have he₂ := Heap.get?_push_of_some (h := h₁) { cls := .type "traceback", data := .fields ta } he₁
  refine wpAny_setField (s := S z _ tk) he₂ rfl sz (hQ _ ?_)
  have keep : ∀ b o, b ≠ e → h₁.get? b = some o → ((h₁.push { cls := .type "traceback", data := .fields ta }).update e (Obj.mapFields (·.setIfInBounds 1 (Value.ref h₁.objs.size)))).get? b = some o := fun b o hbe hb => by
    rw [Heap.get?_update_other _ _ (Ne.symm hbe)]
    exact Heap.get?_push_of_some _ hb
  have hne : ∀ b, h₀.get? b ≠ none → b ≠ e := fun b hb q => hb (q ▸ X.fe)
  refine ⟨fun b o hb => keep b o (fun q => by rw [q, X.fe] at hb; cases hb) (kb₁ b o hb), X.fe, X.fde, ⟨_, _, _, Heap.get?_update_self _ he₂ rfl, ?_, .inr ⟨rfl, h₁.objs.size, { cls := .type "traceback", data := .fields ta }, ta, rfl, fresh e _ he₁, ?_, ?_, rfl, hta⟩⟩, ?_, X.payf, fun p hp => ?_, fun hC => ?_⟩
  · show (vs.setIfInBounds 1 _)[1]? = _
    simp [sz]
  · cases q : h₀.get? h₁.objs.size with
    | none => rfl
    | some o => exact absurd rfl (fresh _ _ (kb₁ _ _ q))
  · rw [Heap.get?_update_other _ _ (Ne.symm (fresh e _ he₁))]
    exact Heap.get?_push_size _ rfl
  · exact keep de _ (fun q => by have hp := X.pay; rw [q, he] at hp; cases hp; exact X.payf vs rfl) hpay₁
  · obtain ⟨⟨sl', hx⟩, h2, h3, h4⟩ := X.frs p hp
    obtain ⟨sl'', hy⟩ := hs₁.2.2 _ _ hx
    refine ⟨⟨sl'', keep _ _ (fun q => ?_) hy⟩, h2, h3, h4⟩
    exact recNe e _ vs he rfl p hp q
  · obtain ⟨vs', sl', he', h2'⟩ := X.ctx hC
    rw [he] at he'
    cases he'
    refine ⟨_, _, Heap.get?_update_self _ he₂ rfl, ?_⟩
    show (vs.setIfInBounds 1 _)[2]? = _
    rw [Array.getElem?_setIfInBounds_ne (by decide)]
    exact h2'
theorem fly_note {env : Env} {outer : List Env} {L : Addr} {Q : Unit → Shared → Prop} (hA : A.frames = some (env :: outer)) (F : Frs (env :: outer) fr) (hL : env.frame = some L)
    (X : Fly h₀ h fr C e de od new) (hQ : ∀ h', Fly h₀ h' fr C e de od false → Q () (S z h' tk)) : wpAny M A (noteFrame (.ref e) env) Q E (S z h tk) := by
  obtain ⟨vs, sl, tb, he, h1, htb⟩ := X.rec_
  unfold noteFrame
  simp only [hL]
  refine wpAny_bind (wpAny_field he rfl h1 ?_)
  rcases htb with ⟨rfl, rfl⟩ | ⟨rfl, T, oT, ts, rfl, hTe, hT0, hT, hTd, hts⟩
  · rw [if_neg (by decide)]
    exact fly_entry hA F hL X hQ
  · rw [if_pos (show (Value.ref T != Value.none) = true from by simp)]
    refine wpAny_bind (wpAny_field hT hTd (Array.getElem?_eq_getElem hts) ?_)
    split
    · exact wpAny_pure (hQ h X)
    · refine wpAny_bind (wpAny_setField (s := S z h tk) hT hTd hts ?_)
      have hTf := Obj.data_mapFields hTd (·.setIfInBounds 3 Value.none)
      have other : ∀ b o, h.get? b = some o → (∀ u, o.data ≠ .fields u) ∨ b ≠ T → (h.update T (Obj.mapFields (·.setIfInBounds 3 Value.none))).get? b = some o := fun b o hb hn => (Heap.get?_update_other _ _ fun q => by
        rcases hn with hn | hn
        · rw [← q, hT] at hb; cases hb; exact hn _ hTd
        · exact hn q.symm).trans hb
      have X' : Fly h₀ (h.update T (Obj.mapFields (·.setIfInBounds 3 Value.none))) fr C e de od false := by
        refine ⟨fun b o hb => other b o (X.stays b o hb) (.inr fun q => by rw [q, hT0] at hb; cases hb), X.fe, X.fde, ⟨vs, sl, _, other e _ he (.inr (Ne.symm hTe)), h1, .inr ⟨rfl, T, _, _, rfl, hTe, hT0, Heap.get?_update_self _ hT (Obj.isFreed_of_fields hTf), hTf, by simpa using hts⟩⟩, other de _ X.pay (.inl X.payf), X.payf, fun p hp => ?_, fun hC => let ⟨vs', sl', he', h2'⟩ := X.ctx hC; ⟨vs', sl', other e _ he' (.inr (Ne.symm hTe)), h2'⟩⟩
        obtain ⟨⟨sl', hx⟩, h2, h3, h4⟩ := X.frs p hp
        exact ⟨⟨sl', other _ _ hx (.inl h3)⟩, h2, h3, h4⟩
      exact fly_entry hA F hL X' hQ
theorem fly_flight {v : Option Addr} {Q : Unit → Shared → Prop} (X : Fly h₀ h fr C e de od false) (hQ : ∀ h', Fly h₀ h' fr C e de od false → Q () (S z h' tk)) : wpAny M A (setFlight (.ref e) v) Q E (S z h tk) := by
  obtain ⟨vs, sl, tb, he, h1, htb⟩ := X.rec_
  rcases htb with ⟨rfl, hn⟩ | ⟨_, T, oT, ts, rfl, hTe, hT0, hT, hTd, hts⟩
  · cases hn
  · unfold setFlight
    refine wpAny_bind (wpAny_field he rfl h1 ?_)
    rw [if_pos (show (Value.ref T != Value.none) = true from by simp)]
    refine wpAny_setField (s := S z h tk) hT hTd hts (hQ _ ?_)
    have hTf := Obj.data_mapFields hTd (·.setIfInBounds 3 (v.elim Value.none fun f => rawInt f))
    have other : ∀ b o, h.get? b = some o → (∀ u, o.data ≠ .fields u) ∨ b ≠ T → (h.update T (Obj.mapFields (·.setIfInBounds 3 (v.elim Value.none fun f => rawInt f)))).get? b = some o := fun b o hb hn => (Heap.get?_update_other _ _ fun q => by
      rcases hn with hn | hn
      · rw [← q, hT] at hb; cases hb; exact hn _ hTd
      · exact hn q.symm).trans hb
    refine ⟨fun b o hb => other b o (X.stays b o hb) (.inr fun q => by rw [q, hT0] at hb; cases hb), X.fe, X.fde, ⟨vs, sl, _, other e _ he (.inr (Ne.symm hTe)), h1, .inr ⟨rfl, T, _, _, rfl, hTe, hT0, Heap.get?_update_self _ hT (Obj.isFreed_of_fields hTf), hTf, by simpa using hts⟩⟩, other de _ X.pay (.inl X.payf), X.payf, fun p hp => ?_, fun hC => let ⟨vs', sl', he', h2'⟩ := X.ctx hC; ⟨vs', sl', other e _ he' (.inr (Ne.symm hTe)), h2'⟩⟩
    obtain ⟨⟨sl', hx⟩, h2, h3, h4⟩ := X.frs p hp
    exact ⟨⟨sl', other _ _ hx (.inl h3)⟩, h2, h3, h4⟩
theorem Fly.tail {p : Addr × Obj} (X : Fly h₀ h (p :: fr) C e de od new) : Fly h₀ h fr C e de od new := ⟨X.stays, X.fe, X.fde, X.rec_, X.pay, X.payf, fun q hq => X.frs q (.tail _ hq), X.ctx⟩
theorem fly_leave {env : Env} {outer : List Env} {L : Addr} {p : Addr × Obj} {Q : Unit → Shared → Prop} (hA : A.frames = some (env :: outer)) (F : Frs (env :: outer) (p :: fr)) (hL : env.frame = some L)
    (X : Fly h₀ h (p :: fr) C e de od new) (hQ : ∀ h', Fly h₀ h' fr C e de od false → Q () (S z h' tk)) : wpAny M A (leaving env (.ref e)) Q E (S z h tk) := by
  unfold leaving
  exact wpAny_bind (fly_note hA F hL X fun h1 X1 => fly_flight X1 fun h2 X2 => hQ h2 X2.tail)
theorem fly_noted {env : Env} {outer : List Env} {L : Addr} (hA : A.frames = some (env :: outer)) (F : Frs (env :: outer) fr) (hL : env.frame = some L)
    (X : Fly h₀ h fr C e de od new) (hQ : ∀ h', Fly h₀ h' fr C e de od false → E (.ref e) (S z h' tk)) : notedBy M A env E (.ref e) (S z h tk) := fly_note hA F hL X hQ
theorem fly_back {env : Env} (X : Fly h₀ h fr C e de od false) (hQ : ∀ h', Fly h₀ h' fr C e de od false → E (.ref e) (S z h' tk)) : cameBackBy M A env E (.ref e) (S z h tk) := by
  obtain ⟨vs, sl, tb, he, h1, htb⟩ := X.rec_
  rcases htb with ⟨rfl, hn⟩ | ⟨_, T, oT, ts, rfl, hTe, hT0, hT, hTd, hts⟩
  · cases hn
  · unfold cameBackBy
    refine wpAny_bind (wpAny_field he rfl h1 ?_)
    rw [if_neg (show ¬ (Value.ref T == Value.none) = true from by simp)]
    exact fly_flight X hQ
end
end
section
variable [OSC]
section
variable (w : World)
theorem sub76 : subIn (KK w) (.ref 76) (.type "BaseException") = some true := rfl
theorem sub88 : subIn (KK w) (.ref 88) (.type "BaseException") = some true := rfl
theorem ty76 : typeIn (KK w) (.ref 76) = some (.type "type") := rfl
theorem ty88 : typeIn (KK w) (.ref 88) = some (.type "type") := rfl
end
section
variable {w : World} {mg mb : Str → Option Value} {h₀ h : Heap} {env : Env} {z : Shared} {tk : Nat} {A : Around} {E : Value → Shared → Prop} {pos : Pos}
/-- an own exception that was just made, at the raise -/
inductive Made (w : World) (v : Value) (s : Shared) (P : Prop) : Prop
  | mk (e : _) (C : _) (od : _) (vs : _) (sl : _) (hyp1 : v = .ref e) (hyp2 : (KK w).In s.heap) (hyp3 : s.heap.get? e = some ⟨.ref C, od, .fields vs, sl⟩) (hyp4 : vs[1]? = some .none) (hyp5 : subIn (KK w) (.ref C) (.type "BaseException") = some true) (hyp6 : typeIn (KK w) (.ref C) = some (.type "type")) (hyp7 : P) : Made w v s P
theorem raise_made {Q : Flow → Shared → Prop} {x : Sem Value} (hh : A.handled = none)
    (hx : wpAny (model PG w) A x (fun v s' => Made w v s' (E v s')) E (S z h tk)) :
    wpAny (model PG w) A (raiseStmt env (some x) none) Q E (S z h tk) := by
  unfold raiseStmt
  refine wpAny_bind (wpAny_mono hx (fun v s' hm => ?_) fun _ _ q => q)
  obtain ⟨e, C, od, vs, sl, rfl, K, he, h1, hs, ht, hE⟩ := hm
  have hty : Looks (model PG w) s'.heap (typeOf (.ref e)) (.ref C) := (Looks.ld he).andThen .now
  have hnt : ∀ {Q' : Bool → Shared → Prop} {E' : Value → Shared → Prop}, Q' false s' → wpAny (model PG w) A (isType (.ref e)) Q' E' s' := fun q => by
    unfold isType loadHead
    exact wpAny_bind (wpAny_loadPart he (wpAny_pure q))
  refine wpAny_bind (wpAny_pure (wpAny_bind (wpAny_holding ?_)))
  unfold excFromValue isExcClass
  refine wpAny_bind (wpAny_bind (hnt (wpAny_pure ?_)))
  rw [if_neg (by decide)]
  unfold isInstance
  refine wpAny_bind (wpAny_bind (hty.here ((looks_subIn K hs).here ?_)))
  rw [if_pos rfl]
  refine wpAny_pure ?_
  refine wpAny_bind (hnt ?_)
  rw [if_neg (by decide)]
  refine wpAny_bind ?_
  unfold raisedInstance
  refine wpAny_bind (hty.here (wpAny_bind ((looks_typeIn K ht).here ?_)))
  rw [if_pos (by decide)]
  refine wpAny_pure ?_
  unfold setFlight
  refine wpAny_bind (wpAny_bind (wpAny_field he rfl h1 ?_))
  rw [if_neg (by decide)]
  refine wpAny_pure ?_
  unfold raiseNew
  refine wpAny_bind (wpAny_handled ?_)
  rw [hh]
  exact wpAny_throw hE
theorem r_raise {Q : Flow → Shared → Prop} {x : Expr} (hh : A.handled = none)
    (hx : wpAny (model PG w) A (eval x env) (fun v s' => Made w v s' (E v s')) E (S z h tk)) :
    wpAny (model PG w) A (exec (.Raise (some x) none pos) env) Q E (S z h tk) := by
  rw [arm_exec_Raise]
  refine wpAny_bind (wpAny_standAt ?_)
  refine raise_made hh ?_
  refine wpAny_bind (wpAny_mono hx (fun v s' hm => wpAny_bind (wpAny_standAt (wpAny_pure hm))) fun _ _ q => q)
end
end
section
variable [OSC]
theorem mem_keep {h h' : Heap} {news : Led} (D : X.Mem h h' [] news) (b : Addr) (o : Obj) (e : h.get? b = some o) : h'.get? b = some o := D.keep b o e (Bool.or_true _)
/-- a fresh exception of an own class: its record, its dict -/
noncomputable abbrev excO (C : Addr) (de : Option Addr) (tp : Value) : Obj := ⟨.ref C, de, .fields #[tp, .none, .none, .none, .bool false, .none], #[]⟩
section
variable {w : World} {A : Around} {E Q : Value → Shared → Prop} {h : Heap} {g : Array GenState} {d : Drawn} {t : Nat} {os : OsState}
variable {nm q : Str} {C N : Addr} {bs bm : List Value} {hdct : Bool} {sn : List Str} {sub : List Value} {ab : Bool} {col : Option Bool} {dd : Option Addr} {k0 k1 k2 k3 k5 : Option Value}
/-- __new__ of an own exception class -/
theorem exc_new {rest : List Value} (hC : h.get? C = some (excClassObj nm q C N bs bm hdct sn sub ab col dd k0 k1 k2 k3 k5 "Exception.__new__"))
    (hm : bm.contains (.type "Exception") = true ∧ bm.contains (.type "AttributeError") = false ∧ bm.contains (.type "NameError") = false) (hrest : rest.length ≤ sizeLine)
    (hq : ∀ h' e tp, (∀ b o, h.get? b = some o → h'.get? b = some o) → h.get? e = none → h'.get? e = some (excO C none tp) → Q (.ref e) ⟨h', g, d, t, os⟩) :
    wpAny (model PG w) A (call (.builtin "Exception.__new__") (.ref C :: rest)) Q E ⟨h, g, d, t, os⟩ := by
  have Fn := PySem.F.excBase_Exception
  have hends := Fn.ends
  have hcB : (Value.ref C :: bm).contains (.type "Exception") = true := by rw [List.contains_cons, hm.1, Bool.or_true]
  have hcA : (Value.ref C :: bm).contains (.type "AttributeError") = false := by rw [List.contains_cons, hm.2.1]; rfl
  have hcN : (Value.ref C :: bm).contains (.type "NameError") = false := by rw [List.contains_cons, hm.2.2]; rfl
  refine wpAny_call (codeAny_call_builtin_code (Code.quiet_builtin _ Fn.quiet) (wpAny_check_new_subU Fn hm.1 .base hC ?_))
  refine PySem.codeAny_builtinAt Fn.entry ?_
  unfold Builtin.«BaseException.__new__»
  refine PySem.wpAt_bind ?_
  show PySem.wpAt _ _ _ (stack >>= _) _ _ _
  refine PySem.wpAt_bind (PySem.wpAt_stack fun p below => PySem.wpAt_of_wpAny ?_)
  wp_walk
  refine PySem.wpAt_of_wpAny ?_
  rw [Fn.owner]
  repeat (first | with_reducible refine wpAny_madeHere_exc Fn.canon hC ?_ | with_reducible refine wpAny_loadPart_at hC ?_ | (with_reducible refine wpAny_isSubtype_exc hC ?_; first | rw [hcB] | rw [hcA] | rw [hcN]) | wp_step)
  refine hq _ _ _ (fun b o e => Heap.get?_push_of_some _ (Heap.get?_push_of_some _ e)) ?_ (Heap.get?_push_size _ rfl)
  cases e : h.get? (h.push { cls := .type "tuple", data := .seq rest.toArray }).objs.size with
  | none => rfl
  | some o => exact absurd (Heap.lt_size e) (by rw [Heap.size_push]; exact Nat.not_lt.mpr (Nat.le_succ _))
end
theorem new76 {w : World} {h : Heap} {z : Shared} {tk : Nat} {A : Around} {E Q : Value → Shared → Prop} {s : Str} {t t' : Tok} {k : Int}
    (K : (Mine.hd.heap_1 w.params).In h) (hA : A.depth < 900) (hU : A.units < 8000)
    (hq : ∀ h' tk' e tp, (∀ b o, h.get? b = some o → h'.get? b = some o) → h.get? e = none → h'.get? e = some (excO 76 none tp) → Q (.ref e) (S z h' tk')) :
    wpAny (model PG w) A (call (.builtin "Exception.__new__") [.ref 76, .str s t, .int k t']) Q E (S z h tk) :=
  exc_new (K 76 _ rfl) ⟨by decide +kernel, by decide +kernel, by decide +kernel⟩ (by show 2 ≤ 2 ^ 24; decide) fun h' e tp => hq h' _ e tp
theorem new88 {w : World} {h : Heap} {z : Shared} {tk : Nat} {A : Around} {E Q : Value → Shared → Prop} {s : Str} {t : Tok}
    (K : (Mine.hd.heap_1 w.params).In h) (hA : A.depth < 900) (hU : A.units < 8000)
    (hq : ∀ h' tk' e tp, (∀ b o, h.get? b = some o → h'.get? b = some o) → h.get? e = none → h'.get? e = some (excO 88 none tp) → Q (.ref e) (S z h' tk')) :
    wpAny (model PG w) A (call (.builtin "Exception.__new__") [.ref 88, .str s t]) Q E (S z h tk) :=
  exc_new (K 88 _ rfl) ⟨by decide +kernel, by decide +kernel, by decide +kernel⟩ (by show 1 ≤ 2 ^ 24; decide) fun h' e tp => hq h' _ e tp
noncomputable def Stop (P : Prop) : Prop := P
theorem stop_call {M : Model} {A : Around} {E : Value → Shared → Prop} {s : Shared} {f : Value} {pos : List Value} {kw : List (Str × Value)} {Q : Value → Shared → Prop} (h : Stop (wpAny M A (call f pos kw) Q E s)) : wpAny M A (call f pos kw) Q E s := h
section
variable {w : World} {h : Heap} {z : Shared} {tk : Nat} {A : Around} {E Q : Value → Shared → Prop} {C fI : Addr} {rest : List Value}
set_option maxHeartbeats 1000000 in
/-- an own exception class called: its __new__, then its __init__ -/
theorem exc_make (K : (KK w).In h) {oc : Value} {od : Option Addr} {cd : ClassData} {sl : Array (Option Value)} (hC : (KK w).lookup C = some ⟨oc, od, .cls cd, sl⟩) (e4 : cd.mro.isEmpty = false)
    (hcall : specialIn (KK w) (.ref C) "__call__" = some (some (.builtin "type.__call__"))) (htyp : instIn (KK w) (.ref C) (.type "type") = some true)
    (made : Looks (model PG w) h (Bind.madeBy (.ref C)) (some "Exception.__new__")) (hself : subIn (KK w) (.ref C) (.ref C) = some true)
    (hi : findIn (KK w) (.ref C) "__init__" = some (some (.ref fI))) (hf : typeIn (KK w) (.ref fI) = some (.type "function"))
    (hnew : wpAny (model PG w) (A.under (.builtin "type.__call__" ⟨.ref C :: rest, []⟩)) (call (.builtin "Exception.__new__") (.ref C :: rest))
      (fun v s' => Ex2 fun e tp => Al4 (v = .ref e) ((∀ b o, h.get? b = some o → s'.heap.get? b = some o)) (s'.heap.get? e = some (excO C none tp)) (wpAny (model PG w) (A.under (.builtin "type.__call__" ⟨.ref C :: rest, []⟩)) (call (.ref fI) (.ref e :: rest)) (fun r s'' => r = .none ∧ Q (.ref e) s'') E s')) E (S z h tk)) :
    wpAny (model PG w) A (call (.ref C) rest) Q E (S z h tk) := by
  have hh := K _ _ hC
  have call_ : Looks (model PG w) h (specialOf (.ref C) "__call__") (some (.builtin "type.__call__")) := looks_specialIn K hcall
  have typ := looks_instIn (M := model PG w) K htyp
  refine wpAny_call ?_
  refine codeAny_of_tree ?_
  show wpAny _ _ (callAny (.ref C) _) _ _ _
  refine nd_load hh ?_
  show wpAny _ _ (callAny.viaDunder (.ref C) _) _ _ _
  unfold callAny.viaDunder
  refine wpAny_bind (call_.at ?_)
  dsimp only
  rw [tc_bind]
  refine wpAny_bind (wpAny_pure (wpAny_bind (wpAny_pure ?_)))
  refine wpAny_pure (a := Fin.again (.call (.builtin "type.__call__") ⟨.ref C :: rest, []⟩)) (And.intro rfl ?_)
  refine codeAny_call_builtin_at (Code.quiet_builtin _ (by decide +kernel)) entry_typeCall ?_
  have hag := tc_args (.ref C) rest []
  with_reducible refine check_slot tc_kind tc_split ?_ hag ?_
  · exact typ
  unfold Builtin.«type.__call__»
  have hm : Looks (model PG w) h (mroOf (.ref C)) cd.mro := ((Looks.ld (part := none) hh).andThen .now).andThen .now
  repeat (first | with_reducible refine stop_call ?_ | simp only [e4, Bool.false_eq_true, if_false] | lk)
  unfold Stop
  refine wpAny_mono hnew (fun v s' hv => ?_) (fun _ _ x => x)
  obtain ⟨e, tp, rfl, k, he, hrest⟩ := hv
  have K' : (KK w).In s'.heap := K.keeps k
  have t1 : Looks (model PG w) s'.heap (typeOf (.ref e)) (.ref C) := (Looks.ld he).andThen .now
  have s1 : Looks (model PG w) s'.heap (isSubtype (.ref C) (.ref C)) true := looks_subIn K' hself
  have i1 : Looks (model PG w) s'.heap (typeLookup (.ref C) "__init__") (some (.ref fI)) := looks_findIn K' hi
  have b1 := bind_fn (M := model PG w) K' (.ref e) hf
  obtain ⟨hx, g, d, t, os⟩ := s'
  unfold isInstance callSpecial? specialOf
  repeat (first | with_reducible refine stop_call ?_ | lk)
  unfold Stop
  refine wpAny_mono hrest (fun r s'' hr => ?_) (fun _ _ x => x)
  obtain ⟨rfl, hq⟩ := hr
  obtain ⟨hy, g', d', t', os'⟩ := s''
  repeat (first | exact hq | lk)
end
inductive PayT (od : Obj) (k : Int) : Prop
  | mk (h1 : _) (h2 : _) (k1 : _) (k2 : _) (v : _) (t : _) (n : _) (hyp1 : od = dictOf [⟨h1, .str "what" k1, v⟩, ⟨h2, .str "spot" k2, .int k t⟩] n) : PayT od k
inductive PayR (od : Obj) (s : Str) : Prop
  | mk (h1 : _) (k1 : _) (t : _) (n : _) (hyp1 : od = dictOf [⟨h1, .str "what" k1, .str s t⟩] n) : PayR od s
theorem PayT.nf {od : Obj} {k : Int} (h : PayT od k) (u : Array Value) : od.data ≠ .fields u := by obtain ⟨_, _, _, _, _, _, _, rfl⟩ := h; intro e; cases e
theorem PayR.nf {od : Obj} {s : Str} (h : PayR od s) (u : Array Value) : od.data ≠ .fields u := by obtain ⟨_, _, _, _, rfl⟩ := h; intro e; cases e
end
section
variable [OSC]
theorem al76 (w : World) : alongIn (KK w) "__init__" [.type "Exception", .type "BaseException", .type "object"] = some (some (.builtin "Exception.__init__")) := by kernel_rfl
theorem al76b (w : World) : alongIn (KK w) "__init__" [.ref 47, .type "Exception", .type "BaseException", .type "object"] = some (some (.ref 37)) := by kernel_rfl
theorem ty_ei : typeOf (.builtin "Exception.__init__") = pure (.type "wrapper_descriptor") := by show builtinType _ = _; rw [builtinType_eq_fast]; kernel_rfl
theorem slot_wd_get : Slot "wrapper_descriptor" "__get__" "wrapper_descriptor.__get__" := .of (owner := "wrapper_descriptor") (n := "__get__") (by rw [typeLookup_type, builtinLookup_eq_fast]; kernel_rfl) (by decide +kernel) (by decide +kernel) (by decide +kernel)
  (by first | exact .inl (by decide +kernel) | exact .inr (by decide +kernel)) (by rw [isSubtype_type]; kernel_rfl)
theorem entry_wd_get : entryFor table "wrapper_descriptor.__get__" = some Builtin.«wrapper_descriptor.__get__» := entryFor_of_tree (by kernel_rfl)
theorem args_wd_get (a b c : Value) : argsOk "wrapper_descriptor.__get__" ⟨[a, b, c], []⟩ := by unfold argsOk; kernel_rfl
theorem mro76 (w : World) : (clsIn (KK w) 76).map (·.mro) = some [.ref 76, .ref 47, .type "Exception", .type "BaseException", .type "object"] := by kernel_rfl
end
section
variable [OSC]
theorem wdg {w : World} {h : Heap} {z : Shared} {tk : Nat} {A : Around} {E Q : Value → Shared → Prop} {C e : Addr} {de : Option Addr} {tp : Value}
    (K : (KK w).In h) (hs : subIn (KK w) (.ref C) (.type "Exception") = some true)
    (he : h.get? e = some ⟨.ref C, de, .fields #[tp, .none, .none, .none, .bool false, .none], #[]⟩)
    (hq : ∀ h' tk' mw, (∀ b o, h.get? b = some o → h'.get? b = some o) → h.get? mw = none → h'.get? mw = some ⟨.type "method-wrapper", none, .fields #[.builtin "Exception.__init__", .ref e], #[]⟩ → Q (.ref mw) (S z h' tk')) :
    wpAny (model PG w) A (call (.builtin "wrapper_descriptor.__get__") [.builtin "Exception.__init__", .ref e, .ref C]) Q E (S z h tk) := by
  have L0 : Looks (model PG w) h (typeOf (.ref e)) (.ref C) := (Looks.ld he).andThen .now
  have LS : Looks (model PG w) h (isInstance (.ref e) (.type "Exception")) true := L0.andThen (looks_subIn K hs)
  refine wpAny_call (codeAny_call_builtin (b := Builtin.«wrapper_descriptor.__get__») (by decide +kernel) (entryFor_of_tree (by kernel_rfl)) ?_)
  with_reducible refine check_slot (by decide +kernel) (show splitId "wrapper_descriptor.__get__" = some ("wrapper_descriptor", "__get__") by decide +kernel) ?_ (by unfold argsOk; kernel_rfl) ?_
  · exact Looks.of_pure (by kernel_rfl)
  unfold Builtin.«wrapper_descriptor.__get__»
  refine wpAny_bind (wpAny_pure ?_)
  refine wpAny_bind (wpAny_bind (wpAny_pure (wpAny_bind (LS.at (wpAny_pure ?_)))))
  unfold newFields
  refine wpAny_bind (wpAny_newObj_type (wpAny_pure ?_))
  refine hq _ _ _ (fun b o e => Heap.get?_push_of_some _ e) ?_ (Heap.get?_push_size _ rfl)
  cases e' : h.get? h.objs.size with
  | none => rfl
  | some o => exact absurd (Heap.lt_size e') (Nat.lt_irrefl _)
end
section
variable [OSC]
theorem e76_set (w : World) : findIn (KK w) (.ref 76) "__setattr__" = some (some (.builtin "object.__setattr__")) := by kernel_rfl
theorem e76_tw (w : World) : takerIn (KK w) 76 "what" = some none := by kernel_rfl
theorem e76_ts (w : World) : takerIn (KK w) 76 "spot" = some none := by kernel_rfl
theorem e76_hd (w : World) : hasDictIn (KK w) 76 = true := by kernel_rfl
end
section
variable [OSC]
open Builtin Builtin.ObjectAttr
theorem store_in {w : World} {A : Around} {E : Value → Shared → Prop} {s : Shared} {dx : Addr} {es : List DictEntry} {n : Nat} {name : Str} {tk : Tok} {v : Value} {Q : Fin → Shared → Prop} (D : s.heap.get? dx = some (dictOf es n)) (hl : (getL name es).isSome = true)
    (hz : (putL name (PyData.keyHash w.params name) (.str name s.toks) v es).length ≤ 1000)
    (h : ∀ h', Heap.SameBut dx s.heap h' → h'.get? dx = some (dictOf (putL name (PyData.keyHash w.params name) (.str name s.toks) v es) (putN name es n)) → Q (.done (.ret .none)) { s with heap := h', toks := s.toks + 1 }) :
    wpAny (model PG w) A (storeInDict dx (.str name tk) name v) Q E s := by
  unfold storeInDict newKeyGuard
  refine wpAny_bind (wpAny_pure (wpAny_bind ?_))
  have D' : (s.heap.update dx (Obj.putName name (PyData.keyHash w.params name) (.str name s.toks) v)).get? dx = some (dictOf (putL name (PyData.keyHash w.params name) (.str name s.toks) v es) (putN name es n)) := by
    rw [Heap.get?_update_self _ D (by rw [putName_dict]; rfl), putName_dict]
  unfold nsSet
  refine wpAny_bind (wpAny_bind (wpAny_askSetting (wpAny_pure (wpAny_bind (wpAny_mkText (wpAny_bind (wpAny_loadPart D ?_)))))))
  have c : (!es.toArray.any (·.key.isStr name) && es.toArray.any (·.refKey)) = false := by
    rw [← Array.any_toList, ← Array.any_toList]
    show (!es.any (·.key.isStr name) && es.any (·.refKey)) = false
    unfold getL at hl
    cases he : es.find? (·.key.isStr name) with
    | some en => rw [List.any_eq_true.mpr ⟨en, List.mem_of_find?_eq_some he, List.find?_some he⟩]; rfl
    | none =>
      rw [he] at hl
      cases hr : es.any (·.refKey) with
      | false => simp
      | true => rw [hr] at hl; simp at hl
  dsimp only [dictOf]
  rw [aRefKeyMayBeTheName_at, c]
  refine wpAny_updatePart D ?_
  refine wpAny_bind (wpAny_lookBehind D' (pastItsLine_dict (by rw [List.size_toArray, sizeLine_eq]; omega)) ?_)
  exact wpAny_pure (h _ (Heap.SameBut.update ..) D')
/-- an own exception's class: what a store asks of it -/
structure ExcC (w : World) (C : Addr) : Prop where
  cls : ∃ cd, Al5 (clsIn (KK w) C = some cd) (cd.hasDict = true) ((∀ self, refuseLoop self "__setattr__" cd.mro = pure ())) (cd.mro.contains (.type "object") = true) (cd.mro.isEmpty = false)
  set : findIn (KK w) (.ref C) "__setattr__" = some (some (.builtin "object.__setattr__"))
  what : takerIn (KK w) C "what" = some none
  spot : takerIn (KK w) C "spot" = some none
theorem exc76 (w : World) : ExcC w 76 := by
  refine ⟨?_, by kernel_rfl, by kernel_rfl, by kernel_rfl⟩
  cases hc : clsIn (KK w) 76 with
  | none =>
    have := mro76 w
    rw [hc] at this; cases this
  | some cd =>
    have hm := mro76 w
    rw [hc] at hm
    have hm : cd.mro = [.ref 76, .ref 47, .type "Exception", .type "BaseException", .type "object"] := Option.some.inj hm
    have hd : hasDictIn (KK w) 76 = true := by kernel_rfl
    refine ⟨cd, rfl, ?_, fun self => ?_, by rw [hm]; decide, by rw [hm]; rfl⟩
    · unfold hasDictIn at hd; rw [hc] at hd; exact hd
    · rw [hm, refuseLoop_ref, refuseLoop_ref]; exact PySem.F.store_Exception.passes self
theorem mro88 (w : World) : (clsIn (KK w) 88).map (·.mro) = some [.ref 88, .ref 47, .type "Exception", .type "BaseException", .type "object"] := by kernel_rfl
theorem exc88 (w : World) : ExcC w 88 := by
  refine ⟨?_, by kernel_rfl, by kernel_rfl, by kernel_rfl⟩
  cases hc : clsIn (KK w) 88 with
  | none =>
    have := mro88 w
    rw [hc] at this; cases this
  | some cd =>
    have hm := mro88 w
    rw [hc] at hm
    have hm : cd.mro = [.ref 88, .ref 47, .type "Exception", .type "BaseException", .type "object"] := Option.some.inj hm
    have hd : hasDictIn (KK w) 88 = true := by kernel_rfl
    refine ⟨cd, rfl, ?_, fun self => ?_, by rw [hm]; decide, by rw [hm]; rfl⟩
    · unfold hasDictIn at hd; rw [hc] at hd; exact hd
    · rw [hm, refuseLoop_ref, refuseLoop_ref]; exact PySem.F.store_Exception.passes self
section
variable {w : World} {A : Around} {s : Shared} {R : Result → Shared → Prop} {C x : Addr} {tp : Value} {de : Option Addr}
theorem exc_osa {name : Str} {tk : Tok} {v : Value} (X : (KK w).In s.heap) (EC : ExcC w C) (ht : takerIn (KK w) C name = some none) (hx : s.heap.get? x = some (excO C de tp))
    (h : ∀ b, wpAny (model PG w) A.in1 (storeInOwnDict (.ref x) (.ref C) (.str name tk) name v b)
      (fun fin s' => match fin with | .done f => R (.ok f) s' | .again c' => c'.quiet = true ∧ codeAny (model PG w) A c' R s') (fun e s' => R (.error e) s') s) :
    codeAny (model PG w) A (.call (.builtin "object.__setattr__") ⟨[.ref x, .str name tk, v], []⟩) R s := by
  have SF := PySem.F.store_object
  obtain ⟨cd, hc, hd, hp, ho, ne⟩ := EC.cls
  have typ : Looks (model PG w) s.heap (typeOf (.ref x)) (.ref C) := (Looks.ld hx).andThen .now
  have sub : Looks (model PG w) s.heap (isInstance (.ref x) (.type "object")) true := typ.andThen (looks_mroIn X (by unfold mroIn; rw [hc, Option.bind_some, if_neg (by rw [ne]; decide), ho]))
  refine codeAny_call_builtin SF.slot.plain SF.entry (@check_slot (model PG w) _ _ s "object.__setattr__" "object" "__setattr__" (.ref x) [.str name tk, v] [] _ SF.kind SF.split sub (SF.args (.ref x) (.str name tk) v) ?_)
  obtain ⟨attr, ha, hr⟩ := Option.bind_eq_some_iff.mp ht
  have hm : Looks (model PG w) s.heap (mroOf (.ref C)) cd.mro := (looks_clsIn X hc).andThen .now
  have L3 : Looks (model PG w) s.heap (storeTaker? attr) none := by
    cases attr with
    | none => exact .now
    | some a =>
      obtain ⟨b, hb, hb'⟩ := Option.map_eq_some_iff.mp hr
      refine (looks_takesIn X hb).andThen ?_
      cases b <;> first | exact .now | cases hb'
  rw [osa_eq, refuse_eq]
  refine wpAny_bind (wpAny_bind (typ.here (wpAny_bind (hm.here ?_))))
  rw [hp]
  refine wpAny_pure (wpAny_bind (typ.here (wpAny_bind ((looks_findIn X ha).here (wpAny_bind (L3.here ?_))))))
  exact h _
/-- the first attribute on an own exception: its dict is made -/
theorem exc_store0 {E : Value → Shared → Prop} {name : Str} {tk : Tok} {v : Value} {b : Bool} {Q : Fin → Shared → Prop} (X : (KK w).In s.heap) (EC : ExcC w C) (hx : s.heap.get? x = some (excO C none tp))
    (h : ∀ h', (∀ a o, a ≠ x → s.heap.get? a = some o → h'.get? a = some o) → h'.get? x = some (excO C (some s.heap.objs.size) tp) →
      h'.get? s.heap.objs.size = some (dictOf [⟨PyData.keyHash w.params name, .str name s.toks, v⟩] (putN name [] 0)) → Q (.done (.ret .none)) { s with heap := h', toks := s.toks + 1 }) :
    wpAny (model PG w) A (storeInOwnDict (.ref x) (.ref C) (.str name tk) name v b) Q E s := by
  obtain ⟨cd, hc, hd, -⟩ := EC.cls
  obtain ⟨hh, g, d, t, os⟩ := s
  have hxs : x ≠ hh.objs.size := Nat.ne_of_lt (Heap.lt_size hx)
  refine wpAny_bind (wpAny_pure (wpAny_bind (wpAny_bind (wpAny_loadPart hx (wpAny_bind ((looks_clsIn X hc).here ?_))))))
  rw [hd]
  have hx₁ : (hh.push { cls := .type "dict", data := .dict #[] }).get? x = some (excO C none tp) := Heap.get?_push_of_some _ hx
  refine wpAny_bind (wpAny_alloc' ?_)
  refine wpAny_bind (wpAny_update' hx₁ ?_)
  refine wpAny_pure ?_
  have hgd : ((hh.push { cls := .type "dict", data := .dict #[] }).update x fun o => { cls := o.cls, dict := some hh.objs.size, data := o.data, slots := o.slots }).get? hh.objs.size = some (dictOf [] 0) :=
    (Heap.get?_update_ne _ _ _ _ hxs.symm).trans (Heap.get?_push_at rfl rfl)
  show wpAny _ _ (storeInDict hh.objs.size (.str name tk) name v) _ _ _
  refine store_in hgd rfl (by show 1 ≤ 1000; decide) fun h' hs hd' => ?_
  have hx' : h'.get? x = some (excO C (some hh.objs.size) tp) := by
    refine (hs.2 x hxs).trans (Heap.get?_update_self _ hx₁ rfl)
  refine h h' (fun a o ha e => ?_) hx' hd'
  exact (hs.2 a (Nat.ne_of_lt (Heap.lt_size e))).trans ((Heap.get?_update_ne _ _ _ _ ha).trans (Heap.get?_push_of_some _ e))
/-- one more attribute on an own exception -/
theorem exc_store1 {E : Value → Shared → Prop} {name : Str} {tk : Tok} {v : Value} {b : Bool} {Q : Fin → Shared → Prop} {dx : Addr} {es : List DictEntry} {n : Nat} (X : (KK w).In s.heap) (EC : ExcC w C) (hx : s.heap.get? x = some (excO C (some dx) tp))
    (hdx : s.heap.get? dx = some (dictOf es n)) (hl : (getL name es).isSome = true) (hz : (putL name (PyData.keyHash w.params name) (.str name s.toks) v es).length ≤ 1000)
    (h : ∀ h', (∀ a o, a ≠ dx → s.heap.get? a = some o → h'.get? a = some o) → h'.get? dx = some (dictOf (putL name (PyData.keyHash w.params name) (.str name s.toks) v es) (putN name es n)) → Q (.done (.ret .none)) { s with heap := h', toks := s.toks + 1 }) :
    wpAny (model PG w) A (storeInOwnDict (.ref x) (.ref C) (.str name tk) name v b) Q E s := by
  obtain ⟨cd, hc, hd, -⟩ := EC.cls
  refine wpAny_bind (wpAny_pure (wpAny_bind (wpAny_bind (wpAny_loadPart hx (wpAny_bind ((looks_clsIn X hc).here ?_))))))
  rw [hd]
  refine wpAny_pure (a := some dx) ?_
  show wpAny _ _ (storeInDict dx (.str name tk) name v) _ _ _
  refine store_in hdx hl hz fun h' hs hd' => ?_
  exact h h' (fun a o ha e => (hs.2 a ha).trans e) hd'
/-- setattr on an own exception -/
theorem exc_setattr {E : Value → Shared → Prop} {name : Str} {v : Value} {Q : Unit → Shared → Prop} (X : (KK w).In s.heap) (EC : ExcC w C) (hx : s.heap.get? x = some (excO C de tp))
    (h : codeAny (model PG w) A (.call (.builtin "object.__setattr__") ⟨[.ref x, .str name s.toks, v], []⟩) (fun r s' => match r with | .ok (.ret _) => Q () s' | .ok _ => False | .error e => E e s') { s with toks := s.toks + 1 }) :
    wpAny (model PG w) A (setAttr (.ref x) name v) Q E s := by
  have typ : Looks (model PG w) s.heap (typeOf (.ref x)) (.ref C) := (Looks.ld hx).andThen .now
  refine wpAny_bind (wpAny_mkText (wpAny_bind (wpAny_bind (wpAny_bind (typ _ _ _ _ (fun _ _ e => e) (looks_findIn X EC.set _ _ _ _ (fun _ _ e => e) (wpAny_holding ?_)))))))
  rw [PySem.F.store_object.slot.bind]
  refine wpAny_bind (wpAny_pure (wpAny_bind (wpAny_call (codeAny_mono h fun r s' z => ?_))))
  rcases r with e | (v | _ | _ | _) <;> first | exact z | exact wpAny_pure (wpAny_pure z)
end
end
section
variable [OSC]
noncomputable abbrev supO (D x C : Addr) : Obj := { cls := .type "super", dict := none, data := .fields #[.ref D, .ref x, .ref C], slots := #[] }
noncomputable abbrev mwO (x : Addr) : Obj := ⟨.type "method-wrapper", none, .fields #[.builtin "Exception.__init__", .ref x], #[]⟩
theorem nothird (w : World) : nsIn (KK w) cStatics "thirdparty.any" = some none := by kernel_rfl
section
variable {w : World} {A : Around} {E : Value → Shared → Prop} {h : Heap} {g : Array GenState} {d : Drawn} {t : Nat} {os : OsState}
set_option maxHeartbeats 1000000 in
theorem sg_builtin {so x C : Addr} {l₀ l : List Value} {tkn : Tok} {Q : Fin → Shared → Prop} (K : (KK w).In h)
    (hso : h.get? so = some (supO 47 x C)) (hC : Looks (model PG w) h (mroOf (.ref C)) l₀) (hl : (l₀.dropWhile (· != .ref 47)).drop 1 = l) (al : alongIn (KK w) "__init__" l = some (some (.builtin "Exception.__init__"))) (hxC : x ≠ C)
    (hw : ∀ {Q' E' : Value → Shared → Prop}, (∀ h' tk' mw, (∀ b o, h.get? b = some o → h'.get? b = some o) → h.get? mw = none → h'.get? mw = some (mwO x) → Q' (.ref mw) ⟨h', g, d, tk', os⟩) → wpAny (model PG w) A (call (.builtin "wrapper_descriptor.__get__") [.builtin "Exception.__init__", .ref x, .ref C]) Q' E' ⟨h, g, d, t, os⟩)
    (hq : ∀ h' tk' mw, (∀ b o, h.get? b = some o → h'.get? b = some o) → h.get? mw = none → h'.get? mw = some (mwO x) → Q (.done (.ret (.ref mw))) ⟨h', g, d, tk', os⟩) :
    wpAny (model PG w) A (Builtin.«super.__getattribute__» ⟨[.ref so, .str "__init__" tkn], []⟩) Q E ⟨h, g, d, t, os⟩ := by
  have hlk := slot_wd_get.lookup
  have hne : (Value.ref x == Value.ref C) = false := by simp [hxC]
  have hdt : (supO 47 x C).data = .fields #[.ref 47, .ref x, .ref C] := rfl
  have f0 : (#[.ref 47, .ref x, .ref C] : Array Value)[0]? = some (.ref 47) := rfl
  have f1 : (#[.ref 47, .ref x, .ref C] : Array Value)[1]? = some (.ref x) := rfl
  have f2 : (#[.ref 47, .ref x, .ref C] : Array Value)[2]? = some (.ref C) := rfl
  have hn : (("__init__" : Str) == ("__class__" : Str)) = false := by decide
  have hno := looks_opaque (M := model PG w) (C := C) K (nothird w)
  unfold Builtin.«super.__getattribute__»
  repeat (first
    | (with_reducible refine wpAny_field hso hdt f0 ?_) | (with_reducible refine wpAny_field hso hdt f1 ?_) | (with_reducible refine wpAny_field hso hdt f2 ?_)
    | (with_reducible refine ks_wpAny_notOpaque hno ?_)
    | (with_reducible refine Looks.at hC ?_; rw [hl])
    | (refine ks_forIn_along K (fun _ _ => rfl) rfl ?_ al)
    | (with_reducible refine wpAny_of_eq ty_ei ?_)
    | (with_reducible refine hw fun h' tk' mw k1 k2 k3 => ?_)
    | (simp only [hn, hne, Bool.or_false, Bool.false_eq_true, if_false])
    | wp_step
    | dsimp only)
  all_goals exact hq _ _ _ k1 k2 k3
end
end
section
variable [OSC]
open Builtin
theorem cls76 (w : World) : ∃ oc od cd sl, (KK w).lookup 76 = some ⟨oc, od, .cls cd, sl⟩:= ⟨_, _, _, _, by with_unfolding_all rfl⟩
theorem cls88 (w : World) : ∃ oc od cd sl, (KK w).lookup 88 = some ⟨oc, od, .cls cd, sl⟩:= ⟨_, _, _, _, by with_unfolding_all rfl⟩
theorem bound_ei {M : Model} {A : Around} {E : Value → Shared → Prop} {h : Heap} {g : Array GenState} {d : Drawn} {t : Nat} {os : OsState} {x C : Addr} {de : Option Addr} {tp : Value} {oc : Value} {od : Option Addr} {cd : ClassData} {sl : Array (Option Value)} {rest : List Value} {Q : Unit → Shared → Prop}
    (hC : h.get? C = some ⟨oc, od, .cls cd, sl⟩) (he : h.get? x = some (excO C de tp)) (hq : Q () ⟨h, g, d, t, os⟩) : wpAny M A (checkBoundCall "Exception.__init__" ⟨.ref x :: rest, []⟩) Q E ⟨h, g, d, t, os⟩ := by
  have F := PySem.F.excBase_Exception
  have hshort := F.noStar
  simp only [checkBoundCall, F.initKind, F.initRow]
  repeat (first | (with_reducible refine wpAny_loadPart_at he ?_) | with_reducible refine wpAny_loadPart_at hC ?_ | wp_step)
  refine wpAny_onRaise ?_
  rw [show ∀ (a b : String) (n : Nat), Bind.check ⟨.positional, "*", "Exception", .self, [⟨"args", .varPos, false⟩]⟩ a b n (List.map (fun x => x.fst) ({ pos := Value.ref x :: rest } : Args).kw) = pure () from
    fun a b n => check_star_args _ _ _ _ _ _]
  exact wpAny_pure hq
theorem plain_ei : plainId "Exception.__init__" = true := by decide +kernel
section
variable {w : World} {A : Around} {E : Value → Shared → Prop} {h : Heap} {z : Shared} {tk : Nat} {mw x C : Addr} {de : Option Addr} {tp : Value} {s : Str} {t : Tok}
theorem mw_call {Q : Value → Shared → Prop} {oc : Value} {od : Option Addr} {cd : ClassData} {sl : Array (Option Value)} (hC : h.get? C = some ⟨oc, od, .cls cd, sl⟩) (hm : h.get? mw = some (mwO x)) (hx : h.get? x = some (excO C de tp))
    (hq : ∀ h' tp', (∀ a o, a ≠ x → h.get? a = some o → h'.get? a = some o) → h'.get? x = some (excO C de tp') → Q .none (S z h' tk)) :
    wpAny (model PG w) A (call (.ref mw) [.str s t]) Q E (S z h tk) := by
  have F := PySem.F.excBase_Exception
  refine wpAny_call (codeAny_of_tree ?_)
  show wpAny _ A.in1 (callAny (.ref mw) ⟨[.str s t], []⟩) _ _ _
  unfold callAny
  refine wpAny_bind (wpAny_load hm ?_)
  show wpAny _ A.in1 (do checkBoundCall "Exception.__init__" ⟨[.ref x, .str s t], []⟩; again (.builtin "Exception.__init__" ⟨[.ref x, .str s t], []⟩)) _ _ _
  refine wpAny_bind (bound_ei hC hx (wpAny_pure ⟨plainId_quiet plain_ei _, codeAny_builtin F.initEntry ?_⟩))
  rw [Around.under_plainId plain_ei _]
  show wpAny _ _ (do let a ← newTuple [.str s t]; BaseException.bexcPut (.ref x) 0 a; ret .none) _ _ _
  refine wpAny_bind (wpAny_newTuple (s := S z h tk) ?_ (by show 1 ≤ 2 ^ 24; decide))
  have hxs : h.objs.size ≠ x := Nat.ne_of_gt (Heap.lt_size hx)
  have hx1 : (h.push { cls := .type "tuple", data := .seq [Value.str s t].toArray }).get? x = some (excO C de tp) := Heap.get?_push_of_some _ hx
  have fin : ∀ {Q' : Unit → Shared → Prop} {E' : Value → Shared → Prop}, (∀ h' tp', (∀ a o, a ≠ x → h.get? a = some o → h'.get? a = some o) → h'.get? x = some (excO C de tp') → Q' () (S z h' tk)) →
      wpAny (model PG w) A.in1 (BaseException.bexcPut (.ref x) 0 (.ref h.objs.size)) Q' E' (S z (h.push { cls := .type "tuple", data := .seq [Value.str s t].toArray }) tk) := by
    intro Q' E' hq'
    unfold BaseException.bexcPut
    refine wpAny_bind (wpAny_field hx1 rfl (x := tp) rfl ?_)
    refine wpAny_bind (wpAny_setField (s := S z _ tk) hx1 rfl (by show 0 < 6; decide) ?_)
    have e : ((h.push { cls := .type "tuple", data := .seq [Value.str s t].toArray }).update x (Obj.mapFields (·.setIfInBounds 0 (Value.ref h.objs.size)))).get? x = some (excO C de (.ref h.objs.size)) :=
      Heap.get?_update_self _ hx1 rfl
    have k : ∀ a o, a ≠ x → h.get? a = some o → ((h.push { cls := .type "tuple", data := .seq [Value.str s t].toArray }).update x (Obj.mapFields (·.setIfInBounds 0 (Value.ref h.objs.size)))).get? a = some o := fun a o ha ea => by
      rw [Heap.get?_update_other _ _ (Ne.symm ha)]
      exact Heap.get?_push_of_some _ ea
    have := hq' _ _ k e
    cases tp <;> first | exact wpAny_pure this | exact wpAny_letGo this
  refine wpAny_bind (fin fun h' tp' k e => ?_)
  exact wpAny_pure (hq h' tp' k e)
end
end
section
variable [OSC]
theorem Bs.keep' {w : World} {mg mb : Str → Option Value} {h₀ h : Heap} (B : Bs w mg mb h₀) (k : ∀ b o, h₀.get? b = some o → h.get? b = some o) : Bs w mg mb h := ⟨B.K.keeps k, B.T.keeps k⟩
noncomputable abbrev wpAt' := @_root_.PySem.wpAt
/-- what a class of own exceptions must be, for super() in its __init__ -/
structure SupC (w : World) (C : Addr) : Prop extends ExcC w C where
  obj : ∃ oc od cd sl, (KK w).lookup C = some ⟨oc, od, .cls cd, sl⟩
  mro47 : ∃ cd, clsIn (KK w) C = some cd ∧ (cd.mro.dropWhile (· != .ref 47)).drop 1 = [.type "Exception", .type "BaseException", .type "object"]
  sub47 : mroIn (KK w) C (.ref 47) = some true
  get : ∀ {h : Heap} {z : Shared} {tk : Nat} {A : Around} {E Q : Value → Shared → Prop} {e : Addr} {de : Option Addr} {tp : Value}, (KK w).In h → A.depth < 900 → A.units < 8000 → h.get? e = some (excO C de tp) →
    (∀ h' tk' mw, (∀ b o, h.get? b = some o → h'.get? b = some o) → h.get? mw = none → h'.get? mw = some (mwO e) → Q (.ref mw) (S z h' tk')) →
    wpAny (model PG w) A (call (.builtin "wrapper_descriptor.__get__") [.builtin "Exception.__init__", .ref e, .ref C]) Q E (S z h tk)
theorem sup76 (w : World) : SupC w 76 := by
  refine { exc76 w with obj := cls76 w, mro47 := ?_, sub47 := by kernel_rfl, get := fun K hA hU he hq => wdg K (by kernel_rfl) he hq }
  cases hc : clsIn (KK w) 76 with
  | none => have := mro76 w; rw [hc] at this; cases this
  | some cd => have hm := mro76 w; rw [hc] at hm; have hm : cd.mro = _ := Option.some.inj hm; exact ⟨cd, rfl, by rw [hm]; decide⟩
theorem sup88 (w : World) : SupC w 88 := by
  refine { exc88 w with obj := cls88 w, mro47 := ?_, sub47 := by kernel_rfl, get := fun K hA hU he hq => wdg K (by kernel_rfl) he hq }
  cases hc : clsIn (KK w) 88 with
  | none => have := mro88 w; rw [hc] at this; cases this
  | some cd => have hm := mro88 w; rw [hc] at hm; have hm : cd.mro = _ := Option.some.inj hm; exact ⟨cd, rfl, by rw [hm]; decide⟩
/-- entering a def whose free name is __class__ -/
theorem enterSC {w : World} {mg mb : Str → Option Value} {h₀ h : Heap} {z : Shared} {tk : Nat} {A : Around} {R : Result → Shared → Prop} {mu nw : Led} {f : Addr} {args : List Value} {binds : List (Str × Value)}
    {qual nm : Str} {params : Arguments} {body : List Stmt} {scope : Scope} {dV kV doc pm cdv ct oc : Value} {an od : Option Addr} {osl : Array (Option Value)} {cc : Addr} (ns gs : List Str) (vs : List (Option Value))
    (B : Bs w mg mb h₀) (G : Gh h₀ h mu nw) (hroom : A.depth < recursionLimit)
    (ho : (KK w).lookup f = some ⟨oc, od, .func (ksFn nm qual params body scope dV kV doc pm an cdv ct cc), osl⟩) (hcd : codeIn (KK w) cdv qual = true)
    (hbind : bindArgs (ksFn nm qual params body scope dV kV doc pm an cdv ct cc) ⟨args, []⟩ = pure binds)
    (hloc : (binds.all fun x => decide (scope.names.lookup x.1 = some .local)) = true)
    (hsc : Sc scope ns gs) (hvs : ns.map (fun y => binds.reverse.lookup y) = vs)
    (hh : ∀ L h₁ tk', GS w mg mb h₀ (ksEnv qual scope L f cdv cc) ns gs vs mu nw h₁ →
      _root_.PySem.wpAt (model PG w) (A.deeper (ksEnv qual scope L f cdv cc)) (.func body (ksEnv qual scope L f cdv cc)) (execs body (ksEnv qual scope L f cdv cc))
        (fun fl s' => R (.ok (.ret (match fl with | .ret v => v | _ => .none))) s')
        (fun e s' => wpAny (model PG w) (A.deeper (ksEnv qual scope L f cdv cc)) (leaving (ksEnv qual scope L f cdv cc) e) (fun _ s'' => R (.error e) s'') (fun e' s'' => R (.error e') s'') s')
        (S z h₁ tk'))
    (hco : scope.isCoroutine = false) (hgen : scope.isGenerator = false) (hcell : ∀ x ∈ scope.names, x.2 ≠ .cell) :
    codeAny (model PG w) A (.call (.ref f) ⟨args, []⟩) R (S z h tk) := by
  have X : (KK w).In h := B.K.keeps G.stays
  refine ks_codeAny_call_defAt (fd := ksFn nm qual params body scope dV kV doc pm an cdv ct cc) (body := body) (binds := binds) hroom (X _ _ ho) rfl (B.T.nolimit.keeps G.stays) (codeRec_of X hcd) rfl (BindsTo.of_eq hbind) hcell (locs hloc) (fun h₁ hns hk₁ => ?_) hco hgen hsc.kind
  subst hvs
  have hsz : ∀ b o, h.get? b = some o → b ≠ h.objs.size := fun b o e => Nat.ne_of_lt (Heap.lt_size e)
  exact hh h.objs.size h₁ _ ⟨B, hsc, rfl, rfl, ⟨_, hns, LV.of_map ns⟩, G.le, ⟨fun b o e => hk₁ _ _ (G.stays b o e), Nat.le_of_lt (Nat.lt_of_le_of_lt G.le hns.lt), fun p hp => ⟨hk₁ _ _ (G.has p hp).1, (G.has p hp).2⟩, G.nd, G.apart⟩, fun p hp => hsz _ _ (G.has p hp).1⟩
section
variable {w : World} {mg mb : Str → Option Value} {h₀ h : Heap} {env : Env} {ns gs : List Str} {vs : List (Option Value)} {mu nw fr : Led} {z : Shared} {tk : Nat} {A : Around} {E Q : Value → Shared → Prop} {C x so : Addr} {de : Option Addr} {tp : Value}
theorem getm_builtin {pl : Sem Bool} {Q : Value × List Value → Shared → Prop} (K : (KK w).In h) (SC : SupC w C) (hA : A.depth < 900) (hU : A.units < 7990) (hso : h.get? so = some (supO 47 x C)) (hx : h.get? x = some (excO C de tp))
    (hq : ∀ h' tk' mw, (∀ b o, h.get? b = some o → h'.get? b = some o) → h.get? mw = none → h'.get? mw = some (mwO x) → Q (.ref mw, []) (S z h' tk')) :
    wpAny (model PG w) A (getMethod (.ref so) "__init__" pl) Q E (S z h tk) := by
  obtain ⟨cd, hc, hl⟩ := SC.mro47
  have hlk := PySem.F.ks_slot_super_ga.lookup
  have hcan := PySem.F.ks_canon_super_ga
  have hT : ∀ t', (S z h t').TypeIs (.ref so) "super" := fun _ => ⟨_, hso, rfl⟩
  have hxC : x ≠ C := by
    rintro rfl
    obtain ⟨oc, od, cd, sl, ho⟩ := SC.obj
    have := K _ _ ho
    rw [hx] at this
    cases this
  have hmro : Looks (model PG w) h (mroOf (.ref C)) cd.mro := (looks_clsIn K hc).andThen .now
  unfold getMethod
  refine wpAny_bind (wpAny_specialOf (hT _) hlk ?_)
  show wpAny _ _ (if (Manifest.canonical "super.__getattribute__" != "object.__getattribute__") = true then _ else _) _ _ _
  rw [if_pos hcan]
  unfold getAttr getAttrBy
  refine wpAny_bind (wpAny_bind (wpAny_mkText (wpAny_holding (wpAny_bind (wpAny_typeOf (hT _) (wpAny_bind (wpAny_of_eq hlk ?_)))))))
  show wpAny _ _ (getAttrByItsOwn (.ref so) (.str "__init__" tk) (.type "super") (.builtin "super.__getattribute__") true false) _ _ _
  unfold getAttrByItsOwn hookBefore callGetattribute boundAndCalled
  refine wpAny_bind (wpAny_of_eq (show (if onTheHeap (.type "super") then typeLookup (.type "super") "__getattr__" else pure none) = pure none from rfl) ?_)
  refine wpAny_bind (wpAny_attempt (wpAny_holding ?_))
  show wpAny _ _ (bindSpecial (.builtin "super.__getattribute__") (.ref so) >>= _) _ _ _
  refine wpAny_bind (wpAny_of_eq (PySem.F.ks_slot_super_ga.bind _) ?_)
  refine wpAny_mono (Q := fun v s' => Ex3 fun mw h' tk' => Al5 (v = .ref mw) (s' = S z h' tk') ((∀ b o, h.get? b = some o → h'.get? b = some o)) (h.get? mw = none) (h'.get? mw = some (mwO x))) (E := fun _ _ => False)
    (wpAny_call_entry PySem.F.ks_slot_super_ga (hT _) PySem.F.ks_entry_super_ga (sg_builtin K hso hmro hl (al76 w) hxC ?_ ?_) (PySem.F.ks_gaArgs_super _ _)) (fun v s' hv => ?_) fun _ _ z => z.elim
  try k_fold
  · intro Q' E' hq'
    exact SC.get (z := z) K (by show A.depth < 900; exact hA) (by show A.units + 1 < 8000; omega) hx hq'
  · intro h' tk' mw k1 k2 k3
    exact ⟨_, rfl, mw, h', tk', rfl, rfl, k1, k2, k3⟩
  · obtain ⟨mw, h', tk', rfl, rfl, k1, k2, k3⟩ := hv
    exact wpAny_pure (wpAny_pure (hq h' tk' mw k1 k2 k3))
end
end
section
variable [OSC]
theorem file_ok : ((PG.main.file : Str) == PG.main.file) = true := by simp
section
variable {w : World} {mg mb : Str → Option Value} {h₀ h : Heap} {mu nw : Led} {z : Shared} {tk : Nat} {A : Around} {E Q : Value → Shared → Prop} {C x : Addr} {de : Option Addr} {tp : Value} {s : Str} {t : Tok}
noncomputable abbrev whatD (w : World) (k : Tok) (s : Str) (t : Tok) (n : Nat) : Obj := dictOf [⟨PyData.keyHash w.params "what", .str "what" k, .str s t⟩] n
/-- super() in a def's body, and its method bound -/
theorem s_base {ns gs : List Str} {vs : List (Option Value)} {D cc cda f : Addr} {fd : FuncData} {ar : Arg} {q : Str} {scope : Scope} {L : Addr} {body : List Stmt} {p0 p1 : Pos} {attr : Str} {whole : Sem Value} {oc : Value} {od : Option Addr} {osl : Array (Option Value)} {Q : Value → Shared → Prop}
    {ccl cl : Value} {cdd cld : Option Addr} {ccs csl : Array (Option Value)} {vz : Array Value} {file : Str} {tf : Tok}
    (G : GS w mg mb h₀ (ksEnv q scope L f (.ref cda) cc) ns gs vs mu nw h) (hx : h.get? x = some (excO C de tp)) (hv : At ns vs ar.arg (.ref x))
    (hf : (KK w).lookup f = some ⟨oc, od, .func fd, osl⟩) (hp : (fd.params.posonlyargs ++ fd.params.args).head? = some ar)
    (hcode : (KK w).lookup cda = some ⟨ccl, cdd, .fields vz, ccs⟩) (hvz : vz[2]? = some (.str file tf)) (hfile : ((PG.main.file : Str) == file) = true)
    (hcell : (KK w).lookup cc = some ⟨cl, cld, .cell (some (.ref D)), csl⟩) (hD : ∃ oc od cd sl, (KK w).lookup D = some ⟨oc, od, .cls cd, sl⟩) (hsub : mroIn (KK w) C (.ref D) = some true)
    (hat : (attr == ("__class__" : Str)) = false) (hks : scope.names.lookup ("super" : Str) = some .globalImplicit) (hkc : scope.names.lookup ("__class__" : Str) = some .free) (hka : scope.names.lookup ar.arg = some .local)
    (htop : (PG.main.scope.names.lookup ("super" : Str)).isSome = false)
    (hq : ∀ so h', GS w mg mb h₀ (ksEnv q scope L f (.ref cda) cc) ns gs vs mu nw h' → (∀ b o, h.get? b = some o → h'.get? b = some o) → h'.get? so = some (supO D x C) → Q (.ref so) (S z h' tk)) :
    _root_.PySem.wpAt (model PG w) A (.func body (ksEnv q scope L f (.ref cda) cc)) (attributeBase (.Call (.Name "super" p0) [] [] p1) attr (ksEnv q scope L f (.ref cda) cc) whole) Q E (S z h tk) := by
  have X : (KK w).In h := G.K
  obtain ⟨oD, odD, cdD, slD, hDl⟩ := hD
  have hDD := X _ _ hDl
  refine ks_wpAt_super_base (env := ksEnv q scope L f (.ref cda) cc) hks hkc hat rfl (X _ _ hf) rfl hp rfl (X _ _ hcode) rfl hvz hfile htop ?_
  obtain ⟨m, hn, hl⟩ := G.ns_
  refine ks_loadName_global G.sc.kind hks (loadGlobal_builtin (env := ksEnv q scope L f (.ref cda) cc) (G.bs.T.g.keeps G.G.stays) (mg_none_of G.bs.K G.bs.T.g (g_super w).1) (G.bs.T.b.keeps G.G.stays) ((G.bs.T.builtins _ (by decide +kernel)).trans (g_super w).2.1) ⟨rfl, ?_⟩)
  refine wpAny_loadName_free G.sc.kind hkc rfl ⟨_, X _ _ hcell, rfl⟩ ?_
  refine wpAny_loadName_local G.sc.kind hka hn (hv.get hl) ?_
  refine ks_wpAny_isType_cls hDD rfl ⟨rfl, ?_⟩
  refine ks_wpAny_call_super hDD rfl hx rfl (fun c e => by cases e) (looks_mroIn X hsub) (fun h' e k => ?_)
  refine hq _ h' (G.with ⟨fun b o eb => k _ _ (G.G.stays b o eb), ?_, fun p hp => ⟨k _ _ (G.G.has p hp).1, (G.G.has p hp).2⟩, G.G.nd, G.G.apart⟩ (fun o eo => k _ _ eo) G.ne) k e
  exact Nat.le_of_lt (Nat.lt_of_le_of_lt G.G.le (Heap.lt_size e))
theorem cw_mw {env : Env} {mw : Addr} {pos : Pos} {first : List Value} {e : Expr} {rest : List Expr} {s : Shared}
    (h : wpAny (model PG w) A (spliced (backTo pos (starEach (e :: rest) env))) (fun vs s₁ => s₁.heap.get? mw = some (mwO x) ∧ wpAny (model PG w) A (call (.ref mw) (first ++ vs)) Q E s₁) E s)
    (he : starEach (e :: rest) env = (false, eval e env) :: starEach rest env := by rfl) (hplain : (backTo pos (starEach rest env)).any (·.1) = false := by rfl) :
    wpAny (model PG w) A (callWith pos (.ref mw) first (backTo pos (starEach (e :: rest) env)) []) Q E s := by
  rw [he] at h ⊢
  exact callWith_of (P := fun h => h.get? mw = some (mwO x)) (by show ((false || (backTo pos (starEach rest env)).any (·.1)) || false) = false; rw [hplain]; rfl) (fun h hm => ⟨.machine, .inr (.inl rfl), (Looks.ld (part := none) hm).andThen .now⟩) (evalArgs_plain h)
theorem cw_meth {env : Env} {q f : Addr} {x : Value} {pos : Pos} {first : List Value} {e : Expr} {rest : List Expr} {s : Shared} (hf : fnIn (KK w) f = true)
    (h : wpAny (model PG w) A (spliced (backTo pos (starEach (e :: rest) env))) (fun vs s₁ => MethP (KK w) q f x s₁.heap ∧ wpAny (model PG w) A (call (.ref q) (first ++ vs)) Q E s₁) E s)
    (he : starEach (e :: rest) env = (false, eval e env) :: starEach rest env := by rfl) (hplain : (backTo pos (starEach rest env)).any (·.1) = false := by rfl) :
    wpAny (model PG w) A (callWith pos (.ref q) first (backTo pos (starEach (e :: rest) env)) []) Q E s := by
  rw [he] at h ⊢
  exact callWith_of (by show ((false || (backTo pos (starEach rest env)).any (·.1)) || false) = false; rw [hplain]; rfl) (keeps_M hf) (evalArgs_plain h)
theorem heap_code {R : Result → Shared → Prop} (SC : SupC w C) (B : Bs w mg mb h₀) (G : Gh h₀ h ((x, excO C none tp) :: mu) nw) (hA : Room A 10)
    (hq : ∀ h' tk' tp' de k n, Gh h₀ h' ((x, excO C (some de) tp') :: (de, whatD w k s t n) :: mu) nw → R (.ok (.ret .none)) (S z h' tk')) :
    codeAny (model PG w) A (.call (.ref 37) ⟨[.ref x, .str s t], []⟩) R (S z h tk) := by
  refine enterSC ["self", "what"] ["super"] [some (.ref x), some (.str s t)] B G hA.depth rfl rfl rfl rfl ⟨rfl, by decide, by decide, by decide, by decide⟩ rfl ?_ rfl rfl (by decide)
  intro L h₁ tk' G
  refine ks_wpAt_execs_cons ?_
  refine ks_wpAt_Expr_any ?_
  refine ks_wpAt_MethodCall ?_
  have hx := G.getM (.head _)
  refine s_base G hx .head rfl rfl rfl rfl file_ok rfl ?_ SC.sub47 rfl rfl rfl rfl rfl ?_
  · exact ⟨_, _, _, _, by with_unfolding_all rfl⟩
  intro so h2 G hk hso
  have hx := hk _ _ hx
  obtain ⟨oc, od, cd, sl, hC⟩ := SC.obj
  refine getm_builtin G.K SC (by have := hA.1; show A.depth + 1 < 900; omega) (by have := hA.2; show A.units + 3 < 7990; omega) hso hx ?_
  intro h3 tk3 mw k3 n3 hm3
  have G := G.Ns_keep k3
  refine cw_mw (x := x) ?_
  refine args_cons ?_
  refine r_loc G (.tail .head) ?_
  refine args_nil ⟨hm3, ?_⟩
  refine mw_call (G.K _ _ hC) hm3 (k3 _ _ hx) ?_
  intro h4 tp4 k4 hx4
  have G := G.chg k4 hx4
  refine wpAt_of_wpAny ?_
  refine wpAny_execs_cons ?_
  refine plainObj_wpAny_Assign_Attribute ?_
  refine r_loc G (.tail .head) ?_
  refine r_loc G .head ?_
  refine exc_setattr G.K SC.toExcC hx4 ?_
  refine exc_osa G.K SC.toExcC SC.what hx4 fun b => ?_
  refine exc_store0 G.K SC.toExcC hx4 fun h5 k5 hx5 hd5 => ?_
  have G5 := G.chg k5 hx5
  have hold : ∀ p ∈ (x, excO C (some h4.objs.size) tp4) :: mu ++ nw, ∃ ob, h4.get? p.1 = some ob:= fun p hp => by
    rcases List.mem_cons.mp hp with rfl | hp
    · exact ⟨_, hx4⟩
    · exact ⟨_, (G.G.has p (List.mem_cons_of_mem _ hp)).1⟩
  have hfree : h4.get? h4.objs.size = none := Heap.get?_none_of_le (Nat.le_refl _)
  have G6 := (G5.newM hold (by obtain ⟨m, ⟨ob, es, ep, hob, _⟩, _⟩ := G.ns_; exact ⟨ob, hob⟩) (fun b ob e => ⟨ob, G.G.stays b ob e⟩) hfree hd5).swap
  refine wpAny_execs_nil ?_
  exact hq _ _ _ _ _ _ G6.G
theorem heap_init (SC : SupC w C) (B : Bs w mg mb h₀) (G : Gh h₀ h ((x, excO C none tp) :: mu) nw) (hA : Room A 10)
    (hq : ∀ h' tk' tp' de k n, Gh h₀ h' ((x, excO C (some de) tp') :: (de, whatD w k s t n) :: mu) nw → Q .none (S z h' tk')) :
    wpAny (model PG w) A (call (.ref 37) [.ref x, .str s t]) Q E (S z h tk) := wpAny_call (heap_code SC B G hA hq)
theorem al37 (w : World) : alongIn (KK w) "__init__" [.ref 47, .type "Exception", .type "BaseException", .type "object"] = some (some (.ref 37)) := by kernel_rfl
theorem mro76' (w : World) : ∃ cd, clsIn (KK w) 76 = some cd ∧ (cd.mro.dropWhile (· != .ref 76)).drop 1 = [.ref 47, .type "Exception", .type "BaseException", .type "object"]:= by
  cases hc : clsIn (KK w) 76 with
  | none => have := mro76 w; rw [hc] at this; cases this
  | some cd => have hm := mro76 w; rw [hc] at hm; have hm : cd.mro = _ := Option.some.inj hm; exact ⟨cd, rfl, by rw [hm]; decide⟩
theorem fn37 (w : World) : fnIn (KK w) 37 = true ∧ (Ex4 fun oc od fd sl => Al2 ((KK w).lookup 37 = some ⟨oc, od, .func fd, sl⟩) (oc = .type "function")) := ⟨by kernel_rfl, ⟨_, _, _, _, by with_unfolding_all rfl, rfl⟩⟩
theorem text_init {k : Int} {t' : Tok} (B : Bs w mg mb h₀) (G : Gh h₀ h ((x, excO 76 none tp) :: mu) nw) (hA : Room A 12)
    (hq : ∀ h' tk' tp' de od, PayT od k → Gh h₀ h' ((de, od) :: (x, excO 76 (some de) tp') :: mu) nw → Q .none (S z h' tk')) :
    wpAny (model PG w) A (call (.ref 66) [.ref x, .str s t, .int k t']) Q E (S z h tk) := by
  refine wpAny_call ?_
  refine enterSC ["self", "what", "spot"] ["super"] [some (.ref x), some (.str s t), some (.int k t')] B G hA.depth rfl rfl rfl rfl ⟨rfl, by decide, by decide, by decide, by decide⟩ rfl ?_ rfl rfl (by decide)
  intro L h₁ tk' G
  refine ks_wpAt_execs_cons ?_
  refine ks_wpAt_Expr_any ?_
  refine ks_wpAt_MethodCall ?_
  have hx := G.getM (.head _)
  refine s_base G hx .head rfl rfl rfl rfl file_ok rfl (cls76 w) (by kernel_rfl) rfl rfl rfl rfl rfl ?_
  intro so h2 G hk hso
  have hx := hk _ _ hx
  obtain ⟨oc, od, cd0, sl, hC⟩ := cls76 w
  obtain ⟨cd, hc, hl⟩ := mro76' w
  obtain ⟨hfn, oc7, od7, fd7, sl7, h37, e37⟩ := fn37 w
  have hxC : x ≠ 76 := by
    rintro rfl
    have := G.K _ _ hC
    rw [hx] at this
    cases this
  refine ks_wpAny_getMethod_super hso (looks_opaque G.K (nothird w)) ((looks_clsIn G.K hc).andThen .now) hl G.K (al37 w) (G.K _ _ h37) e37 hxC rfl ?_
  have G := G.push (methodObj (.ref 37) (.ref x)) rfl
  have hm3 := G.G.get (.head _)
  refine cw_meth (f := 37) (x := .ref x) hfn ?_
  refine args_cons ?_
  refine r_loc G (.tail .head) ?_
  refine args_nil ⟨⟨hm3, G.K⟩, ?_⟩
  refine wpAny_call (ks_codeAny_call_bound hm3 ?_)
  obtain ⟨oL, Gc, hn, back⟩ := G.call1
  refine heap_code (sup76 w) G.bs Gc ((Room.deeper (n := 11) hA).le (by decide)) ?_
  intro h4 tk4 tp4 de kk n G4
  have G := back _ _ _ _ (G4.perm (.cons _ (.swap _ _ _)))
  refine wpAt_of_wpAny ?_
  refine wpAny_execs_cons ?_
  refine plainObj_wpAny_Assign_Attribute ?_
  refine r_loc G (.tail (.tail .head)) ?_
  refine r_loc G .head ?_
  have hx4 := G.getM (.head _)
  have hd4 := G.getM (.tail _ (.head _))
  refine exc_setattr G.K (exc76 w) hx4 ?_
  refine exc_osa G.K (exc76 w) (exc76 w).spot hx4 fun b => ?_
  refine exc_store1 G.K (exc76 w) hx4 hd4 rfl (by show 2 ≤ 1000; decide) fun h5 k5 hd5 => ?_
  have G5 := G.swap.chg k5 hd5
  refine wpAny_execs_nil ?_
  exact hq _ _ _ _ _ ⟨_, _, _, _, _, _, _, rfl⟩ G5.less.G
end
end
section
variable [OSC]
noncomputable def excIn (K : Frag) (C : Addr) : Bool := match K.lookup C with
  | some ⟨_, _, .cls cd, sl⟩ => (sl.toList[4]?).join == some (.builtin "Exception.__new__") && !cd.mro.isEmpty && cd.mro.contains (.ref C) &&
      specialIn K (.ref C) "__call__" == some (some (.builtin "type.__call__")) && instIn K (.ref C) (.type "type") == some true
  | _ => false
theorem excIn76 (w : World) : excIn (KK w) 76 = true := by kernel_rfl
theorem excIn88 (w : World) : excIn (KK w) 88 = true := by kernel_rfl
section
variable {w : World} {h : Heap} {z : Shared} {tk : Nat} {A : Around} {E Q : Value → Shared → Prop} {C fI : Addr} {rest : List Value}
theorem exc_made (K : (KK w).In h) (e : excIn (KK w) C = true) (hi : findIn (KK w) (.ref C) "__init__" = some (some (.ref fI))) (hf : typeIn (KK w) (.ref fI) = some (.type "function"))
    (hnew : wpAny (model PG w) (A.under (.builtin "type.__call__" ⟨.ref C :: rest, []⟩)) (call (.builtin "Exception.__new__") (.ref C :: rest))
      (fun v s' => Ex2 fun e tp => Al4 (v = .ref e) ((∀ b o, h.get? b = some o → s'.heap.get? b = some o)) (s'.heap.get? e = some (excO C none tp)) (wpAny (model PG w) (A.under (.builtin "type.__call__" ⟨.ref C :: rest, []⟩)) (call (.ref fI) (.ref e :: rest)) (fun r s'' => r = .none ∧ Q (.ref e) s'') E s')) E (S z h tk)) :
    wpAny (model PG w) A (call (.ref C) rest) Q E (S z h tk) := by
  unfold excIn at e
  split at e
  · rename_i oc od cd sl ho
    simp only [Bool.and_eq_true, Bool.not_eq_true', beq_iff_eq] at e
    obtain ⟨⟨⟨⟨e3, e4⟩, e5⟩, e7⟩, e8⟩ := e
    have hc : clsIn (KK w) C = some cd := by unfold clsIn; rw [ho]
    have hm : Looks (model PG w) h (mroOf (.ref C)) cd.mro := (looks_clsIn K hc).andThen .now
    obtain ⟨c, l, hl⟩ : ∃ c l, cd.mro = c :: l:= by cases q : cd.mro with | nil => rw [q] at e4; cases e4 | cons c l => exact ⟨c, l, rfl⟩
    have made : Looks (model PG w) h (Bind.madeBy (.ref C)) (some "Exception.__new__") := by
      intro A Q E s k q
      unfold Bind.madeBy
      refine wpAny_bind (hm A _ E s k ?_)
      rw [hl, List.forIn_cons]
      refine wpAny_bind (wpAny_bind (wpAny_bind (wpAny_bind (wpAny_loadPart (k _ _ (K _ _ ho)) (wpAny_pure ?_)))))
      dsimp only
      rw [← Array.getElem?_toList, e3]
      exact wpAny_pure (wpAny_pure (wpAny_pure q))
    exact exc_make K ho e4 e7 e8 made (by unfold subIn; first | (show mroIn (KK w) C (.ref C) = some true; unfold mroIn; rw [hc, Option.bind_some, if_neg (by rw [e4]; decide), e5])) hi hf hnew
  · cases e
theorem in76 (w : World) : findIn (KK w) (.ref 76) "__init__" = some (some (.ref 66)) ∧ typeIn (KK w) (.ref 66) = some (.type "function") := ⟨by kernel_rfl, by kernel_rfl⟩
theorem in88 (w : World) : findIn (KK w) (.ref 88) "__init__" = some (some (.ref 37)) ∧ typeIn (KK w) (.ref 37) = some (.type "function") := ⟨by kernel_rfl, by kernel_rfl⟩
theorem gh_new {h₀ h' : Heap} {mu nw : Led} {e : Addr} {o : Obj} (G : Gh h₀ h mu nw) (wit : ∃ p ∈ mu ++ nw, h₀.objs.size ≤ p.1) (k1 : ∀ b o, h.get? b = some o → h'.get? b = some o) (k2 : h.get? e = none) (k3 : h'.get? e = some o) : Gh h₀ h' ((e, o) :: mu) nw := by
  have hne : ∀ p ∈ mu ++ nw, p.1 ≠ e := fun p hp q => by have := (G.has p hp).1; rw [q, k2] at this; cases this
  refine ⟨fun b ob eb => k1 _ _ (G.stays b ob eb), ?_, fun p hp => ?_, List.nodup_cons.mpr ⟨fun hm => ?_, G.nd⟩, fun a ha q hq => ?_⟩
  · obtain ⟨p, hp, hle⟩ := wit
    exact Nat.le_of_lt (Nat.lt_of_le_of_lt hle (Heap.lt_size (k1 _ _ (G.has p hp).1)))
  · rcases List.mem_cons.mp hp with rfl | hp
    · refine ⟨k3, ?_⟩
      cases q : h₀.get? e with
      | none => rfl
      | some ob => rw [G.stays _ _ q] at k2; cases k2
    · exact ⟨k1 _ _ (G.has p hp).1, (G.has p hp).2⟩
  · obtain ⟨p, hp, q⟩ := List.mem_map.mp hm
    exact hne p (List.mem_append_left _ hp) q
  · rcases List.mem_cons.mp ha with rfl | ha
    · exact fun q' => hne q (List.mem_append_right _ hq) q'.symm
    · exact G.apart a ha q hq
theorem text_new {mg mb : Str → Option Value} {h₀ : Heap} {mu nw : Led} {s : Str} {t t' : Tok} {k : Int} (B : Bs w mg mb h₀) (G : Gh h₀ h mu nw) (wit : ∃ p ∈ mu ++ nw, h₀.objs.size ≤ p.1) (R : Room A 20)
    (hq : ∀ h' tk' e de tp od, Gh h₀ h' ((de, od) :: (e, excO 76 (some de) tp) :: mu) nw → PayT od k → Q (.ref e) (S z h' tk')) :
    wpAny (model PG w) A (call (.ref 76) [.str s t, .int k t']) Q E (S z h tk) := by
  have X : (KK w).In h := B.K.keeps G.stays
  refine exc_made X (excIn76 w) (in76 w).1 (in76 w).2 ?_
  have hU : ∀ a, (A.under (.builtin "type.__call__" ⟨.ref 76 :: a, []⟩)).depth = A.depth + 1 ∧ (A.under (.builtin "type.__call__" ⟨.ref 76 :: a, []⟩)).units = A.units + 1 := fun _ => ⟨rfl, rfl⟩
  have h1 := R.1
  have h2 := R.2
  refine new76 X (by rw [(hU _).1]; omega) (by rw [(hU _).2]; omega) fun h' tk' e tp k1 k2 k3 => ?_
  refine ⟨e, tp, rfl, k1, k3, ?_⟩
  refine text_init B (gh_new G wit k1 k2 k3) ⟨by rw [(hU _).1]; omega, by rw [(hU _).2]; omega⟩ fun h2 tk2 tp2 de od P G2 => ⟨rfl, ?_⟩
  exact hq _ _ _ _ _ _ G2 P
theorem rule_new {mg mb : Str → Option Value} {h₀ : Heap} {mu nw : Led} {s : Str} {t : Tok} (B : Bs w mg mb h₀) (G : Gh h₀ h mu nw) (wit : ∃ p ∈ mu ++ nw, h₀.objs.size ≤ p.1) (R : Room A 20)
    (hq : ∀ h' tk' e de tp od, Gh h₀ h' ((de, od) :: (e, excO 88 (some de) tp) :: mu) nw → PayR od s → Q (.ref e) (S z h' tk')) :
    wpAny (model PG w) A (call (.ref 88) [.str s t]) Q E (S z h tk) := by
  have X : (KK w).In h := B.K.keeps G.stays
  refine exc_made X (excIn88 w) (in88 w).1 (in88 w).2 ?_
  have hU : ∀ a, (A.under (.builtin "type.__call__" ⟨.ref 88 :: a, []⟩)).depth = A.depth + 1 ∧ (A.under (.builtin "type.__call__" ⟨.ref 88 :: a, []⟩)).units = A.units + 1 := fun _ => ⟨rfl, rfl⟩
  have h1 := R.1
  have h2 := R.2
  refine new88 X (by rw [(hU _).1]; omega) (by rw [(hU _).2]; omega) fun h' tk' e tp k1 k2 k3 => ?_
  refine ⟨e, tp, rfl, k1, k3, ?_⟩
  refine heap_init (sup88 w) B (gh_new G wit k1 k2 k3) ⟨by rw [(hU _).1]; omega, by rw [(hU _).2]; omega⟩ fun h2 tk2 tp2 de kk n G2 => ⟨rfl, ?_⟩
  exact hq _ _ _ _ _ _ (G2.perm (.swap _ _ _)) ⟨_, _, _, _, rfl⟩
end
end
section
variable [OSC]
/-- the frames around a call, as the ledger holds them -/
structure Out (A : Around) (outer : List Env) (fr mu : Led) : Prop where
  frames : A.frames = some outer
  al : Frs outer fr
  sub : ∀ p ∈ fr, p ∈ mu ∧ ∀ u, p.2.data ≠ .fields u
  hd : A.handled = none
theorem Out.mono {A : Around} {outer : List Env} {fr mu mu' : Led} (O : Out A outer fr mu) (s : ∀ p ∈ mu, p ∈ mu') : Out A outer fr mu' := ⟨O.frames, O.al, fun p hp => ⟨s _ (O.sub p hp).1, (O.sub p hp).2⟩, O.hd⟩
theorem Out.deeper {A : Around} {outer : List Env} {fr mu : Led} {env : Env} {oL : Obj} (O : Out A outer fr mu) (hk : env.scope.kind = .function) (hf : env.frame = some env.locals) (hn : ∀ u, oL.data ≠ .fields u) : Out (A.deeper env) (env :: outer) ((env.locals, oL) :: fr) ((env.locals, oL) :: mu) :=
  ⟨Around.frames_deeper O.frames, ⟨by rw [hk]; decide, hf, O.al⟩, fun p hp => by
    rcases List.mem_cons.mp hp with rfl | hp
    · exact ⟨.head _, hn⟩
    · exact ⟨.tail _ (O.sub p hp).1, (O.sub p hp).2⟩, O.hd⟩
section
variable {w : World} {mg mb : Str → Option Value} {h₀ h h' : Heap} {env : Env} {ns gs : List Str} {vs : List (Option Value)} {mu nw fr : Led} {z : Shared} {tk : Nat} {A A₀ : Around} {E : Value → Shared → Prop} {outer : List Env}
/-- from the state at a raise: the exception flies -/
theorem fly_gh {C e de : Addr} {tp : Value} {od oL : Obj} (G : Gh h₀ h' ((de, od) :: (e, excO C (some de) tp) :: (env.locals, oL) :: mu) nw) (hnf : ∀ u, oL.data ≠ .fields u) (hfr : ∀ p ∈ fr, p ∈ mu ∧ ∀ u, p.2.data ≠ .fields u) (nf : ∀ u, od.data ≠ .fields u) :
    Fly h₀ h' ((env.locals, oL) :: fr) C e de od true := by
  have he := G.has _ (.tail _ (.head _))
  have hd := G.has _ (.head _)
  refine ⟨G.stays, he.2, hd.2, ⟨_, _, _, he.1, rfl, .inl ⟨rfl, rfl⟩⟩, hd.1, nf, fun p hp => ?_, fun _ => ⟨_, _, he.1, rfl⟩⟩
  have hp' : p ∈ (env.locals, oL) :: mu ∧ ∀ u, p.2.data ≠ .fields u := by
    rcases List.mem_cons.mp hp with rfl | hp
    · exact ⟨.head _, hnf⟩
    · exact ⟨.tail _ (hfr p hp).1, (hfr p hp).2⟩
  have hg := G.has p (List.mem_append_left _ (.tail _ (.tail _ hp'.1)))
  refine ⟨⟨p.2.slots, hg.1⟩, hg.2, hp'.2, fun q => ?_⟩
  exact (List.nodup_cons.mp G.nd).1 (List.mem_map.mpr ⟨p, .tail _ hp'.1, q⟩)
/-- raise TextFault(text, k): behind its two arguments -/
theorem raised_text {s : Str} {t t' : Tok} {k : Int} (G : GS w mg mb h₀ env ns gs vs mu nw h) (R : Room A 20) (hfr : ∀ p ∈ fr, p ∈ mu ∧ ∀ u, p.2.data ≠ .fields u)
    (hE : ∀ h' tk' e de od oL, (∀ u, oL.data ≠ .fields u) → Fly h₀ h' ((env.locals, oL) :: fr) 76 e de od true → PayT od k → E (.ref e) (S z h' tk')) :
    wpAny (model PG w) A (call (.ref 76) [.str s t, .int k t']) (fun v s' => Made w v s' (E v s')) E (S z h tk) := by
  obtain ⟨oL, G1, hn, _⟩ := G.call
  refine text_new G.bs G1 ⟨_, .head _, G.above⟩ R fun h' tk' e de tp od G2 P => ?_
  have he := G2.has _ (.tail _ (.head _))
  exact ⟨e, 76, _, _, _, rfl, G.bs.K.keeps G2.stays, he.1, rfl, sub76 w, ty76 w, hE _ _ _ _ _ _ hn (fly_gh G2 hn hfr P.nf) P⟩
/-- a raise in a def's own body leaves the def -/
theorem leave_text {E : Value → Shared → Prop} {e de : Addr} {od oL : Obj} (O : Out A outer fr mu) (sc : env.scope.kind = .function) (hf : env.frame = some env.locals) (hn : ∀ u, oL.data ≠ .fields u) {C : Addr} {new : Bool}
    (X : Fly h₀ h ((env.locals, oL) :: fr) C e de od new) (hE : ∀ h', Fly h₀ h' fr C e de od false → E (.ref e) (S z h' tk)) :
    wpAny (model PG w) (A.deeper env) (leaving env (.ref e)) (fun _ s'' => E (.ref e) s'') (fun e' s'' => E e' s'') (S z h tk) :=
  have O' := O.deeper (env := env) (oL := oL) sc hf hn
  fly_leave O'.frames O'.al hf X hE
end
end
section
variable [OSC]
theorem keep76 (w : World) : keepIn (KK w) (.ref 76) = true := by kernel_rfl
theorem keep_fn (w : World) : keepIn (KK w) (.ref 166) = true ∧ keepIn (KK w) (.ref 173) = true ∧ keepIn (KK w) (.ref 180) = true ∧ keepIn (KK w) (.ref 187) = true ∧ keepIn (KK w) (.ref 194) = true ∧ keepIn (KK w) (.ref 201) = true ∧ keepIn (KK w) (.ref 208) = true :=
  ⟨by kernel_rfl, by kernel_rfl, by kernel_rfl, by kernel_rfl, by kernel_rfl, by kernel_rfl, by kernel_rfl⟩
section
variable {w : World} {mg mb : Str → Option Value} {h₀ h : Heap} {mu nw fr : Led} {z : Shared} {tk : Nat} {A : Around} {E Q : Value → Shared → Prop} {x dx wl : Addr} {o : Obj} {p d : Nat} {mo : Int} {toks : List (Wd × Nat)} {wd : Wd × Nat} {outer : List Env}
theorem word_spec (B : Bs w mg mb h₀) (G : Gh h₀ h ((dx, o) :: mu) nw) (hA : Room A 1) (hx : (x, instObj 258 dx) ∈ nw) (ho : IsRD w o wl p d mo) (hw : Toks nw wl toks) (hp : toks[p]? = some wd)
    (hq : ∀ h' tk' t, Gh h₀ h' ((dx, o) :: mu) nw → Q (.str wd.1.str t) (S z h' tk')) :
    wpAny (model PG w) A (call (.ref 166) [.ref x]) Q E (S z h tk) := by
  refine enter ["self"] [] [some (.ref x)] B G hA.depth rfl rfl rfl rfl ⟨rfl, by decide, by decide, by decide, by decide⟩ rfl ?_ rfl rfl (by decide)
  intro L h₁ tk' ev Av Qv Ev G
  refine wpAny_execs_cons ?_
  try k_fold
  refine wpAny_Return_some ?_
  refine Subscript_ ?_
  refine Subscript_ ?_
  refine Attribute_any_ ?_
  walk_at "m:loc"
  refine rd_words (by walk_at "m:asm") hx ho ?_
  refine Attribute_any_ ?_
  walk_at "m:loc"
  refine rd_place (by walk_at "m:asm") hx ho ?_
  intro t6
  obtain ⟨hlt, ws, n, hm, hf⟩ := hw
  obtain ⟨v, hv, a, ta, tb, n', rfl, hm'⟩ := forall2_get hf hp
  have hlen : p < toks.length := (List.getElem?_eq_some_iff.mp hp).1
  refine r_item_list (G.G.get hm) (by omega) (by omega) (v := .ref a) (by rw [Int.toNat_natCast]; exact hv) ?_
  refine r_intN ?_
  refine r_item_tup (G.G.get hm') (by decide) (by decide) rfl rfl ?_
  exact hq _ _ _ G.G
theorem spot_spec (B : Bs w mg mb h₀) (G : Gh h₀ h ((dx, o) :: mu) nw) (hA : Room A 1) (hx : (x, instObj 258 dx) ∈ nw) (ho : IsRD w o wl p d mo) (hw : Toks nw wl toks) (hp : toks[p]? = some wd)
    (hq : ∀ h' tk' t, Gh h₀ h' ((dx, o) :: mu) nw → Q (.int wd.2 t) (S z h' tk')) :
    wpAny (model PG w) A (call (.ref 173) [.ref x]) Q E (S z h tk) := by
  refine enter ["self"] [] [some (.ref x)] B G hA.depth rfl rfl rfl rfl ⟨rfl, by decide, by decide, by decide, by decide⟩ rfl ?_ rfl rfl (by decide)
  intro L h₁ tk' ev Av Qv Ev G
  refine wpAny_execs_cons ?_
  try k_fold
  refine wpAny_Return_some ?_
  refine Subscript_ ?_
  refine Subscript_ ?_
  refine Attribute_any_ ?_
  walk_at "m:loc"
  refine rd_words (by walk_at "m:asm") hx ho ?_
  refine Attribute_any_ ?_
  walk_at "m:loc"
  refine rd_place (by walk_at "m:asm") hx ho ?_
  intro t6
  obtain ⟨hlt, ws, n, hm, hf⟩ := hw
  obtain ⟨v, hv, a, ta, tb, n', rfl, hm'⟩ := forall2_get hf hp
  have hlen : p < toks.length := (List.getElem?_eq_some_iff.mp hp).1
  refine r_item_list (G.G.get hm) (by omega) (by omega) (v := .ref a) (by rw [Int.toNat_natCast]; exact hv) ?_
  refine r_intN ?_
  refine r_item_tup (G.G.get hm') (by decide) (by decide) rfl rfl ?_
  exact hq _ _ _ G.G
theorem take_spec (B : Bs w mg mb h₀) (G : Gh h₀ h ((dx, o) :: mu) nw) (hA : Room A 1) (hx : (x, instObj 258 dx) ∈ nw) (ho : IsRD w o wl p d mo) (hw : Toks nw wl toks) (hp : toks[p]? = some wd)
    (hq : ∀ h' tk' o' t, IsRD w o' wl (p + 1 : Nat) d mo → Gh h₀ h' ((dx, o') :: mu) nw → Q (.str wd.1.str t) (S z h' tk')) :
    wpAny (model PG w) A (call (.ref 180) [.ref x]) Q E (S z h tk) := by
  refine enter ["self"] [] [some (.ref x)] B G hA.depth rfl rfl rfl rfl ⟨rfl, by decide, by decide, by decide, by decide⟩ rfl ?_ rfl rfl (by decide)
  intro L h₁ tk' ev Av Qv Ev G
  refine wpAny_execs_cons ?_
  try k_fold
  refine plainObj_wpAny_Assign_Attribute ?_
  refine wpAny_BinOp ?_
  refine Attribute_any_ ?_
  walk_at "m:loc"
  refine rd_place (by walk_at "m:asm") hx ho ?_
  intro t1
  refine r_intN ?_
  refine r_addN ?_
  walk_at "m:loc"
  refine set_place (by walk_at "m:asm") hx ho ?_
  intro h2 tk2 o2 ho2 G
  refine wpAny_execs_cons ?_
  try k_fold
  refine wpAny_Return_some ?_
  refine Subscript_ ?_
  refine Subscript_ ?_
  refine Attribute_any_ ?_
  walk_at "m:loc"
  refine rd_words (by walk_at "m:asm") hx ho2 ?_
  refine wpAny_BinOp ?_
  refine Attribute_any_ ?_
  walk_at "m:loc"
  refine rd_place (by walk_at "m:asm") hx ho2 ?_
  intro t4
  refine r_intN ?_
  refine r_sub ?_
  intro t6
  obtain ⟨hlt, ws, n, hm, hf⟩ := hw
  obtain ⟨v, hv, a, ta, tb, n', rfl, hm'⟩ := forall2_get hf hp
  have hlen : p < toks.length := (List.getElem?_eq_some_iff.mp hp).1
  refine r_item_list (G.G.get hm) (by omega) (by omega) (v := .ref a) (by rw [show ((p : Int) + 1 - 1).toNat = p by omega]; exact hv) ?_
  refine r_intN ?_
  refine r_item_tup (G.G.get hm') (by decide) (by decide) rfl rfl ?_
  exact hq _ _ _ _ ho2 G.G
end
section
variable {w : World} {mg mb : Str → Option Value} {h₀ h : Heap} {env : Env} {ns gs : List Str} {vs : List (Option Value)} {mu nw fr : Led} {z : Shared} {tk : Nat} {A : Around} {E : Value → Shared → Prop} {x dx wl : Addr} {o : Obj} {p d : Nat} {mo : Int} {toks : List (Wd × Nat)} {wd : Wd × Nat} {p1 p2 p3 : Pos} {Q : Value → Shared → Prop}
theorem mcall {M : Model} {s : Shared} {n name : Str} {args : List Expr} (hl : (p2.endLine == p3.line) = true)
    (h : wpAny M A (eval (.Name n p1) env) (fun ov s₁ => wpAny M A (getMethod ov name (do return (← importBound (.Name n p1) env).getD true)) (fun fx s₂ => wpAny M A (callWith p3 fx.1 fx.2 (backTo p3 (starEach args env)) []) Q E s₂) E s₁) E s)
    (hf : methodCallForm (args.length + 0) (backTo p3 (starEach args env)) [] = true := by rfl) :
    wpAny M A (eval (.Call (.Attribute (.Name n p1) name p2) args [] p3) env) Q E s := by
  show wpAny M A (do
      let ov ← eval (.Name n p1) env
      standAt p2.atName
      methodCall (.Name n p1) name p2 p3 env ov (args.length + 0) (backTo p3 (starEach args env)) []) Q E s
  refine wpAny_bind (wpAny_mono h (fun ov s₁ h₁ => wpAny_bind (wpAny_standAt ?_)) fun _ _ x => x)
  unfold methodCall calleeOf methodCallPos
  rw [hf, hl]
  simp only [if_true, Bool.not_true, Bool.false_or]
  refine wpAny_bind (wpAny_holding (wpAny_mono h₁ (fun fx s₂ h₂ => wpAny_bind (wpAny_pure h₂)) fun _ _ x => x))
theorem b_word (G : GS w mg mb h₀ env ns gs vs ((dx, o) :: mu) nw h) (hl : (p2.endLine == p3.line) = true) (hs : At ns vs "self" (.ref x)) (hA : Room A 1) (hx : (x, instObj 258 dx) ∈ nw) (ho : IsRD w o wl p d mo) (hw : Toks nw wl toks) (hp : toks[p]? = some wd)
    (hq : ∀ h' tk' t, GS w mg mb h₀ env ns gs vs ((dx, o) :: mu) nw h' → Q (.str wd.1.str t) (S z h' tk')) :
    wpAny (model PG w) A (eval (.Call (.Attribute (.Name "self" p1) "word" p2) [] [] p3) env) Q E (S z h tk) := by
  refine mcall hl ?_
  refine r_loc G hs ?_
  refine rm_word G hx ho ?_
  refine callWith_K0 G.K (keep_fn w).1 ?_
  obtain ⟨oL, Gc, hn, back⟩ := G.call1
  exact word_spec G.bs Gc hA hx ho hw hp fun h' tk' t G' => hq _ _ _ (back _ _ _ _ G')
theorem b_spot (G : GS w mg mb h₀ env ns gs vs ((dx, o) :: mu) nw h) (hl : (p2.endLine == p3.line) = true) (hs : At ns vs "self" (.ref x)) (hA : Room A 1) (hx : (x, instObj 258 dx) ∈ nw) (ho : IsRD w o wl p d mo) (hw : Toks nw wl toks) (hp : toks[p]? = some wd)
    (hq : ∀ h' tk' t, GS w mg mb h₀ env ns gs vs ((dx, o) :: mu) nw h' → Q (.int wd.2 t) (S z h' tk')) :
    wpAny (model PG w) A (eval (.Call (.Attribute (.Name "self" p1) "spot" p2) [] [] p3) env) Q E (S z h tk) := by
  refine mcall hl ?_
  refine r_loc G hs ?_
  refine rm_spot G hx ho ?_
  refine callWith_K0 G.K (keep_fn w).2.1 ?_
  obtain ⟨oL, Gc, hn, back⟩ := G.call1
  exact spot_spec G.bs Gc hA hx ho hw hp fun h' tk' t G' => hq _ _ _ (back _ _ _ _ G')
theorem b_take (G : GS w mg mb h₀ env ns gs vs ((dx, o) :: mu) nw h) (hl : (p2.endLine == p3.line) = true) (hs : At ns vs "self" (.ref x)) (hA : Room A 1) (hx : (x, instObj 258 dx) ∈ nw) (ho : IsRD w o wl p d mo) (hw : Toks nw wl toks) (hp : toks[p]? = some wd)
    (hq : ∀ h' tk' o' t, IsRD w o' wl (p + 1 : Nat) d mo → GS w mg mb h₀ env ns gs vs ((dx, o') :: mu) nw h' → Q (.str wd.1.str t) (S z h' tk')) :
    wpAny (model PG w) A (eval (.Call (.Attribute (.Name "self" p1) "take" p2) [] [] p3) env) Q E (S z h tk) := by
  refine mcall hl ?_
  refine r_loc G hs ?_
  refine rm_take G hx ho ?_
  refine callWith_K0 G.K (keep_fn w).2.2.1 ?_
  obtain ⟨oL, Gc, hn, back⟩ := G.call1
  exact take_spec G.bs Gc hA hx ho hw hp fun h' tk' o' t ho' G' => hq _ _ _ _ ho' (back _ _ _ _ G')
end
end
section
variable [OSC]
noncomputable def badSign (y : Str) : Bool := Txt.isspace y || !(Builtin.Str.occurrences "()[]{},:" y 0 (Str.length "()[]{},:") 1).isEmpty
noncomputable def opStr (s : Str) : Bool := (s != "") && ((signs s).filter badSign).isEmpty
section
variable {w : World} {mg mb : Str → Option Value} {h₀ h : Heap} {mu nw fr : Led} {z : Shared} {tk : Nat} {A : Around} {E Q : Value → Shared → Prop} {s : Str} {t : Tok}
theorem isop_spec (B : Bs w mg mb h₀) (G : Gh h₀ h mu nw) (hA : Room A 1) (hh : A.handled = none) (hs : s.length ≤ sizeLine)
    (hq : ∀ h' tk', Gh h₀ h' mu nw → Q (.bool (opStr s)) (S z h' tk')) :
    wpAny (model PG w) A (call (.ref 95) [.str s t]) Q E (S z h tk) := by
  refine enter ["text"] [] [some (.str s t)] B G hA.depth rfl rfl rfl rfl ⟨rfl, by decide, by decide, by decide, by decide⟩ rfl ?_ rfl rfl (by decide)
  intro L h₁ tk' ev Av Qv Ev G
  refine wpAny_execs_cons ?_
  try k_fold
  refine wpAny_Return_some ?_
  refine wpAny_And2 ?_
  refine wpAny_Compare1 ?_
  walk_at "m:loc"
  refine r_strN ?_
  refine PyProof.Rows.ne_str ?_
  refine wpAny_truthy_bool ?_
  refine ifs (fun hb => ?_) (fun hb => ?_)
  · refine wpAny_Compare1 ?_
    obtain ⟨m, F, hl⟩ := G.fr
    refine ListComp_signsD (h₀ := h₀) (L := L) (m := m) (news := mu ++ nw) (pz := badSign) (d := fun y => .str y) (A := A.deeper _) hh (by decide) (by decide) rfl (by decide) rfl ?_ (fun _ => rfl)
    walk_at "m:loc"
    refine ⟨s, t, rfl, hs, F, G.news, ?_, ?_, ?_⟩
    · intro C a v s₂ m₂ E' ha hn hm
      obtain ⟨u, rfl⟩ := ha
      refine wpAny_tests_one ?_
      refine wpAny_isTrue_BoolOp ?_
      refine wpAny_allTrue_Or_cons ?_
      refine wpAny_isTrue_value ?_
      refine Call_method0 rfl rfl ?_
      refine wpAny_Name (wpAny_loadName_local rfl rfl hn hm ?_) rfl
      refine SB.isspace ?_
      refine wpAny_truthy_bool ?_
      refine ifs (fun hc => ?_) (fun hc => ?_)
      · exact ⟨by simp [badSign, hc], s₂.heap, s₂.toks, rfl, fun _ _ e => e⟩
      refine wpAny_allTrue_Or_cons ?_
      refine wpAny_isTrue_Compare1 ?_
      refine wpAny_Name (wpAny_loadName_local rfl rfl hn hm ?_) rfl
      refine wpAny_Constant_str ?_
      refine PyProof.Rows.in_str ?_
      refine wpAny_truthy_bool ?_
      have hk : ∀ b, b = badSign a → (b = badSign a ∧ Keeps s₂ { s₂ with toks := s₂.toks + 1 }) := fun b hb => ⟨hb, s₂.heap, s₂.toks + 1, rfl, fun _ _ e => e⟩
      refine ifs (fun hd => ?_) (fun hd => wpAny_allTrue_Or_nil ?_)
      · exact hk _ (by unfold badSign; rw [hc]; exact hd.symm)
      · exact hk _ (by unfold badSign; rw [hc]; exact hd.symm)
    · intro C a v s₂ m₂ E' ha hp hn hm
      obtain ⟨u, rfl⟩ := ha
      refine wpAny_Name (wpAny_loadName_local rfl rfl hn hm ?_) rfl
      exact ⟨.str _ _, s₂.heap, s₂.toks, rfl, fun _ _ e => e⟩
    · intro D ys h' tk2 F' N' hD hl' hpl hc
      obtain ⟨n, G2⟩ := G.made F' hl N' hD hpl
      refine List_ ?_
      refine args_nil ?_
      show wpAny _ _ _ _ _ (S z h' tk2)
      refine r_list (by decide) G2 (fun D2 h3 G3 => ?_)
      have i1 : h3.IsList D ys.toArray := ⟨_, G3.G.get (.tail _ (.head _)), rfl, n, rfl⟩
      have i2 : h3.IsList D2 #[] := ⟨_, G3.G.get (.head _), rfl, _, rfl⟩
      have hfin : ∀ b, b = ((signs s).filter badSign).isEmpty → Q (.bool b) (S z h3 tk2) := fun b hb' => by
        have : opStr s = b := by unfold opStr; rw [hb, hb']; rfl
        rw [← this]
        exact hq _ _ G3.less.less.G
      cases hys : ys with
      | nil =>
        subst hys
        refine SeqAt.eq_listAt (e := fun _ => true) i1 i2 rfl (hA.deeper (env := _)).units (fun j h1 _ => absurd h1 (Nat.not_lt_zero _)) (hfin _ ?_)
        have := hc.length_eq
        simp at this
        rw [List.length_eq_zero_iff.mp this.symm]; rfl
      | cons y yt =>
        subst hys
        refine SeqAt.eq_list_lengthsAt i1 i2 (by simp) (hA.deeper (env := _)).units (hfin _ ?_)
        have := hc.length_eq
        simp at this
        cases hf : (signs s).filter badSign with
        | nil => rw [hf] at this; simp at this
        | cons a b => rfl
  · rw [hb]
    have : opStr s = false := by unfold opStr; rw [hb]; rfl
    rw [← this]
    exact hq _ _ G.G
end
end
section
set_option genSizeOf false
set_option genInjectivity false
inductive Sg where
  | term | kids | papers | places | paper | kind | rule | needs | more | right | made | fin | sign | name | leaf | op
  | q (w : Wd)
  deriving DecidableEq
structure St where
  at_ : Nat
  stack : List Sg
  names : List (List Wd)
  isR : Bool
  left : List Wd
  lost : List Wd
/-- a word that stands for itself in the law's table (the bracket too) -/
noncomputable def Wd.plain : Wd → Bool
  | .lp | .rp | .cm | .cl | .fin => false
  | _ => true
noncomputable def wanted : Sg → Wd → Option (List Sg)
  | .term, x => if x = .lp then some [.q .lp, .op, .term, .kids] else if x.plain then some [.leaf] else none
  | .kids, x => if x = .rp then some [.q .rp] else some [.term, .kids]
  | .papers, x => if x = .rp then some [.q .rp] else some [.paper, .papers]
  | .places, x => if x = .rp then some [.q .rp] else some [.name, .term, .places]
  | .paper, _ => some [.q .lp, .kind]
  | .kind, .same => some [.op, .term, .q .rp]
  | .kind, .told => some [.op, .op, .q .rp]
  | .kind, .rule => some [.op, .op, .places]
  | .kind, .turn => some [.op, .paper, .q .rp]
  | .kind, .join => some [.op, .paper, .paper, .papers]
  | .kind, .under => some [.op, .op, .papers]
  | .kind, _ => none
  | .rule, _ => some [.op, .q .cl, .term, .q .ar, .right, .term, .needs]
  | .needs, x => if x = .ifw then some [.q .ifw, .term, .sign, .term, .more] else some [.made, .fin]
  | .more, x => if x = .cm then some [.q .cm, .term, .sign, .term, .more] else some [.made, .fin]
  | _, _ => none
noncomputable def isWord : Sg → Wd → Bool
  | .q y, x => x = y
  | .sign, x => x = .eq || x = .ne
  | .name, x => x.var
  | .fin, x => x = .fin
  | _, x => x.plain
noncomputable def Sg.wide : Sg → Bool
  | .term | .kids | .papers | .places | .paper | .kind | .rule | .needs | .more => true
  | _ => false
noncomputable def addName (wd : Wd) : List (List Wd) → List (List Wd)
  | [] => []
  | [l] => [l ++ [wd]]
  | l :: r => l :: addName wd r
noncomputable def badMade (rl : Bool) (wl : List Wd) (st : St) : Bool :=
  (rl && decide (2 < st.at_) && ((wl[2]?.map Wd.var).getD false)) || st.lost.any fun n => !st.left.contains n
noncomputable def mstepB (rl : Bool) (wl : List Wd) (st : St) (s : Sg) (S : List Sg) (wd : Wd) : Option (St ⊕ Nat) :=
  if s = .right then some (.inl { st with isR := true, stack := S })
  else if s = .made then (if badMade rl wl st = true then some (.inr 0) else some (.inl { st with stack := S }))
  else if s.wide = true then
    match wanted s wd with
    | none => some (.inr st.at_)
    | some late => some (.inl { st with stack := late ++ S, names := if s = .kind ∧ wd = .rule then st.names ++ [[]] else st.names })
  else if (!isWord s wd || (decide (s = .name) && ((st.names.getLast?.getD []).contains wd))) = true then some (.inr st.at_)
  else some (.inl { st with
    at_ := st.at_ + 1, stack := S
    names := if s = .name then addName wd st.names else st.names
    left := if s = .leaf && wd.var && !st.isR then st.left ++ [wd] else st.left
    lost := if s = .leaf && wd.var && st.isR then st.lost ++ [wd] else st.lost })
noncomputable def mstep (rl : Bool) (wl : List Wd) (st : St) : Option (St ⊕ Nat) :=
  match st.stack, wl[st.at_]? with
  | s :: S, some wd => mstepB rl wl st s S wd
  | _, _ => none
section
variable {rl : Bool} {wl : List Wd} {a : Nat} {s : Sg} {S : List Sg} {N : List (List Wd)} {R : Bool} {l lo : List Wd} {wd : Wd}
theorem ms_step (h : wl[a]? = some wd) : mstep rl wl ⟨a, s :: S, N, R, l, lo⟩ = mstepB rl wl ⟨a, s :: S, N, R, l, lo⟩ s S wd := by
  show (match s :: S, wl[a]? with | s :: S, some wd => mstepB rl wl _ s S wd | _, _ => none) = _
  rw [h]
theorem ms_end {st : St} (h : st.stack = []) : mstep rl wl st = none := by
  unfold mstep; rw [h]
theorem ms_at {st : St} {o : St ⊕ Nat} (h : mstep rl wl st = some o) : st.at_ < wl.length := by
  obtain ⟨a, S, N, R, l, lo⟩ := st
  cases S with
  | nil => rw [ms_end rfl] at h; cases h
  | cons s S =>
    show a < wl.length
    cases e : wl[a]? with
    | some wd => exact (List.getElem?_eq_some_iff.mp e).1
    | none =>
      have : mstep rl wl ⟨a, s :: S, N, R, l, lo⟩ = none := by
        show (match s :: S, wl[a]? with | s :: S, some wd => mstepB rl wl _ s S wd | _, _ => none) = _
        rw [e]
      rw [this] at h; cases h
theorem ms_right (h : wl[a]? = some wd) : mstep rl wl ⟨a, .right :: S, N, R, l, lo⟩ = some (.inl ⟨a, S, N, true, l, lo⟩) := (ms_step h).trans (if_pos rfl)
theorem ms_made0 (h : wl[a]? = some wd) (hb : badMade rl wl ⟨a, .made :: S, N, R, l, lo⟩ = false) : mstep rl wl ⟨a, .made :: S, N, R, l, lo⟩ = some (.inl ⟨a, S, N, R, l, lo⟩) :=
  (ms_step h).trans ((if_neg (by decide)).trans ((if_pos rfl).trans (if_neg (by rw [hb]; decide))))
theorem ms_made1 (h : wl[a]? = some wd) (hb : badMade rl wl ⟨a, .made :: S, N, R, l, lo⟩ = true) : mstep rl wl ⟨a, .made :: S, N, R, l, lo⟩ = some (.inr 0) :=
  (ms_step h).trans ((if_neg (by decide)).trans ((if_pos rfl).trans (if_pos hb)))
theorem ms_wide (h : wl[a]? = some wd) (h1 : s ≠ .right) (h2 : s ≠ .made) (hw : s.wide = true) : mstep rl wl ⟨a, s :: S, N, R, l, lo⟩ = match wanted s wd with
    | none => some (.inr a)
    | some late => some (.inl ⟨a, late ++ S, if s = .kind ∧ wd = .rule then N ++ [[]] else N, R, l, lo⟩) :=
  (ms_step h).trans ((if_neg h1).trans ((if_neg h2).trans (if_pos hw)))
theorem ms_none (h : wl[a]? = some wd) (h1 : s ≠ .right) (h2 : s ≠ .made) (hw : s.wide = true) (hn : wanted s wd = none) : mstep rl wl ⟨a, s :: S, N, R, l, lo⟩ = some (.inr a) := by
  rw [ms_wide h h1 h2 hw, hn]
theorem ms_some {late : List Sg} (h : wl[a]? = some wd) (h1 : s ≠ .right) (h2 : s ≠ .made) (hw : s.wide = true) (hn : wanted s wd = some late) :
    mstep rl wl ⟨a, s :: S, N, R, l, lo⟩ = some (.inl ⟨a, late ++ S, if s = .kind ∧ wd = .rule then N ++ [[]] else N, R, l, lo⟩) := by
  rw [ms_wide h h1 h2 hw, hn]
theorem ms_bad (h : wl[a]? = some wd) (h1 : s ≠ .right) (h2 : s ≠ .made) (hw : s.wide = false) (hd : (!isWord s wd || (decide (s = .name) && ((N.getLast?.getD []).contains wd))) = true) : mstep rl wl ⟨a, s :: S, N, R, l, lo⟩ = some (.inr a) :=
  (ms_step h).trans ((if_neg h1).trans ((if_neg h2).trans ((if_neg (by rw [hw]; decide)).trans (if_pos hd))))
theorem ms_ok (h : wl[a]? = some wd) (h1 : s ≠ .right) (h2 : s ≠ .made) (hw : s.wide = false) (hd : (!isWord s wd || (decide (s = .name) && ((N.getLast?.getD []).contains wd))) = false) :
    mstep rl wl ⟨a, s :: S, N, R, l, lo⟩ = some (.inl ⟨a + 1, S, if s = .name then addName wd N else N, R, if s = .leaf && wd.var && !R then l ++ [wd] else l, if s = .leaf && wd.var && R then lo ++ [wd] else lo⟩) :=
  (ms_step h).trans ((if_neg h1).trans ((if_neg h2).trans ((if_neg (by rw [hw]; decide)).trans (if_neg (by rw [hd]; decide)))))
theorem wd_bad {x : Bool} (h : isWord s wd = false) : (!isWord s wd || x) = true := by rw [h]; rfl
theorem wd_ok (h : isWord s wd = true) (hn : s ≠ .name) {x : Bool} : (!isWord s wd || (decide (s = .name) && x)) = false := by rw [h, decide_eq_false hn]; rfl
end
inductive Rn (rl : Bool) (wl : List Wd) : St → Option Nat → Prop
  | done {st} : st.stack = [] → Rn rl wl st none
  | stop {st r} : mstep rl wl st = some (.inr r) → Rn rl wl st (some r)
  | go {st st' r} : mstep rl wl st = some (.inl st') → Rn rl wl st' r → Rn rl wl st r
theorem Rn.out {rl wl st r} (h : Rn rl wl st r) : match mstep rl wl st with | none => r = none | some (.inr i) => r = some i | some (.inl st') => Rn rl wl st' r := by
  cases h with
  | done e => rw [ms_end e]
  | stop e => rw [e]
  | go e h' => rw [e]; exact h'
theorem Rn.det {rl wl st r r'} (h : Rn rl wl st r) (h' : Rn rl wl st r') : r = r' := by
  induction h with
  | done e => have q := h'.out; rw [ms_end e] at q; exact q.symm
  | stop e => have q := h'.out; rw [e] at q; exact q.symm
  | go e _ ih => have q := h'.out; rw [e] at q; exact ih q
/-- a term, as the reader makes it -/
inductive Tree where
  | node (op : Wd) (kids : List Tree)
mutual
noncomputable def Tree.vars : Tree → List Wd
  | .node op [] => if op.var then [op] else []
  | .node _ (k :: ks) => k.vars ++ Tree.varsL ks
noncomputable def Tree.varsL : List Tree → List Wd
  | [] => []
  | k :: ks => k.vars ++ Tree.varsL ks
end
noncomputable def addVars (st : St) (l : List Wd) : St := if st.isR then { st with lost := st.lost ++ l } else { st with left := st.left ++ l }
section
variable {rl : Bool} {wl : List Wd} {p : Nat} {S : List Sg} {N : List (List Wd)} {R : Bool} {l lo : List Wd} {r : Option Nat} {x : Wd}
/-- a word that must stand there -/
theorem Rn.eat {s : Sg} (hs : s ≠ .right ∧ s ≠ .made ∧ s.wide = false ∧ s ≠ .name ∧ s ≠ .leaf) (hp : wl[p]? = some x) (hw : isWord s x = true) (h : Rn rl wl ⟨p + 1, S, N, R, l, lo⟩ r) : Rn rl wl ⟨p, s :: S, N, R, l, lo⟩ r := by
  obtain ⟨h1, h2, h3, h4, h5⟩ := hs
  refine .go (ms_ok hp h1 h2 h3 (wd_ok hw h4)) ?_
  rw [if_neg h4, decide_eq_false h5]
  exact h
theorem Rn.miss {s : Sg} (hs : s ≠ .right ∧ s ≠ .made ∧ s.wide = false) (hp : wl[p]? = some x) (hw : isWord s x = false) : Rn rl wl ⟨p, s :: S, N, R, l, lo⟩ (some p) := by
  exact .stop (ms_bad hp hs.1 hs.2.1 hs.2.2 (wd_bad hw))
theorem Rn.open {s : Sg} {late : List Sg} (hs : s ≠ .right ∧ s ≠ .made ∧ s.wide = true ∧ s ≠ .kind) (hp : wl[p]? = some x) (hw : wanted s x = some late) (h : Rn rl wl ⟨p, late ++ S, N, R, l, lo⟩ r) : Rn rl wl ⟨p, s :: S, N, R, l, lo⟩ r := by
  obtain ⟨h1, h2, h3, h4⟩ := hs
  refine .go (ms_some hp h1 h2 h3 hw) ?_
  rw [if_neg (fun q => h4 q.1)]
  exact h
theorem Rn.shut {s : Sg} (hs : s ≠ .right ∧ s ≠ .made ∧ s.wide = true) (hp : wl[p]? = some x) (hw : wanted s x = none) : Rn rl wl ⟨p, s :: S, N, R, l, lo⟩ (some p) := by
  exact .stop (ms_none hp hs.1 hs.2.1 hs.2.2 hw)
theorem Rn.leaf (hp : wl[p]? = some x) (hw : x.plain = true) (h : Rn rl wl (addVars ⟨p + 1, S, N, R, l, lo⟩ (if x.var then [x] else [])) r) : Rn rl wl ⟨p, .leaf :: S, N, R, l, lo⟩ r := by
  refine .go (ms_ok hp (by decide) (by decide) rfl (wd_ok (s := .leaf) hw (by decide))) ?_
  cases hv : x.var with
  | true => rw [hv] at h; cases R <;> exact h
  | false => rw [hv] at h; rw [show addVars ⟨p + 1, S, N, R, l, lo⟩ (if false = true then [x] else []) = ⟨p + 1, S, N, R, l, lo⟩ by cases R <;> simp [addVars]] at h; exact h
end
end
section
variable [OSC]
noncomputable def CX (h₀ : Heap) (z : Shared) (fr : Led) (E : Value → Shared → Prop) (k : Int) : Prop :=
  ∀ h' tk' e de od, Fly h₀ h' fr 76 e de od false → PayT od k → E (.ref e) (S z h' tk')
noncomputable def EX (h₀ : Heap) (z : Shared) (L : Addr) (fr : Led) (E : Value → Shared → Prop) (k : Int) : Prop :=
  ∀ h' tk' e de od oL new, (∀ u, oL.data ≠ .fields u) → Fly h₀ h' ((L, oL) :: fr) 76 e de od new → PayT od k → E (.ref e) (S z h' tk')
/-- a def's own body: what stands around it -/
structure BO (A : Around) (env : Env) (outer : List Env) (fr mu : Led) : Prop where
  frames : A.frames = some (env :: outer)
  kind : env.scope.kind = .function
  frame : env.frame = some env.locals
  al : Frs outer fr
  sub : ∀ p ∈ fr, p ∈ mu ∧ ∀ u, p.2.data ≠ .fields u
  hd : A.handled = none
section
variable {w : World} {mg mb : Str → Option Value} {h₀ h h' : Heap} {env : Env} {ns gs : List Str} {vs vs' : List (Option Value)} {mu nw fr : Led} {z : Shared} {tk : Nat} {A : Around} {E Q : Value → Shared → Prop} {M : Model} {outer : List Env} {k : Int}
theorem BO.of (O : Out A outer fr mu) (hk : env.scope.kind = .function) (hf : env.frame = some env.locals) : BO (A.deeper env) env outer fr mu :=
  ⟨Around.frames_deeper O.frames, hk, hf, O.al, O.sub, O.hd⟩
theorem BO.out {oL : Obj} (O : BO A env outer fr mu) (hn : ∀ u, oL.data ≠ .fields u) : Out A (env :: outer) ((env.locals, oL) :: fr) ((env.locals, oL) :: mu) :=
  ⟨O.frames, ⟨by rw [O.kind]; decide, O.frame, O.al⟩, fun p hp => by
    rcases List.mem_cons.mp hp with rfl | hp
    · exact ⟨.head _, hn⟩
    · exact ⟨.tail _ (O.sub p hp).1, (O.sub p hp).2⟩, O.hd⟩
theorem BO.mono {mu' : Led} (O : BO A env outer fr mu) (s : ∀ p ∈ mu, p ∈ mu') : BO A env outer fr mu' := ⟨O.frames, O.kind, O.frame, O.al, fun p hp => ⟨s _ (O.sub p hp).1, (O.sub p hp).2⟩, O.hd⟩
theorem EX.of (O : Out A outer fr mu) (hk : env.scope.kind = .function) (hf : env.frame = some env.locals) (hE : CX h₀ z fr E k) :
    EX h₀ z env.locals fr (fun e s' => wpAny (model PG w) (A.deeper env) (leaving env e) (fun _ s'' => E e s'') (fun e' s'' => E e' s'') s') k :=
  fun h' tk' e de od oL new hn X P => leave_text (oL := oL) O hk hf hn X fun h'' X' => hE _ _ _ _ _ X' P
theorem EX.cx {oL : Obj} (hE : EX h₀ z env.locals fr E k) (hn : ∀ u, oL.data ≠ .fields u) : CX h₀ z ((env.locals, oL) :: fr) E k := fun h' tk' e de od X P => hE h' tk' e de od oL _ hn X P
/-- through a while -/
theorem EX.loop (O : BO A env outer fr mu) (hE : EX h₀ z env.locals fr E k) : EX h₀ z env.locals fr (notedBy M A env fun e s' => cameBackBy M A env E e s') k :=
  fun h' tk' e de od oL new hn X P => fly_noted O.frames (show Frs (env :: outer) ((env.locals, oL) :: fr) from ⟨by rw [O.kind]; decide, O.frame, O.al⟩) O.frame X fun h1 X1 => fly_back X1 fun h2 X2 => hE _ _ _ _ _ oL false hn X2 P
/-- raise TextFault(a, b) in a def's body -/
theorem b_raise {e1 e2 : Expr} {pf pc pos : Pos} {Q : Flow → Shared → Prop} (O : BO A env outer fr mu) (R : Room A 20) (hX : EX h₀ z env.locals fr E k) (G : GS w mg mb h₀ env ns gs vs mu nw h) (hg : Has gs "TextFault")
    (h1 : wpAny (model PG w) A (eval e1 env) (fun v s' => Ex4 fun s t h' tk' => Al3 (v = .str s t) (s' = S z h' tk') (GS w mg mb h₀ env ns gs vs mu nw h')) E (S z h tk))
    (h2 : ∀ h' tk', GS w mg mb h₀ env ns gs vs mu nw h' → wpAny (model PG w) A (eval e2 env) (fun v' s'' => Ex3 fun t' h'' tk'' => Al3 (v' = .int k t') (s'' = S z h'' tk'') (GS w mg mb h₀ env ns gs vs mu nw h'')) E (S z h' tk'))
    (a1 : starEach [e1, e2] env = (false, eval e1 env) :: starEach [e2] env := by rfl) (a2 : (backTo pc (starEach [e2] env)).any (·.1) = false := by rfl) (a3 : starEach [e2] env = (false, eval e2 env) :: starEach [] env := by rfl)
    (he : eval (.Call (.Name "TextFault" pf) [e1, e2] [] pc) env = (do callWith pc (← eval (.Name "TextFault" pf) env) [] (backTo pc (starEach [e1, e2] env)) (backToKw pc (keywordEach [] env))) := by rfl) :
    wpAny (model PG w) A (exec (.Raise (some (.Call (.Name "TextFault" pf) [e1, e2] [] pc)) none pos) env) Q E (S z h tk) := by
  refine r_raise O.hd ?_
  refine Call_ ?_ he
  refine r_glo G hg (g_TextFault w) ?_
  refine callWith_K G.bs.K (keep76 w) ?_ a1 a2
  refine args_cons ?_ a1
  try k_fold
  refine wpAny_mono h1 (fun v s' h1 => ?_) fun _ _ x => x
  obtain ⟨s, t, h', tk', rfl, rfl, G1⟩ := h1
  refine args_cons ?_ a3
  try k_fold
  refine wpAny_mono (h2 h' tk' G1) (fun v s' h2 => ?_) fun _ _ x => x
  obtain ⟨t', h', tk', rfl, rfl, G'⟩ := h2
  refine args_nil ⟨G'.K, ?_⟩
  refine raised_text G' R O.sub fun h' tk' e de od oL hn X P => ?_
  exact hX _ _ _ _ _ oL true hn X P
end
end
section
variable [OSC]
/-- a method of the reader's: from place p to another place, or a fault -/
noncomputable def MSpec (w : World) (f : Addr) (n : Nat) (wl : Addr) (toks : List (Wd × Nat)) (p d : Nat) (mo : Int) (R : Led → Value → Nat → Nat → Prop) (F : Int → Prop) : Prop :=
  ∀ {mg mb : Str → Option Value} {h₀ h : Heap} {mu nw fr : Led} {z : Shared} {tk : Nat} {A : Around} {outer : List Env} {E Q : Value → Shared → Prop} {x dx : Addr} {o : Obj},
    Bs w mg mb h₀ → Gh h₀ h ((dx, o) :: mu) nw → Room A n → (x, instObj 258 dx) ∈ nw → IsRD w o wl p d mo → Toks nw wl toks → Out A outer fr mu →
    (∀ h' tk' o' nw' v (p' d' : Nat), (∀ q ∈ nw, q ∈ nw') → IsRD w o' wl p' d' mo → Gh h₀ h' ((dx, o') :: mu) nw' → R nw' v p' d' → Q v (S z h' tk')) →
    (∀ k, F k → CX h₀ z fr E k) →
    wpAny (model PG w) A (call (.ref f) [.ref x]) Q E (S z h tk)
section
variable {w : World} {mg mb : Str → Option Value} {h₀ h h' : Heap} {env : Env} {ns gs : List Str} {vs vs' : List (Option Value)} {mu nw fr : Led} {z : Shared} {tk : Nat} {A : Around} {E Q : Value → Shared → Prop} {M : Model} {outer : List Env} {k : Int}
  {x dx wl : Addr} {o : Obj} {p d n : Nat} {mo : Int} {toks : List (Wd × Nat)} {wd : Wd × Nat} {p1 p2 p3 : Pos} {f : Addr} {R : Led → Value → Nat → Nat → Prop} {F : Int → Prop} {name self : Str}
theorem b_method (m : MSpec w f n wl toks p d mo R F) (keep : keepIn (KK w) (.ref f) = true)
    (hrm : ∀ {Q' : Value × List Value → Shared → Prop} {pl : Sem Bool}, Q' (.ref f, [.ref x]) (S z h tk) → wpAny (model PG w) A (getMethod (.ref x) name pl) Q' E (S z h tk))
    (G : GS w mg mb h₀ env ns gs vs ((dx, o) :: mu) nw h) (hl : (p2.endLine == p3.line) = true) (hs : At ns vs self (.ref x)) (hA : Room A n) (hx : (x, instObj 258 dx) ∈ nw) (ho : IsRD w o wl p d mo) (hw : Toks nw wl toks)
    (O : BO A env outer fr mu)
    (hq : ∀ h' tk' o' nw' v (p' d' : Nat), (∀ q ∈ nw, q ∈ nw') → IsRD w o' wl p' d' mo → GS w mg mb h₀ env ns gs vs ((dx, o') :: mu) nw' h' → R nw' v p' d' → Q v (S z h' tk'))
    (hE : ∀ k, F k → EX h₀ z env.locals fr E k) :
    wpAny (model PG w) A (eval (.Call (.Attribute (.Name self p1) name p2) [] [] p3) env) Q E (S z h tk) := by
  refine mcall hl ?_
  refine r_loc G hs ?_
  refine hrm ?_
  refine callWith_K0 G.K keep ?_
  obtain ⟨oL, Gc, hn, back⟩ := G.call1
  exact m G.bs Gc hA hx ho hw (O.out hn) (fun h' tk' o' nw' v p' d' hs ho' G' hR => hq _ _ _ _ _ _ _ hs ho' (back _ _ _ _ G') hR) fun k hF => (hE k hF).cx hn
theorem want_spec {wd : Wd} {u : Wd × Nat} {t : Tok} (B : Bs w mg mb h₀) (G : Gh h₀ h ((dx, o) :: mu) nw) (hA : Room A 22) (hx : (x, instObj 258 dx) ∈ nw) (ho : IsRD w o wl p d mo) (hw : Toks nw wl toks) (hp : toks[p]? = some u) (O : Out A outer fr mu)
    (hq : u.1 = wd → ∀ h' tk' o', IsRD w o' wl (if wd = .fin then p else p + 1 : Nat) d mo → Gh h₀ h' ((dx, o') :: mu) nw → Q .none (S z h' tk'))
    (hE : u.1 ≠ wd → CX h₀ z fr E u.2) :
    wpAny (model PG w) A (call (.ref 187) [.ref x, .str wd.str t]) Q E (S z h tk) := by
  refine enter ["self", "word"] ["TextFault"] [some (.ref x), some (.str wd.str t)] B G hA.depth rfl rfl rfl rfl ⟨rfl, by decide, by decide, by decide, by decide⟩ rfl ?_ rfl rfl (by decide)
  intro L h₁ tk' ev Av Qv Ev G
  refine wpAny_execs_cons ?_
  try k_fold
  refine wpAny_If ?_
  try k_fold
  refine wpAny_isTrue_Compare1 ?_
  refine b_word G rfl .head (hA.deeper.le (m := 1) (by decide)) hx ho hw hp ?_
  intro h2 tk2 t2 G
  walk_at "m:loc"
  refine PyProof.Rows.ne_str ?_
  refine wpAny_truthy_bool ?_
  rw [Wd.bne]
  refine ifs (fun hb => ?_) (fun hb => ?_)
  · refine wpAny_execs_cons ?_
    try k_fold
    refine b_raise ((BO.of O rfl rfl).mono fun _ h => .tail _ h) (hA.deeper.le (m := 20) (by decide)) (EX.of O rfl rfl (hE (of_decide_eq_true hb))) G .head ?_ ?_
    · refine wpAny_IfExp ?_
      refine wpAny_isTrue_Compare1 ?_
      walk_at "m:loc"
      refine r_str ?_
      intro t3
      refine PyProof.Rows.ne_str ?_
      refine wpAny_truthy_bool ?_
      refine ifs (fun hb => ?_) (fun hb => ?_)
      · refine JoinedStr_many ?_
        refine joinParts_cons ?_
        refine FormattedValue_plain ?_
        walk_at "m:loc"
        refine formatField_str ?_ (Nat.le_trans wd.len (by decide))
        intro t4 tk4
        have l1 : (Str.empty ++ wd.str).length = wd.str.length := by rw [strLen_append]; exact Nat.zero_add _
        refine ⟨by rw [l1]; exact Nat.le_trans wd.len (by decide), ?_⟩
        refine joinParts_cons ?_
        refine r_strN ?_
        have l2 : (Str.empty ++ wd.str ++ " is wanted").length ≤ sizeLine := by rw [strLen_append, l1]; exact Nat.le_trans (Nat.add_le_add_right wd.len _) (by decide)
        refine ⟨l2, ?_⟩
        refine joinParts_nilE ?_
        with_reducible refine joinParts_nil ?_ ?_
        rotate_left
        · exact l2
        · exact ⟨_, _, h2, _, rfl, rfl, G⟩
      · refine wpAny_Constant_str ?_
        exact ⟨_, _, _, _, rfl, rfl, G⟩
    · intro h' tk' G
      exact b_spot G rfl .head (hA.deeper.le (m := 1) (by decide)) hx ho hw hp fun h3 tk3 t3 G3 => ⟨_, _, _, rfl, rfl, G3⟩
  · have hu : u.1 = wd := by simpa using hb
    refine wpAny_execs_nil ?_
    refine wpAny_execs_cons ?_
    try k_fold
    refine wpAny_If ?_
    try k_fold
    refine wpAny_isTrue_Compare1 ?_
    walk_at "m:loc"
    refine r_str ?_
    intro t3
    refine PyProof.Rows.ne_str ?_
    refine wpAny_truthy_bool ?_
    change if (wd.str != Wd.fin.str) = true then _ else _
    rw [Wd.bne]
    refine ifs (fun hc => ?_) (fun hc => ?_)
    · have hne : wd ≠ .fin := of_decide_eq_true hc
      refine wpAny_execs_cons ?_
      try k_fold
      refine wpAny_Expr ?_
      refine b_take G rfl .head (hA.deeper.le (m := 1) (by decide)) hx ho hw hp ?_
      intro h4 tk4 o4 t4 ho4 G
      refine wpAny_execs_nil ?_
      refine wpAny_execs_nil ?_
      exact hq hu _ _ _ (by rw [if_neg hne]; exact ho4) G.G
    · have he : wd = .fin := by simpa using hc
      refine wpAny_execs_nil ?_
      refine wpAny_execs_nil ?_
      exact hq hu _ _ _ (by rw [if_pos he]; exact ho) G.G
/-- self.want(word) in a def's body -/
theorem b_want {wd : Wd} {u : Wd × Nat} {c : Str} {kc : Nat} {pc : Pos} (hc : wd.str = c) (G : GS w mg mb h₀ env ns gs vs ((dx, o) :: mu) nw h) (hl : (p2.endLine == p3.line) = true) (hs : At ns vs self (.ref x)) (hA : Room A 22) (hx : (x, instObj 258 dx) ∈ nw) (ho : IsRD w o wl p d mo) (hw : Toks nw wl toks) (hp : toks[p]? = some u)
    (O : BO A env outer fr mu)
    (hq : u.1 = wd → ∀ h' tk' o', IsRD w o' wl (if wd = .fin then p else p + 1 : Nat) d mo → GS w mg mb h₀ env ns gs vs ((dx, o') :: mu) nw h' → Q .none (S z h' tk'))
    (hE : u.1 ≠ wd → EX h₀ z env.locals fr E u.2)
    (he : starEach [.Constant (.str c) kc pc] env = (false, eval (.Constant (.str c) kc pc) env) :: starEach [] env := by rfl) (hf : methodCallForm (1 + 0) (backTo p3 (starEach [.Constant (.str c) kc pc] env)) [] = true := by rfl) :
    wpAny (model PG w) A (eval (.Call (.Attribute (.Name self p1) "want" p2) [.Constant (.str c) kc pc] [] p3) env) Q E (S z h tk) := by
  refine mcall hl ?_ hf
  refine r_loc G hs ?_
  refine rm_want G hx ho ?_
  refine callWith_K G.bs.K (keep_fn w).2.2.2.1 ?_ he
  refine args_cons ?_ he
  refine r_strN ?_
  refine args_nil ⟨G.K, ?_⟩
  subst hc
  obtain ⟨oL, Gc, hn, back⟩ := G.call1
  exact want_spec G.bs Gc hA hx ho hw hp (O.out hn) (fun e h' tk' o' ho' G' => hq e _ _ _ ho' (back _ _ _ _ G')) fun e => (hE e).cx hn
end
end
section
variable [OSC]
theorem Wd.isop (x : Wd) : opStr x.str = x.op := (by decide +kernel : ∀ x ∈ Wd.all, opStr x.str = x.op) x x.mem
theorem Wd.isvar (x : Wd) : (Txt.slice x.str none (some 1) != "?") = !x.var := (by decide +kernel : ∀ x ∈ Wd.all, (Txt.slice x.str none (some 1) != "?") = !x.var) x x.mem
theorem Wd.isvar' (x : Wd) : (Txt.slice x.str none (some 1) == "?") = x.var := (by decide +kernel : ∀ x ∈ Wd.all, (Txt.slice x.str none (some 1) == "?") = x.var) x x.mem
section
variable {w : World} {mg mb : Str → Option Value} {h₀ h h' : Heap} {env : Env} {ns gs : List Str} {vs vs' : List (Option Value)} {mu nw fr : Led} {z : Shared} {tk : Nat} {A : Around} {E Q : Value → Shared → Prop} {M : Model} {outer : List Env} {k : Int}
  {x dx wl : Addr} {o : Obj} {p d n : Nat} {mo : Int} {toks : List (Wd × Nat)} {wd : Wd × Nat} {p1 p2 p3 : Pos} {f : Addr} {R : Led → Value → Nat → Nat → Prop} {F : Int → Prop} {name self : Str}
  {s : Shared} {e e1 e2 : Expr} {pp : Pos}
theorem Slice_ns (hh : wpAny M A (eval e env) (fun u s₂ => Q (.ref s₂.heap.objs.size) { s₂ with heap := s₂.heap.push { cls := .type "slice", data := .fields #[.none, u, .none] } }) E s) : wpAny M A (eval (.Slice none (some e) none pp) env) Q E s :=
  wpAny_Slice (wpAny_pure (wpAny_mono hh (fun _ _ h => wpAny_pure h) fun _ _ x => x))
theorem Slice_sn (hh : wpAny M A (eval e env) (fun u s₂ => Q (.ref s₂.heap.objs.size) { s₂ with heap := s₂.heap.push { cls := .type "slice", data := .fields #[u, .none, .none] } }) E s) : wpAny M A (eval (.Slice (some e) none none pp) env) Q E s :=
  wpAny_Slice (wpAny_mono hh (fun _ _ h => wpAny_pure (wpAny_pure h)) fun _ _ x => x)
theorem Slice_ss (hh : wpAny M A (eval e1 env) (fun l s₁ => wpAny M A (eval e2 env) (fun u s₂ => Q (.ref s₂.heap.objs.size) { s₂ with heap := s₂.heap.push { cls := .type "slice", data := .fields #[l, u, .none] } }) E s₁) E s) : wpAny M A (eval (.Slice (some e1) (some e2) none pp) env) Q E s :=
  wpAny_Slice (wpAny_mono hh (fun _ _ h => wpAny_mono h (fun _ _ h => wpAny_pure h) fun _ _ x => x) fun _ _ x => x)
theorem r_slice_ns {value slice : Expr} {y : Str} {t uj : Tok} {j : Int} (G : GS w mg mb h₀ env ns gs vs mu nw h) (hsz : y.length ≤ sizeLine) (hq : ∀ h' t' tk', GS w mg mb h₀ env ns gs vs mu nw h' → Q (.str (Txt.slice y none (some j)) t') (S z h' tk'))
    (hs : subscripted slice false (.str y t) (.ref h.objs.size) = operate [.ref h.objs.size, .str y t] (getItem (.str y t) (.ref h.objs.size)) := by with_unfolding_all rfl)
    (ht : ∀ r, letTemporaryGo value (.str y t) r = pure () := by intro _; with_unfolding_all rfl) :
    wpAny (model PG w) A (subscriptTail value slice (.str y t) (.ref h.objs.size)) Q E (S z (h.push { cls := .type "slice", data := .fields #[.none, .int j uj, .none] }) tk) := by
  obtain ⟨m, F, hl⟩ := G.fr
  exact slice_strN_ns (s := S z h tk) F G.news (fun h' t' k F' N' => hq _ _ _ (G.back F' hl N' G.G.nd G.G.apart)) hs ht hsz
theorem r_slice_ss {value slice : Expr} {y : Str} {t ui uj : Tok} {i j : Int} (G : GS w mg mb h₀ env ns gs vs mu nw h) (hsz : y.length ≤ sizeLine) (hq : ∀ h' t' tk', GS w mg mb h₀ env ns gs vs mu nw h' → Q (.str (Txt.slice y (some i) (some j)) t') (S z h' tk'))
    (hs : subscripted slice false (.str y t) (.ref h.objs.size) = operate [.ref h.objs.size, .str y t] (getItem (.str y t) (.ref h.objs.size)) := by with_unfolding_all rfl)
    (ht : ∀ r, letTemporaryGo value (.str y t) r = pure () := by intro _; with_unfolding_all rfl) :
    wpAny (model PG w) A (subscriptTail value slice (.str y t) (.ref h.objs.size)) Q E (S z (h.push { cls := .type "slice", data := .fields #[.int i ui, .int j uj, .none] }) tk) := by
  obtain ⟨m, F, hl⟩ := G.fr
  exact slice_strN_ss (s := S z h tk) F G.news (fun h' t' k F' N' => hq _ _ _ (G.back F' hl N' G.G.nd G.G.apart)) hs ht hsz
theorem r_slice_sn {value slice : Expr} {y : Str} {t ui : Tok} {i : Int} (G : GS w mg mb h₀ env ns gs vs mu nw h) (hsz : y.length ≤ sizeLine) (hq : ∀ h' t' tk', GS w mg mb h₀ env ns gs vs mu nw h' → Q (.str (Txt.slice y (some i) none) t') (S z h' tk'))
    (hs : subscripted slice false (.str y t) (.ref h.objs.size) = operate [.ref h.objs.size, .str y t] (getItem (.str y t) (.ref h.objs.size)) := by with_unfolding_all rfl)
    (ht : ∀ r, letTemporaryGo value (.str y t) r = pure () := by intro _; with_unfolding_all rfl) :
    wpAny (model PG w) A (subscriptTail value slice (.str y t) (.ref h.objs.size)) Q E (S z (h.push { cls := .type "slice", data := .fields #[.int i ui, .none, .none] }) tk) := by
  obtain ⟨m, F, hl⟩ := G.fr
  exact slice_strN_sn (s := S z h tk) F G.news (fun h' t' k F' N' => hq _ _ _ (G.back F' hl N' G.G.nd G.G.apart)) hs ht hsz
theorem Wd.sz (x : Wd) : x.str.length ≤ sizeLine := Nat.le_trans x.len (by decide)
theorem keep95 (w : World) : keepIn (KK w) (.ref 95) = true := by kernel_rfl
/-- is_op(word) in a def's body -/
theorem b_isop {y : Str} {a : Expr} {pf : Pos} (hh : A.handled = none) (hA : Room A 1) (hg : Has gs "is_op") (G : GS w mg mb h₀ env ns gs vs mu nw h) (hsz : y.length ≤ sizeLine)
    (ha : wpAny (model PG w) A (eval a env) (fun v s' => Ex3 fun t h' tk' => Al3 (v = .str y t) (s' = S z h' tk') (GS w mg mb h₀ env ns gs vs mu nw h')) E (S z h tk))
    (hq : ∀ h' tk', GS w mg mb h₀ env ns gs vs mu nw h' → Q (.bool (opStr y)) (S z h' tk'))
    (a1 : starEach [a] env = (false, eval a env) :: starEach [] env := by rfl)
    (he : eval (.Call (.Name "is_op" pf) [a] [] p3) env = (do callWith p3 (← eval (.Name "is_op" pf) env) [] (backTo p3 (starEach [a] env)) (backToKw p3 (keywordEach [] env))) := by rfl) :
    wpAny (model PG w) A (eval (.Call (.Name "is_op" pf) [a] [] p3) env) Q E (S z h tk) := by
  refine Call_ ?_ he
  refine r_glo G hg (g_is_op w) ?_
  refine callWith_K G.bs.K (keep95 w) ?_ a1
  refine args_cons ?_ a1
  try k_fold
  refine wpAny_mono ha (fun v s' h1 => ?_) fun _ _ x => x
  obtain ⟨t, h', tk', rfl, rfl, G'⟩ := h1
  refine args_nil ⟨G'.K, ?_⟩
  obtain ⟨oL, Gc, hn, back⟩ := G'.call
  exact isop_spec G'.bs Gc hA hh hsz fun h2 tk2 G2 => hq _ _ (back _ _ _ G2)
theorem op_spec {u : Wd × Nat} (hp : toks[p]? = some u) : MSpec w 194 22 wl toks p d mo (fun nw v p' d' => (∃ t, v = .str u.1.str t) ∧ u.1.op = true ∧ p' = p + 1 ∧ d' = d) (fun k => u.1.op = false ∧ k = u.2) := by
  intro mg mb h₀ h mu nw fr z tk A outer E Q x dx o B G hA hx ho hw O hq hE
  refine enter ["self"] ["is_op", "TextFault"] [some (.ref x)] B G hA.depth rfl rfl rfl rfl ⟨rfl, by decide, by decide, by decide, by decide⟩ rfl ?_ rfl rfl (by decide)
  intro L h₁ tk' ev Av Qv Ev G
  refine wpAny_execs_cons ?_
  try k_fold
  refine wpAny_If ?_
  try k_fold
  refine wpAny_isTrue_Not ?_
  refine wpAny_isTrue_value ?_
  refine b_isop O.hd (hA.deeper.le (m := 1) (by decide)) .head G u.1.sz ?_ ?_
  · exact b_word G rfl .head (hA.deeper.le (m := 1) (by decide)) hx ho hw hp fun h' tk' t G' => ⟨_, _, _, rfl, rfl, G'⟩
  intro h2 tk2 G
  rw [Wd.isop]
  refine wpAny_truthy_bool ?_
  refine ifs (fun hb => ?_) (fun hb => ?_)
  · have hb' : u.1.op = false := by simpa using hb
    refine wpAny_execs_cons ?_
    try k_fold
    refine b_raise ((BO.of O rfl rfl).mono fun _ h => .tail _ h) (hA.deeper.le (m := 20) (by decide)) (EX.of O rfl rfl (hE u.2 ⟨hb', rfl⟩)) G (.tail .head) ?_ ?_
    · refine r_str ?_
      intro t
      exact ⟨_, _, _, _, rfl, rfl, G⟩
    · intro h' tk' G
      exact b_spot G rfl .head (hA.deeper.le (m := 1) (by decide)) hx ho hw hp fun h3 tk3 t3 G3 => ⟨_, _, _, rfl, rfl, G3⟩
  · have hb' : u.1.op = true := by simpa using hb
    refine wpAny_execs_nil ?_
    refine wpAny_execs_cons ?_
    try k_fold
    refine wpAny_Return_some ?_
    refine b_take G rfl .head (hA.deeper.le (m := 1) (by decide)) hx ho hw hp ?_
    intro h4 tk4 o4 t4 ho4 G
    exact hq _ _ _ _ _ _ _ (fun _ h => h) ho4 G.G ⟨⟨_, rfl⟩, hb', rfl, rfl⟩
theorem variable_spec {u : Wd × Nat} (hp : toks[p]? = some u) : MSpec w 215 22 wl toks p d mo (fun nw v p' d' => (∃ t, v = .str u.1.str t) ∧ u.1.var = true ∧ p' = p + 1 ∧ d' = d) (fun k => u.1.var = false ∧ k = u.2) := by
  intro mg mb h₀ h mu nw fr z tk A outer E Q x dx o B G hA hx ho hw O hq hE
  refine enter ["self"] ["TextFault"] [some (.ref x)] B G hA.depth rfl rfl rfl rfl ⟨rfl, by decide, by decide, by decide, by decide⟩ rfl ?_ rfl rfl (by decide)
  intro L h₁ tk' ev Av Qv Ev G
  refine wpAny_execs_cons ?_
  try k_fold
  refine wpAny_If ?_
  try k_fold
  refine wpAny_isTrue_Compare1 ?_
  refine Subscript_ ?_
  refine b_word G rfl .head (hA.deeper.le (m := 1) (by decide)) hx ho hw hp ?_
  intro h2 tk2 t2 G
  refine Slice_ns ?_
  refine r_int ?_
  intro t3
  refine r_slice_ns G u.1.sz ?_
  intro h3 t4 tk3 G
  refine r_strN ?_
  refine PyProof.Rows.ne_str ?_
  refine wpAny_truthy_bool ?_
  rw [Wd.isvar]
  refine ifs (fun hb => ?_) (fun hb => ?_)
  · have hb' : u.1.var = false := by simpa using hb
    refine wpAny_execs_cons ?_
    try k_fold
    refine b_raise ((BO.of O rfl rfl).mono fun _ h => .tail _ h) (hA.deeper.le (m := 20) (by decide)) (EX.of O rfl rfl (hE u.2 ⟨hb', rfl⟩)) G .head ?_ ?_
    · refine r_str ?_
      intro t
      exact ⟨_, _, _, _, rfl, rfl, G⟩
    · intro h' tk' G
      exact b_spot G rfl .head (hA.deeper.le (m := 1) (by decide)) hx ho hw hp fun h3 tk3 t3 G3 => ⟨_, _, _, rfl, rfl, G3⟩
  · have hb' : u.1.var = true := by simpa using hb
    refine wpAny_execs_nil ?_
    refine wpAny_execs_cons ?_
    try k_fold
    refine wpAny_Return_some ?_
    refine b_take G rfl .head (hA.deeper.le (m := 1) (by decide)) hx ho hw hp ?_
    intro h4 tk4 o4 t4 ho4 G
    exact hq _ _ _ _ _ _ _ (fun _ h => h) ho4 G.G ⟨⟨_, rfl⟩, hb', rfl, rfl⟩
theorem begin_spec {u : Wd × Nat} (hp : toks[p]? = some u) (hd : (d : Int) + 1 ≤ mo) : MSpec w 201 24 wl toks p d mo (fun nw v p' d' => v = .none ∧ u.1 = .lp ∧ p' = p + 1 ∧ d' = d + 1) (fun k => u.1 ≠ .lp ∧ k = u.2) := by
  intro mg mb h₀ h mu nw fr z tk A outer E Q x dx o B G hA hx ho hw O hq hE
  refine enter ["self"] ["TextFault"] [some (.ref x)] B G hA.depth rfl rfl rfl rfl ⟨rfl, by decide, by decide, by decide, by decide⟩ rfl ?_ rfl rfl (by decide)
  intro L h₁ tk' ev Av Qv Ev G
  refine wpAny_execs_cons ?_
  try k_fold
  refine wpAny_Expr ?_
  refine b_want (wd := .lp) rfl G rfl .head (hA.deeper.le (m := 22) (by decide)) hx ho hw hp ((BO.of O rfl rfl)) ?_ ?_
  rotate_left
  · intro e
    exact EX.of O rfl rfl (hE u.2 ⟨e, rfl⟩)
  intro hu h2 tk2 o2 ho G
  rw [if_neg (by decide)] at ho
  refine wpAny_execs_cons ?_
  try k_fold
  refine plainObj_wpAny_Assign_Attribute ?_
  refine wpAny_BinOp ?_
  refine Attribute_any_ ?_
  walk_at "m:loc"
  refine rd_deep G hx ho ?_
  intro t1
  refine r_intN ?_
  refine r_addN ?_
  walk_at "m:loc"
  refine set_deep G hx ho ?_
  intro h3 tk3 o3 ho G
  refine wpAny_execs_cons ?_
  try k_fold
  refine wpAny_If ?_
  try k_fold
  refine wpAny_isTrue_Compare1 ?_
  refine Attribute_any_ ?_
  walk_at "m:loc"
  refine rd_deep G hx ho ?_
  intro t4
  refine Attribute_any_ ?_
  walk_at "m:loc"
  refine rd_most G hx ho ?_
  intro t5
  refine PyProof.Rows.gt_int ?_
  refine wpAny_truthy_bool ?_
  refine ifs (fun hb => ?_) (fun hb => ?_)
  · exact absurd (of_decide_eq_true hb) (by omega)
  · refine wpAny_execs_nil ?_
    refine wpAny_execs_nil ?_
    exact hq _ _ _ _ _ _ _ (fun _ h => h) ho G.G ⟨rfl, hu, rfl, rfl⟩
theorem close_spec {u : Wd × Nat} (hp : toks[p]? = some u) : MSpec w 208 24 wl toks p (d + 1 : Nat) mo (fun nw v p' d' => v = .none ∧ u.1 = .rp ∧ p' = p + 1 ∧ d' = d) (fun k => u.1 ≠ .rp ∧ k = u.2) := by
  intro mg mb h₀ h mu nw fr z tk A outer E Q x dx o B G hA hx ho hw O hq hE
  refine enter ["self"] [] [some (.ref x)] B G hA.depth rfl rfl rfl rfl ⟨rfl, by decide, by decide, by decide, by decide⟩ rfl ?_ rfl rfl (by decide)
  intro L h₁ tk' ev Av Qv Ev G
  refine wpAny_execs_cons ?_
  try k_fold
  refine wpAny_Expr ?_
  refine b_want (wd := .rp) rfl G rfl .head (hA.deeper.le (m := 22) (by decide)) hx ho hw hp ((BO.of O rfl rfl)) ?_ ?_
  rotate_left
  · intro e
    exact EX.of O rfl rfl (hE u.2 ⟨e, rfl⟩)
  intro hu h2 tk2 o2 ho G
  rw [if_neg (by decide)] at ho
  refine wpAny_execs_cons ?_
  try k_fold
  refine plainObj_wpAny_Assign_Attribute ?_
  refine wpAny_BinOp ?_
  refine Attribute_any_ ?_
  walk_at "m:loc"
  refine rd_deep G hx ho ?_
  intro t1
  refine r_intN ?_
  refine r_sub ?_
  intro t3
  walk_at "m:loc"
  rw [show ((d + 1 : Nat) : Int) - 1 = (d : Int) by omega]
  refine set_deep G hx ho ?_
  intro h3 tk3 o3 ho G
  refine wpAny_execs_nil ?_
  exact hq _ _ _ _ _ _ _ (fun _ h => h) ho G.G ⟨rfl, hu, rfl, rfl⟩
end
end
section
theorem addVars_nil (st : St) : addVars st [] = st := by
  unfold addVars; split <;> simp
theorem addVars_add (st : St) (a b : List Wd) : addVars (addVars st a) b = addVars st (a ++ b) := by
  unfold addVars; cases h : st.isR <;> simp [h]
noncomputable def Go (ws : List Wd) (sg : List Sg) (p : Nat) (N : List (List Wd)) (sg' : List Sg) (p' : Nat) (N' : List (List Wd)) (acc : List Wd) : Prop :=
  ∀ rl S R l lo r, Rn rl ws (addVars ⟨p', sg' ++ S, N', R, l, lo⟩ acc) r → Rn rl ws ⟨p, sg ++ S, N, R, l, lo⟩ r
noncomputable def Bad (ws : List Wd) (sg : List Sg) (p : Nat) (N : List (List Wd)) (i : Nat) : Prop :=
  ∀ rl S R l lo, Rn rl ws ⟨p, sg ++ S, N, R, l, lo⟩ (some i)
section
variable {ws : List Wd} {sg sg' sg'' T : List Sg} {p p' p'' i : Nat} {N N' N'' : List (List Wd)} {a b : List Wd} {s : Sg} {x : Wd}
theorem Go.refl : Go ws sg p N sg p N [] := fun rl S R l lo r h => by rwa [addVars_nil] at h
theorem Go.trans (h : Go ws sg p N sg' p' N' a) (h' : Go ws sg' p' N' sg'' p'' N'' b) : Go ws sg p N sg'' p'' N'' (a ++ b) := fun rl S R l lo r hr => by
  refine h rl S R l lo r ?_
  cases R
  · exact h' rl S false (l ++ a) lo r (by simpa [addVars] using hr)
  · exact h' rl S true l (lo ++ a) r (by simpa [addVars] using hr)
theorem Go.bad (h : Go ws sg p N sg' p' N' a) (h' : Bad ws sg' p' N' i) : Bad ws sg p N i := fun rl S R l lo => by
  refine h rl S R l lo _ ?_
  cases R
  · exact h' rl S false (l ++ a) lo
  · exact h' rl S true l (lo ++ a)
theorem Go.frame (h : Go ws sg p N sg' p' N' a) (T : List Sg) : Go ws (sg ++ T) p N (sg' ++ T) p' N' a := fun rl S R l lo r hr => by
  rw [List.append_assoc] at hr ⊢
  exact h rl (T ++ S) R l lo r hr
theorem Bad.frame (h : Bad ws sg p N i) (T : List Sg) : Bad ws (sg ++ T) p N i := fun rl S R l lo => by
  rw [List.append_assoc]
  exact h rl (T ++ S) R l lo
theorem Go.eat (hs : s ≠ .right ∧ s ≠ .made ∧ s.wide = false ∧ s ≠ .name ∧ s ≠ .leaf) (hp : ws[p]? = some x) (hw : isWord s x = true) : Go ws [s] p N [] (p + 1) N [] := fun rl S R l lo r hr => by
  rw [addVars_nil] at hr
  exact Rn.eat hs hp hw hr
theorem Go.open_ {late : List Sg} (hs : s ≠ .right ∧ s ≠ .made ∧ s.wide = true ∧ s ≠ .kind) (hp : ws[p]? = some x) (hw : wanted s x = some late) : Go ws [s] p N late p N [] := fun rl S R l lo r hr => by
  rw [addVars_nil] at hr
  exact Rn.open hs hp hw hr
theorem Go.leaf (hp : ws[p]? = some x) (hw : x.plain = true) : Go ws [.leaf] p N [] (p + 1) N (if x.var then [x] else []) := fun rl S R l lo r hr => Rn.leaf hp hw hr
theorem Bad.miss (hs : s ≠ .right ∧ s ≠ .made ∧ s.wide = false) (hp : ws[p]? = some x) (hw : isWord s x = false) : Bad ws [s] p N p := fun rl S R l lo => Rn.miss hs hp hw
theorem Bad.shut (hs : s ≠ .right ∧ s ≠ .made ∧ s.wide = true) (hp : ws[p]? = some x) (hw : wanted s x = none) : Bad ws [s] p N p := fun rl S R l lo => Rn.shut hs hp hw
/-- first one sign, then the rest -/
theorem Go.seq {u : Sg} (h : Go ws [u] p N [] p' N' a) (h' : Go ws T p' N' sg'' p'' N'' b) : Go ws (u :: T) p N sg'' p'' N'' (a ++ b) := (h.frame T).trans h'
theorem Go.seqBad {u : Sg} (h : Go ws [u] p N [] p' N' a) (h' : Bad ws T p' N' i) : Bad ws (u :: T) p N i := (h.frame T).bad h'
theorem Bad.head {u : Sg} (h : Bad ws [u] p N i) : Bad ws (u :: T) p N i := h.frame T
end
theorem plain_of_op {x : Wd} (h : x.op = true) : x.plain = true := by cases x <;> first | rfl | cases h
theorem op_of_plain {x : Wd} (h : x.op = false) (hl : x ≠ .lb) : x.plain = false := by cases x <;> first | rfl | exact absurd rfl hl | cases h
end
section
variable [OSC]
mutual
noncomputable def TermAt (nw : Led) (v : Value) : Tree → Prop
  | .node op ks => Ex4 fun a n t vs => Al3 (v = .ref a) ((a, tupO (.str op.str t :: vs) n) ∈ nw) (TermsAt nw vs ks)
noncomputable def TermsAt (nw : Led) (vs : List Value) : List Tree → Prop
  | [] => vs = []
  | k :: ks => ∃ v vs', vs = v :: vs' ∧ TermAt nw v k ∧ TermsAt nw vs' ks
end
mutual
theorem TermAt.mono {nw nw' : Led} {v : Value} : ∀ {t : Tree}, TermAt nw v t → (∀ p ∈ nw, p ∈ nw') → TermAt nw' v t
  | .node op ks, ⟨a, n, t, vs, e, hm, hk⟩, s => ⟨a, n, t, vs, e, s _ hm, TermsAt.mono hk s⟩
theorem TermsAt.mono {nw nw' : Led} {vs : List Value} : ∀ {t : List Tree}, TermsAt nw vs t → (∀ p ∈ nw, p ∈ nw') → TermsAt nw' vs t
  | [], h, s => h
  | k :: ks, ⟨v, vs', e, h, hk⟩, s => ⟨v, vs', e, TermAt.mono h s, TermsAt.mono hk s⟩
end
theorem TermsAt.snoc {nw : Led} {v : Value} {t : Tree} {ks : List Tree} {vs : List Value} (x : TermsAt nw vs ks) (h : TermAt nw v t) : TermsAt nw (vs ++ [v]) (ks ++ [t]) := by
  induction ks generalizing vs with
  | nil => rw [show vs = [] from x]; exact ⟨v, [], rfl, h, rfl⟩
  | cons k ks ih =>
    obtain ⟨v', vs', rfl, h', hk⟩ := x
    exact ⟨v', vs' ++ [v], rfl, h', ih hk⟩
section
variable {w : World} {mg mb : Str → Option Value} {h₀ h h' : Heap} {env : Env} {ns gs : List Str} {vs vs' : List (Option Value)} {mu nw fr : Led} {z : Shared} {tk : Nat} {A : Around} {E Q : Value → Shared → Prop} {M : Model} {outer : List Env} {k : Int}
  {x dx wl : Addr} {o : Obj} {p d n : Nat} {mo : Int} {toks : List (Wd × Nat)} {wd : Wd × Nat} {p1 p2 p3 : Pos} {f : Addr} {R : Led → Value → Nat → Nat → Prop} {F : Int → Prop} {name self : Str}
  {e e1 e2 : Expr} {pp : Pos} {D : Addr} {ys : List Value} {v : Value}
theorem r_tup {l : List Value} (hsz : l.length ≤ sizeLine) (G : GS w mg mb h₀ env ns gs vs mu nw h) (hq : ∀ D h', GS w mg mb h₀ env ns gs vs mu ((D, tup l) :: nw) h' → Q (.ref D) (S z h' tk)) : wpAny M A (newTuple l) Q E (S z h tk) :=
  wpAny_newTuple (hq _ _ (G.push (tup l) rfl)) hsz
theorem cw_b {pos : Pos} {id : String} {first : List Value} {e : Expr} {rest : List Expr} {s : Shared}
    (h : wpAny M A (spliced (backTo pos (starEach (e :: rest) env))) (fun vs s₁ => wpAny M A (call (.builtin id) (first ++ vs)) Q E s₁) E s)
    (he : starEach (e :: rest) env = (false, eval e env) :: starEach rest env := by rfl) (hplain : (backTo pos (starEach rest env)).any (·.1) = false := by rfl) :
    wpAny M A (callWith pos (.builtin id) first (backTo pos (starEach (e :: rest) env)) []) Q E s := by
  rw [he] at h ⊢
  exact callWith_builtin (by show (false || (backTo pos (starEach rest env)).any (·.1)) = false; rw [hplain]; rfl) (evalArgs_plain h)
theorem cw_b0 {pos : Pos} {id : String} {first : List Value} {s : Shared} (h : wpAny M A (call (.builtin id) (first ++ [])) Q E s) :
    wpAny M A (callWith pos (.builtin id) first (backTo pos (starEach [] env)) []) Q E s := callWith_builtin rfl (evalArgs_nil3 h)
theorem cw_t {pos : Pos} {id : String} {e : Expr} {rest : List Expr} {s : Shared}
    (h : wpAny M A (spliced (backTo pos (starEach (e :: rest) env))) (fun vs s₁ => wpAny M A (call (.type id) vs) Q E s₁) E s)
    (he : starEach (e :: rest) env = (false, eval e env) :: starEach rest env := by rfl) (hplain : (backTo pos (starEach rest env)).any (·.1) = false := by rfl) :
    wpAny M A (callWith pos (.type id) [] (backTo pos (starEach (e :: rest) env)) []) Q E s := callWith_type1 h he hplain
/-- D.append(e): behind the argument the list stands second on the ledger -/
theorem b_append2 {q : Addr × Obj} {m : Nat} {u : Str} {Q : Value → Shared → Prop} (G : GS w mg mb h₀ env ns gs vs (q :: (D, lstO ys m) :: mu) nw h) (hl : (p2.endLine == p3.line) = true) (hs : At ns vs u (.ref D)) (hsz : ys.length ≤ sizeLine)
    (he : wpAny (model PG w) A (eval e env) (fun v s' => Ex4 fun h' tk' q' nw' => Al3 (s' = S z h' tk') (GS w mg mb h₀ env ns gs vs (q' :: (D, lstO ys m) :: mu) nw' h') (∀ h'' m', GS w mg mb h₀ env ns gs vs (q' :: (D, lstO (ys ++ [v]) m') :: mu) nw' h'' → Q .none (S z h'' tk'))) E (S z h tk))
    (a1 : starEach [e] env = (false, eval e env) :: starEach [] env := by rfl) (hf : methodCallForm (1 + 0) (backTo p3 (starEach [e] env)) [] = true := by rfl) :
    wpAny (model PG w) A (eval (.Call (.Attribute (.Name u p1) "append" p2) [e] [] p3) env) Q E (S z h tk) := by
  refine mcall hl ?_ hf
  refine r_loc G hs ?_
  refine Calls.getMethod_list_append (s := S z h tk) (G.getM (.tail _ (.head _))) rfl rfl ?_
  refine cw_b ?_ a1
  refine args_cons ?_ a1
  try k_fold
  refine wpAny_mono he (fun v s' h1 => ?_) fun _ _ x => x
  obtain ⟨h', tk', q', nw', rfl, G', hQ⟩ := h1
  refine args_nil ?_
  refine append_at (s := S z h' tk') (G'.getM (.tail _ (.head _))) (fun h2 hs2 ho2 => ?_) (by rw [List.size_toArray]; exact hsz)
  rw [List.push_toArray] at ho2
  exact hQ _ _ (G'.swap.set1 hs2 ho2).swap
/-- tuple(D) -/
theorem b_tuple {m : Nat} {u : Str} {pf : Pos} (G : GS w mg mb h₀ env ns gs vs mu nw h) (hg : Has gs "tuple") (hs : At ns vs u (.ref D)) (hD : (D, lstO ys m) ∈ mu ++ nw) (hsz : ys.length ≤ sizeLine)
    (hq : ∀ T h', GS w mg mb h₀ env ns gs vs mu ((T, tup ys) :: nw) h' → Q (.ref T) (S z h' tk))
    (he : eval (.Call (.Name "tuple" pf) [.Name u p1] [] p3) env = (do callWith p3 (← eval (.Name "tuple" pf) env) [] (backTo p3 (starEach [.Name u p1] env)) (backToKw p3 (keywordEach [] env))) := by rfl) (a1 : starEach [.Name u p1] env = (false, eval (.Name u p1) env) :: starEach [] env := by rfl) :
    wpAny (model PG w) A (eval (.Call (.Name "tuple" pf) [.Name u p1] [] p3) env) Q E (S z h tk) := by
  refine Call_ ?_ he
  refine r_blt G hg (g_tuple w).1 (g_tuple w).2.1 (g_tuple w).2.2 ?_
  refine cw_t ?_ a1
  refine args_cons ?_ a1
  refine r_loc G hs ?_
  refine args_nil ?_
  have hl : h.IsList D ys.toArray := ⟨_, (G.G.has _ hD).1, rfl, m, rfl⟩
  refine call_tuple_list (s := S z h tk) hl (fun h' hk => ?_) (by rw [List.size_toArray]; exact hsz)
  have G' : GS w mg mb h₀ env ns gs vs mu nw h' := G.with ⟨fun b o e => hk _ _ (G.G.stays b o e), ?_, fun p hp => ⟨hk _ _ (G.G.has p hp).1, (G.G.has p hp).2⟩, G.G.nd, G.G.apart⟩ (fun o e => hk _ _ e) G.ne
  · exact hq _ _ (G'.push (tup ys) rfl)
  · obtain ⟨m', hn, hl'⟩ := G.ns_
    obtain ⟨ob, es, ep, hob, _⟩ := hn
    exact Nat.le_of_lt (Nat.lt_of_le_of_lt G.above (Heap.lt_size (hk _ _ hob)))
end
end
section
variable [OSC]
theorem keep_fn2 (w : World) : keepIn (KK w) (.ref 215) = true ∧ keepIn (KK w) (.ref 222) = true ∧ keepIn (KK w) (.ref 229) = true ∧ keepIn (KK w) (.ref 236) = true ∧ keepIn (KK w) (.ref 241) = true ∧ keepIn (KK w) (.ref 248) = true ∧ keepIn (KK w) (.ref 255) = true :=
  ⟨by kernel_rfl, by kernel_rfl, by kernel_rfl, by kernel_rfl, by kernel_rfl, by kernel_rfl, by kernel_rfl⟩
/-- what the reader's row of words is like -/
structure Good (toks : List (Wd × Nat)) (mo : Int) : Prop where
  lb : ∀ u ∈ toks, u.1 ≠ .lb
  len : toks.length ≤ 40
  mo : 40 ≤ mo
  fin : ∀ (p : Nat) (u : Wd × Nat), toks[p]? = some u → u.1 ≠ .fin → p + 1 < toks.length
noncomputable abbrev wsOf (toks : List (Wd × Nat)) : List Wd := toks.map (·.1)
theorem ws_get {toks : List (Wd × Nat)} {p : Nat} {u : Wd × Nat} (h : toks[p]? = some u) : (wsOf toks)[p]? = some u.1 := by simp [wsOf, h]
theorem tok_at {toks : List (Wd × Nat)} {p : Nat} (h : p < toks.length) : ∃ u, toks[p]? = some u:= ⟨_, List.getElem?_eq_getElem h⟩
mutual
noncomputable def Tree.size : Tree → Nat
  | .node _ ks => 1 + Tree.sizeL ks
noncomputable def Tree.sizeL : List Tree → Nat
  | [] => 0
  | k :: ks => k.size + Tree.sizeL ks
end
theorem sizeL_snoc : ∀ (ks : List Tree) (t : Tree), Tree.sizeL (ks ++ [t]) = Tree.sizeL ks + t.size
  | [], t => by simp [Tree.sizeL]
  | k :: ks, t => by simp [Tree.sizeL, sizeL_snoc ks t]; omega
noncomputable def isVarT : Tree → Bool
  | .node op ks => ks.isEmpty && op.var
noncomputable def RT (toks : List (Wd × Nat)) (p d : Nat) : Led → Value → Nat → Nat → Prop := fun nw v p' d' =>
  d' = d ∧ p < p' ∧ p' < toks.length ∧ ∃ t, (TermAt nw v t ∧ t.size + p ≤ p' ∧ isVarT t = ((wsOf toks)[p]?.map Wd.var).getD false) ∧ ∀ N, Go (wsOf toks) [.term] p N [] p' N t.vars
noncomputable def FTs (toks : List (Wd × Nat)) (sg : List Sg) (p : Nat) (N : List (List Wd)) : Int → Prop := fun k => ∃ (i : Nat) (u : Wd × Nat), toks[i]? = some u ∧ (u.2 : Int) = k ∧ Bad (wsOf toks) sg p N i
noncomputable def FT (toks : List (Wd × Nat)) (sg : List Sg) (p : Nat) : Int → Prop := fun k => ∃ (i : Nat) (u : Wd × Nat), toks[i]? = some u ∧ (u.2 : Int) = k ∧ ∀ N, Bad (wsOf toks) sg p N i
theorem ne_fin_of_op {x : Wd} (h : x.op = true) : x ≠ .fin := by rintro rfl; cases h
theorem Good.next {toks : List (Wd × Nat)} {mo : Int} (g : Good toks mo) {p : Nat} {u : Wd × Nat} (h : toks[p]? = some u) (hu : u.1 ≠ .fin) : ∃ u', toks[p + 1]? = some u':= tok_at (g.fin p u h hu)
theorem Good.nlb {toks : List (Wd × Nat)} {mo : Int} (g : Good toks mo) {p : Nat} {u : Wd × Nat} (h : toks[p]? = some u) : u.1 ≠ .lb := g.lb u (List.mem_of_getElem? h)
theorem varsL_snoc : ∀ (ks : List Tree) (t : Tree), Tree.varsL (ks ++ [t]) = Tree.varsL ks ++ t.vars
  | [], t => by simp [Tree.varsL]
  | k :: ks, t => by simp [Tree.varsL, varsL_snoc ks t]
theorem vars_node {op : Wd} : ∀ {ks : List Tree}, ks ≠ [] → (Tree.node op ks).vars = Tree.varsL ks
  | [], h => absurd rfl h
  | k :: ks, _ => rfl
noncomputable abbrev GS.same {w : World} {mg mb : Str → Option Value} {h₀ h : Heap} {env : Env} {ns gs : List Str} {vs : List (Option Value)} {mu nw : Led} (_ : GS w mg mb h₀ env ns gs vs mu nw h) (vs' : List (Option Value)) (mu' nw' : Led) (h' : Heap) : Prop := GS w mg mb h₀ env ns gs vs' mu' nw' h'
section
variable {w : World} {wl : Addr} {mo : Int} {toks : List (Wd × Nat)}
theorem term_spec (g : Good toks mo) : ∀ (m p d : Nat), toks.length - p ≤ m → p < toks.length → d ≤ p → MSpec w 222 (28 + m) wl toks p d mo (RT toks p d) (FT toks [.term] p) := by
  intro m
  induction m with
  | zero => intro p d hm hp; omega
  | succ m ih =>
  intro p d hm hlt hdp mg mb h₀ h mu nw fr z tk A outer E Q x dx o B G hA hx ho hw O hq hE
  have hR : ∀ env, Room (A.deeper env) (28 + m) := fun env => Room.deeper hA
  obtain ⟨u, hp⟩ := tok_at hlt
  refine enter ["self", "found"] ["tuple"] [some (.ref x), none] B G hA.depth rfl rfl rfl rfl ⟨rfl, by decide, by decide, by decide, by decide⟩ rfl ?_ rfl rfl (by decide)
  intro L h₁ tk' ev Av Qv Ev G
  refine wpAny_execs_cons ?_
  try k_fold
  refine wpAny_If ?_
  try k_fold
  refine wpAny_isTrue_Compare1 ?_
  refine b_word G rfl .head ((hR _).le (by omega)) hx ho hw hp ?_
  intro h2 tk2 t2 G
  refine r_strN ?_
  refine PyProof.Rows.ne_str ?_
  refine wpAny_truthy_bool ?_
  change if (u.1.str != Wd.lp.str) = true then _ else _
  rw [Wd.bne]
  refine ifs (fun hb => ?_) (fun hb => ?_)
  · have hne : u.1 ≠ .lp := of_decide_eq_true hb
    refine wpAny_execs_cons ?_
    try k_fold
    refine wpAny_Return_some ?_
    refine Tuple_ ?_
    refine args_cons ?_
    try k_fold
    refine b_method (op_spec hp) (keep_fn w).2.2.2.2.1 (fun q => rm_op G hx ho q) G rfl .head ((hR _).le (by omega)) hx ho hw (BO.of O rfl rfl) ?_ ?_
    · rintro h4 tk4 o4 nw4 v4 p4 d4 hs4 ho4 G4 ⟨⟨t4, ev⟩, hop, ep, ed⟩
      subst ev ep ed
      refine args_nil ?_
      refine r_tup (by show 1 ≤ 2 ^ 24; decide) G4 (fun T h5 G5 => ?_)
      refine hq _ _ _ _ _ _ _ (fun q hq => .tail _ (hs4 q hq)) ho4 G5.G ⟨rfl, Nat.lt_succ_self _, g.fin p u hp (ne_fin_of_op hop), .node u.1 [], ⟨⟨T, 0, t4, [], rfl, .head _, rfl⟩, by simp [Tree.size, Tree.sizeL]; omega, by rw [ws_get hp]; rfl⟩, fun N => ?_⟩
      have hpl := plain_of_op hop
      exact ((Go.open_ (s := .term) (late := [.leaf]) (by decide) (ws_get hp) (by first | exact (if_neg hne).trans (if_pos hpl) | exact (if_neg hne).trans (if_neg (by rw [hpl]; exact Bool.false_ne_true)))).trans (Go.leaf (ws_get hp) hpl))
    · rintro k ⟨hop, ek⟩
      subst ek
      refine EX.of O rfl rfl (hE _ ⟨p, u, hp, rfl, fun N => ?_⟩)
      have hpl := op_of_plain hop (g.nlb hp)
      exact Bad.shut (by decide) (ws_get hp) (by first | exact (if_neg hne).trans (if_pos hpl) | exact (if_neg hne).trans (if_neg (by rw [hpl]; exact Bool.false_ne_true)))
  · have hlp : u.1 = .lp := by simpa using hb
    obtain ⟨u1, hp1⟩ := g.next hp (by rw [hlp]; decide)
    have hlt1 : p + 1 < toks.length := (List.getElem?_eq_some_iff.mp hp1).1
    refine wpAny_execs_nil ?_
    refine wpAny_execs_cons ?_
    try k_fold
    refine wpAny_Expr ?_
    try k_fold
    refine b_method (begin_spec hp (by have := g.mo; have := g.len; omega)) (keep_fn w).2.2.2.2.2.1 (fun q => rm_begin G hx ho q) G rfl .head ((hR _).le (by omega)) hx ho hw (BO.of O rfl rfl) ?_ ?_
    rotate_left
    · rintro k ⟨hne, ek⟩
      exact absurd hlp hne
    rintro h4 tk4 o4 nw4 v4 p4 d4 hs4 ho G ⟨ev, _, ep, ed⟩
    subst v4 p4 d4
    have hx := hs4 _ hx
    have hw := hw.mono hs4
    have go1 : ∀ N, Go (wsOf toks) [.term] p N [.op, .term, .kids] (p + 1) N [] := fun N =>
      (Go.open_ (s := .term) (late := [.q .lp, .op, .term, .kids]) (by decide) (ws_get hp) (by first | exact if_pos hlp | exact if_neg hlp)).trans (Go.seq (Go.eat (by decide) (ws_get hp) (by first | exact decide_eq_true hlp | exact decide_eq_false hlp | exact hlp)) Go.refl)
    refine wpAny_execs_cons ?_
    try k_fold
    refine wpAny_Assign_Name ?_
    refine List_ ?_
    refine args_cons ?_
    try k_fold
    refine b_method (op_spec hp1) (keep_fn w).2.2.2.2.1 (fun q => rm_op G hx ho q) G rfl .head ((hR _).le (by omega)) hx ho hw (BO.of O rfl rfl) ?_ ?_
    rotate_left
    · rintro k ⟨hop, ek⟩
      subst ek
      refine EX.of O rfl rfl (hE _ ⟨p + 1, u1, hp1, rfl, fun N => ?_⟩)
      exact (go1 N).bad (Bad.head (Bad.miss (by decide) (ws_get hp1) (by first | exact decide_eq_true (op_of_plain hop (g.nlb hp1)) | exact decide_eq_false (op_of_plain hop (g.nlb hp1)) | exact (op_of_plain hop (g.nlb hp1)))))
    rintro h5 tk5 o5 nw5 v5 p5 d5 hs5 ho G ⟨⟨t5, ev⟩, hop, ep, ed⟩
    subst v5 p5 d5
    have hx := hs5 _ hx
    have hw := hw.mono hs5
    have hlt2 := g.fin _ _ hp1 (ne_fin_of_op hop)
    have go2 : ∀ N, Go (wsOf toks) [.term] p N [.term, .kids] (p + 1 + 1) N [] := fun N =>
      (go1 N).trans (Go.seq (Go.eat (by decide) (ws_get hp1) (by first | exact decide_eq_true (plain_of_op hop) | exact decide_eq_false (plain_of_op hop) | exact (plain_of_op hop))) Go.refl)
    refine args_cons ?_
    try k_fold
    refine b_method (ih (p + 1 + 1) (d + 1) (by omega) hlt2 (by omega)) (keep_fn2 w).2.1 (fun q => rm_term G hx ho q) G rfl .head (hR _) hx ho hw (BO.of O rfl rfl) ?_ ?_
    rotate_left
    · rintro k ⟨i, ui, hi, ek, hbad⟩
      refine EX.of O rfl rfl (hE _ ⟨i, ui, hi, ek, fun N => ?_⟩)
      exact (go2 N).bad ((hbad N).head)
    rintro h6 tk6 o6 nw6 v6 p6 d6 hs6 ho G ⟨ed, hp6, hlt6, t6, ht6, hgo6⟩
    subst d6
    have hx := hs6 _ hx
    have hw := hw.mono hs6
    refine args_nil ?_
    refine r_listM (by show 2 ≤ 2 ^ 24; decide) G (fun D h7 G7 => ?_)
    have G := G7.swap
    refine r_st G (by walk_at "m:setat") ?_
    intro h8 tk8 G
    refine wpAny_execs_cons ?_
    try k_fold
    refine wpAny_While ?_
    try k_fold
    refine codeAny_whileLoop (fun n s => Ex8 fun h tk o p' vs ks nf nw' => Al11 (s = S z h tk) (G.same [some (.ref x), some (.ref D)] ((dx, o) :: (D, lstO (.str u1.1.str t5 :: vs) nf) :: mu) nw' h) (IsRD w o wl (p' : Nat) (d + 1 : Nat) mo) ((∀ q ∈ nw6, q ∈ nw')) (n = toks.length - p') (p + 1 < p') (p' < toks.length) (vs.length + p + 2 ≤ p') (ks ≠ []) ((TermsAt nw' vs ks ∧ Tree.sizeL ks + p + 2 ≤ p')) (∀ N, Go (wsOf toks) [.term] p N [.kids] p' N (Tree.varsL ks))) ?_ (toks.length - p6) ?_
    · intro n s hI_
      try k_fold
      obtain ⟨h, tk, o, p', vs, ks, nf, nw', rfl, G, ho, hsn, hn, hpp, hlt', hvs, hne, ⟨hks, hkz⟩, hgo⟩ := hI_
      have hx := hsn _ hx
      have hw := hw.mono hsn
      obtain ⟨u', hp'⟩ := tok_at hlt'
      refine wpAny_isTrue_Compare1 ?_
      refine b_word G rfl .head ((hR _).le (by omega)) hx ho hw hp' ?_
      intro h9 tk9 t9 G
      refine r_strN ?_
      refine PyProof.Rows.ne_str ?_
      refine wpAny_truthy_bool ?_
      change if (u'.1.str != Wd.rp.str) = true then _ else _
      rw [Wd.bne]
      refine ifs (fun hb' => ?_) (fun hb' => ?_)
      · have hrp : u'.1 ≠ .rp := of_decide_eq_true hb'
        refine wpAny_execs_cons ?_
        try k_fold
        refine wpAny_Expr ?_
        have hlen : toks.length ≤ 40 := g.len
        refine b_append2 G rfl (by walk_at "m:at") (by show vs.length + 1 ≤ 2 ^ 24; omega) ?_
        have go3 : ∀ N, Go (wsOf toks) [.term] p N [.term, .kids] p' N (Tree.varsL ks) := fun N => by
          have := (hgo N).trans (Go.open_ (s := .kids) (late := [.term, .kids]) (N := N) (by decide) (ws_get hp') (by first | exact if_pos hrp | exact if_neg hrp))
          rwa [List.append_nil] at this
        try k_fold
        refine b_method (ih p' (d + 1) (by omega) hlt' (by omega)) (keep_fn2 w).2.1 (fun q => rm_term G hx ho q) G rfl .head (hR _) hx ho hw ((BO.of O rfl rfl).mono fun _ h => .tail _ h) ?_ ?_
        rotate_left
        · rintro k ⟨i, ui, hi, ek, hbad⟩
          refine EX.loop (BO.of O rfl rfl) (EX.of O rfl rfl (hE _ ⟨i, ui, hi, ek, fun N => ?_⟩))
          exact (go3 N).bad ((hbad N).head)
        rintro h11 tk11 o11 nw11 v11 p11 d11 hs11 ho G ⟨ed, hp11, hlt11, t11, ht11, hgo11⟩
        subst d11
        refine ⟨_, _, _, _, rfl, G, fun h12 m12 G12 => ?_⟩
        refine wpAny_execs_nil ?_
        refine ⟨_, ?_, h12, _, _, p11, vs ++ [v11], ks ++ [t11], m12, nw11, rfl, G12, ho, fun q hq => hs11 _ (hsn _ hq), rfl, by omega, hlt11, by simp; omega, by simp, ⟨(hks.mono hs11).snoc ht11.1, by rw [sizeL_snoc]; have := ht11.2.1; omega⟩, fun N => ?_⟩
        · omega
        · rw [varsL_snoc]
          simpa using (go3 N).trans (Go.seq (hgo11 N) Go.refl)
      · have hrp : u'.1 = .rp := by simpa using hb'
        refine wpAny_execs_nil ?_
        refine wpAny_execs_cons ?_
        try k_fold
        refine wpAny_Expr ?_
        try k_fold
        refine b_method (close_spec hp') (keep_fn w).2.2.2.2.2.2 (fun q => rm_close G hx ho q) G rfl .head ((hR _).le (by omega)) hx ho hw ((BO.of O rfl rfl).mono fun _ h => .tail _ h) ?_ ?_
        rotate_left
        · rintro k ⟨hne, ek⟩
          exact absurd hrp hne
        rintro h10 tk10 o10 nw10 v10 p10 d10 hs10 ho G ⟨ev, _, ep, ed⟩
        subst v10 p10 d10
        refine wpAny_execs_cons ?_
        try k_fold
        refine wpAny_Return_some ?_
        refine b_tuple G .head (by walk_at "m:at") (List.mem_append_left _ (.tail _ (.head _))) (by show vs.length + 1 ≤ 2 ^ 24; have := g.len; omega) ?_
        intro T h11 G
        have hG := G.swap.lessM.G
        refine hq _ _ _ _ _ _ _ (fun q hq => .tail _ (hs10 _ (hsn _ (hs6 _ (hs5 _ (hs4 _ hq)))))) ho hG ⟨rfl, by omega, g.fin _ _ hp' (by rw [hrp]; decide), .node u1.1 ks, ⟨⟨T, 0, t5, vs, rfl, .head _, hks.mono fun q hq => .tail _ (hs10 _ hq)⟩, by simp [Tree.size]; omega, by rw [ws_get hp, hlp]; cases ks with | nil => exact absurd rfl hne | cons _ _ => rfl⟩, fun N => ?_⟩
        rw [vars_node hne]
        have := ((hgo N).trans (Go.open_ (s := .kids) (late := [.q .rp]) (N := N) (by decide) (ws_get hp') (by first | exact if_pos hrp | exact if_neg hrp))).trans (Go.eat (s := .q .rp) (N := N) (by decide) (ws_get hp') (by first | exact decide_eq_true hrp | exact decide_eq_false hrp | exact hrp))
        rwa [List.append_nil, List.append_nil] at this
    · refine ⟨h8, tk8, _, p6, [v6], [t6], _, nw6, rfl, G, ho, fun q hq => hq, rfl, by omega, hlt6, by simp; omega, by simp, ⟨⟨v6, [], rfl, ht6.1, rfl⟩, by simp [Tree.sizeL]; have := ht6.2.1; omega⟩, fun N => ?_⟩
      have := (go2 N).trans (Go.seq (hgo6 N) Go.refl)
      simpa [Tree.varsL] using this
end
end
section
section
variable {ws : List Wd} {sg sg' sg'' T : List Sg} {p p' p'' i : Nat} {N N' N'' : List (List Wd)} {a b : List Wd} {s : Sg} {x : Wd} {ns : List Wd}
theorem Go.kind {late : List Sg} (hp : ws[p]? = some x) (hw : wanted .kind x = some late) : Go ws [.kind] p N late p (if x = .rule then N ++ [[]] else N) [] := fun rl S R l lo r hr => by
  rw [addVars_nil] at hr
  refine .go (ms_some hp (by decide) (by decide) rfl hw) ?_
  rw [show (if Sg.kind = Sg.kind ∧ x = .rule then N ++ [[]] else N) = if x = .rule then N ++ [[]] else N by simp only [true_and]]
  exact hr
theorem addName_last (x : Wd) : ∀ (N : List (List Wd)) (ns : List Wd), addName x (N ++ [ns]) = N ++ [ns ++ [x]]
  | [], ns => rfl
  | [a], ns => rfl
  | a :: b :: N, ns => by
    show addName x (a :: (b :: N ++ [ns])) = _
    have := addName_last x (b :: N) ns
    cases h : b :: N ++ [ns] with
    | nil => simp at h
    | cons c d => rw [h] at this; show a :: addName x (c :: d) = _; rw [this]; rfl
theorem Go.name (hp : ws[p]? = some x) (hv : x.var = true) (hn : ns.contains x = false) : Go ws [.name] p (N ++ [ns]) [] (p + 1) (N ++ [ns ++ [x]]) [] := fun rl S R l lo r hr => by
  rw [addVars_nil] at hr
  refine .go (ms_ok hp (by decide) (by decide) rfl ?_) ?_
  · rw [List.getLast?_concat]
    show (!x.var || (true && ns.contains x)) = false
    rw [hv, hn]; rfl
  · rw [if_pos rfl, addName_last]; exact hr
theorem Bad.nameTwice (hp : ws[p]? = some x) (hn : ns.contains x = true) : Bad ws [.name] p (N ++ [ns]) p := fun rl S R l lo => by
  refine .stop (ms_bad hp (by decide) (by decide) rfl ?_)
  rw [List.getLast?_concat]
  show (_ || (true && ns.contains x)) = true
  rw [hn]; exact Bool.or_true _
end
end
section
variable [OSC]
noncomputable def RN (toks : List (Wd × Nat)) (p d : Nat) : Led → Value → Nat → Nat → Prop := fun nw v p' d' =>
  d' = d ∧ p < p' ∧ p' < toks.length ∧ Ex8 fun (t1 t2 : Tree) (kd : Str) (a : Addr) (n : Nat) (v1 v2 : Value) (tt : Tok) => Al6 (v = .ref a) ((a, tupO [.str kd tt, v1, v2] n) ∈ nw) ((kd = "alike" ∨ kd = "unlike")) ((TermAt nw v1 t1 ∧ t1.size ≤ 40)) ((TermAt nw v2 t2 ∧ t2.size ≤ 40)) (∀ N, Go (wsOf toks) [.term, .sign, .term] p N [] p' N (t1.vars ++ t2.vars))
section
variable {w : World} {wl : Addr} {mo : Int} {toks : List (Wd × Nat)}
theorem need_spec (g : Good toks mo) (m p d : Nat) (hm : toks.length - p ≤ m) (hlt : p < toks.length) (hdp : d ≤ p) : MSpec w 229 (30 + m) wl toks p d mo (RN toks p d) (FT toks [.term, .sign, .term] p) := by
  intro mg mb h₀ h mu nw fr z tk A outer E Q x dx o B G hA hx ho hw O hq hE
  have hR : ∀ env, Room (A.deeper env) (29 + m) := fun env => Room.deeper (by rw [show 29 + m + 1 = 30 + m by omega]; exact hA)
  refine enter ["self", "left", "kind"] ["TextFault"] [some (.ref x), none, none] B G hA.depth rfl rfl rfl rfl ⟨rfl, by decide, by decide, by decide, by decide⟩ rfl ?_ rfl rfl (by decide)
  intro L h₁ tk' ev Av Qv Ev G
  refine wpAny_execs_cons ?_
  try k_fold
  refine wpAny_Assign_Name ?_
  try k_fold
  refine b_method (term_spec g m p d hm hlt hdp) (keep_fn2 w).2.1 (fun q => rm_term G hx ho q) G rfl .head ((hR _).le (by omega)) hx ho hw (BO.of O rfl rfl) ?_ ?_
  rotate_left
  · rintro k ⟨i, ui, hi, ek, hbad⟩
    exact EX.of O rfl rfl (hE _ ⟨i, ui, hi, ek, fun N => (hbad N).head⟩)
  rintro h2 tk2 o2 nw2 v2 p2 d2 hs2 ho G ⟨ed, hp2, hlt2, t2, ht2, hgo2⟩
  subst d2
  have hx := hs2 _ hx
  have hw := hw.mono hs2
  walk_at "m:st"
  intro h3 tk3 G
  obtain ⟨u, hp⟩ := tok_at hlt2
  refine wpAny_execs_cons ?_
  try k_fold
  refine wpAny_If ?_
  try k_fold
  refine wpAny_isTrue_Compare1 ?_
  refine b_word G rfl .head ((hR _).le (by omega)) hx ho hw hp ?_
  intro h4 tk4 t4 G
  refine Tuple_ ?_
  refine args_cons ?_
  refine r_strN ?_
  refine args_cons ?_
  refine r_strN ?_
  refine args_nil ?_
  refine r_tup (by show 2 ≤ 2 ^ 24; decide) G (fun T h5 G => ?_)
  refine notin_tuple_strs (s := S z h5 _) (ys := ["=", "!="]) ⟨_, G.G.get (.head _), rfl, 0, rfl⟩ (.cons _ _ (.cons _ _ .nil)) ?_
  have G := G.less
  refine wpAny_truthy_bool ?_
  have hsig : (List.any (["=", "!="] : List Str) fun y => y == u.1.str) = isWord .sign u.1 := (by decide +kernel : ∀ x ∈ Wd.all, (List.any (["=", "!="] : List Str) fun y => y == x.str) = isWord .sign x) _ u.1.mem
  rw [hsig]
  refine ifs (fun hb => ?_) (fun hb => ?_)
  · have hb' : isWord .sign u.1 = false := by simpa using hb
    refine wpAny_execs_cons ?_
    try k_fold
    refine b_raise ((BO.of O rfl rfl).mono fun _ h => .tail _ h) ((hR _).le (by omega)) (EX.of O rfl rfl (hE u.2 ⟨p2, u, hp, rfl, fun N => ?_⟩)) G .head ?_ ?_
    · exact (Go.seq (hgo2 N) Go.refl).bad (Bad.head (Bad.miss (by decide) (ws_get hp) hb'))
    · refine r_strN ?_
      exact ⟨_, _, _, _, rfl, rfl, G⟩
    · intro h' tk' G
      exact b_spot G rfl .head ((hR _).le (by omega)) hx ho hw hp fun h3 tk3 t3 G3 => ⟨_, _, _, rfl, rfl, G3⟩
  · have hb' : isWord .sign u.1 = true := by simpa using hb
    have hnf : u.1 ≠ .fin := by intro e; rw [e] at hb'; cases hb'
    have hlt3 := g.fin _ _ hp hnf
    refine wpAny_execs_nil ?_
    refine wpAny_execs_cons ?_
    try k_fold
    refine wpAny_Assign_Name ?_
    try k_fold
    refine wpAny_mono (Q := fun v s' => Ex5 fun (kd : Str) (t9 : Tok) (h9 : Heap) (tk9 : Nat) (o9 : Obj) => Al5 (v = .str kd t9) (s' = S z h9 tk9) (G.same [some (.ref x), some v2, none] ((dx, o9) :: mu) nw2 h9) (IsRD w o9 wl (p2 + 1 : Nat) d mo) ((kd = "alike" ∨ kd = "unlike"))) ?_ (fun v s' ⟨kd, t9, h6, tk9, o9, ev, es, G, ho, hkd⟩ => ?_) (fun _ _ x => x)
    try k_fold
    · refine wpAny_IfExp ?_
      refine wpAny_isTrue_Compare1 ?_
      refine b_take G rfl .head ((hR _).le (by omega)) hx ho hw hp ?_
      intro h6 tk6 o6 t7 ho G
      refine r_strN ?_
      refine PyProof.Rows.eq_str ?_
      refine wpAny_truthy_bool ?_
      refine ifs (fun hc => ?_) (fun hc => ?_)
      · refine wpAny_Constant_str ?_
        exact ⟨_, _, h6, _, o6, rfl, rfl, G, ho, .inl rfl⟩
      · refine wpAny_Constant_str ?_
        exact ⟨_, _, h6, _, o6, rfl, rfl, G, ho, .inr rfl⟩
    subst v s'
    walk_at "m:st"
    intro h7 tk7 G
    refine wpAny_execs_cons ?_
    try k_fold
    refine wpAny_Return_some ?_
    refine Tuple_ ?_
    refine args_cons ?_
    walk_at "m:loc"
    refine args_cons ?_
    walk_at "m:loc"
    refine args_cons ?_
    try k_fold
    refine b_method (term_spec g m (p2 + 1) d (by omega) hlt3 (by omega)) (keep_fn2 w).2.1 (fun q => rm_term G hx ho q) G rfl .head ((hR _).le (by omega)) hx ho hw (BO.of O rfl rfl) ?_ ?_
    rotate_left
    · rintro k ⟨i, ui, hi, ek, hbad⟩
      refine EX.of O rfl rfl (hE _ ⟨i, ui, hi, ek, fun N => ?_⟩)
      exact (Go.seq (hgo2 N) (Go.seq (Go.eat (by decide) (ws_get hp) hb') Go.refl)).bad (hbad N)
    rintro h8 tk8 o8 nw8 v8 p8 d8 hs8 ho G ⟨ed, hp8, hlt8, t10, ht10, hgo8⟩
    subst d8
    refine args_nil ?_
    refine r_tup (by show 3 ≤ 2 ^ 24; decide) G (fun T h9 G9 => ?_)
    refine hq _ _ _ _ _ _ _ (fun q hq => .tail _ (hs8 _ (hs2 _ hq))) ho G9.G ⟨rfl, by omega, hlt8, t2, t10, kd, T, 0, v2, v8, t9, rfl, .head _, hkd, ⟨ht2.1.mono fun q hq => .tail _ (hs8 _ hq), by have := ht2.2.1; have := g.len; omega⟩, ⟨ht10.1.mono fun q hq => .tail _ hq, by have := ht10.2.1; have := g.len; omega⟩, fun N => ?_⟩
    have := (Go.seq (hgo2 N) (Go.seq (Go.eat (s := .sign) (by decide) (ws_get hp) hb') (hgo8 N)))
    simpa using this
end
end
section
noncomputable def Goes (ws : List Wd) (sg : List Sg) (p : Nat) (sg' : List Sg) (p' : Nat) : Prop := ∀ N, ∃ N' acc, Go ws sg p N sg' p' N' acc
noncomputable def BadA (ws : List Wd) (sg : List Sg) (p i : Nat) : Prop := ∀ N, Bad ws sg p N i
section
variable {ws : List Wd} {sg sg' sg'' T : List Sg} {p p' p'' i : Nat} {a b : List Wd} {s u : Sg} {x : Wd}
theorem Goes.refl : Goes ws sg p sg p := fun N => ⟨N, [], Go.refl⟩
theorem Goes.of (h : ∀ N, Go ws sg p N sg' p' N a) : Goes ws sg p sg' p' := fun N => ⟨N, a, h N⟩
theorem Goes.trans (h : Goes ws sg p sg' p') (h' : Goes ws sg' p' sg'' p'') : Goes ws sg p sg'' p'' := fun N => by
  obtain ⟨N1, a, h1⟩ := h N
  obtain ⟨N2, b, h2⟩ := h' N1
  exact ⟨N2, _, h1.trans h2⟩
theorem Goes.frame (h : Goes ws sg p sg' p') (T : List Sg) : Goes ws (sg ++ T) p (sg' ++ T) p' := fun N => by
  obtain ⟨N1, a, h1⟩ := h N
  exact ⟨N1, a, h1.frame T⟩
theorem Goes.seq (h : Goes ws [u] p [] p') (h' : Goes ws T p' sg'' p'') : Goes ws (u :: T) p sg'' p'' := (h.frame T).trans h'
theorem Goes.bad (h : Goes ws sg p sg' p') (h' : BadA ws sg' p' i) : BadA ws sg p i := fun N => by
  obtain ⟨N1, a, h1⟩ := h N
  exact h1.bad (h' N1)
theorem BadA.head (h : BadA ws [u] p i) : BadA ws (u :: T) p i := fun N => (h N).head
theorem Goes.eat (hs : s ≠ .right ∧ s ≠ .made ∧ s.wide = false ∧ s ≠ .name ∧ s ≠ .leaf) (hp : ws[p]? = some x) (hw : isWord s x = true) : Goes ws [s] p [] (p + 1) := .of fun N => Go.eat hs hp hw
theorem Goes.open_ {late : List Sg} (hs : s ≠ .right ∧ s ≠ .made ∧ s.wide = true ∧ s ≠ .kind) (hp : ws[p]? = some x) (hw : wanted s x = some late) : Goes ws [s] p late p := .of fun N => Go.open_ hs hp hw
theorem Goes.kind {late : List Sg} (hp : ws[p]? = some x) (hw : wanted .kind x = some late) : Goes ws [.kind] p late p := fun N => ⟨_, _, Go.kind hp hw⟩
theorem BadA.miss (hs : s ≠ .right ∧ s ≠ .made ∧ s.wide = false) (hp : ws[p]? = some x) (hw : isWord s x = false) : BadA ws [s] p p := fun N => Bad.miss hs hp hw
theorem BadA.shut (hs : s ≠ .right ∧ s ≠ .made ∧ s.wide = true) (hp : ws[p]? = some x) (hw : wanted s x = none) : BadA ws [s] p p := fun N => Bad.shut hs hp hw
end
end
section
variable [OSC]
noncomputable def RX (toks : List (Wd × Nat)) (sg sg' : List Sg) (p d : Nat) : Led → Value → Nat → Nat → Prop := fun nw v p' d' =>
  d' = d ∧ p ≤ p' ∧ p' < toks.length ∧ (sg' = [] → p < p') ∧ Goes (wsOf toks) sg p sg' p'
noncomputable def FX (toks : List (Wd × Nat)) (sg : List Sg) (p : Nat) : Int → Prop := fun k => ∃ (i : Nat) (u : Wd × Nat), toks[i]? = some u ∧ (u.2 : Int) = k ∧ BadA (wsOf toks) sg p i
section
variable {w : World} {wl : Addr} {mo : Int} {toks : List (Wd × Nat)}
theorem papers_spec (g : Good toks mo) (m : Nat) (paper : ∀ p d : Nat, toks.length - p ≤ m → p < toks.length → d ≤ p → MSpec w 255 (30 + 2 * m) wl toks p d mo (RX toks [.paper] [] p d) (FX toks [.paper] p))
    (p d : Nat) (hm : toks.length - p ≤ m) (hlt : p < toks.length) (hdp : d ≤ p) : MSpec w 248 (31 + 2 * m) wl toks p d mo (RX toks [.papers] [.q .rp] p d) (FX toks [.papers] p) := by
  intro mg mb h₀ h mu nw fr z tk A outer E Q x dx o B G hA hx ho hw O hq hE
  have hR : ∀ env, Room (A.deeper env) (30 + 2 * m) := fun env => Room.deeper (by rw [show 30 + 2 * m + 1 = 31 + 2 * m by omega]; exact hA)
  refine enter ["self", "found"] ["tuple"] [some (.ref x), none] B G hA.depth rfl rfl rfl rfl ⟨rfl, by decide, by decide, by decide, by decide⟩ rfl ?_ rfl rfl (by decide)
  intro L h₁ tk' ev Av Qv Ev G
  refine wpAny_execs_cons ?_
  try k_fold
  refine wpAny_Assign_Name ?_
  refine List_ ?_
  refine args_nil ?_
  refine r_listM (by show 0 ≤ 2 ^ 24; decide) G (fun D h2 G2 => ?_)
  have G := G2.swap
  walk_at "m:st"
  intro h3 tk3 G
  refine wpAny_execs_cons ?_
  try k_fold
  refine wpAny_While ?_
  try k_fold
  refine codeAny_whileLoop (fun n s => Ex7 fun h tk o p' ys nf nw' => Al9 (s = S z h tk) (G.same [some (.ref x), some (.ref D)] ((dx, o) :: (D, lstO ys nf) :: mu) nw' h) (IsRD w o wl (p' : Nat) d mo) ((∀ q ∈ nw, q ∈ nw')) (n = toks.length - p') (p ≤ p') (p' < toks.length) (ys.length + p ≤ p') (Goes (wsOf toks) [.papers] p [.papers] p')) ?_ (toks.length - p) ?_
  · intro n s hI_
    try k_fold
    obtain ⟨h, tk, o, p', ys, nf, nw', rfl, G, ho, hsn, hn, hpp, hlt', hys, hgo⟩ := hI_
    have hx := hsn _ hx
    have hw := hw.mono hsn
    obtain ⟨u', hp'⟩ := tok_at hlt'
    refine wpAny_isTrue_Compare1 ?_
    refine b_word G rfl .head ((hR _).le (by omega)) hx ho hw hp' ?_
    intro h9 tk9 t9 G
    refine r_strN ?_
    refine PyProof.Rows.ne_str ?_
    refine wpAny_truthy_bool ?_
    change if (u'.1.str != Wd.rp.str) = true then _ else _
    rw [Wd.bne]
    refine ifs (fun hb' => ?_) (fun hb' => ?_)
    · have hrp : u'.1 ≠ .rp := of_decide_eq_true hb'
      have go3 := hgo.trans (Goes.open_ (s := .papers) (late := [.paper, .papers]) (by decide) (ws_get hp') (by first | exact if_pos hrp | exact if_neg hrp))
      refine wpAny_execs_cons ?_
      try k_fold
      refine wpAny_Expr ?_
      have hlen : toks.length ≤ 40 := g.len
      refine b_append2 G rfl (by walk_at "m:at") (by show ys.length ≤ 2 ^ 24; omega) ?_
      try k_fold
      refine b_method (paper p' d (by omega) hlt' (by omega)) (keep_fn2 w).2.2.2.2.2.2 (fun q => rm_paper G hx ho q) G rfl .head (hR _) hx ho hw ((BO.of O rfl rfl).mono fun _ h => .tail _ h) ?_ ?_
      rotate_left
      · rintro k ⟨i, ui, hi, ek, hbad⟩
        exact EX.loop (BO.of O rfl rfl) (EX.of O rfl rfl (hE _ ⟨i, ui, hi, ek, go3.bad hbad.head⟩))
      rintro h11 tk11 o11 nw11 v11 p11 d11 hs11 ho G ⟨ed, hp11, hlt11, hlt11', hgo11⟩
      subst d11
      have := hlt11' rfl
      refine ⟨_, _, _, _, rfl, G, fun h12 m12 G12 => ?_⟩
      refine wpAny_execs_nil ?_
      refine ⟨_, ?_, h12, _, _, p11, ys ++ [v11], m12, nw11, rfl, G12, ho, fun q hq => hs11 _ (hsn _ hq), rfl, by omega, hlt11, by simp; omega, go3.trans (Goes.seq hgo11 Goes.refl)⟩
      omega
    · have hrp : u'.1 = .rp := by simpa using hb'
      refine wpAny_execs_nil ?_
      refine wpAny_execs_cons ?_
      try k_fold
      refine wpAny_Return_some ?_
      refine b_tuple G .head (by walk_at "m:at") (List.mem_append_left _ (.tail _ (.head _))) (by show ys.length ≤ 2 ^ 24; have := g.len; omega) ?_
      intro T h11 G
      have hG := G.swap.lessM.G
      exact hq _ _ _ _ _ _ _ (fun q hq => .tail _ (hsn _ hq)) ho hG ⟨rfl, hpp, hlt', by simp, hgo.trans (Goes.open_ (s := .papers) (late := [.q .rp]) (by decide) (ws_get hp') (by first | exact if_pos hrp | exact if_neg hrp))⟩
  · exact ⟨h3, _, o, p, [], _, nw, rfl, G, ho, fun _ h => h, rfl, Nat.le_refl _, hlt, by simp, Goes.refl⟩
end
end
section
variable [OSC]
noncomputable def RPl (toks : List (Wd × Nat)) (p d : Nat) : Led → Value → Nat → Nat → Prop := fun nw v p' d' =>
  d' = d ∧ p ≤ p' ∧ p' < toks.length ∧ ∀ N, ∃ ns acc, Go (wsOf toks) [.places] p (N ++ [[]]) [.q .rp] p' (N ++ [ns]) acc
noncomputable def FPl (toks : List (Wd × Nat)) (p : Nat) : Int → Prop := fun k => ∃ (i : Nat) (u : Wd × Nat), toks[i]? = some u ∧ (u.2 : Int) = k ∧ ∀ N, Bad (wsOf toks) [.places] p (N ++ [[]]) i
theorem wanted_kind_none {x : Wd} (h : x ≠ .same ∧ x ≠ .told ∧ x ≠ .rule ∧ x ≠ .turn ∧ x ≠ .join ∧ x ≠ .under) : wanted .kind x = none := by
  cases x <;> first | rfl | (exfalso; simp at h)
section
variable {w : World} {wl : Addr} {mo : Int} {toks : List (Wd × Nat)}
theorem paper_spec (g : Good toks mo) (places : ∀ m p d : Nat, toks.length - p ≤ m → p < toks.length → d ≤ p → MSpec w 241 (31 + 2 * m) wl toks p d mo (RPl toks p d) (FPl toks p)) :
    ∀ (m p d : Nat), toks.length - p ≤ m → p < toks.length → d ≤ p → MSpec w 255 (30 + 2 * m) wl toks p d mo (RX toks [.paper] [] p d) (FX toks [.paper] p) := by
  intro m
  induction m with
  | zero => intro p d hm hp; omega
  | succ m ih =>
  intro p d hm hlt hdp mg mb h₀ h mu nw fr z tk A outer E Q x dx o B G hA hx ho hw O hq hE
  have hR : ∀ env, Room (A.deeper env) (31 + 2 * m) := fun env => Room.deeper (by rw [show 31 + 2 * m + 1 = 30 + 2 * (m + 1) by omega]; exact hA)
  obtain ⟨u, hp⟩ := tok_at hlt
  refine enter ["self", "spot", "kind", "found"] ["TextFault"] [some (.ref x), none, none, none] B G hA.depth rfl rfl rfl rfl ⟨rfl, by decide, by decide, by decide, by decide⟩ rfl ?_ rfl rfl (by decide)
  intro L h₁ tk' ev Av Qv Ev G
  refine wpAny_execs_cons ?_
  try k_fold
  refine wpAny_Expr ?_
  try k_fold
  refine b_method (begin_spec hp (by have := g.mo; have := g.len; omega)) (keep_fn w).2.2.2.2.2.1 (fun q => rm_begin G hx ho q) G rfl .head ((hR _).le (by omega)) hx ho hw (BO.of O rfl rfl) ?_ ?_
  rotate_left
  · rintro k ⟨hne, ek⟩
    subst k
    refine EX.of O rfl rfl (hE _ ⟨p, u, hp, rfl, ?_⟩)
    exact (Goes.open_ (s := .paper) (late := [.q .lp, .kind]) (by decide) (ws_get hp) rfl).bad (BadA.head (BadA.miss (by decide) (ws_get hp) (by first | exact decide_eq_true hne | exact decide_eq_false hne | exact hne)))
  rintro h4 tk4 o4 nw4 v4 p4 d4 hs4 ho G ⟨ev, hlp, ep, ed⟩
  subst v4 p4 d4
  have hx := hs4 _ hx
  have hw := hw.mono hs4
  obtain ⟨u1, hp1⟩ := g.next hp (by rw [hlp]; decide)
  have hlt1 : p + 1 < toks.length := (List.getElem?_eq_some_iff.mp hp1).1
  have go1 : Goes (wsOf toks) [.paper] p [.kind] (p + 1) :=
    (Goes.open_ (s := .paper) (late := [.q .lp, .kind]) (by decide) (ws_get hp) rfl).trans (Goes.seq (Goes.eat (by decide) (ws_get hp) (by first | exact decide_eq_true hlp | exact decide_eq_false hlp | exact hlp)) Goes.refl)
  refine wpAny_execs_cons ?_
  try k_fold
  refine wpAny_Assign_Name ?_
  refine b_spot G rfl .head ((hR _).le (by omega)) hx ho hw hp1 ?_
  intro h5 tk5 t5 G
  walk_at "m:st"
  intro h6 tk6 G
  refine wpAny_execs_cons ?_
  try k_fold
  refine wpAny_Assign_Name ?_
  try k_fold
  refine b_method (op_spec hp1) (keep_fn w).2.2.2.2.1 (fun q => rm_op G hx ho q) G rfl .head ((hR _).le (by omega)) hx ho hw (BO.of O rfl rfl) ?_ ?_
  rotate_left
  · rintro k ⟨hop, ek⟩
    subst k
    refine EX.of O rfl rfl (hE _ ⟨p + 1, u1, hp1, rfl, ?_⟩)
    refine go1.bad (BadA.shut (by decide) (ws_get hp1) ?_)
    have nk : ∀ y : Wd, y.op = true → u1.1 ≠ y := fun y hy e => by rw [e, hy] at hop; cases hop
    exact wanted_kind_none ⟨nk _ rfl, nk _ rfl, nk _ rfl, nk _ rfl, nk _ rfl, nk _ rfl⟩
  rintro h7 tk7 o7 nw7 v7 p7 d7 hs7 ho G ⟨⟨t7, ev⟩, hop, ep, ed⟩
  subst v7 p7 d7
  have hx := hs7 _ hx
  have hw := hw.mono hs7
  have hlt2 := g.fin _ _ hp1 (ne_fin_of_op hop)
  obtain ⟨u2, hp2⟩ := tok_at hlt2
  have go2 : ∀ late, wanted .kind u1.1 = some (.op :: late) → Goes (wsOf toks) [.paper] p late (p + 1 + 1) := fun late hwt =>
    (go1.trans (Goes.kind (ws_get hp1) hwt)).trans (Goes.seq (Goes.eat (by decide) (ws_get hp1) (by first | exact decide_eq_true (plain_of_op hop) | exact decide_eq_false (plain_of_op hop) | exact (plain_of_op hop))) Goes.refl)
  walk_at "m:st"
  intro h8 tk8 G
  have G0 := G
  refine wpAny_execs_cons ?_
  try k_fold
  try k_fold
  refine wpAny_mono (Q := fun f s' => f = .next ∧ Ex6 fun h tk o nw' v p' => Al7 (s' = S z h tk) (G0.same [some (.ref x), some (.int u1.2 t5), some (.str u1.1.str t7), some v] ((dx, o) :: mu) nw' h) (IsRD w o wl (p' : Nat) (d + 1 : Nat) mo) ((∀ q ∈ nw7, q ∈ nw')) (p < p') (p' < toks.length) (Goes (wsOf toks) [.paper] p [.q .rp] p')) ?_ (fun f s' hf => ?_) (fun _ _ x => x)
  try k_fold
  rotate_left
  · obtain ⟨rfl, h, tk, o, nw', v, p', rfl, G, ho, hsn, hpp, hlt', hgo⟩ := hf
    have hx := hsn _ hx
    have hw := hw.mono hsn
    obtain ⟨u', hp'⟩ := tok_at hlt'
    refine wpAny_execs_cons ?_
    try k_fold
    refine wpAny_Expr ?_
    try k_fold
    refine b_method (close_spec hp') (keep_fn w).2.2.2.2.2.2 (fun q => rm_close G hx ho q) G rfl .head ((hR _).le (by omega)) hx ho hw (BO.of O rfl rfl) ?_ ?_
    rotate_left
    · rintro k ⟨hne, ek⟩
      subst k
      refine EX.of O rfl rfl (hE _ ⟨p', u', hp', rfl, ?_⟩)
      exact hgo.bad (BadA.miss (by decide) (ws_get hp') (by first | exact decide_eq_true hne | exact decide_eq_false hne | exact hne))
    rintro h10 tk10 o10 nw10 v10 p10 d10 hs10 ho G ⟨ev, hrp, ep, ed⟩
    subst v10 p10 d10
    refine wpAny_execs_cons ?_
    try k_fold
    refine wpAny_Return_some ?_
    walk_at "m:loc"
    refine hq _ _ _ _ _ _ _ (fun q hq => hs10 _ (hsn _ (hs7 _ (hs4 _ hq)))) ho G.G ⟨rfl, by omega, g.fin _ _ hp' (by rw [hrp]; decide), fun _ => by omega, ?_⟩
    exact hgo.trans (Goes.eat (s := .q .rp) (by decide) (ws_get hp') (by first | exact decide_eq_true hrp | exact decide_eq_false hrp | exact hrp))
  refine wpAny_If ?_
  try k_fold
  refine wpAny_isTrue_Compare1 ?_
  walk_at "m:loc"
  refine r_strN ?_
  refine PyProof.Rows.eq_str ?_
  refine wpAny_truthy_bool ?_
  change if (u1.1.str == Wd.same.str) = true then _ else _
  rw [Wd.beq]
  refine ifs (fun hk => ?_) (fun hk_same => ?_)
  · have hk : u1.1 = .same := of_decide_eq_true hk
    have gk := go2 [.term, .q .rp] (by rw [hk]; rfl)
    refine wpAny_execs_cons ?_
    try k_fold
    refine wpAny_Assign_Name ?_
    refine Tuple_ ?_
    refine args_cons ?_
    walk_at "m:loc"
    refine args_cons ?_
    try k_fold
    refine b_method (term_spec g m (p + 1 + 1) (d + 1) (by omega) hlt2 (by omega)) (keep_fn2 w).2.1 (fun q => rm_term G hx ho q) G rfl .head ((hR _).le (by omega)) hx ho hw (BO.of O rfl rfl) ?_ ?_
    rotate_left
    · rintro k ⟨i, ui, hi, ek, hbad⟩
      refine EX.of O rfl rfl (hE _ ⟨i, ui, hi, ek, ?_⟩)
      exact gk.bad (BadA.head hbad)
    rintro h9 tk9 o9 nw9 v9 p9 d9 hs9 ho G ⟨ed9, hp9, hlt9, t9, ht9, hgo9⟩
    subst d9
    refine args_nil ?_
    refine r_tup (by first | (show 2 ≤ 2 ^ 24; decide) | (show 3 ≤ 2 ^ 24; decide)) G (fun T h12 G12 => ?_)
    have G := G12.less
    walk_at "m:st"
    intro h13 tk13 G
    refine wpAny_execs_nil ?_
    exact ⟨rfl, h13, _, _, _, _, p9, rfl, G, ho, fun q hq => hs9 _ hq, by omega, hlt9, gk.trans (Goes.seq (Goes.of hgo9) Goes.refl)⟩
  refine wpAny_execs_cons ?_
  try k_fold
  refine wpAny_If ?_
  try k_fold
  refine wpAny_isTrue_Compare1 ?_
  walk_at "m:loc"
  refine r_strN ?_
  refine PyProof.Rows.eq_str ?_
  refine wpAny_truthy_bool ?_
  change if (u1.1.str == Wd.told.str) = true then _ else _
  rw [Wd.beq]
  refine ifs (fun hk => ?_) (fun hk_told => ?_)
  · have hk : u1.1 = .told := of_decide_eq_true hk
    have gk := go2 [.op, .q .rp] (by rw [hk]; rfl)
    refine wpAny_execs_cons ?_
    try k_fold
    refine wpAny_Assign_Name ?_
    refine Tuple_ ?_
    refine args_cons ?_
    walk_at "m:loc"
    refine args_cons ?_
    try k_fold
    refine b_method (op_spec hp2) (keep_fn w).2.2.2.2.1 (fun q => rm_op G hx ho q) G rfl .head ((hR _).le (by omega)) hx ho hw (BO.of O rfl rfl) ?_ ?_
    rotate_left
    · rintro k ⟨hop, ek⟩
      subst k
      refine EX.of O rfl rfl (hE _ ⟨_, _, hp2, rfl, ?_⟩)
      exact gk.bad (BadA.head (BadA.miss (by decide) (ws_get hp2) (by first | exact decide_eq_true (op_of_plain hop (g.nlb hp2)) | exact decide_eq_false (op_of_plain hop (g.nlb hp2)) | exact (op_of_plain hop (g.nlb hp2)))))
    rintro h9 tk9 o9 nw9 v9 p9 d9 hs9 ho G ⟨⟨t9, ev9⟩, hop9, ep9, ed9⟩
    subst v9 p9 d9
    have hx := hs9 _ hx
    have hw := hw.mono hs9
    have hlt3 := g.fin _ _ hp2 (ne_fin_of_op hop9)
    have go3 := gk.trans (Goes.seq (T := [.q .rp]) (Goes.eat (s := .op) (by decide) (ws_get hp2) (by first | exact decide_eq_true (plain_of_op hop9) | exact decide_eq_false (plain_of_op hop9) | exact (plain_of_op hop9))) Goes.refl)
    refine args_nil ?_
    refine r_tup (by first | (show 2 ≤ 2 ^ 24; decide) | (show 3 ≤ 2 ^ 24; decide)) G (fun T h12 G12 => ?_)
    have G := G12.less
    walk_at "m:st"
    intro h13 tk13 G
    refine wpAny_execs_nil ?_
    refine wpAny_execs_nil ?_
    exact ⟨rfl, h13, _, _, _, _, (p + 1 + 1 + 1), rfl, G, ho, fun q hq => hs9 _ hq, by omega, hlt3, go3⟩
  refine wpAny_execs_cons ?_
  try k_fold
  refine wpAny_If ?_
  try k_fold
  refine wpAny_isTrue_Compare1 ?_
  walk_at "m:loc"
  refine r_strN ?_
  refine PyProof.Rows.eq_str ?_
  refine wpAny_truthy_bool ?_
  change if (u1.1.str == Wd.rule.str) = true then _ else _
  rw [Wd.beq]
  refine ifs (fun hk => ?_) (fun hk_rule => ?_)
  · have hk : u1.1 = .rule := of_decide_eq_true hk
    have gk : ∀ N, Go (wsOf toks) [.paper] p N [.op, .places] (p + 1 + 1) (N ++ [[]]) [] := fun N => by
      have k1 := (Go.open_ (s := .paper) (late := [.q .lp, .kind]) (N := N) (by decide) (ws_get hp) rfl).trans (Go.seq (Go.eat (by decide) (ws_get hp) (by first | exact decide_eq_true hlp | exact decide_eq_false hlp | exact hlp)) Go.refl)
      have k2 := Go.kind (N := N) (late := [.op, .op, .places]) (ws_get hp1) (by rw [hk]; rfl)
      rw [if_pos hk] at k2
      exact (k1.trans k2).trans (Go.seq (Go.eat (by decide) (ws_get hp1) (by first | exact decide_eq_true (plain_of_op hop) | exact decide_eq_false (plain_of_op hop) | exact (plain_of_op hop))) Go.refl)
    refine wpAny_execs_cons ?_
    try k_fold
    refine wpAny_Assign_Name ?_
    refine Tuple_ ?_
    refine args_cons ?_
    walk_at "m:loc"
    refine args_cons ?_
    try k_fold
    refine b_method (op_spec hp2) (keep_fn w).2.2.2.2.1 (fun q => rm_op G hx ho q) G rfl .head ((hR _).le (by omega)) hx ho hw (BO.of O rfl rfl) ?_ ?_
    rotate_left
    · rintro k ⟨hop, ek⟩
      subst k
      refine EX.of O rfl rfl (hE _ ⟨_, _, hp2, rfl, ?_⟩)
      exact fun N => (gk N).bad (Bad.head (Bad.miss (by decide) (ws_get hp2) (by first | exact decide_eq_true (op_of_plain hop (g.nlb hp2)) | exact decide_eq_false (op_of_plain hop (g.nlb hp2)) | exact (op_of_plain hop (g.nlb hp2)))))
    rintro h9 tk9 o9 nw9 v9 p9 d9 hs9 ho G ⟨⟨t9, ev9⟩, hop9, ep9, ed9⟩
    subst v9 p9 d9
    have hx := hs9 _ hx
    have hw := hw.mono hs9
    have hlt3 := g.fin _ _ hp2 (ne_fin_of_op hop9)
    have go3 := fun N => (gk N).trans (Go.seq (T := [.places]) (Go.eat (s := .op) (by decide) (ws_get hp2) (by first | exact decide_eq_true (plain_of_op hop9) | exact decide_eq_false (plain_of_op hop9) | exact (plain_of_op hop9))) Go.refl)
    refine args_cons ?_
    try k_fold
    refine b_method (places m (p + 1 + 1 + 1) (d + 1) (by omega) hlt3 (by omega)) (keep_fn2 w).2.2.2.2.1 (fun q => rm_places G hx ho q) G rfl .head ((hR _).le (by omega)) hx ho hw (BO.of O rfl rfl) ?_ ?_
    rotate_left
    · rintro k ⟨i, ui, hi, ek, hbad⟩
      refine EX.of O rfl rfl (hE _ ⟨i, ui, hi, ek, ?_⟩)
      exact fun N => (go3 N).bad (hbad N)
    rintro h10 tk10 o10 nw10 v10 p10 d10 hs10 ho G ⟨ed10, hp10, hlt10, hgo10⟩
    subst d10
    refine args_nil ?_
    refine r_tup (by first | (show 2 ≤ 2 ^ 24; decide) | (show 3 ≤ 2 ^ 24; decide)) G (fun T h12 G12 => ?_)
    have G := G12.less
    walk_at "m:st"
    intro h13 tk13 G
    refine wpAny_execs_nil ?_
    refine wpAny_execs_nil ?_
    refine wpAny_execs_nil ?_
    refine ⟨rfl, h13, _, _, _, _, p10, rfl, G, ho, fun q hq => hs10 _ (hs9 _ hq), by omega, hlt10, (fun N => ?_)⟩
    obtain ⟨ns, acc, hg⟩ := hgo10 N
    exact ⟨_, _, (go3 N).trans hg⟩
  refine wpAny_execs_cons ?_
  try k_fold
  refine wpAny_If ?_
  try k_fold
  refine wpAny_isTrue_Compare1 ?_
  walk_at "m:loc"
  refine r_strN ?_
  refine PyProof.Rows.eq_str ?_
  refine wpAny_truthy_bool ?_
  change if (u1.1.str == Wd.turn.str) = true then _ else _
  rw [Wd.beq]
  refine ifs (fun hk => ?_) (fun hk_turn => ?_)
  · have hk : u1.1 = .turn := of_decide_eq_true hk
    have gk := go2 [.paper, .q .rp] (by rw [hk]; rfl)
    refine wpAny_execs_cons ?_
    try k_fold
    refine wpAny_Assign_Name ?_
    refine Tuple_ ?_
    refine args_cons ?_
    walk_at "m:loc"
    refine args_cons ?_
    try k_fold
    refine b_method (ih (p + 1 + 1) (d + 1) (by omega) hlt2 (by omega)) (keep_fn2 w).2.2.2.2.2.2 (fun q => rm_paper G hx ho q) G rfl .head ((hR _).le (by omega)) hx ho hw (BO.of O rfl rfl) ?_ ?_
    rotate_left
    · rintro k ⟨i, ui, hi, ek, hbad⟩
      refine EX.of O rfl rfl (hE _ ⟨i, ui, hi, ek, ?_⟩)
      exact gk.bad (BadA.head hbad)
    rintro h9 tk9 o9 nw9 v9 p9 d9 hs9 ho G ⟨ed9, hp9, hlt9, hps9, hgo9⟩
    subst d9
    have := hps9 rfl
    refine args_nil ?_
    refine r_tup (by first | (show 2 ≤ 2 ^ 24; decide) | (show 3 ≤ 2 ^ 24; decide)) G (fun T h12 G12 => ?_)
    have G := G12.less
    walk_at "m:st"
    intro h13 tk13 G
    refine wpAny_execs_nil ?_
    refine wpAny_execs_nil ?_
    refine wpAny_execs_nil ?_
    refine wpAny_execs_nil ?_
    exact ⟨rfl, h13, _, _, _, _, p9, rfl, G, ho, fun q hq => hs9 _ hq, by omega, hlt9, gk.trans (Goes.seq hgo9 Goes.refl)⟩
  refine wpAny_execs_cons ?_
  try k_fold
  refine wpAny_If ?_
  try k_fold
  refine wpAny_isTrue_Compare1 ?_
  walk_at "m:loc"
  refine r_strN ?_
  refine PyProof.Rows.eq_str ?_
  refine wpAny_truthy_bool ?_
  change if (u1.1.str == Wd.join.str) = true then _ else _
  rw [Wd.beq]
  refine ifs (fun hk => ?_) (fun hk_join => ?_)
  · have hk : u1.1 = .join := of_decide_eq_true hk
    have gk := go2 [.paper, .paper, .papers] (by rw [hk]; rfl)
    refine wpAny_execs_cons ?_
    try k_fold
    refine wpAny_Assign_Name ?_
    refine Tuple_ ?_
    refine args_cons ?_
    walk_at "m:loc"
    refine args_cons ?_
    try k_fold
    refine b_method (ih (p + 1 + 1) (d + 1) (by omega) hlt2 (by omega)) (keep_fn2 w).2.2.2.2.2.2 (fun q => rm_paper G hx ho q) G rfl .head ((hR _).le (by omega)) hx ho hw (BO.of O rfl rfl) ?_ ?_
    rotate_left
    · rintro k ⟨i, ui, hi, ek, hbad⟩
      refine EX.of O rfl rfl (hE _ ⟨i, ui, hi, ek, ?_⟩)
      exact gk.bad (BadA.head hbad)
    rintro h9 tk9 o9 nw9 v9 p9 d9 hs9 ho G ⟨ed9, hp9, hlt9, hps9, hgo9⟩
    subst d9
    have := hps9 rfl
    have hx := hs9 _ hx
    have hw := hw.mono hs9
    have gk2 := gk.trans (Goes.seq hgo9 (Goes.refl (sg := [.paper, .papers])))
    refine args_cons ?_
    try k_fold
    refine b_method (ih p9 (d + 1) (by omega) hlt9 (by omega)) (keep_fn2 w).2.2.2.2.2.2 (fun q => rm_paper G hx ho q) G rfl .head ((hR _).le (by omega)) hx ho hw (BO.of O rfl rfl) ?_ ?_
    rotate_left
    · rintro k ⟨i, ui, hi, ek, hbad⟩
      refine EX.of O rfl rfl (hE _ ⟨i, ui, hi, ek, ?_⟩)
      exact gk2.bad (BadA.head hbad)
    rintro h10 tk10 o10 nw10 v10 p10 d10 hs10 ho G ⟨ed10, hp10, hlt10, hps10, hgo10⟩
    subst d10
    have := hps10 rfl
    have hx := hs10 _ hx
    have hw := hw.mono hs10
    have gk3 := gk2.trans (Goes.seq hgo10 (Goes.refl (sg := [.papers])))
    refine args_nil ?_
    refine r_tup (by show 3 ≤ 2 ^ 24; decide) G (fun T h12 G12 => ?_)
    have G := G12.less
    walk_at "m:st"
    intro h13 tk13 G
    refine wpAny_execs_cons ?_
    try k_fold
    refine wpAny_While ?_
    try k_fold
    refine codeAny_whileLoop (fun n s => Ex6 fun h tk o p' v nw' => Al8 (s = S z h tk) (G0.same [some (.ref x), some (.int u1.2 t5), some (.str u1.1.str t7), some v] ((dx, o) :: mu) nw' h) (IsRD w o wl (p' : Nat) (d + 1 : Nat) mo) ((∀ q ∈ nw10, q ∈ nw')) (n = toks.length - p') (p + 1 + 1 ≤ p') (p' < toks.length) (Goes (wsOf toks) [.paper] p [.papers] p')) ?_ (toks.length - p10) ?_
    · intro n s hI_
      try k_fold
      obtain ⟨h, tk, o, p', v, nw', rfl, G, ho, hsn, hn, hpp, hlt', hgo⟩ := hI_
      have hx := hsn _ hx
      have hw := hw.mono hsn
      obtain ⟨u', hp'⟩ := tok_at hlt'
      refine wpAny_isTrue_Compare1 ?_
      refine b_word G rfl .head ((hR _).le (by omega)) hx ho hw hp' ?_
      intro h9 tk9 t9 G
      refine r_strN ?_
      refine PyProof.Rows.ne_str ?_
      refine wpAny_truthy_bool ?_
      change if (u'.1.str != Wd.rp.str) = true then _ else _
      rw [Wd.bne]
      refine ifs (fun hb' => ?_) (fun hb' => ?_)
      · have hrp : u'.1 ≠ .rp := of_decide_eq_true hb'
        have go4 := hgo.trans (Goes.open_ (s := .papers) (late := [.paper, .papers]) (by decide) (ws_get hp') (by first | exact if_pos hrp | exact if_neg hrp))
        refine wpAny_execs_cons ?_
        try k_fold
        refine wpAny_Assign_Name ?_
        refine Tuple_ ?_
        refine args_cons ?_
        walk_at "m:loc"
        refine args_cons ?_
        walk_at "m:loc"
        refine args_cons ?_
        try k_fold
        refine b_method (ih p' (d + 1) (by omega) hlt' (by omega)) (keep_fn2 w).2.2.2.2.2.2 (fun q => rm_paper G hx ho q) G rfl .head ((hR _).le (by omega)) hx ho hw (BO.of O rfl rfl) ?_ ?_
        rotate_left
        · rintro k ⟨i, ui, hi, ek, hbad⟩
          exact EX.loop (BO.of O rfl rfl) (EX.of O rfl rfl (hE _ ⟨i, ui, hi, ek, go4.bad hbad.head⟩))
        rintro h14 tk14 o14 nw14 v14 p14 d14 hs14 ho G ⟨ed14, hp14, hlt14, hps14, hgo14⟩
        subst d14
        have := hps14 rfl
        refine args_nil ?_
        refine r_tup (by show 3 ≤ 2 ^ 24; decide) G (fun T h12 G12 => ?_)
        have G := G12.less
        walk_at "m:st"
        intro h15 tk15 G
        refine wpAny_execs_nil ?_
        refine ⟨_, ?_, h15, _, _, p14, _, nw14, rfl, G, ho, fun q hq => hs14 _ (hsn _ hq), rfl, by omega, hlt14, go4.trans (Goes.seq hgo14 Goes.refl)⟩
        omega
      · have hrp : u'.1 = .rp := by simpa using hb'
        refine wpAny_execs_nil ?_
        refine wpAny_execs_nil ?_
        refine wpAny_execs_nil ?_
        refine wpAny_execs_nil ?_
        refine wpAny_execs_nil ?_
        refine wpAny_execs_nil ?_
        exact ⟨rfl, h9, _, _, _, _, p', rfl, G, ho, fun q hq => hsn _ (hs10 _ (hs9 _ hq)), by omega, hlt', hgo.trans (Goes.open_ (s := .papers) (late := [.q .rp]) (by decide) (ws_get hp') (by first | exact if_pos hrp | exact if_neg hrp))⟩
    · exact ⟨h13, _, _, p10, _, nw10, rfl, G, ho, fun _ h => h, rfl, by omega, hlt10, gk3⟩
  refine wpAny_execs_cons ?_
  try k_fold
  refine wpAny_If ?_
  try k_fold
  refine wpAny_isTrue_Compare1 ?_
  walk_at "m:loc"
  refine r_strN ?_
  refine PyProof.Rows.eq_str ?_
  refine wpAny_truthy_bool ?_
  change if (u1.1.str == Wd.under.str) = true then _ else _
  rw [Wd.beq]
  refine ifs (fun hk => ?_) (fun hk_under => ?_)
  · have hk : u1.1 = .under := of_decide_eq_true hk
    have gk := go2 [.op, .papers] (by rw [hk]; rfl)
    refine wpAny_execs_cons ?_
    try k_fold
    refine wpAny_Assign_Name ?_
    refine Tuple_ ?_
    refine args_cons ?_
    walk_at "m:loc"
    refine args_cons ?_
    try k_fold
    refine b_method (op_spec hp2) (keep_fn w).2.2.2.2.1 (fun q => rm_op G hx ho q) G rfl .head ((hR _).le (by omega)) hx ho hw (BO.of O rfl rfl) ?_ ?_
    rotate_left
    · rintro k ⟨hop, ek⟩
      subst k
      refine EX.of O rfl rfl (hE _ ⟨_, _, hp2, rfl, ?_⟩)
      exact gk.bad (BadA.head (BadA.miss (by decide) (ws_get hp2) (by first | exact decide_eq_true (op_of_plain hop (g.nlb hp2)) | exact decide_eq_false (op_of_plain hop (g.nlb hp2)) | exact (op_of_plain hop (g.nlb hp2)))))
    rintro h9 tk9 o9 nw9 v9 p9 d9 hs9 ho G ⟨⟨t9, ev9⟩, hop9, ep9, ed9⟩
    subst v9 p9 d9
    have hx := hs9 _ hx
    have hw := hw.mono hs9
    have hlt3 := g.fin _ _ hp2 (ne_fin_of_op hop9)
    have go3 := gk.trans (Goes.seq (T := [.papers]) (Goes.eat (s := .op) (by decide) (ws_get hp2) (by first | exact decide_eq_true (plain_of_op hop9) | exact decide_eq_false (plain_of_op hop9) | exact (plain_of_op hop9))) Goes.refl)
    refine args_cons ?_
    try k_fold
    refine b_method (papers_spec g m ih (p + 1 + 1 + 1) (d + 1) (by omega) hlt3 (by omega)) (keep_fn2 w).2.2.2.2.2.1 (fun q => rm_papers G hx ho q) G rfl .head ((hR _).le (by omega)) hx ho hw (BO.of O rfl rfl) ?_ ?_
    rotate_left
    · rintro k ⟨i, ui, hi, ek, hbad⟩
      refine EX.of O rfl rfl (hE _ ⟨i, ui, hi, ek, ?_⟩)
      exact go3.bad hbad
    rintro h10 tk10 o10 nw10 v10 p10 d10 hs10 ho G ⟨ed10, hp10, hlt10, hps10, hgo10⟩
    subst d10
    refine args_nil ?_
    refine r_tup (by first | (show 2 ≤ 2 ^ 24; decide) | (show 3 ≤ 2 ^ 24; decide)) G (fun T h12 G12 => ?_)
    have G := G12.less
    walk_at "m:st"
    intro h13 tk13 G
    refine wpAny_execs_nil ?_
    refine wpAny_execs_nil ?_
    refine wpAny_execs_nil ?_
    refine wpAny_execs_nil ?_
    refine wpAny_execs_nil ?_
    refine wpAny_execs_nil ?_
    exact ⟨rfl, h13, _, _, _, _, p10, rfl, G, ho, fun q hq => hs10 _ (hs9 _ hq), by omega, hlt10, go3.trans hgo10⟩
  refine wpAny_execs_cons ?_
  try k_fold
  have hno := wanted_kind_none (x := u1.1) ⟨of_decide_eq_false hk_same, of_decide_eq_false hk_told, of_decide_eq_false hk_rule, of_decide_eq_false hk_turn, of_decide_eq_false hk_join, of_decide_eq_false hk_under⟩
  refine b_raise ((BO.of O rfl rfl).mono fun _ h => .tail _ h) ((hR _).le (by omega)) (EX.of O rfl rfl (hE u1.2 ⟨p + 1, u1, hp1, rfl, ?_⟩)) G .head ?_ ?_
  · exact go1.bad (BadA.shut (by decide) (ws_get hp1) hno)
  · refine JoinedStr_many ?_
    refine joinParts_cons ?_
    refine FormattedValue_plain ?_
    walk_at "m:loc"
    refine formatField_str ?_ (Nat.le_trans u1.1.len (by decide))
    intro t14 tk14
    have l1 : (Str.empty ++ u1.1.str).length = u1.1.str.length := by rw [strLen_append]; exact Nat.zero_add _
    refine ⟨by rw [l1]; exact Nat.le_trans u1.1.len (by decide), ?_⟩
    refine joinParts_cons ?_
    refine r_strN ?_
    have l2 : (Str.empty ++ u1.1.str ++ " is no kind of paper").length ≤ sizeLine := by rw [strLen_append, l1]; exact Nat.le_trans (Nat.add_le_add_right u1.1.len _) (by decide)
    refine ⟨l2, ?_⟩
    refine joinParts_nilE ?_
    with_reducible refine joinParts_nil ?_ ?_
    rotate_left
    · exact l2
    · exact ⟨_, _, h8, _, rfl, rfl, G⟩
  · intro h' tk' G
    walk_at "m:loc"
    exact ⟨_, h', tk', rfl, rfl, G⟩
end
end
section
variable [OSC]
theorem Bs.keep {w : World} {mg mb : Str → Option Value} {h₀ h : Heap} (B : Bs w mg mb h₀) (k : ∀ b o, h₀.get? b = some o → h.get? b = some o) : Bs w mg mb h := ⟨B.K.keeps k, B.T.keeps k⟩
theorem Gh.rfl' {h : Heap} : Gh h h [] [] := ⟨fun _ _ e => e, Nat.le_refl _, fun p hp => (nomatch hp), List.nodup_nil, fun p hp => (nomatch hp)⟩
/-- entering a def with one cell -/
theorem enterC {w : World} {mg mb : Str → Option Value} {h₀ h : Heap} {z : Shared} {tk : Nat} {A : Around} {E Q : Value → Shared → Prop} {mu nw : Led} {f : Addr} {args : List Value} {binds : List (Str × Value)}
    {qual nm : Str} {params : Arguments} {body : List Stmt} {scope : Scope} {dV kV doc pm cdv ct oc : Value} {an od : Option Addr} {osl : Array (Option Value)} (ns gs : List Str) (vs : List (Option Value)) (cn : Str)
    (B : Bs w mg mb h₀) (G : Gh h₀ h mu nw) (hroom : A.depth < recursionLimit)
    (ho : (KK w).lookup f = some ⟨oc, od, .func (fnOf nm qual params body scope dV kV doc pm an cdv ct), osl⟩) (hcd : codeIn (KK w) cdv qual = true)
    (hbind : bindArgs (fnOf nm qual params body scope dV kV doc pm an cdv ct) ⟨args, []⟩ = pure binds)
    (hloc : ∀ x ∈ binds, scope.names.lookup x.1 = some .local)
    (hsc : Sc scope ns gs) (hcells : ∀ n, cellsFrom n scope.names [] = [(cn, n)]) (hvs : ∀ kd, (∀ x, kd x = scope.names.lookup x) → ns.map (bindL kd binds fun _ => none) = vs) (hcm : ∀ kd, (∀ x, kd x = scope.names.lookup x) → bindC kd binds (fun _ => none) cn = none)
    (hh : ∀ L oL h₁ tk', oL.data = .cell none → let ev := envX qual scope L f cdv [(cn, L + 1)]; let Av := A.deeper ev
      let Qv : Flow → Shared → Prop := fun fl s' => Q (match fl with | .ret v => v | _ => .none) s'
      let Ev : Value → Shared → Prop := fun e s' => wpAny (model PG w) Av (leaving ev e) (fun _ s'' => E e s'') (fun e' s'' => E e' s'') s'
      GS w mg mb h₀ ev ns gs vs ((L + 1, oL) :: mu) nw h₁ → wpAny (model PG w) Av (execs body ev) Qv Ev (S z h₁ tk'))
    (hco : scope.isCoroutine = false) (hgen : scope.isGenerator = false) :
    wpAny (model PG w) A (call (.ref f) args) Q E (S z h tk) := by
  have X : (KK w).In h := B.K.keeps G.stays
  have henv : callEnvC (fnOf nm qual params body scope dV kV doc pm an cdv ct) h.objs.size f = envX qual scope h.objs.size f cdv [(cn, h.objs.size + 1)] := by
    show newEnv scope h.objs.size _ (cellsFrom (h.objs.size + 1) scope.names []) _ _ _ none _ = _
    rw [hcells]; rfl
  have hkd : ∀ x, (envX qual scope h.objs.size f cdv [(cn, h.objs.size + 1)]).kindOf x = scope.names.lookup x := fun _ => rfl
  refine wpAny_call ?_
  refine codeAny_call_cells (s := S z h tk) (fd := fnOf nm qual params body scope dV kV doc pm an cdv ct) (body := body) (binds := binds) hroom (X _ _ ho) rfl (B.T.nolimit.keeps G.stays) (codeRec_of X hcd) rfl hbind rfl (fun x hx => .inl (hloc x hx)) (fun s₁ I => ?_) hco hgen hsc.kind
  rw [show ((S z h tk).heap.objs.size) = h.objs.size from rfl, henv] at I ⊢
  obtain ⟨IC, cell, apart, above⟩ := I
  obtain ⟨h₁, tk₁, rfl⟩ := IC.same
  have keep := IC.keep
  obtain ⟨oL, hoL, hdL⟩ := cell cn (h.objs.size + 1) (by simp [List.lookup])
  rw [hcm _ hkd] at hdL
  have hsz : ∀ b o, h.get? b = some o → b < h.objs.size := fun b o e => Heap.lt_size e
  have G1 : Gh h₀ h₁ mu nw := ⟨fun b o e => keep _ _ (G.stays b o e), Nat.le_of_lt (Nat.lt_of_le_of_lt G.le IC.ns.lt), fun p hp => ⟨keep _ _ (G.has p hp).1, (G.has p hp).2⟩, G.nd, G.apart⟩
  have old : ∀ p ∈ mu ++ nw, p.1 < h.objs.size := fun p hp => hsz _ _ (G.has p hp).1
  refine hh h.objs.size oL h₁ _ hdL ⟨B, hsc, rfl, rfl, ⟨_, IC.ns, ?_⟩, G.le, ⟨G1.stays, G1.le, fun p hp => ?_, ?_, fun p hp q hq => ?_⟩, fun p hp => ?_⟩
  · have := hvs _ hkd
    subst this
    exact LV.of_map ns
  · rcases List.mem_cons.mp hp with rfl | hp
    · refine ⟨hoL, ?_⟩
      cases e : h₀.get? (h.objs.size + 1) with
      | none => rfl
      | some o => exact absurd (Heap.lt_size e) (Nat.not_lt.mpr (Nat.le_succ_of_le G.le))
    · exact G1.has p hp
  · refine List.nodup_cons.mpr ⟨fun hm => ?_, G.nd⟩
    obtain ⟨p, hp, e⟩ := List.mem_map.mp hm
    have := old p (List.mem_append_left _ hp)
    rw [e] at this
    exact absurd this (by simp)
  · rcases List.mem_cons.mp hp with rfl | hp
    · have := old q (List.mem_append_right _ hq)
      exact fun e => by rw [← e] at this; exact absurd this (by simp)
    · exact G.apart p hp q hq
  · show p.1 ≠ h.objs.size
    rcases List.mem_cons.mp hp with rfl | hp
    · exact Nat.succ_ne_self _
    · exact Nat.ne_of_lt (old p hp)
section
variable {w : World} {mg mb : Str → Option Value} {h₀ h h' : Heap} {env : Env} {ns gs : List Str} {vs vs' : List (Option Value)} {mu nw fr : Led} {z : Shared} {tk : Nat} {A : Around} {E Q : Value → Shared → Prop} {M : Model} {x : Str} {c : Addr} {o : Obj} {v : Value} {pos : Pos}
theorem r_cell (G : GS w mg mb h₀ env ns gs vs mu nw h) (hk : env.kindOf x = some .cell) (hc : env.cells.lookup x = some c) (hm : (c, o) ∈ mu ++ nw) (hd : o.data = .cell (some v)) (hdb : (x == ("__debug__" : Str)) = false) (hq : Q v (S z h tk)) :
    wpAny M A (eval (.Name x pos) env) Q E (S z h tk) :=
  wpAny_Name (wpAny_loadName_cell (s := S z h tk) G.sc.kind hk hc ⟨o, (G.G.has _ hm).1, hd⟩ hq) hdb
theorem st_cell {Q : Unit → Shared → Prop} {v₀ : Option Value} (G : GS w mg mb h₀ env ns gs vs ((c, o) :: mu) nw h) (hk : env.kindOf x = some .cell) (hc : env.cells.lookup x = some c) (hd : o.data = .cell v₀)
    (hq : ∀ h' o', o'.data = .cell (some v) → GS w mg mb h₀ env ns gs vs ((c, o') :: mu) nw h' → Q () (S z h' tk)) : wpAny M A (storeName env x v) Q E (S z h tk) :=
  wpAny_storeName_cell (s := S z h tk) G.sc.kind hk hc ⟨o, (G.G.has _ (.head _)).1, hd⟩ fun h' ⟨o', ho', hd'⟩ hs => hq h' o' hd' (G.set1 hs ho')
end
theorem Sc.of {scope : Scope} {ns gs : List Str} (hk : scope.kind = .function) (hl : (ns.all fun x => decide (scope.names.lookup x = some .local)) = true) (hg : (gs.all fun x => decide (scope.names.lookup x = some .globalImplicit)) = true) (nd : ns.Nodup) (db : ∀ x ∈ ns ++ gs, (x == ("__debug__" : Str)) = false) : Sc scope ns gs :=
  ⟨hk, fun x hx => of_decide_eq_true (List.all_eq_true.mp hl x hx), fun x hx => of_decide_eq_true (List.all_eq_true.mp hg x hx), nd, db⟩
/-- a comprehension's own block: what its names hold -/
structure CS (w : World) (mg mb : Str → Option Value) (env : Env) (ns gs : List Str) (vs : List (Option Value)) (h : Heap) : Prop where
  bs : Bs w mg mb h
  sc : Sc env.scope ns gs
  eg : env.globals = mainGlobals
  eb : env.builtins = builtinsNs
  ns_ : ∃ m, h.Ns env.locals m ∧ LV ns vs m
section
variable {w : World} {mg mb : Str → Option Value} {h₀ h h' : Heap} {env : Env} {ns gs : List Str} {vs vs' : List (Option Value)} {mu nw fr : Led} {z : Shared} {tk : Nat} {A : Around} {E Q : Value → Shared → Prop} {M : Model} {x : Str} {c : Addr} {o : Obj} {v : Value} {pos : Pos}
theorem CS.keep (C : CS w mg mb env ns gs vs h) (k : ∀ b o, h.get? b = some o → h'.get? b = some o) : CS w mg mb env ns gs vs h' :=
  ⟨C.bs.keep k, C.sc, C.eg, C.eb, let ⟨m, hn, hl⟩ := C.ns_; ⟨m, hn.keeps k, hl⟩⟩
theorem with_cs {e : Expr} {s : Shared} (ns gs : List Str) (vs : List (Option Value)) (bs : Bs w mg mb s.heap) (sc : Sc env.scope ns gs) (eg : env.globals = mainGlobals) (eb : env.builtins = builtinsNs) (hn : ∃ m, s.heap.Ns env.locals m ∧ LV ns vs m)
    (hc : CS w mg mb env ns gs vs s.heap → wpAny M A (eval e env) Q E s) : wpAny M A (eval e env) Q E s := hc ⟨bs, sc, eg, eb, hn⟩
theorem c_loc {s : Shared} (C : CS w mg mb env ns gs vs s.heap) (hx : At ns vs x v) (hq : Q v s) : wpAny M A (eval (.Name x pos) env) Q E s := by
  obtain ⟨m, hn, hl⟩ := C.ns_
  exact wpAny_Name (wpAny_loadName_local C.sc.kind (C.sc.loc x hx.mem) hn (hx.get hl) hq) (C.sc.db x (List.mem_append_left _ hx.mem))
theorem c_glo {s : Shared} (C : CS w mg mb env ns gs vs s.heap) (hx : Has gs x) (e : nsIn (KK w) mainGlobals x = some (some v)) (hq : Q v s) : wpAny M A (eval (.Name x pos) env) Q E s :=
  Name_function_global C.sc.kind (C.sc.glo x hx.mem) (loadGlobal_global (by rw [C.eg]; exact C.bs.T.g) (mg_of C.bs.K C.bs.T.g e) hq) (C.sc.db x (List.mem_append_right _ hx.mem))
theorem c_cell {s : Shared} (C : CS w mg mb env ns gs vs s.heap) (hk : env.kindOf x = some .cell) (hc : env.cells.lookup x = some c) (ho : s.heap.get? c = some o) (hd : o.data = .cell (some v)) (hdb : (x == ("__debug__" : Str)) = false) (hq : Q v s) :
    wpAny M A (eval (.Name x pos) env) Q E s :=
  wpAny_Name (wpAny_loadName_cell C.sc.kind hk hc ⟨o, ho, hd⟩ hq) hdb
end
section
variable {w : World} {mg mb : Str → Option Value} {h₀ h h' : Heap} {env : Env} {ns gs : List Str} {vs vs' : List (Option Value)} {mu nw fr : Led} {z : Shared} {tk : Nat} {A : Around} {E Q : Value → Shared → Prop} {x : Str} {v : Value} {pos : Pos}
/-- [elt for x in (a list) if ..] -/
theorem r_comp {elt iter : Expr} {px : Pos} {ifs : List Expr} {scope : Scope} {cl : List (Str × Addr)} (p : Value → Bool) (F : Value → Value → Prop) (_G₀ : GS w mg mb h₀ env ns gs vs mu nw h)
    (hh : A.handled = none) (hclos : closureFor scope env = pure cl) (hcell : ∀ y ∈ scope.names, y.2 ≠ .cell) (hkind : scope.kind = .function) (hnames : ∀ y ∈ scope.names, y.2 = .local → scope.names.lookup y.1 = some .local) (hx : scope.names.lookup x = some .local)
    (hi : wpAny (model PG w) A (eval iter env) (fun xv s₁ => Ex7 fun l ys n h tk mu nw => Al8 (xv = .ref l) (s₁ = S z h tk) (GS w mg mb h₀ env ns gs vs mu nw h) ((l, lstO ys n) ∈ mu ++ nw) (ys.length ≤ sizeLine) ((∀ C v s₃ m₃ E', v ∈ ys → s₃.heap.Ns C m₃ → m₃ x = some v → (∀ b o, h.get? b = some o → s₃.heap.get? b = some o) →
        wpAny (model PG w) A (forIn ifs true fun c r => if r = true then do let ok ← isTrue c (compEnvC scope cl C env) (eval c (compEnvC scope cl C env)); pure (ForInStep.yield ok) else pure (ForInStep.yield r)) (fun ok s₄ => ok = p v ∧ Keeps s₃ s₄) E' s₃)) ((∀ C v s₃ m₃ E', v ∈ ys → p v = true → s₃.heap.Ns C m₃ → m₃ x = some v → (∀ b o, h.get? b = some o → s₃.heap.get? b = some o) →
        wpAny (model PG w) A (eval elt (compEnvC scope cl C env)) (fun y s₄ => F v y ∧ Keeps s₃ s₄) E' s₃)) ((∀ D h' tk' rs n', GS w mg mb h₀ env ns gs vs mu ((D, lstO rs n') :: nw) h' → (∀ b o, h.get? b = some o → h'.get? b = some o) → Paired F (ys.filter p) rs → Q (.ref D) (S z h' tk')))) E (S z h tk))
    (hs : ∀ x, foldedSetIterable iter env x = pure x := by intro _; rfl) :
    wpAny (model PG w) A (eval (.ListComp elt [⟨.Name x px, iter, ifs, 0⟩] scope pos) env) Q E (S z h tk) := by
  refine wpAny_ListComp_free p F hclos hcell hkind hnames hx (wpAny_mono hi (fun xv s₁ h1 => ?_) fun _ _ e => e) hs
  obtain ⟨l, ys, n, h2, tk2, mu, nw, rfl, rfl, G, hm, hsz, htests, helt, hQ⟩ := h1
  have hl : h2.IsList l ys.toArray := ⟨_, (G.G.has _ hm).1, rfl, n, rfl⟩
  have hlt : l < h2.objs.size := Heap.lt_size (G.G.has _ hm).1
  refine wpAny_pyIter_list (s := S z h2 tk2) hl ?_
  have up : ∀ (h3 : Heap), (∀ b o, b ∉ [h2.objs.size] → (h2.push { cls := .type "list_iterator", data := .fields #[.ref l, .int 0 0] }).get? b = some o → h3.get? b = some o) → ∀ b o, h2.get? b = some o → h3.get? b = some o := fun h3 hk b o e =>
    hk b o (fun hb => by rw [List.mem_singleton] at hb; exact absurd (Heap.lt_size e) (by rw [hb]; exact Nat.lt_irrefl _)) (Heap.get?_push_of_some _ e)
  refine ⟨h2.objs.size, [h2.objs.size, l], [h2.objs.size], ys.length, _, _, rfl, Walks.list hh h2.objs.size l (Nat.ne_of_lt hlt) ys.toArray, hsz, ⟨⟨_, Heap.get?_push_size _ rfl, rfl, rfl⟩, hl.at fun o e => Heap.get?_push_of_some _ e⟩, fun b hb => ?_, ⟨fun C i v s₃ m₃ E' _ hP hn hm3 hk _ => ?_, fun C i v s₃ m₃ E' _ hP hp hn hm3 hk _ => ?_⟩, fun D h' tk' ys' vs' hD hlD hpl hlen hP hF hk => ?_⟩
  · show b < (h2.push _).objs.size
    rw [Heap.size_push]
    rcases List.mem_cons.mp hb with rfl | hb
    · exact Nat.lt_succ_self _
    · rw [List.mem_singleton.mp hb]; exact Nat.lt_succ_of_lt hlt
  · exact htests C v s₃ m₃ E' (List.mem_of_getElem? (by simpa using hP)) hn hm3 (up _ hk)
  · exact helt C v s₃ m₃ E' (List.mem_of_getElem? (by simpa using hP)) hp hn hm3 (up _ hk)
  · have hvs : vs' = ys := by
      apply List.ext_getElem?
      intro j
      cases e : vs'[j]? with
      | none =>
        have := List.getElem?_eq_none_iff.mp e
        rw [List.getElem?_eq_none_iff.mpr]
        omega
      | some v => simpa using (hP j v e).symm
    subst hvs
    have hk' := up h' hk
    have G' := G.Ns_keep hk'
    obtain ⟨n', hn'⟩ := hpl
    have hDn : h2.get? D = none := by
      cases e : h2.get? D with
      | none => rfl
      | some o => rw [show (_ : Shared).heap.get? D = some o from Heap.get?_push_of_some _ e] at hD; cases hD
    have fresh : ∀ p ∈ mu ++ nw, p.1 ≠ D := fun p hp e => by rw [← e, (G.G.has p hp).1] at hDn; cases hDn
    refine hQ D h' tk' ys'.toList n' (G'.with ⟨G'.G.stays, G'.G.le, fun p hp => ?_, G'.G.nd, fun p hp q hq => ?_⟩ (fun o e => e) fun p hp => ?_) hk' hF
    · simp only [List.mem_append, List.mem_cons] at hp
      rcases hp with hp | rfl | hp
      · exact G'.G.has p (List.mem_append_left _ hp)
      · refine ⟨by simpa using hn', ?_⟩
        cases e : h₀.get? D with
        | none => rfl
        | some o => rw [G.G.stays _ _ e] at hDn; cases hDn
      · exact G'.G.has p (List.mem_append_right _ hp)
    · rcases List.mem_cons.mp hq with rfl | hq
      · exact fresh p (List.mem_append_left _ hp)
      · exact G'.G.apart p hp q hq
    · simp only [List.mem_append, List.mem_cons] at hp
      rcases hp with hp | rfl | hp
      · exact G'.ne p (List.mem_append_left _ hp)
      · rintro rfl
        obtain ⟨m, hn, _⟩ := G.ns_
        obtain ⟨ob, es, ep, hob, _⟩ := hn
        have e : h2.get? env.locals = some ob := hob
        exact absurd (hDn.symm.trans e) (by simp)
      · exact G'.ne p (List.mem_append_right _ hp)
end
end
section
variable [OSC]
noncomputable abbrev IsD (w : World) (o : Obj) (kvs : List (Str × Value)) : Prop := o.IsDictOf (PySem.strKind PG w) kvs
theorem sort_strs {prog : Program} {w : World} {A : Around} {E : Value → Shared → Prop} {s : Shared} {B : Addr} {vs : List Value} {n : Nat} {ss : List Str} {Q : Value → Shared → Prop} (ho : s.heap.get? B = some (seqObj "list" vs.toArray n)) (hS : StrsAre vs ss) (h64 : vs.length < 64)
    (h : ∀ h' vs' ss' e, (∀ b o, b ≠ B → s.heap.get? b = some o → h'.get? b = some o) → h'.get? B = some (seqObj "list" vs'.toArray e) → StrsAre vs' ss' → ss'.Perm ss → Q .none { s with heap := h' }) :
    wpAny (model prog w) A (call (.builtin "list.sort") [.ref B]) Q E s := by
  refine wpAny_call_entry slot_list_sort ⟨_, ho, rfl⟩ entry_list_sort (list_sort_treeK (n := n) PyProof.Rows.strKind_oneLt ho hS.keysOf (fun v₁ v₂ rest e => keyKind_strs (by rw [← e]; exact hS)) h64 fun st' hp hs => ⟨_, rfl, ?_⟩) (args_list_sort _)
  obtain ⟨ss', h1, h2, h3⟩ := sorted_out_str hS hp hs
  obtain ⟨e, he⟩ := sortedHeap_at (out := (arrOf st').map (·.2)) ho
  exact h _ _ ss' e (fun b o hb e => (sortedHeap_old hb (Heap.lt_size e)).trans e) he h1 h2
section
variable {w : World} {mg mb : Str → Option Value} {h₀ h h' : Heap} {env : Env} {ns gs : List Str} {vs vs' : List (Option Value)} {mu nw fr : Led} {z : Shared} {tk : Nat} {A : Around} {E Q : Value → Shared → Prop} {x : Str} {v : Value} {pos : Pos} {d : Addr} {o : Obj} {kvs : List (Str × Value)} {k : Str} {t : Tok}
theorem Gh.notMods (B : Bs w mg mb h₀) (hd : h₀.get? d = none) : (d == sysModules) = false := by
  have : ((KK w).lookup 1).isSome = true := by kernel_rfl
  obtain ⟨o1, h1⟩ := Option.isSome_iff_exists.mp this
  have h2 := B.K _ _ h1
  cases e : d == sysModules with
  | false => rfl
  | true =>
    have : d = 1 := beq_iff_eq.mp e
    subst this
    rw [hd] at h2
    cases h2
theorem GS.notMods (G : GS w mg mb h₀ env ns gs vs mu nw h) (hm : (d, o) ∈ mu ++ nw) : (d == sysModules) = false := Gh.notMods G.bs (G.G.has _ hm).2
theorem GS.dict (G : GS w mg mb h₀ env ns gs vs mu nw h) (hm : (d, o) ∈ mu ++ nw) (hd : IsD w o kvs) : h.DictOf (PySem.strKind PG w) d kvs := Heap.dictOf_iff.mpr ⟨o, (G.G.has _ hm).1, hd⟩
theorem r_newdict (G : GS w mg mb h₀ env ns gs vs mu nw h) (hq : ∀ d o h', IsD w o [] → GS w mg mb h₀ env ns gs vs ((d, o) :: mu) nw h' → Q (.ref d) (S z h' tk)) : wpAny (model PG w) A (eval (.Dict [] [] pos) env) Q E (S z h tk) := by
  refine wpAny_Dict_empty (s := S z h tk) (hq _ _ _ ?_ (G.pushM _ rfl))
  obtain ⟨o, ho, hd⟩ := Heap.dictOf_iff.mp (Heap.DictOf.new (knd := PySem.strKind PG w) h)
  rw [Heap.get?_push_size _ rfl] at ho
  exact (Option.some.inj ho) ▸ hd
theorem r_indict (G : GS w mg mb h₀ env ns gs vs mu nw h) (hm : (d, o) ∈ mu ++ nw) (hd : IsD w o kvs) (hq : Q (.bool (valueAt kvs k).isSome) (S z h (tk + 1))) : wpAny (model PG w) A (compareOp .In (.str k t) (.ref d)) Q E (S z h tk) :=
  wpAny_in_of (s := S z h tk) (PySem.strKind_is PG w k t) (G.notMods hm) (G.dict hm hd).mapOf hq
theorem r_setdict {Q : Unit → Shared → Prop} (G : GS w mg mb h₀ env ns gs vs ((d, o) :: mu) nw h) (hd : IsD w o kvs) (hsz : kvs.length ≤ sizeLine) (hq : ∀ h' o', IsD w o' (stored kvs k v) → GS w mg mb h₀ env ns gs vs ((d, o') :: mu) nw h' → Q () (S z h' (tk + 1))) :
    wpAny (model PG w) A (setItem (.ref d) (.str k t) v) Q E (S z h tk) := by
  refine wpAny_setItem_pairs (s := S z h tk) (PySem.strKind_is PG w k t) (G.dict (.head _) hd) (fun h' hd' hs => ?_) hsz
  obtain ⟨o', ho', hd''⟩ := Heap.dictOf_iff.mp hd'
  exact hq h' o' hd'' (G.set1 hs ho')
theorem sorted_dict (G : GS w mg mb h₀ env ns gs vs mu nw h) (hh : A.handled = none) (hm : (d, o) ∈ mu ++ nw) (hd : IsD w o kvs) (hsz : kvs.length < 64)
    (hq : ∀ B h' tk' vs' ss' e, GS w mg mb h₀ env ns gs vs mu ((B, lstO vs' e) :: nw) h' → StrsAre vs' ss' → ss'.Perm (kvs.map (·.1)) → Q (.ref B) (S z h' tk')) :
    wpAny (model PG w) A (call (.builtin "sorted") [.ref d]) Q E (S z h tk) := by
  obtain ⟨m, F, hl⟩ := G.fr
  obtain ⟨ep, hat⟩ := (G.dict hm hd).dictAt
  refine kdu_sorted (s := S z h tk) (kdl_dict (knd := PySem.strKind PG w) (kvs := kvs) (ep := ep) (G.notMods hm)) hh F G.news hat (by rw [sizeLine_eq]; omega) fun B h' tk' ys F' N' hB hlen hP => ?_
  have hS : StrsAre ys (kvs.map (·.1)) := by
    have : ∀ (ys : List Value) (kvs : List (Str × Value)), ys.length = kvs.length → (∀ (j : Nat) (v : Value), ys[j]? = some v → ∃ k x, kvs[j]? = some (k, x) ∧ (PySem.strKind PG w).is k v = true) → StrsAre ys (kvs.map (·.1)) := by
      intro ys
      induction ys with
      | nil => intro kvs hl _; cases kvs with
        | nil => exact .nil
        | cons => cases hl
      | cons y ys ih =>
        intro kvs hl hP
        cases kvs with
        | nil => cases hl
        | cons q kvs =>
          obtain ⟨k, x, hk, hi⟩ := hP 0 y rfl
          cases hk
          have : ∃ t, y = .str k t:= by
            have : y.isStrOf k = true := hi
            cases y <;> simp [Value.isStrOf] at this
            subst this; exact ⟨_, rfl⟩
          obtain ⟨t, rfl⟩ := this
          exact .cons _ _ (ih kvs (by simpa using hl) fun j v hv => by simpa using hP (j + 1) v (by simpa using hv))
    exact this ys kvs hlen hP
  have hB' := N' _ (.head _)
  refine sort_strs (s := S z h' tk') (n := 0) (hB'.1) hS (by rw [hlen]; exact hsz) fun h2 vs' ss' e keep hB2 hS' hp => ?_
  have N2 : News h₀ env.locals h' (mu ++ nw) := fun p hp => N' p (.tail _ hp)
  have G1 := G.back (mu' := mu) (nw' := nw) F' hl N2 G.G.nd G.G.apart
  have G2 : GS w mg mb h₀ env ns gs vs mu ((B, lstO ys 0) :: nw) h' := G1.with ⟨G1.G.stays, G1.G.le, fun p hp => ?_, G1.G.nd, fun p hp q hq => ?_⟩ (fun o e => e) fun p hp => ?_
  · refine hq B h2 tk' vs' ss' e (G2.with ⟨fun b o e => keep b o (fun q => by rw [q, hB'.2.2] at e; cases e) (G2.G.stays b o e), ?_, fun p hp => ?_, G2.G.nd, fun p hp q hq => ?_⟩ (fun o e => keep _ _ (Ne.symm hB'.2.1) e) fun p hp => ?_) hS' hp
    · obtain ⟨m', hn, hl'⟩ := G2.ns_
      obtain ⟨ob, es, ep, hob, _⟩ := hn
      exact Nat.le_of_lt (Nat.lt_of_le_of_lt G2.above (Heap.lt_size (keep _ _ (Ne.symm hB'.2.1) hob)))
    · simp only [List.mem_append, List.mem_cons] at hp
      rcases hp with hp | rfl | hp
      · exact ⟨keep _ _ (Nat.ne_of_lt (hB p (List.mem_append_left _ hp))) (G1.G.has p (List.mem_append_left _ hp)).1, (G1.G.has p (List.mem_append_left _ hp)).2⟩
      · exact ⟨hB2, hB'.2.2⟩
      · exact ⟨keep _ _ (Nat.ne_of_lt (hB p (List.mem_append_right _ hp))) (G1.G.has p (List.mem_append_right _ hp)).1, (G1.G.has p (List.mem_append_right _ hp)).2⟩
    · rcases List.mem_cons.mp hq with rfl | hq
      · exact Nat.ne_of_lt (hB p (List.mem_append_left _ hp))
      · exact G1.G.apart p hp q hq
    · simp only [List.mem_append, List.mem_cons] at hp
      rcases hp with hp | rfl | hp
      · exact G1.ne p (List.mem_append_left _ hp)
      · exact hB'.2.1
      · exact G1.ne p (List.mem_append_right _ hp)
  · simp only [List.mem_append, List.mem_cons] at hp
    rcases hp with hp | rfl | hp
    · exact G1.G.has p (List.mem_append_left _ hp)
    · exact ⟨hB'.1, hB'.2.2⟩
    · exact G1.G.has p (List.mem_append_right _ hp)
  · rcases List.mem_cons.mp hq with rfl | hq
    · exact Nat.ne_of_lt (hB p (List.mem_append_left _ hp))
    · exact G1.G.apart p hp q hq
  · simp only [List.mem_append, List.mem_cons] at hp
    rcases hp with hp | rfl | hp
    · exact G1.ne p (List.mem_append_left _ hp)
    · exact hB'.2.1
    · exact G1.ne p (List.mem_append_right _ hp)
end
end
section
variable [OSC]
theorem valueAt_has : ∀ (kvs : List (Str × Value)) (ns : List Wd) (x : Wd), kvs.map (·.1) = ns.map Wd.str → (valueAt kvs x.str).isSome = ns.contains x
  | [], [], x, _ => rfl
  | [], _ :: _, _, h => by cases h
  | _ :: _, [], _, h => by cases h
  | q :: kvs, n :: ns, x, h => by
    simp only [List.map_cons, List.cons.injEq] at h
    have ih := valueAt_has kvs ns x h.2
    unfold valueAt at ih ⊢
    rw [List.find?_cons]
    by_cases e : n = x
    · subst e
      simp [h.1]
    · have : ¬ (q.1 = x.str) := fun e' => e (Wd.inj (h.1.symm.trans e'))
      have hne : ¬ (x = n) := fun q => e q.symm
      simp only [decide_eq_true_eq, this, decide_false, List.contains_cons]
      rw [ih]
      simp [hne]
theorem valueAt_mem {kvs : List (Str × Value)} {k : Str} (h : k ∈ kvs.map (·.1)) : ∃ v, valueAt kvs k = some v:= by
  unfold valueAt
  cases e : kvs.find? fun kv => kv.1 = k with
  | some q => exact ⟨q.2, rfl⟩
  | none =>
    obtain ⟨q, hq, rfl⟩ := List.mem_map.mp h
    exact absurd (List.find?_eq_none.mp e q hq) (by simp)
theorem stored_new {kvs : List (Str × Value)} {ns : List Wd} {x : Wd} {v : Value} (hk : kvs.map (·.1) = ns.map Wd.str) (hn : ns.contains x = false) : stored kvs x.str v = kvs ++ [(x.str, v)] := by
  unfold stored
  rw [if_neg]
  intro h
  obtain ⟨q, hq, e⟩ := List.any_eq_true.mp h
  have e : q.1 = x.str := by simpa using e
  have : x.str ∈ ns.map Wd.str := by rw [← hk, ← e]; exact List.mem_map.mpr ⟨q, hq, rfl⟩
  obtain ⟨y, hy, e2⟩ := List.mem_map.mp this
  rw [← Wd.inj e2] at hn
  simp at hn
  exact hn hy
theorem StrsAre.mem {vs : List Value} {ss : List Str} (h : StrsAre vs ss) {v : Value} (hv : v ∈ vs) : ∃ k t, v = .str k t ∧ k ∈ ss:= by
  induction h with
  | nil => cases hv
  | cons y t _ ih =>
    rcases List.mem_cons.mp hv with rfl | hv
    · exact ⟨y, t, rfl, .head _⟩
    · obtain ⟨k, t, e, hm⟩ := ih hv
      exact ⟨k, t, e, .tail _ hm⟩
section
variable {w : World} {wl : Addr} {mo : Int} {toks : List (Wd × Nat)}
theorem places_spec (g : Good toks mo) (m p d : Nat) (hm : toks.length - p ≤ m) (hlt : p < toks.length) (hdp : d ≤ p) : MSpec w 241 (31 + 2 * m) wl toks p d mo (RPl toks p d) (FPl toks p) := by
  intro mg mb h₀ h mu nw fr z tk A outer E Q x dx o B G hA hx ho hw O hq hE
  have hR : ∀ env, Room (A.deeper env) (30 + 2 * m) := fun env => Room.deeper (by rw [show 30 + 2 * m + 1 = 31 + 2 * m by omega]; exact hA)
  refine enterC ["self", "spot", "name"] ["TextFault", "tuple", "sorted"] [some (.ref x), none, none] "found" B G hA.depth rfl rfl rfl (fun x hx => ?_) ⟨rfl, by decide, by decide, by decide, by decide⟩ (fun n => rfl) (fun kd hkd => ?_) (fun kd hkd => ?_) ?_ rfl rfl
  · rcases List.mem_singleton.mp hx with rfl
    rfl
  · simp [bindL, hkd, List.lookup]; decide
  · simp [bindC, hkd, List.lookup]
  intro L oL h₁ tk' hoL ev Av Qv Ev G
  let Gs := fun (vs : List (Option Value)) (mu nw : Led) (h : Heap) => G.same vs mu nw h
  refine wpAny_execs_cons ?_
  try k_fold
  refine wpAny_Assign_Name ?_
  refine r_newdict G ?_
  intro fd od h2 hod G
  have G := G.swap
  refine st_cell G rfl rfl hoL ?_
  intro h3 oc hoc G
  have G := G.settle.swap
  have hcm : (L + 1, oc) ∈ (L + 1, oc) :: nw := .head _
  have hx : (x, instObj 258 dx) ∈ (L + 1, oc) :: nw := .tail _ hx
  have hw := hw.mono (nw' := (L + 1, oc) :: nw) fun q hq => .tail _ hq
  refine wpAny_execs_cons ?_
  try k_fold
  refine wpAny_While ?_
  try k_fold
  refine codeAny_whileLoop (fun n s => Ex10 fun h tk o od p' a b kvs ns nw' => Al11 (s = S z h tk) (Gs [some (.ref x), a, b] ((dx, o) :: (fd, od) :: mu) nw' h) (IsRD w o wl (p' : Nat) d mo) (IsD w od kvs) (kvs.map (·.1) = ns.map Wd.str) ((∀ q ∈ (L + 1, oc) :: nw, q ∈ nw')) (n = toks.length - p') (p ≤ p') (p' < toks.length) (kvs.length + p ≤ p') (∀ N, ∃ acc, Go (wsOf toks) [.places] p (N ++ [[]]) [.places] p' (N ++ [ns]) acc)) ?_ (toks.length - p) ?_
  · intro n s hI_
    try k_fold
    obtain ⟨h, tk, o, od, p', a, b, kvs, ns, nw', rfl, G, ho, hod, hkv, hsn, hn, hpp, hlt', hys, hgo⟩ := hI_
    have hx := hsn _ hx
    have hw := hw.mono hsn
    have hcm := hsn _ hcm
    obtain ⟨u', hp'⟩ := tok_at hlt'
    refine wpAny_isTrue_Compare1 ?_
    refine b_word G rfl .head ((hR _).le (by omega)) hx ho hw hp' ?_
    intro h9 tk9 t9 G
    refine r_strN ?_
    refine PyProof.Rows.ne_str ?_
    refine wpAny_truthy_bool ?_
    change if (u'.1.str != Wd.rp.str) = true then _ else _
    rw [Wd.bne]
    refine ifs (fun hb' => ?_) (fun hb' => ?_)
    · have hrp : u'.1 ≠ .rp := of_decide_eq_true hb'
      have go3 : ∀ N, ∃ acc, Go (wsOf toks) [.places] p (N ++ [[]]) [.name, .term, .places] p' (N ++ [ns]) acc:= fun N => by
        obtain ⟨acc, hg⟩ := hgo N
        exact ⟨_, hg.trans (Go.open_ (s := .places) (late := [.name, .term, .places]) (by decide) (ws_get hp') (by first | exact if_pos hrp | exact if_neg hrp))⟩
      refine wpAny_execs_cons ?_
      try k_fold
      refine wpAny_Assign_Name ?_
      refine b_spot G rfl .head ((hR _).le (by omega)) hx ho hw hp' ?_
      intro h10 tk10 t11 G
      walk_at "m:st"
      intro h11 tk11 G
      refine wpAny_execs_cons ?_
      try k_fold
      refine wpAny_Assign_Name ?_
      try k_fold
      refine b_method (variable_spec hp') (keep_fn2 w).1 (fun q => rm_variable G hx ho q) G rfl .head ((hR _).le (by omega)) hx ho hw ((BO.of O rfl rfl).mono fun _ h => .tail _ h) ?_ ?_
      rotate_left
      · rintro k ⟨hv, ek⟩
        subst k
        refine EX.loop (BO.of O rfl rfl) (EX.of O rfl rfl (hE _ ⟨p', u', hp', rfl, fun N => ?_⟩))
        obtain ⟨acc, hg⟩ := go3 N
        exact hg.bad (Bad.head (Bad.miss (by decide) (ws_get hp') (by first | exact decide_eq_true hv | exact decide_eq_false hv | exact hv)))
      rintro h12 tk12 o12 nw12 v12 p12 d12 hs12 ho G ⟨⟨t12, ev⟩, hv, ep, ed⟩
      subst v12 p12 d12
      have hx := hs12 _ hx
      have hw := hw.mono hs12
      have hcm := hs12 _ hcm
      have hlt12 := g.fin _ _ hp' (by intro e; rw [e] at hv; cases hv)
      walk_at "m:st"
      intro h13 tk13 G
      refine wpAny_execs_cons ?_
      try k_fold
      refine wpAny_If ?_
      try k_fold
      refine wpAny_isTrue_Compare1 ?_
      walk_at "m:loc"
      refine r_cell G rfl rfl (List.mem_append_right _ hcm) hoc rfl ?_
      refine r_indict G (List.mem_append_left _ (.tail _ (.head _))) hod ?_
      rw [valueAt_has kvs ns u'.1 hkv]
      refine wpAny_truthy_bool ?_
      refine ifs (fun hb => ?_) (fun hb => ?_)
      · refine wpAny_execs_cons ?_
        try k_fold
        refine b_raise ((BO.of O rfl rfl).mono fun _ h => .tail _ (.tail _ h)) ((hR _).le (by omega)) (EX.loop (BO.of O rfl rfl) (EX.of O rfl rfl (hE u'.2 ⟨p', u', hp', rfl, fun N => ?_⟩))) G .head ?_ ?_
        · obtain ⟨acc, hg⟩ := go3 N
          exact hg.bad (Bad.head (Bad.nameTwice (ws_get hp') hb))
        · refine JoinedStr_many ?_
          refine joinParts_cons ?_
          refine FormattedValue_plain ?_
          walk_at "m:loc"
          refine formatField_str ?_ (Nat.le_trans u'.1.len (by decide))
          intro t14 tk14
          have l1 : (Str.empty ++ u'.1.str).length = u'.1.str.length := by rw [strLen_append]; exact Nat.zero_add _
          refine ⟨by rw [l1]; exact Nat.le_trans u'.1.len (by decide), ?_⟩
          refine joinParts_cons ?_
          refine r_strN ?_
          have l2 : (Str.empty ++ u'.1.str ++ " comes twice").length ≤ sizeLine := by rw [strLen_append, l1]; exact Nat.le_trans (Nat.add_le_add_right u'.1.len _) (by decide)
          refine ⟨l2, ?_⟩
          refine joinParts_nilE ?_
          with_reducible refine joinParts_nil ?_ ?_
          rotate_left
          · exact l2
          · exact ⟨_, _, h13, _, rfl, rfl, G⟩
        · intro h' tk' G
          walk_at "m:loc"
          exact ⟨_, h', tk', rfl, rfl, G⟩
      · have hnc : ns.contains u'.1 = false := by simpa using hb
        have go4 : ∀ N, ∃ acc, Go (wsOf toks) [.places] p (N ++ [[]]) [.term, .places] (p' + 1) (N ++ [ns ++ [u'.1]]) acc:= fun N => by
          obtain ⟨acc, hg⟩ := go3 N
          exact ⟨_, hg.trans (Go.seq (Go.name (ws_get hp') hv hnc) Go.refl)⟩
        refine wpAny_execs_nil ?_
        refine wpAny_execs_cons ?_
        try k_fold
        refine wpAny_Assign_Subscript ?_
        try k_fold
        refine b_method (term_spec g m (p' + 1) d (by omega) hlt12 (by omega)) (keep_fn2 w).2.1 (fun q => rm_term G hx ho q) G rfl .head ((hR _).le (by omega)) hx ho hw ((BO.of O rfl rfl).mono fun _ h => .tail _ h) ?_ ?_
        rotate_left
        · rintro k ⟨i, ui, hi, ek, hbad⟩
          refine EX.loop (BO.of O rfl rfl) (EX.of O rfl rfl (hE _ ⟨i, ui, hi, ek, fun N => ?_⟩))
          obtain ⟨acc, hg⟩ := go4 N
          exact hg.bad (hbad _).head
        rintro h14 tk14 o14 nw14 v14 p14 d14 hs14 ho G ⟨ed, hp14, hlt14, t14, ht14, hgo14⟩
        subst d14
        have hcm := hs14 _ hcm
        refine r_cell G rfl rfl (List.mem_append_right _ hcm) hoc rfl ?_
        walk_at "m:loc"
        refine r_setdict G.swap hod (by have := g.len; rw [sizeLine_eq]; omega) ?_
        intro h15 od15 hod15 G
        rw [stored_new hkv hnc] at hod15
        refine wpAny_execs_nil ?_
        refine ⟨_, ?_, h15, _, _, _, p14, _, _, _, ns ++ [u'.1], nw14, rfl, G.swap, ho, hod15, by simp [hkv], fun q hq => hs14 _ (hs12 _ (hsn _ hq)), rfl, by omega, hlt14, by simp; omega, fun N => ?_⟩
        · omega
        · obtain ⟨acc, hg⟩ := go4 N
          exact ⟨_, hg.trans (Go.seq (hgo14 _) Go.refl)⟩
    · have hrp : u'.1 = .rp := by simpa using hb'
      refine wpAny_execs_nil ?_
      refine wpAny_execs_cons ?_
      try k_fold
      refine wpAny_Return_some ?_
      refine Call_ ?_
      refine r_blt G (by walk_at "m:has") (g_tuple w).1 (g_tuple w).2.1 (g_tuple w).2.2 ?_
      refine cw_t ?_
      refine args_cons ?_
      try k_fold
      refine r_comp (cl := [("found", L + 1)]) (fun _ => true) (fun _ _ => True) G (A := A.deeper _) O.hd rfl (by decide) rfl (by decide) rfl ?_
      refine Call_ ?_
      refine r_blt G (by walk_at "m:has") (g_sorted w).1 (g_sorted w).2.1 (g_sorted w).2.2 ?_
      refine cw_b ?_
      refine args_cons ?_
      refine r_cell G rfl rfl (List.mem_append_right _ hcm) hoc rfl ?_
      refine args_nil ?_
      have hlen := g.len
      refine sorted_dict G O.hd (List.mem_append_left _ (.tail _ (.head _))) hod (by omega) ?_
      intro B h16 tk16 vs' ss' e16 G hSs hpm
      have hfd := G.G.has (fd, od) (List.mem_append_left _ (.tail _ (.head _)))
      have hck := G.G.has (L + 1, oc) (List.mem_append_right _ (.tail _ hcm))
      have hl' : vs'.length ≤ 40 := by
        have e1 := hSs.length
        have e2 := hpm.length_eq
        simp at e2
        omega
      refine ⟨B, vs', e16, h16, _, _, _, rfl, rfl, G, List.mem_append_right _ (.head _), by rw [sizeLine_eq]; omega, ?_, ?_, ?_⟩
      · intro C v s₃ m₃ E' hv hn hm hk
        exact wpAny_tests_nil ⟨rfl, s₃.heap, s₃.toks, rfl, fun _ _ e => e⟩
      · intro C v s₃ m₃ E' hv _ hn hm hk
        obtain ⟨k, t, rfl, hkm⟩ := StrsAre.mem hSs hv
        refine with_cs ["name"] [] [some (.str k t)] (G.bs.keep fun b o e => hk _ _ (G.G.stays _ _ e)) (Sc.of rfl rfl rfl (by decide) (by decide)) rfl rfl ⟨m₃, hn, hm, trivial⟩ fun cs => ?_
        refine Tuple_ ?_
        refine args_cons ?_
        refine c_loc cs .head ?_
        refine args_cons ?_
        refine Subscript_ ?_
        refine c_cell cs rfl rfl (hk _ _ hck.1) hoc rfl ?_
        refine c_loc cs .head ?_
        obtain ⟨v', hv'⟩ := valueAt_mem (hpm.mem_iff.mp hkm)
        have hD : s₃.heap.DictOf (PySem.strKind PG w) fd kvs := Heap.dictOf_iff.mpr ⟨od, hk _ _ hfd.1, hod⟩
        refine tail_any hD.typeIs slot_dict_getitem.lookup (wpAny_getItem_of (PySem.strKind_is PG w k t) hD.mapOf hv' ?_) (by with_unfolding_all rfl)
        refine args_nil ?_
        refine wpAny_newTuple ?_ (by show 2 ≤ 2 ^ 24; decide)
        exact ⟨trivial, _, _, rfl, fun b o e => Heap.get?_push_of_some _ e⟩
      · intro D h17 tk17 rs n' G hk hpr
        refine args_nil ?_
        have hlr : rs.length ≤ 40 := by
          have := hpr.length
          have h2 := List.length_filter_le (fun _ : Value => true) vs'
          omega
        have hl : h17.IsList D rs.toArray := ⟨_, (G.G.has _ (List.mem_append_right _ (.head _))).1, rfl, n', rfl⟩
        refine call_tuple_list (s := S z h17 tk17) hl (fun h' hk => ?_) (by rw [List.size_toArray, sizeLine_eq]; omega)
        have G := (G.Ns_keep hk).push (tup rs) rfl
        refine hq _ _ _ _ _ _ _ (fun q hq => .tail _ (.tail _ (.tail _ (hsn _ (.tail _ hq))))) ho G.swap.lessM.G ⟨rfl, hpp, hlt', fun N => ?_⟩
        obtain ⟨acc, hg⟩ := hgo N
        exact ⟨ns, _, hg.trans (Go.open_ (s := .places) (late := [.q .rp]) (by decide) (ws_get hp') (by first | exact if_pos hrp | exact if_neg hrp))⟩
  · exact ⟨h3, _, o, od, p, _, _, [], [], _, rfl, G, ho, hod, rfl, fun _ h => h, rfl, Nat.le_refl _, hlt, by simp, fun N => ⟨_, Go.refl⟩⟩
end
end
section
variable [OSC]
section
variable {w : World} {mg mb : Str → Option Value} {h₀ h h' : Heap} {env : Env} {ns gs : List Str} {vs vs' : List (Option Value)} {mu nw fr : Led} {z : Shared} {tk : Nat} {A : Around} {E : Value → Shared → Prop} {x1 x2 x3 : Str} {v : Value} {pos p1 p2 p3 p4 p5 : Pos} {k k' : Nat} {e1 e2 e3 : Expr} {Q : Flow → Shared → Prop} {s : Shared}
theorem unpackX {T : Addr} {n : Nat} {items : Array Value} {Q : List Value → Shared → Prop} (hh : A.handled = none) (ht : IsTup s.heap T items) (hn : n = items.size)
    (hQ : ∀ h', Heap.ExtBut s.heap.objs.size s.heap h' → Q items.toList { s with heap := h' }) : wpAny (model PG w) A (unpackItems (.ref T) n none) Q E s := by
  subst hn
  exact unpackItems_tuple hh ht hQ
theorem aio_cons {M : Model} {t : Value → Sem Unit} {ts : List (Value → Sem Unit)} {x : Value} {xs : List Value} {Q : Unit → Shared → Prop} (hh : wpAny M A (t x) (fun _ s => wpAny M A (assignInOrder ts xs) Q E s) E s) : wpAny M A (assignInOrder (t :: ts) (x :: xs)) Q E s :=
  wpAny_bind (wpAny_holding hh)
theorem aio_nil {M : Model} {Q : Unit → Shared → Prop} (hh : Q () s) : wpAny M A (assignInOrder [] []) Q E s := wpAny_pure hh
/-- x1, x2 = (e1, e2) -/
theorem Assign2 (_G₀ : GS w mg mb h₀ env ns gs vs mu nw h) (hh : A.handled = none)
    (hm : wpAny (model PG w) A (eval e1 env) (fun v1 s1 => wpAny (model PG w) A (eval e2 env) (fun v2 s2 => Ex5 fun (h : Heap) (tk : Nat) (vs : List (Option Value)) (mu nw : Led) => Al3 (s2 = S z h tk) (GS w mg mb h₀ env ns gs vs mu nw h) (∀ h', GS w mg mb h₀ env ns gs vs mu nw h' → wpAny (model PG w) A (storeName env x2 v2) (fun _ s3 => wpAny (model PG w) A (storeName env x1 v1) (fun _ s4 => Q .next s4) E s3) E (S z h' tk))) E s1) E (S z h tk))
    (a1 : starEach [e1, e2] env = (false, eval e1 env) :: starEach [e2] env := by rfl) (a2 : starEach [e2] env = (false, eval e2 env) :: starEach [] env := by rfl)
    (hs : swapsWithSole [.Tuple [.Name x1 p1, .Name x2 p2] k p3] (.Tuple [e1, e2] k' p4) pos.line env = pure false := by rfl)
    (hw : swappedStores [.Tuple [.Name x1 p1, .Name x2 p2] k p3] (.Tuple [e1, e2] k' p4) env = pure (some [x1, x2]) := by rfl) :
    wpAny (model PG w) A (exec (.Assign [.Tuple [.Name x1 p1, .Name x2 p2] k p3] (.Tuple [e1, e2] k' p4) pos) env) Q E (S z h tk) := by
  refine Assign_Tuple_swapped (names := [x1, x2]) ?_ hs hw
  refine Tuple_ ?_
  refine args_cons ?_ a1
  refine wpAny_mono hm (fun v1 s1 h1 => ?_) fun _ _ e => e
  refine args_cons ?_ a2
  refine wpAny_mono h1 (fun v2 s2 h2 => ?_) fun _ _ e => e
  obtain ⟨h, tk, vs, mu, nw, rfl, G, hq⟩ := h2
  refine args_nil ?_
  refine r_tup (by show 2 ≤ 2 ^ 24; decide) G fun T h3 G3 => ?_
  have ht : IsTup h3 T [v1, v2].toArray := ⟨_, G3.G.get (.head _), rfl, 0, rfl⟩
  refine unpackX (s := S z h3 tk) hh ht rfl fun h4 k4 => ?_
  have G4 := (G3.Ns_keep fun b o e => k4 b o (Nat.ne_of_lt (Heap.lt_size e)) e).less
  have h5 := hq h4 G4
  show wpAny _ A (assignInOrder [bindName env x2, bindName env x1] [v2, v1]) _ _ _
  refine aio_cons (bindName_ (wpAny_mono h5 (fun _ _ h6 => ?_) fun _ _ e => e))
  refine aio_cons (bindName_ (wpAny_mono h6 (fun _ _ h7 => ?_) fun _ _ e => e))
  exact aio_nil h7
/-- x1, x2, x3 = (e1, e2, e3) -/
theorem Assign3 (_G₀ : GS w mg mb h₀ env ns gs vs mu nw h) (hh : A.handled = none)
    (hm : wpAny (model PG w) A (eval e1 env) (fun v1 s1 => wpAny (model PG w) A (eval e2 env) (fun v2 s2 => wpAny (model PG w) A (eval e3 env) (fun v3 s3 => Ex5 fun (h : Heap) (tk : Nat) (vs : List (Option Value)) (mu nw : Led) => Al3 (s3 = S z h tk) (GS w mg mb h₀ env ns gs vs mu nw h) (∀ h', GS w mg mb h₀ env ns gs vs mu nw h' → wpAny (model PG w) A (storeName env x3 v3) (fun _ s4 => wpAny (model PG w) A (storeName env x2 v2) (fun _ s5 => wpAny (model PG w) A (storeName env x1 v1) (fun _ s6 => Q .next s6) E s5) E s4) E (S z h' tk))) E s2) E s1) E (S z h tk))
    (a1 : starEach [e1, e2, e3] env = (false, eval e1 env) :: starEach [e2, e3] env := by rfl) (a2 : starEach [e2, e3] env = (false, eval e2 env) :: starEach [e3] env := by rfl) (a3 : starEach [e3] env = (false, eval e3 env) :: starEach [] env := by rfl)
    (hs : swapsWithSole [.Tuple [.Name x1 p1, .Name x2 p2, .Name x3 p5] k p3] (.Tuple [e1, e2, e3] k' p4) pos.line env = pure false := by rfl)
    (hw : swappedStores [.Tuple [.Name x1 p1, .Name x2 p2, .Name x3 p5] k p3] (.Tuple [e1, e2, e3] k' p4) env = pure (some [x1, x2, x3]) := by rfl) :
    wpAny (model PG w) A (exec (.Assign [.Tuple [.Name x1 p1, .Name x2 p2, .Name x3 p5] k p3] (.Tuple [e1, e2, e3] k' p4) pos) env) Q E (S z h tk) := by
  refine Assign_Tuple_swapped (names := [x1, x2, x3]) ?_ hs hw
  refine Tuple_ ?_
  refine args_cons ?_ a1
  refine wpAny_mono hm (fun v1 s1 h1 => ?_) fun _ _ e => e
  refine args_cons ?_ a2
  refine wpAny_mono h1 (fun v2 s2 h2 => ?_) fun _ _ e => e
  refine args_cons ?_ a3
  refine wpAny_mono h2 (fun v3 s3 h3 => ?_) fun _ _ e => e
  obtain ⟨h, tk, vs, mu, nw, rfl, G, hq⟩ := h3
  refine args_nil ?_
  refine r_tup (by show 3 ≤ 2 ^ 24; decide) G fun T h3 G3 => ?_
  have ht : IsTup h3 T [v1, v2, v3].toArray := ⟨_, G3.G.get (.head _), rfl, 0, rfl⟩
  refine unpackX (s := S z h3 tk) hh ht rfl fun h4 k4 => ?_
  have G4 := (G3.Ns_keep fun b o e => k4 b o (Nat.ne_of_lt (Heap.lt_size e)) e).less
  have h5 := hq h4 G4
  show wpAny _ A (assignInOrder [bindName env x3, bindName env x2, bindName env x1] [v3, v2, v1]) _ _ _
  refine aio_cons (bindName_ (wpAny_mono h5 (fun _ _ h6 => ?_) fun _ _ e => e))
  refine aio_cons (bindName_ (wpAny_mono h6 (fun _ _ h7 => ?_) fun _ _ e => e))
  refine aio_cons (bindName_ (wpAny_mono h7 (fun _ _ h8 => ?_) fun _ _ e => e))
  exact aio_nil h8
end
end
section
variable [OSC]
noncomputable abbrev chs (s : Str) : List Nat := s.cps.toList
noncomputable def laidC : List (Wd × List Nat) → List Nat
  | [] => []
  | (w, s) :: r => chs w.str ++ s ++ laidC r
noncomputable def Blank (l : List Nat) : Prop := ∀ c ∈ l, c = 32 ∨ c = 9
noncomputable def SepOk : List (Wd × List Nat) → Prop
  | [] => True
  | [(w, s)] => w ≠ .fin ∧ Blank s
  | (w, s) :: (w', s') :: r => w ≠ .fin ∧ Blank s ∧ (w.op = true → w'.op = true → s ≠ []) ∧ SepOk ((w', s') :: r)
noncomputable def toksOf : List (Wd × List Nat) → Nat → List (Wd × Nat)
  | [], o => [(.fin, o)]
  | (w, s) :: r, o => (w, o) :: toksOf r (o + (chs w.str).length + s.length)
noncomputable def lbAt : List (Wd × List Nat) → Nat → Option Nat
  | [], _ => none
  | (w, s) :: r, o => if w = .lb then some o else lbAt r (o + (chs w.str).length + s.length)
theorem SepOk.tail {w s r} (h : SepOk ((w, s) :: r)) : w ≠ .fin ∧ Blank s ∧ SepOk r := by
  cases r with
  | nil => exact ⟨h.1, h.2, trivial⟩
  | cons q r => exact ⟨h.1, h.2.1, h.2.2.2⟩
noncomputable def opC (c : Nat) : Bool := opStr ⟨#[c]⟩
theorem opC_word {w : Wd} (h : w.op = true) : ∀ c ∈ chs w.str, opC c = true :=
  (by decide +kernel : ∀ w ∈ Wd.all, w.op = true → ∀ c ∈ chs w.str, opC c = true) w w.mem h
theorem word_ne {w : Wd} (h : w ≠ .fin) : chs w.str ≠ [] := (by decide +kernel : ∀ w ∈ Wd.all, w ≠ .fin → chs w.str ≠ []) w w.mem h
theorem blankC {c : Nat} (h : c = 32 ∨ c = 9) : opC c = false := by rcases h with rfl | rfl <;> decide +kernel
theorem bracketC {w : Wd} (h : w.op = false) (hf : w ≠ .fin) : ∃ c, chs w.str = [c] ∧ opC c = false:= by
  have := (by decide +kernel : ∀ w ∈ Wd.all, w.op = false → w ≠ .fin → (chs w.str).length = 1 ∧ ∀ c ∈ chs w.str, opC c = false) w w.mem h hf
  obtain ⟨c, e⟩ := List.length_eq_one_iff.mp this.1
  exact ⟨c, e, this.2 c (by rw [e]; exact .head _)⟩
/-- the head of what stands behind a word is no sign of a word -/
theorem behind {w : Wd} {s : List Nat} {r : List (Wd × List Nat)} (h : SepOk ((w, s) :: r)) (hw : w.op = true) : ∀ c, (s ++ laidC r).head? = some c → opC c = false := by
  intro c hc
  cases s with
  | cons a s => exact blankC ((SepOk.tail h).2.1 c (by simp at hc; simp [hc]))
  | nil =>
    cases r with
    | nil => cases hc
    | cons q r =>
      obtain ⟨w', s'⟩ := q
      have hw' : w'.op = false := by
        cases e : w'.op with
        | false => rfl
        | true => exact absurd rfl (h.2.2.1 hw e)
      have hf := (SepOk.tail h.2.2.2).1
      obtain ⟨c', e, ho⟩ := bracketC hw' hf
      simp [laidC, e] at hc
      rw [← hc]; exact ho
theorem str_eq {a b : Str} (h : chs a = chs b) : a = b := by
  cases a; cases b; simp [chs] at h; subst h; rfl
theorem str_len (a : Str) : a.length = (chs a).length := rfl
theorem item_at {x : Str} {pre post : List Nat} {c : Nat} (h : chs x = pre ++ c :: post) : Txt.item x (pre.length : Int) = ⟨#[c]⟩ := by
  have hl : x.length = pre.length + (post.length + 1) := by rw [str_len, h]; simp
  unfold Txt.item Txt.charAt seqIndex?
  have h0 : ¬ ((pre.length : Int) < 0) := by omega
  simp only [h0, if_false]
  have h1 : (decide ((0 : Int) ≤ pre.length) && decide ((pre.length : Int) < x.length)) = true := by simp; omega
  rw [if_pos h1]
  have : x.cps[pre.length]? = some c := by
    rw [← Array.getElem?_toList]
    show (chs x)[pre.length]? = _
    rw [h]; simp
  simp [this]
theorem slice_at {x : Str} {pre run post : List Nat} {y : Str} (h : chs x = pre ++ (run ++ post)) (hy : chs y = run) : Txt.slice x (some (pre.length : Int)) (some ((pre.length + run.length : Nat) : Int)) = y := by
  have hl : x.length = pre.length + (run.length + post.length) := by rw [str_len, h]; simp
  have := PyProof.Rows.slice_closesL (x := x) (i := pre.length) (j := (pre.length + run.length : Nat)) (by omega) (by omega) (by omega)
  have e := eq_of_beq this
  rw [e]
  refine str_eq ?_
  rw [hy]
  show List.take _ (List.drop _ (chs x)) = run
  rw [h]
  simp
  rw [show ((pre.length : Int) + run.length).toNat - pre.length = run.length from Nat.add_sub_cancel_left pre.length run.length]
  simp
end
section
variable [OSC]
section
variable {w : World} {mg mb : Str → Option Value} {h₀ h h' : Heap} {env : Env} {ns gs : List Str} {vs vs' : List (Option Value)} {mu nw fr : Led} {z : Shared} {tk : Nat} {A : Around} {E Q : Value → Shared → Prop} {M : Model} {outer : List Env} {k : Int} {p1 p2 p3 : Pos} {D : Addr} {ys : List Value} {e : Expr} {v : Value}
theorem sl_small {n m : Nat} (h : n ≤ m) (hm : m ≤ 16777216) : n ≤ sizeLine := by rw [sizeLine_eq]; omega
/-- D.append(e): the list stands at the head of the ledger -/
theorem b_append1 {m : Nat} {u : Str} {Q : Value → Shared → Prop} (G : GS w mg mb h₀ env ns gs vs ((D, lstO ys m) :: mu) nw h) (hl : (p2.endLine == p3.line) = true) (hs : At ns vs u (.ref D)) (hsz : ys.length ≤ sizeLine)
    (he : wpAny (model PG w) A (eval e env) (fun v s' => Ex3 fun h' tk' nw' => Al3 (s' = S z h' tk') (GS w mg mb h₀ env ns gs vs ((D, lstO ys m) :: mu) nw' h') (∀ h'' m', GS w mg mb h₀ env ns gs vs ((D, lstO (ys ++ [v]) m') :: mu) nw' h'' → Q .none (S z h'' tk'))) E (S z h tk))
    (a1 : starEach [e] env = (false, eval e env) :: starEach [] env := by rfl) (hf : methodCallForm (1 + 0) (backTo p3 (starEach [e] env)) [] = true := by rfl) :
    wpAny (model PG w) A (eval (.Call (.Attribute (.Name u p1) "append" p2) [e] [] p3) env) Q E (S z h tk) := by
  refine mcall hl ?_ hf
  refine r_loc G hs ?_
  refine Calls.getMethod_list_append (s := S z h tk) (G.getM (.head _)) rfl rfl ?_
  refine cw_b ?_ a1
  refine args_cons ?_ a1
  refine wpAny_mono he (fun v s' h1 => ?_) fun _ _ x => x
  obtain ⟨h', tk', nw', rfl, G', hQ⟩ := h1
  refine args_nil ?_
  refine append_at (s := S z h' tk') (G'.getM (.head _)) (fun h2 hs2 ho2 => ?_) (by rw [List.size_toArray]; exact hsz)
  rw [List.push_toArray] at ho2
  exact hQ _ _ (G'.set1 hs2 ho2)
theorem r_lenstr {u : Str} {y : Str} {t : Tok} {pf : Pos} (G : GS w mg mb h₀ env ns gs vs mu nw h) (hg : Has gs "len") (hs : At ns vs u (.str y t)) (hsz : y.length ≤ 16777216) (hq : ∀ t tk', Q (.int y.length t) (S z h tk'))
    (he : eval (.Call (.Name "len" pf) [.Name u p1] [] p3) env = (do callWith p3 (← eval (.Name "len" pf) env) [] (backTo p3 (starEach [.Name u p1] env)) (backToKw p3 (keywordEach [] env))) := by rfl) (a1 : starEach [.Name u p1] env = (false, eval (.Name u p1) env) :: starEach [] env := by rfl) :
    wpAny (model PG w) A (eval (.Call (.Name "len" pf) [.Name u p1] [] p3) env) Q E (S z h tk) := by
  refine Call_ ?_ he
  refine r_blt G hg (g_len w).1 (g_len w).2.1 (g_len w).2.2 ?_
  refine cw_b ?_ a1
  refine args_cons ?_ a1
  refine r_loc G hs ?_
  refine args_nil ?_
  exact PyProof.Rows.len_str (s := S z h tk) (by omega) (hq _ _)
theorem r_addlists {l b : Addr} {ws : List Value} {n n2 : Nat} (G : GS w mg mb h₀ env ns gs vs mu nw h) (hl : (l, lstO ys n) ∈ mu ++ nw) (hb : (b, lstO ws n2) ∈ mu ++ nw) (hsz : ys.length + ws.length ≤ sizeLine)
    (hq : ∀ D h', GS w mg mb h₀ env ns gs vs mu ((D, lst (ys ++ ws)) :: nw) h' → Q (.ref D) (S z h' tk)) : wpAny (model PG w) A (binaryOp .Add (.ref l) (.ref b)) Q E (S z h tk) := by
  obtain ⟨m, F, hlv⟩ := G.fr
  have il : h.IsList l ys.toArray := ⟨_, (G.G.has _ hl).1, rfl, n, rfl⟩
  have ib : h.IsList b ws.toArray := ⟨_, (G.G.has _ hb).1, rfl, n2, rfl⟩
  refine add_lists (s := S z h tk) F G.news il ib (fun h' F' N' => ?_) hsz
  have hD := N' _ (.head _)
  have N2 : News h₀ env.locals h' (mu ++ nw) := fun p hp => N' p (.tail _ hp)
  have G1 := G.back (mu' := mu) (nw' := nw) F' hlv N2 G.G.nd G.G.apart
  have fresh : ∀ p ∈ mu ++ nw, p.1 ≠ h.objs.size := fun p hp => Nat.ne_of_lt (Heap.lt_size (G.G.has p hp).1)
  refine hq _ _ (G1.with ⟨G1.G.stays, G1.G.le, fun p hp => ?_, G1.G.nd, fun p hp q hq => ?_⟩ (fun o e => e) fun p hp => ?_)
  · simp only [List.mem_append, List.mem_cons] at hp
    rcases hp with hp | rfl | hp
    · exact G1.G.has p (List.mem_append_left _ hp)
    · exact ⟨hD.1, hD.2.2⟩
    · exact G1.G.has p (List.mem_append_right _ hp)
  · rcases List.mem_cons.mp hq with rfl | hq
    · exact fresh p (List.mem_append_left _ hp)
    · exact G1.G.apart p hp q hq
  · simp only [List.mem_append, List.mem_cons] at hp
    rcases hp with hp | rfl | hp
    · exact G1.ne p (List.mem_append_left _ hp)
    · exact hD.2.1
    · exact G1.ne p (List.mem_append_right _ hp)
end
end
section
variable [OSC]
theorem fa2_snoc {α β : Type} {R : α → β → Prop} {l : List α} {l' : List β} (h : Fa2 R l l') {a : α} {b : β} (hab : R a b) : Fa2 R (l ++ [a]) (l' ++ [b]) := by
  induction h with
  | nil => exact .cons hab .nil
  | cons x _ ih => exact .cons x ih
theorem fa2_len {α β : Type} {R : α → β → Prop} {l : List α} {l' : List β} (h : Fa2 R l l') : l.length = l'.length := by
  induction h with
  | nil => rfl
  | cons _ _ ih => simp [ih]
noncomputable def inBr (y : Str) : Bool := !(Builtin.Str.occurrences "(),:" y 0 (Str.length "(),:") 1).isEmpty
theorem inBr_word {w : Wd} (h : w.op = false) (hf : w ≠ .fin) : inBr w.str = decide (w ≠ .lb) ∧ Txt.isspace w.str = false :=
  (by decide +kernel : ∀ w ∈ Wd.all, w.op = false → w ≠ .fin → inBr w.str = decide (w ≠ .lb) ∧ Txt.isspace w.str = false) w w.mem h hf
theorem inBr_blank {c : Nat} (h : c = 32 ∨ c = 9) : inBr ⟨#[c]⟩ = false ∧ Txt.isspace ⟨#[c]⟩ = true := by rcases h with rfl | rfl <;> decide +kernel
/-- the three ways on which the text goes on -/
theorem goes_on {bl : List Nat} {rest : List (Wd × List Nat)} (hb : Blank bl) (hs : SepOk rest) (hne : bl ++ laidC rest ≠ []) :
    Ex2 fun run tail => Al4 (bl ++ laidC rest = run ++ tail) ((∀ c ∈ run, opC c = true)) ((∀ c, tail.head? = some c → opC c = false)) (((Ex2 fun c bl' => Al4 (run = []) (bl = c :: bl') (tail = c :: (bl' ++ laidC rest)) ((c = 32 ∨ c = 9))) ∨
       (Ex3 fun w s r => Al6 (bl = []) (rest = (w, s) :: r) (w.op = true) (run = chs w.str) (run ≠ []) (tail = s ++ laidC r)) ∨
       (Ex4 fun w s r c => Al7 (bl = []) (rest = (w, s) :: r) (w.op = false) (w ≠ .fin) (run = []) (chs w.str = [c]) (tail = c :: (s ++ laidC r))))) := by
  cases bl with
  | cons c bl' =>
    have hc := hb c (.head _)
    exact ⟨[], c :: (bl' ++ laidC rest), rfl, fun _ h => (nomatch h), fun a ha => by cases ha; exact blankC hc, .inl ⟨c, bl', rfl, rfl, rfl, hc⟩⟩
  | nil =>
    cases rest with
    | nil => exact absurd rfl hne
    | cons q r =>
      obtain ⟨w, s⟩ := q
      have hf := (SepOk.tail hs).1
      cases e : w.op with
      | true => exact ⟨chs w.str, s ++ laidC r, by simp [laidC], opC_word e, behind hs e, .inr (.inl ⟨w, s, r, rfl, rfl, e, rfl, word_ne hf, rfl⟩)⟩
      | false =>
        obtain ⟨c, hc, ho⟩ := bracketC e hf
        exact ⟨[], c :: (s ++ laidC r), by simp [laidC, hc], fun _ h => (nomatch h), fun a ha => by cases ha; exact ho, .inr (.inr ⟨w, s, r, c, rfl, rfl, e, hf, rfl, hc, rfl⟩)⟩
theorem b_sign {w : World} {mg mb : Str → Option Value} {h₀ h : Heap} {env : Env} {ns gs : List Str} {vs : List (Option Value)} {mu nw : Led} {z : Shared} {tk : Nat} {A : Around} {E Q : Value → Shared → Prop} {u1 u2 : Str} {p1 p2 p3 : Pos} {y : Str} {t t' : Tok} {n : Nat} {pre post : List Nat} {c : Nat}
    (G : GS w mg mb h₀ env ns gs vs mu nw h) (hs1 : At ns vs u1 (.str y t)) (hs2 : At ns vs u2 (.int (n : Nat) t')) (hn : n = pre.length) (hc : chs y = pre ++ c :: post) (hl : y.length ≤ 16777216) (hq : ∀ t tk', Q (.str ⟨#[c]⟩ t) (S z h tk')) :
    wpAny (model PG w) A (eval (.Subscript (.Name u1 p1) (.Name u2 p2) p3) env) Q E (S z h tk) := by
  subst hn
  have hlen : y.length = pre.length + (post.length + 1) := by rw [str_len, hc]; simp
  refine Subscript_ ?_
  refine r_loc G hs1 ?_
  refine r_loc G hs2 ?_
  refine item_str (s := S z h tk) ?_ (by omega) (by omega) fun _ => ?_
  · unfold fitsSsize; simp; omega
  · rw [item_at hc]
    exact hq _ _
section
variable {w : World} {mg mb : Str → Option Value} {h₀ h : Heap} {mu nw fr : Led} {z : Shared} {tk : Nat} {A : Around} {E Q : Value → Shared → Prop} {outer : List Env}
theorem words_spec {text : Str} {t : Tok} {lead : List Nat} {pcs : List (Wd × List Nat)} (hc : chs text = lead ++ laidC pcs) (hb : Blank lead) (hs : SepOk pcs) (hl : text.length ≤ 1000)
    (B : Bs w mg mb h₀) (G : Gh h₀ h mu nw) (hA : Room A 24) (O : Out A outer fr mu)
    (hq : lbAt pcs lead.length = none → ∀ h' tk' wl nw', (∀ q ∈ nw, q ∈ nw') → Gh h₀ h' mu nw' → Toks nw' wl (toksOf pcs lead.length) → Q (.ref wl) (S z h' tk'))
    (hE : ∀ k : Nat, lbAt pcs lead.length = some k → CX h₀ z fr E k) :
    wpAny (model PG w) A (call (.ref 145) [.str text t]) Q E (S z h tk) := by
  have hR : ∀ env, Room (A.deeper env) 23 := fun env => Room.deeper hA
  refine enter ["text", "found", "spot", "begin"] ["len", "MOST_SIGNS", "TextFault", "is_op"] [some (.str text t), none, none, none] B G hA.depth rfl rfl rfl rfl ⟨rfl, by decide, by decide, by decide, by decide⟩ rfl ?_ rfl rfl (by decide)
  intro L h₁ tk' ev Av Qv Ev G
  let Gs := fun (vs : List (Option Value)) (mu nw : Led) (h : Heap) => G.same vs mu nw h
  refine wpAny_execs_cons ?_
  try k_fold
  refine wpAny_If ?_
  try k_fold
  refine wpAny_isTrue_Compare1 ?_
  refine r_lenstr G .head .head (by omega) ?_
  intro t2 tk2
  refine r_glo G (by walk_at "m:has") (g_MOST_SIGNS w) ?_
  refine PyProof.Rows.gt_int ?_
  refine wpAny_truthy_bool ?_
  refine ifs (fun hb => absurd (of_decide_eq_true hb) (by omega)) (fun _ => ?_)
  refine wpAny_execs_nil ?_
  refine wpAny_execs_cons ?_
  try k_fold
  refine Assign2 G (A := A.deeper _) O.hd ?_
  refine List_ ?_
  refine args_nil ?_
  refine r_listM (by show 0 ≤ 2 ^ 24; decide) G (fun D h2 G2 => ?_)
  refine r_int ?_
  intro t3
  refine ⟨_, _, _, _, _, rfl, G2, fun h3 G3 => ?_⟩
  walk_at "m:st"
  intro h4 tk4 G
  walk_at "m:st"
  intro h5 tk5 G
  refine wpAny_execs_cons ?_
  try k_fold
  refine wpAny_While ?_
  try k_fold
  refine codeAny_whileLoop (fun n s => Ex11 fun h tk pre bl rest ys nf done_ b nw' ts => Al11 (s = S z h tk) (Gs [some (.str text t), some (.ref D), some (.int (List.length pre : Nat) ts), b] ((D, lstO ys nf) :: mu) nw' h) ((∀ q ∈ nw, q ∈ nw')) (chs text = pre ++ (bl ++ laidC rest)) (Blank bl) (SepOk rest) (Fa2 (TokAt nw') ys done_) (toksOf pcs lead.length = done_ ++ toksOf rest (pre.length + bl.length)) (lbAt pcs lead.length = lbAt rest (pre.length + bl.length)) (ys.length ≤ pre.length) (n = text.length - pre.length)) ?_ text.length ?_
  · intro n s hI_
    try k_fold
    obtain ⟨h, tk, pre, bl, rest, ys, nf, done_, b, nw', ts, rfl, G, hsn, hct, hbl, hso, hfa, htk, hlb, hyl, hn⟩ := hI_
    have hlen : text.length = pre.length + (bl ++ laidC rest).length := by rw [str_len, hct]; simp
    refine wpAny_isTrue_Compare1 ?_
    walk_at "m:loc"
    refine r_lenstr G .head .head (by omega) ?_
    intro t6 tk6
    refine PyProof.Rows.lt_int ?_
    refine wpAny_truthy_bool ?_
    refine ifs (fun hlt => ?_) (fun hge => ?_)
    · have hlt : (pre.length : Int) < text.length := of_decide_eq_true hlt
      have hne : bl ++ laidC rest ≠ [] := by intro e; rw [e] at hlen; simp at hlen; omega
      obtain ⟨run, tail, hrt, hrun, htail, hcase⟩ := goes_on hbl hso hne
      rw [hrt] at hct
      refine wpAny_execs_cons ?_
      try k_fold
      refine wpAny_Assign_Name ?_
      walk_at "m:loc"
      walk_at "m:st"
      intro h7 tk7 G
      have G0 := G
      refine wpAny_execs_cons ?_
      try k_fold
      try k_fold
      refine wpAny_mono (Q := fun f s' => f = .next ∧ ∃ h tk ts', s' = S z h tk ∧ Gs [some (.str text t), some (.ref D), some (.int (pre.length + List.length run : Nat) ts'), some (.int (pre.length : Nat) ts)] ((D, lstO ys nf) :: mu) nw' h) ?_ (fun f s' hf => ?_) (fun _ _ x => x)
      try k_fold
      · refine wpAny_While ?_
        try k_fold
        refine codeAny_whileLoop (fun n s => Ex5 fun h tk d1 d2 ts' => Al4 (s = S z h tk) (run = d1 ++ d2) (n = d2.length) (Gs [some (.str text t), some (.ref D), some (.int (pre.length + List.length d1 : Nat) ts'), some (.int (pre.length : Nat) ts)] ((D, lstO ys nf) :: mu) nw' h)) ?_ run.length ?_
        · intro n s hI_
          try k_fold
          obtain ⟨h8, tk8, d1, d2, ts', rfl, hd, hn2, G⟩ := hI_
          have hct2 : chs text = (pre ++ d1) ++ (d2 ++ tail) := by rw [hct, hd]; simp
          have hl2 : text.length = pre.length + d1.length + (d2.length + tail.length) := by rw [str_len, hct2]; simp; omega
          refine wpAny_isTrue_BoolOp ?_
          refine wpAny_allTrue_And_cons ?_
          refine wpAny_isTrue_Compare1 ?_
          walk_at "m:loc"
          refine r_lenstr G .head .head (by omega) ?_
          intro t9 tk9
          refine PyProof.Rows.lt_int ?_
          refine wpAny_truthy_bool ?_
          refine ifs (fun hlt2 => ?_) (fun hge2 => ?_)
          · have hlt2 : ((pre.length + d1.length : Nat) : Int) < text.length := of_decide_eq_true hlt2
            have hdt : d2 ++ tail ≠ [] := by intro e; have h3 : (d2 ++ tail).length = 0 := by { rw [e]; rfl }; rw [List.length_append] at h3; omega
            obtain ⟨c, post, hcp⟩ := List.exists_cons_of_ne_nil hdt
            refine wpAny_allTrue_And_cons ?_
            refine wpAny_isTrue_value ?_
            refine b_isop (y := ⟨#[c]⟩) O.hd ((hR _).le (by omega)) (by walk_at "m:has") G (by show 1 ≤ 2 ^ 24; decide) ?_ ?_
            · exact b_sign (pre := pre ++ d1) (post := post) G .head (by walk_at "m:at") (by rw [List.length_append]) (by rw [hct2, hcp]) (by omega) fun t tk' => ⟨_, _, _, rfl, rfl, G⟩
            intro h10 tk10 G
            refine wpAny_truthy_bool ?_
            cases d2 with
            | nil =>
              rw [show opStr ⟨#[c]⟩ = false from htail c (by rw [show tail = c :: post from hcp]; rfl)]
              refine wpAny_execs_nil ?_
              simp only [List.append_nil] at hd
              subst hd
              exact ⟨rfl, h10, _, ts', rfl, G⟩
            | cons a d2' =>
              have hac : a = c := (List.cons.inj hcp).1
              subst hac
              rw [show opStr ⟨#[a]⟩ = true from hrun a (by rw [hd]; simp)]
              refine wpAny_allTrue_And_nil ?_
              refine wpAny_execs_cons ?_
              try k_fold
              refine wpAny_Assign_Name ?_
              refine wpAny_BinOp ?_
              walk_at "m:loc"
              refine r_intN ?_
              refine r_add ?_
              intro t12
              walk_at "m:st"
              intro h12 tk12 G
              refine wpAny_execs_nil ?_
              refine ⟨d2'.length, by simp at hn2; omega, h12, tk12, d1 ++ [a], d2', t12, rfl, by rw [hd]; simp, rfl, ?_⟩
              have e : ((pre.length + (d1 ++ [a]).length : Nat) : Int) = ((pre.length + d1.length : Nat) : Int) + 1 := by simp; omega
              rw [e]
              exact G
          · have hge2 : ¬ (((pre.length + d1.length : Nat) : Int) < text.length) := of_decide_eq_false hge2
            have hd2 : d2 = [] := List.length_eq_zero_iff.mp (by omega)
            subst hd2
            refine wpAny_execs_nil ?_
            simp only [List.append_nil] at hd
            subst hd
            exact ⟨rfl, h8, _, ts', rfl, G⟩
        · exact ⟨h7, tk7, [], run, ts, rfl, rfl, rfl, G⟩
      obtain ⟨rfl, h8, tk8, ts', rfl, G⟩ := hf
      have hl3 : text.length = pre.length + (run.length + tail.length) := by rw [str_len, hct]; simp
      refine wpAny_execs_cons ?_
      try k_fold
      refine wpAny_If ?_
      try k_fold
      refine wpAny_isTrue_Compare1 ?_
      walk_at "m:loc"
      walk_at "m:loc"
      refine PyProof.Rows.lt_int ?_
      refine wpAny_truthy_bool ?_
      rcases hcase with ⟨c, bl', hrun0, hbl', htl, hcb⟩ | ⟨wd, sp, r, hbl0, hrest, hop, hrun1, hrne, htl⟩ | ⟨wd, sp, r, c, hbl0, hrest, hop, hf, hrun0, hwc, htl⟩
      · subst run
        subst bl
        have hct3 : chs text = pre ++ c :: (bl' ++ laidC rest) := by rw [hct, htl]; simp
        refine ifs (fun hlt3 => absurd (of_decide_eq_true hlt3) (by simp)) (fun _ => ?_)
        refine wpAny_execs_cons ?_
        try k_fold
        refine wpAny_If ?_
        try k_fold
        refine wpAny_isTrue_Compare1 ?_
        refine b_sign (pre := pre) G .head (by walk_at "m:at") (by simp) hct3 (by omega) ?_
        intro t13 tk13
        refine r_strN ?_
        refine PyProof.Rows.in_str ?_
        refine wpAny_truthy_bool ?_
        change if inBr ⟨#[c]⟩ = true then _ else _
        rw [(inBr_blank hcb).1]
        refine ifs (fun hx => nomatch hx) (fun _ => ?_)
        refine wpAny_execs_cons ?_
        try k_fold
        refine wpAny_If ?_
        try k_fold
        refine wpAny_isTrue_value ?_
        refine Call_method0 rfl rfl ?_
        refine b_sign (pre := pre) G .head (by walk_at "m:at") (by simp) hct3 (by omega) ?_
        intro t15 tk15
        refine SB.isspace ?_
        rw [(inBr_blank hcb).2]
        refine wpAny_truthy_bool ?_
        refine ifs (fun _ => ?_) (fun hx => nomatch hx)
        refine wpAny_execs_cons ?_
        try k_fold
        refine wpAny_Assign_Name ?_
        refine wpAny_BinOp ?_
        walk_at "m:loc"
        refine r_int ?_
        intro t16
        refine r_add ?_
        intro t17
        walk_at "m:st"
        intro h18 tk18 G
        refine wpAny_execs_nil ?_
        refine wpAny_execs_nil ?_
        refine wpAny_execs_nil ?_
        refine wpAny_execs_nil ?_
        have e : ((pre ++ [c]).length : Int) = ((pre.length + ([] : List Nat).length : Nat) : Int) + 1 := by simp
        rw [← e] at G
        refine ⟨_, ?_, h18, _, pre ++ [c], bl', rest, ys, nf, done_, _, nw', t17, rfl, G, hsn, by rw [hct3]; simp, fun a ha => hbl a (.tail _ ha), hso, hfa, ?_, ?_, by simp; omega, rfl⟩
        · simp; omega
        · rw [htk]; congr 2; simp; omega
        · rw [hlb]; congr 1; simp; omega
      · subst bl
        subst rest
        subst run
        refine ifs (fun _ => ?_) (fun hx => absurd (of_decide_eq_false hx) (by have := List.length_pos_iff.mpr hrne; omega))
        refine wpAny_execs_cons ?_
        try k_fold
        refine wpAny_Expr ?_
        refine b_append1 G rfl (by walk_at "m:at") (sl_small (m := 1000) (by omega) (by decide)) ?_
        refine Tuple_ ?_
        refine args_cons ?_
        refine Subscript_ ?_
        walk_at "m:loc"
        refine Slice_ss ?_
        walk_at "m:loc"
        walk_at "m:loc"
        refine r_slice_ss G (sl_small (m := 1000) (by omega) (by decide)) ?_
        intro h9 t9 tk9 G
        rw [slice_at (y := wd.str) hct rfl]
        refine args_cons ?_
        walk_at "m:loc"
        refine args_nil ?_
        refine r_tup (by show 2 ≤ 2 ^ 24; decide) G (fun T h10 G => ?_)
        refine ⟨h10, _, _, rfl, G, fun h11 m11 G => ?_⟩
        refine wpAny_execs_nil ?_
        refine wpAny_execs_nil ?_
        have hso' := SepOk.tail hso
        have hpos := List.length_pos_iff.mpr hrne
        have e : ((pre ++ chs wd.str).length : Int) = ((pre.length + (chs wd.str).length : Nat) : Int) := by simp
        rw [← e] at G
        refine ⟨_, ?_, h11, _, pre ++ chs wd.str, sp, r, _, m11, done_ ++ [(wd, pre.length)], _, _, ts', rfl, G, fun q hq => .tail _ (hsn q hq), by rw [hct, htl]; simp, hso'.2.1, hso'.2.2, fa2_snoc (forall2_mono hfa fun _ _ x => x.mono fun q hq => .tail _ hq) ⟨T, _, _, 0, rfl, .head _⟩, ?_, ?_, by rw [List.length_append, List.length_append, List.length_singleton]; omega, rfl⟩
        · rw [List.length_append]; omega
        · rw [htk]
          simp [toksOf]
        · rw [hlb]
          have hlbw : wd ≠ .lb := by rintro rfl; cases hop
          simp [lbAt, hlbw]
      · subst bl
        subst rest
        subst run
        have hct3 : chs text = pre ++ c :: (sp ++ laidC r) := by rw [hct, htl]; simp
        have hwe : (⟨#[c]⟩ : Str) = wd.str := str_eq (by rw [hwc])
        refine ifs (fun hlt3 => absurd (of_decide_eq_true hlt3) (by simp)) (fun _ => ?_)
        refine wpAny_execs_cons ?_
        try k_fold
        refine wpAny_If ?_
        try k_fold
        refine wpAny_isTrue_Compare1 ?_
        refine b_sign (pre := pre) G .head (by walk_at "m:at") (by simp) hct3 (by omega) ?_
        intro t13 tk13
        refine r_strN ?_
        refine PyProof.Rows.in_str ?_
        refine wpAny_truthy_bool ?_
        change if inBr ⟨#[c]⟩ = true then _ else _
        rw [hwe, (inBr_word hop hf).1]
        refine ifs (fun hnl => ?_) (fun hnl => ?_)
        · have hnl : wd ≠ .lb := of_decide_eq_true hnl
          refine wpAny_execs_cons ?_
          try k_fold
          refine wpAny_Expr ?_
          refine b_append1 G rfl (by walk_at "m:at") (sl_small (m := 1000) (by omega) (by decide)) ?_
          refine Tuple_ ?_
          refine args_cons ?_
          refine b_sign (pre := pre) G .head (by walk_at "m:at") (by simp) hct3 (by omega) ?_
          intro t15 tk15
          rw [hwe]
          refine args_cons ?_
          walk_at "m:loc"
          refine args_nil ?_
          refine r_tup (by show 2 ≤ 2 ^ 24; decide) G (fun T h10 G => ?_)
          refine ⟨h10, _, _, rfl, G, fun h11 m11 G => ?_⟩
          refine wpAny_execs_cons ?_
          try k_fold
          refine wpAny_Assign_Name ?_
          refine wpAny_BinOp ?_
          walk_at "m:loc"
          refine r_int ?_
          intro t16
          refine r_add ?_
          intro t17
          walk_at "m:st"
          intro h18 tk18 G
          refine wpAny_execs_nil ?_
          refine wpAny_execs_nil ?_
          refine wpAny_execs_nil ?_
          have hso' := SepOk.tail hso
          have e : ((pre ++ [c]).length : Int) = ((pre.length + ([] : List Nat).length : Nat) : Int) + 1 := by simp
          rw [← e] at G
          refine ⟨_, ?_, h18, _, pre ++ [c], sp, r, _, m11, done_ ++ [(wd, pre.length)], _, _, t17, rfl, G, fun q hq => .tail _ (hsn q hq), by rw [hct3]; simp, hso'.2.1, hso'.2.2, fa2_snoc (forall2_mono hfa fun _ _ x => x.mono fun q hq => .tail _ hq) ⟨T, _, _, 0, rfl, .head _⟩, ?_, ?_, by simp; omega, rfl⟩
          · simp; omega
          · rw [htk]
            simp [toksOf, hwc]
          · rw [hlb]
            simp [lbAt, hnl, hwc]
        · have hnl : wd = .lb := by simpa using hnl
          refine wpAny_execs_cons ?_
          try k_fold
          refine wpAny_If ?_
          try k_fold
          refine wpAny_isTrue_value ?_
          refine Call_method0 rfl rfl ?_
          refine b_sign (pre := pre) G .head (by walk_at "m:at") (by simp) hct3 (by omega) ?_
          intro t15 tk15
          refine SB.isspace ?_
          rw [hwe, (inBr_word hop hf).2]
          refine wpAny_truthy_bool ?_
          refine ifs (fun hx => nomatch hx) (fun _ => ?_)
          refine wpAny_execs_cons ?_
          try k_fold
          refine b_raise (k := (pre.length : Nat)) ((BO.of O rfl rfl).mono fun _ h => .tail _ h) ((hR _).le (by omega)) (EX.loop (BO.of O rfl rfl) (EX.of O rfl rfl (hE _ ?_))) G (by walk_at "m:has") ?_ ?_
          · rw [hlb]; simp [lbAt, hnl]
          · refine JoinedStr_many ?_
            refine joinParts_cons ?_
            refine FormattedValue_plain ?_
            refine b_sign (pre := pre) G .head (by walk_at "m:at") (by simp) hct3 (by omega) ?_
            intro t16 tk16
            refine formatField_str ?_ (by show 1 ≤ 2 ^ 24; decide)
            intro t17 tk17
            have l1 : (Str.empty ++ (⟨#[c]⟩ : Str)).length = 1 := by rw [strLen_append]; rfl
            refine ⟨by rw [l1]; decide, ?_⟩
            refine joinParts_cons ?_
            refine r_strN ?_
            have l2 : (Str.empty ++ (⟨#[c]⟩ : Str) ++ " stands for nothing").length ≤ sizeLine := by rw [strLen_append, l1]; decide
            refine ⟨l2, ?_⟩
            refine joinParts_nilE ?_
            with_reducible refine joinParts_nil ?_ ?_
            rotate_left
            · exact l2
            · exact ⟨_, _, h8, _, rfl, rfl, G⟩
          · intro h' tk' G
            walk_at "m:loc"
            exact ⟨_, h', tk', rfl, rfl, G⟩
    · have hnil : bl ++ laidC rest = [] := by
        have : ¬ ((pre.length : Int) < text.length) := of_decide_eq_false hge
        exact List.length_eq_zero_iff.mp (by omega)
      have hbl0 : bl = [] := (List.append_eq_nil_iff.mp hnil).1
      have hrest : rest = [] := by
        cases rest with
        | nil => rfl
        | cons q r =>
          have := (List.append_eq_nil_iff.mp hnil).2
          simp [laidC] at this
          exact absurd this.1 (by simpa using word_ne (SepOk.tail hso).1)
      subst hbl0
      subst hrest
      refine wpAny_execs_nil ?_
      refine wpAny_execs_cons ?_
      try k_fold
      refine wpAny_Return_some ?_
      refine wpAny_BinOp ?_
      walk_at "m:loc"
      refine List_ ?_
      refine args_cons ?_
      refine Tuple_ ?_
      refine args_cons ?_
      refine r_str ?_
      intro t8
      refine args_cons ?_
      refine r_lenstr G .head .head (by omega) ?_
      intro t9 tk9
      refine args_nil ?_
      refine r_tup (by show 2 ≤ 2 ^ 24; decide) G (fun T h10 G => ?_)
      refine args_nil ?_
      refine r_list (by show 1 ≤ 2 ^ 24; decide) G (fun D2 h11 G => ?_)
      refine r_addlists G (List.mem_append_left _ (.head _)) (List.mem_append_right _ (.head _)) (sl_small (m := 1001) (by simp; omega) (by decide)) ?_
      intro D3 h12 G
      have hlen2 : text.length = pre.length := by rw [hlen]; simp [laidC]
      have hlD := fa2_len hfa
      refine hq (by rw [hlb]; rfl) _ _ D3 _ (fun q hq => .tail _ (.tail _ (.tail _ (hsn q hq)))) G.lessM.G ⟨?_, ys ++ [.ref T], 0, .head _, ?_⟩
      · rw [htk]; simp [toksOf]; omega
      · rw [htk]
        refine fa2_snoc (forall2_mono hfa fun _ _ x => x.mono fun q hq => .tail _ (.tail _ (.tail _ hq))) ⟨T, t8, t9, 0, rfl, ?_⟩
        rw [hlen2]
        exact .tail _ (.tail _ (.head _))
  · exact ⟨h5, tk5, [], lead, pcs, [], _, [], _, nw, t3, rfl, G, fun _ h => h, hc, hb, hs, .nil, by simp, by simp, Nat.le_refl _, rfl⟩
end
end
section
variable [OSC]
noncomputable abbrev tcU (A : Around) (C : Addr) (rest : List Value) : Around := A.under (.builtin "type.__call__" ⟨.ref C :: rest, []⟩)
theorem tc_depth (A : Around) (C : Addr) (rest : List Value) : (tcU A C rest).depth = A.depth + 1 := rfl
theorem tc_frames (A : Around) (C : Addr) (rest : List Value) : (tcU A C rest).frames = A.frames := rfl
theorem tc_handled (A : Around) (C : Addr) (rest : List Value) : (tcU A C rest).handled = A.handled := rfl
theorem tc_units (A : Around) (C : Addr) (rest : List Value) : (tcU A C rest).units = A.units + 1 := rfl
theorem Room.tc {A : Around} {n : Nat} (C : Addr) (rest : List Value) (h : Room A (n + 1)) : Room (tcU A C rest) n := ⟨by rw [tc_depth]; have := h.1; omega, by rw [tc_units]; have := h.2; omega⟩
/-- entering a def, as the machine's code -/
theorem enterCode {w : World} {mg mb : Str → Option Value} {h₀ h : Heap} {z : Shared} {tk : Nat} {A : Around} {R : Result → Shared → Prop} {mu nw : Led} {f : Addr} {args : List Value} {binds : List (Str × Value)}
    {qual nm : Str} {params : Arguments} {body : List Stmt} {scope : Scope} {dV kV doc pm cdv ct oc : Value} {an od : Option Addr} {osl : Array (Option Value)} (ns gs : List Str) (vs : List (Option Value))
    (B : Bs w mg mb h₀) (G : Gh h₀ h mu nw) (hroom : A.depth < recursionLimit)
    (ho : (KK w).lookup f = some ⟨oc, od, .func (fnOf nm qual params body scope dV kV doc pm an cdv ct), osl⟩) (hcd : codeIn (KK w) cdv qual = true)
    (hbind : bindArgs (fnOf nm qual params body scope dV kV doc pm an cdv ct) ⟨args, []⟩ = pure binds)
    (hloc : (binds.all fun x => decide (scope.names.lookup x.1 = some .local)) = true)
    (hsc : Sc scope ns gs) (hvs : ns.map (fun y => binds.reverse.lookup y) = vs)
    (hh : ∀ L h₁ tk', let ev := envX qual scope L f cdv []; let Av := A.deeper ev
      let Qv : Flow → Shared → Prop := fun fl s' => R (.ok (.ret (match fl with | .ret v => v | _ => .none))) s'
      let Ev : Value → Shared → Prop := fun e s' => wpAny (model PG w) Av (leaving ev e) (fun _ s'' => R (.error e) s'') (fun e' s'' => R (.error e') s'') s'
      GS w mg mb h₀ ev ns gs vs mu nw h₁ → wpAny (model PG w) Av (execs body ev) Qv Ev (S z h₁ tk'))
    (hco : scope.isCoroutine = false) (hgen : scope.isGenerator = false) (hcell : ∀ x ∈ scope.names, x.2 ≠ .cell) :
    codeAny (model PG w) A (.call (.ref f) ⟨args, []⟩) R (S z h tk) := by
  have X : (KK w).In h := B.K.keeps G.stays
  refine codeAny_call_def (fd := fnOf nm qual params body scope dV kV doc pm an cdv ct) (body := body) (binds := binds) hroom (X _ _ ho) rfl (B.T.nolimit.keeps G.stays) (codeRec_of X hcd) rfl (BindsTo.of_eq hbind) hcell (locs hloc) (fun h₁ hns hk₁ => ?_) hco hgen hsc.kind
  subst hvs
  have hsz : ∀ b o, h.get? b = some o → b ≠ h.objs.size := fun b o e => Nat.ne_of_lt (Heap.lt_size e)
  exact hh h.objs.size h₁ _ ⟨B, hsc, rfl, rfl, ⟨_, hns, LV.of_map ns⟩, G.le, ⟨fun b o e => hk₁ _ _ (G.stays b o e), Nat.le_of_lt (Nat.lt_of_le_of_lt G.le hns.lt), fun p hp => ⟨hk₁ _ _ (G.has p hp).1, (G.has p hp).2⟩, G.nd, G.apart⟩, fun p hp => hsz _ _ (G.has p hp).1⟩
section
variable {w : World} {mg mb : Str → Option Value} {h₀ h : Heap} {env : Env} {ns gs : List Str} {vs : List (Option Value)} {mu nw fr : Led} {z : Shared} {tk : Nat} {A : Around} {E Q : Value → Shared → Prop} {outer : List Env}
/-- an own class called, in a def's body -/
theorem b_make {C fI : Addr} {args : List Value} (G : GS w mg mb h₀ env ns gs vs mu nw h) (hm : makesIn (KK w) C = true) (hi : findIn (KK w) (.ref C) "__init__" = some (some (.ref fI))) (hf : isFn (KK w) (.ref fI) = true)
    (hq : ∀ x dx h', GS w mg mb h₀ env ns gs vs ((dx, dictOf [] 0) :: mu) ((x, instObj C dx) :: nw) h' → codeAny (model PG w) (tcU A C args) (.call (.ref fI) ⟨.ref x :: args, []⟩) (InitBack x fun r s' => match r with | .ok (.ret v) => Q v s' | .ok _ => False | .error e => E e s') (S z h' tk)) :
    wpAny (model PG w) A (call (.ref C) args) Q E (S z h tk) := by
  obtain ⟨m, F, hl⟩ := G.fr
  refine call_cls (s := S z h tk) F G.bs.K G.news hm hi hf fun x dx h' F' N' hlt hxd => ?_
  refine hq x dx h' (G.back (mu' := (dx, dictOf [] 0) :: mu) (nw' := (x, instObj C dx) :: nw) F' hl (fun p hp => N' p ?_) (List.nodup_cons.mpr ⟨fun hm => ?_, G.G.nd⟩) fun p hp q hq => ?_)
  · simp only [List.cons_append, List.mem_cons, List.mem_append] at hp ⊢
    rcases hp with h | h | h | h
    · exact .inr (.inl h)
    · exact .inr (.inr (.inl h))
    · exact .inl h
    · exact .inr (.inr (.inr h))
  · obtain ⟨p, hp, e⟩ := List.mem_map.mp hm
    exact absurd (hlt p (List.mem_append_left _ hp)) (by rw [e]; exact Nat.lt_irrefl _)
  · rcases List.mem_cons.mp hp with rfl | hp <;> rcases List.mem_cons.mp hq with rfl | hq
    · exact Nat.ne_of_lt hxd
    · exact Nat.ne_of_gt (hlt q (List.mem_append_right _ hq))
    · exact Nat.ne_of_lt (Nat.lt_trans (hlt p (List.mem_append_left _ hp)) hxd)
    · exact G.G.apart p hp q hq
/-- setting a name on an own object -/
theorem r_setattr {x dx C : Addr} {es : List DictEntry} {n : Nat} {name : Str} {v : Value} {Q : Unit → Shared → Prop} (G : GS w mg mb h₀ env ns gs vs ((dx, dictOf es n) :: mu) nw h) (hx : (x, instObj C dx) ∈ nw)
    (hs : findIn (KK w) (.ref C) "__setattr__" = some (some (.builtin "object.__setattr__"))) (hp : plainOver (KK w) C = true) (ht : takerIn (KK w) C name = some none) (hh : hasDictIn (KK w) C = true) (hl : (getL name es).isSome = true) (hz : (putL name (PyData.keyHash w.params name) (.str name (tk + 1)) v es).length ≤ 1000)
    (hq : ∀ h' tk', GS w mg mb h₀ env ns gs vs ((dx, dictOf (putL name (PyData.keyHash w.params name) (.str name (tk + 1)) v es) (putN name es n)) :: mu) nw h' → Q () (S z h' tk')) :
    wpAny (model PG w) A (setAttr (.ref x) name v) Q E (S z h tk) := by
  obtain ⟨m, F, hlv⟩ := G.fr
  have I : InstAt h x (instObj C dx) C (some (dictOf es n)) := ⟨(G.G.has _ (List.mem_append_right _ hx)).1, rfl, rfl, (G.G.has _ (.head _)).1⟩
  refine set_dict (s := S z h tk) F G.bs.K G.news I rfl hs hp ht hh hl rfl G.upd hz fun h' F' N' => ?_
  exact hq h' _ (G.back1 F' hlv N')
end
end
section
variable [OSC]
theorem keep145 (w : World) : keepIn (KK w) (.ref 145) = true := by kernel_rfl
theorem keep258 (w : World) : keepIn (KK w) (.ref 258) = true := by kernel_rfl
theorem makes258 (w : World) : makesIn (KK w) 258 = true ∧ findIn (KK w) (.ref 258) "__init__" = some (some (.ref 159)) ∧ isFn (KK w) (.ref 159) = true := ⟨by kernel_rfl, by kernel_rfl, by kernel_rfl⟩
structure Text (text : Str) (lead : List Nat) (pcs : List (Wd × List Nat)) : Prop where
  eq : chs text = lead ++ laidC pcs
  lead : Blank lead
  sep : SepOk pcs
  len : text.length ≤ 1000
section
variable {w : World} {mg mb : Str → Option Value} {h₀ h : Heap} {env : Env} {ns gs : List Str} {vs : List (Option Value)} {mu nw fr : Led} {z : Shared} {tk : Nat} {A : Around} {E Q : Value → Shared → Prop} {outer : List Env} {text : Str} {t : Tok} {lead : List Nat} {pcs : List (Wd × List Nat)} {x dx : Addr}
theorem init_spec {R : Result → Shared → Prop} (T : Text text lead pcs) (B : Bs w mg mb h₀) (G : Gh h₀ h ((dx, dictOf [] 0) :: mu) nw) (hA : Room A 25) (hx : (x, instObj 258 dx) ∈ nw) (O : Out A outer fr mu)
    (hq : lbAt pcs lead.length = none → ∀ h' tk' o' wl nw', (∀ q ∈ nw, q ∈ nw') → Gh h₀ h' ((dx, o') :: mu) nw' → IsRD w o' wl 0 0 40 → Toks nw' wl (toksOf pcs lead.length) → R (.ok (.ret .none)) (S z h' tk'))
    (hE : ∀ k : Nat, lbAt pcs lead.length = some k → CX h₀ z fr (fun e s => R (.error e) s) k) :
    codeAny (model PG w) A (.call (.ref 159) ⟨[.ref x, .str text t], []⟩) R (S z h tk) := by
  have hR : ∀ env, Room (A.deeper env) 24 := fun env => Room.deeper hA
  refine enterCode ["self", "text"] ["words_of", "MOST_DEPTH"] [some (.ref x), some (.str text t)] B G hA.depth rfl rfl rfl rfl ⟨rfl, by decide, by decide, by decide, by decide⟩ rfl ?_ rfl rfl (by decide)
  intro L h₁ tk' ev Av Qv Ev G
  refine wpAny_execs_cons ?_
  try k_fold
  refine plainObj_wpAny_Assign_Attribute ?_
  refine Call_ ?_
  refine r_glo G (by walk_at "m:has") (g_words_of w) ?_
  refine callWith_K G.bs.K (keep145 w) ?_
  refine args_cons ?_
  walk_at "m:loc"
  refine args_nil ⟨G.K, ?_⟩
  obtain ⟨oL, Gc, hn, back⟩ := G.call1
  refine words_spec T.eq T.lead T.sep T.len G.bs Gc (hR _) (((BO.of O rfl rfl).out hn).mono fun q hq => .tail _ hq) ?_ ?_
  rotate_left
  · intro k hk
    exact (EX.of (E := fun e s => R (.error e) s) O rfl rfl (hE k hk)).cx hn
  intro hlb h2 tk2 wl nw2 hs2 G2 hw
  have G := back _ _ _ _ G2
  have hx := hs2 _ hx
  walk_at "m:loc"
  refine r_setattr G hx (k258_set w) (k258_over w) (k258_words w).2.2 (k258_dict w) rfl (by show 1 ≤ 1000; decide) ?_
  intro h3 tk3 G
  refine wpAny_execs_cons ?_
  try k_fold
  refine plainObj_wpAny_Assign_Attribute ?_
  refine r_intN ?_
  walk_at "m:loc"
  refine r_setattr G hx (k258_set w) (k258_over w) (k258_place w).2.2 (k258_dict w) rfl (by show 2 ≤ 1000; decide) ?_
  intro h5 tk5 G
  refine wpAny_execs_cons ?_
  try k_fold
  refine plainObj_wpAny_Assign_Attribute ?_
  refine r_intN ?_
  walk_at "m:loc"
  refine r_setattr G hx (k258_set w) (k258_over w) (k258_deep w).2.2 (k258_dict w) rfl (by show 3 ≤ 1000; decide) ?_
  intro h7 tk7 G
  refine wpAny_execs_cons ?_
  try k_fold
  refine plainObj_wpAny_Assign_Attribute ?_
  refine r_glo G (by walk_at "m:has") (g_MOST_DEPTH w) ?_
  walk_at "m:loc"
  refine r_setattr G hx (k258_set w) (k258_over w) (k258_most w).2.2 (k258_dict w) rfl (by show 4 ≤ 1000; decide) ?_
  intro h9 tk9 G
  refine wpAny_execs_nil ?_
  exact hq hlb _ _ _ wl nw2 hs2 G.G ⟨_, _, _, _, _, _, _, _, rfl⟩ hw
/-- Reader(text) in a def's body -/
theorem b_reader {u : Str} {p1 p3 pf : Pos} (T : Text text lead pcs) (G : GS w mg mb h₀ env ns gs vs mu nw h) (hg : Has gs "Reader") (hs : At ns vs u (.str text t)) (hA : Room A 26) (O : BO A env outer fr mu)
    (hq : lbAt pcs lead.length = none → ∀ h' tk' x dx o' wl nw', (∀ q ∈ nw, q ∈ nw') → (x, instObj 258 dx) ∈ nw' → GS w mg mb h₀ env ns gs vs ((dx, o') :: mu) nw' h' → IsRD w o' wl 0 0 40 → Toks nw' wl (toksOf pcs lead.length) → Q (.ref x) (S z h' tk'))
    (hE : ∀ k : Nat, lbAt pcs lead.length = some k → EX h₀ z env.locals fr E k)
    (he : eval (.Call (.Name "Reader" pf) [.Name u p1] [] p3) env = (do callWith p3 (← eval (.Name "Reader" pf) env) [] (backTo p3 (starEach [.Name u p1] env)) (backToKw p3 (keywordEach [] env))) := by rfl) (a1 : starEach [.Name u p1] env = (false, eval (.Name u p1) env) :: starEach [] env := by rfl) :
    wpAny (model PG w) A (eval (.Call (.Name "Reader" pf) [.Name u p1] [] p3) env) Q E (S z h tk) := by
  refine Call_ ?_ he
  refine r_glo G hg (g_Reader w) ?_
  refine callWith_K G.bs.K (keep258 w) ?_ a1
  refine args_cons ?_ a1
  refine r_loc G hs ?_
  refine args_nil ⟨G.K, ?_⟩
  refine b_make G (makes258 w).1 (makes258 w).2.1 (makes258 w).2.2 fun x dx h2 G2 => ?_
  obtain ⟨oL, Gc, hn, back⟩ := G2.call1
  have O2 := O.out hn
  have O3 : Out (tcU A 258 ([] ++ [.str text t])) (env :: outer) ((env.locals, oL) :: fr) ((env.locals, oL) :: mu) := ⟨O2.frames, O2.al, O2.sub, O2.hd⟩
  refine init_spec T G.bs Gc (Room.tc _ _ hA) (.head _) O3 ?_ ?_
  · intro hlb h3 tk3 o' wl nw3 hs3 G3 ho hw
    refine ⟨rfl, hq hlb h3 tk3 x dx o' wl nw3 (fun q hq => hs3 _ (.tail _ hq)) (hs3 _ (.head _)) (back _ _ _ _ G3) ho hw⟩
  · intro k hk
    exact (hE k hk).cx hn
end
end
section
variable [OSC]
theorem toksOf_len : ∀ (pcs : List (Wd × List Nat)) (o : Nat), (toksOf pcs o).length = pcs.length + 1
  | [], o => rfl
  | (w, s) :: r, o => by simp [toksOf, toksOf_len r]
theorem toksOf_ws : ∀ (pcs : List (Wd × List Nat)) (o : Nat), wsOf (toksOf pcs o) = pcs.map (·.1) ++ [.fin]
  | [], o => rfl
  | (w, s) :: r, o => by
    have := toksOf_ws r (o + (chs w.str).length + s.length)
    simp only [wsOf] at this
    simp only [toksOf, wsOf, List.map_cons, List.cons_append]
    rw [this]
theorem lbAt_none : ∀ (pcs : List (Wd × List Nat)) (o : Nat), lbAt pcs o = none → ∀ q ∈ pcs, q.1 ≠ .lb
  | [], o, _, q, hq => nomatch hq
  | (w, s) :: r, o, h, q, hq => by
    unfold lbAt at h
    split at h
    · cases h
    · rename_i hw
      rcases List.mem_cons.mp hq with rfl | hq
      · exact hw
      · exact lbAt_none r _ h q hq
theorem SepOk.nofin : ∀ {pcs : List (Wd × List Nat)}, SepOk pcs → ∀ q ∈ pcs, q.1 ≠ .fin
  | [], _, q, hq => nomatch hq
  | (w, s) :: r, h, q, hq => by
    rcases List.mem_cons.mp hq with rfl | hq
    · exact h.tail.1
    · exact SepOk.nofin h.tail.2.2 q hq
theorem good_toks {pcs : List (Wd × List Nat)} {o : Nat} {mo : Int} (hs : SepOk pcs) (hl : pcs.length ≤ 39) (hmo : 40 ≤ mo) (hlb : lbAt pcs o = none) : Good (toksOf pcs o) mo := by
  have hw := toksOf_ws pcs o
  have hmem : ∀ u ∈ toksOf pcs o, u.1 ∈ pcs.map (·.1) ++ [.fin] := fun u hu => by rw [← hw]; exact List.mem_map.mpr ⟨u, hu, rfl⟩
  refine ⟨fun u hu => ?_, by rw [toksOf_len]; omega, hmo, fun p u hp hu => ?_⟩
  · rcases List.mem_append.mp (hmem u hu) with h | h
    · obtain ⟨q, hq, e⟩ := List.mem_map.mp h
      rw [← e]; exact lbAt_none pcs o hlb q hq
    · rw [List.mem_singleton.mp h]; decide
  · have h1 := ws_get hp
    rw [hw] at h1
    rw [toksOf_len]
    rcases Nat.lt_or_ge p pcs.length with h | h
    · omega
    · exfalso
      rw [List.getElem?_append_right (by simpa using h)] at h1
      simp at h1
      cases hq : p - pcs.length with
      | zero => rw [hq] at h1; simp at h1; exact hu h1.symm
      | succ n => rw [hq] at h1; simp at h1
noncomputable def st0 (sg : Sg) : St := ⟨0, [sg, .fin], [[]], false, [], []⟩
/-- how a reading ends, by the law's own table -/
structure Reads (pcs : List (Wd × List Nat)) (o : Nat) (rl : Bool) (st : St) (h₀ : Heap) (z : Shared) (fr : Led) (E : Value → Shared → Prop) : Prop where
  lb : ∀ k : Nat, lbAt pcs o = some k → CX h₀ z fr E k
  stop : lbAt pcs o = none → ∀ (i : Nat) (u : Wd × Nat), (toksOf pcs o)[i]? = some u → Rn rl (wsOf (toksOf pcs o)) st (some i) → CX h₀ z fr E u.2
section
variable {w : World} {mg mb : Str → Option Value} {h₀ h : Heap} {mu nw fr : Led} {z : Shared} {tk : Nat} {A : Around} {E Q : Value → Shared → Prop} {outer : List Env} {text : Str} {t : Tok} {lead : List Nat} {pcs : List (Wd × List Nat)}
theorem readterm_spec (T : Text text lead pcs) (hl : pcs.length ≤ 39) (B : Bs w mg mb h₀) (G : Gh h₀ h mu nw) (hA : Room A 80) (O : Out A outer fr mu)
    (hq : lbAt pcs lead.length = none → Rn false (wsOf (toksOf pcs lead.length)) (st0 .term) none → ∀ h' tk' v nw', (∀ q ∈ nw, q ∈ nw') → Gh h₀ h' mu nw' → Q v (S z h' tk'))
    (hE : Reads pcs lead.length false (st0 .term) h₀ z fr E) :
    wpAny (model PG w) A (call (.ref 269) [.str text t]) Q E (S z h tk) := by
  have hR : ∀ env, Room (A.deeper env) 79 := fun env => Room.deeper hA
  refine enter ["text", "reader", "found"] ["Reader"] [some (.str text t), none, none] B G hA.depth rfl rfl rfl rfl ⟨rfl, by decide, by decide, by decide, by decide⟩ rfl ?_ rfl rfl (by decide)
  intro L h₁ tk' ev Av Qv Ev G
  refine wpAny_execs_cons ?_
  try k_fold
  refine wpAny_Assign_Name ?_
  refine b_reader T G .head .head ((hR _).le (by omega)) (BO.of O rfl rfl) ?_ ?_
  rotate_left
  · intro k hk
    exact EX.of O rfl rfl (hE.lb k hk)
  intro hlb h2 tk2 x dx o2 wl nw2 hs2 hx G ho hw
  have g := good_toks (o := lead.length) (mo := 40) T.sep hl (by decide) hlb
  have ho : IsRD w o2 wl (0 : Nat) (0 : Nat) 40 := ho
  have hlen : 0 < (toksOf pcs lead.length).length := by rw [toksOf_len]; omega
  walk_at "m:st"
  intro h3 tk3 G
  refine wpAny_execs_cons ?_
  try k_fold
  refine wpAny_Assign_Name ?_
  try k_fold
  refine b_method (term_spec g 40 0 0 (by have := g.len; omega) hlen (Nat.le_refl _)) (keep_fn2 w).2.1 (fun q => rm_term G hx ho q) G rfl (by walk_at "m:at") ((hR _).le (by omega)) hx ho hw (BO.of O rfl rfl) ?_ ?_
  rotate_left
  · rintro k ⟨i, u, hi, ek, hbad⟩
    subst k
    exact EX.of O rfl rfl (hE.stop hlb i u hi (hbad _ false [.fin] false [] []))
  rintro h4 tk4 o4 nw4 v4 p4 d4 hs4 ho G ⟨ed, hp4, hlt4, t4, ht4, hgo⟩
  subst d4
  have hx := hs4 _ hx
  have hw := hw.mono hs4
  walk_at "m:st"
  intro h5 tk5 G
  obtain ⟨u, hp⟩ := tok_at hlt4
  refine wpAny_execs_cons ?_
  try k_fold
  refine wpAny_Expr ?_
  refine b_want (wd := .fin) rfl G rfl (by walk_at "m:at") ((hR _).le (by omega)) hx ho hw hp (BO.of O rfl rfl) ?_ ?_
  rotate_left
  · intro hne
    refine EX.of O rfl rfl (hE.stop hlb p4 u hp ?_)
    refine hgo [[]] false [.fin] false [] [] _ ?_
    exact Rn.miss (by decide) (ws_get hp) (by first | exact decide_eq_true hne | exact decide_eq_false hne | exact hne)
  intro hu h6 tk6 o6 ho G
  refine wpAny_execs_cons ?_
  try k_fold
  refine wpAny_Return_some ?_
  walk_at "m:loc"
  refine hq hlb ?_ _ _ _ nw4 (fun q hq => hs4 _ (hs2 _ hq)) G.G.lessM
  refine hgo [[]] false [.fin] false [] [] _ ?_
  exact Rn.eat (by decide) (ws_get hp) (by first | exact decide_eq_true hu | exact decide_eq_false hu | exact hu) (.done rfl)
theorem readpaper_spec (T : Text text lead pcs) (hl : pcs.length ≤ 39) (B : Bs w mg mb h₀) (G : Gh h₀ h mu nw) (hA : Room A 130) (O : Out A outer fr mu)
    (hq : lbAt pcs lead.length = none → Rn false (wsOf (toksOf pcs lead.length)) (st0 .paper) none → ∀ h' tk' v nw', (∀ q ∈ nw, q ∈ nw') → Gh h₀ h' mu nw' → Q v (S z h' tk'))
    (hE : Reads pcs lead.length false (st0 .paper) h₀ z fr E) :
    wpAny (model PG w) A (call (.ref 283) [.str text t]) Q E (S z h tk) := by
  have hR : ∀ env, Room (A.deeper env) 129 := fun env => Room.deeper hA
  refine enter ["text", "reader", "found"] ["Reader", "MOST_PAPER_DEPTH"] [some (.str text t), none, none] B G hA.depth rfl rfl rfl rfl ⟨rfl, by decide, by decide, by decide, by decide⟩ rfl ?_ rfl rfl (by decide)
  intro L h₁ tk' ev Av Qv Ev G
  refine wpAny_execs_cons ?_
  try k_fold
  refine wpAny_Assign_Name ?_
  refine b_reader T G .head .head ((hR _).le (by omega)) (BO.of O rfl rfl) ?_ ?_
  rotate_left
  · intro k hk
    exact EX.of O rfl rfl (hE.lb k hk)
  intro hlb h2 tk2 x dx o2 wl nw2 hs2 hx G ho hw
  have g := good_toks (o := lead.length) (mo := 120) T.sep hl (by decide) hlb
  have ho : IsRD w o2 wl (0 : Nat) (0 : Nat) 40 := ho
  have hlen : 0 < (toksOf pcs lead.length).length := by rw [toksOf_len]; omega
  walk_at "m:st"
  intro h3 tk3 G
  refine wpAny_execs_cons ?_
  try k_fold
  refine plainObj_wpAny_Assign_Attribute ?_
  refine r_glo G (by walk_at "m:has") (g_MOST_PAPER_DEPTH w) ?_
  walk_at "m:loc"
  refine set_most G hx ho ?_
  intro h7 tk7 o7 ho G
  refine wpAny_execs_cons ?_
  try k_fold
  refine wpAny_Assign_Name ?_
  try k_fold
  refine b_method (paper_spec g (fun m p d => places_spec g m p d) 40 0 0 (by have := g.len; omega) hlen (Nat.le_refl _)) (keep_fn2 w).2.2.2.2.2.2 (fun q => rm_paper G hx ho q) G rfl (by walk_at "m:at") ((hR _).le (by omega)) hx ho hw (BO.of O rfl rfl) ?_ ?_
  rotate_left
  · rintro k ⟨i, u, hi, ek, hbad⟩
    subst k
    exact EX.of O rfl rfl (hE.stop hlb i u hi (hbad _ false [.fin] false [] []))
  rintro h4 tk4 o4 nw4 v4 p4 d4 hs4 ho G ⟨ed, hp4, hlt4, _, hgo⟩
  subst d4
  obtain ⟨N', acc, hgo⟩ := hgo [[]]
  have hx := hs4 _ hx
  have hw := hw.mono hs4
  walk_at "m:st"
  intro h5 tk5 G
  obtain ⟨u, hp⟩ := tok_at hlt4
  refine wpAny_execs_cons ?_
  try k_fold
  refine wpAny_Expr ?_
  refine b_want (wd := .fin) rfl G rfl (by walk_at "m:at") ((hR _).le (by omega)) hx ho hw hp (BO.of O rfl rfl) ?_ ?_
  rotate_left
  · intro hne
    refine EX.of O rfl rfl (hE.stop hlb p4 u hp ?_)
    refine hgo false [.fin] false [] [] _ ?_
    exact Rn.miss (by decide) (ws_get hp) (by first | exact decide_eq_true hne | exact decide_eq_false hne | exact hne)
  intro hu h6 tk6 o6 ho G
  refine wpAny_execs_cons ?_
  try k_fold
  refine wpAny_Return_some ?_
  walk_at "m:loc"
  refine hq hlb ?_ _ _ _ nw4 (fun q hq => hs4 _ (hs2 _ hq)) G.G.lessM
  refine hgo false [.fin] false [] [] _ ?_
  exact Rn.eat (by decide) (ws_get hp) (by first | exact decide_eq_true hu | exact decide_eq_false hu | exact hu) (.done rfl)
end
end
section
variable [OSC]
/-- the pen: its cells and how many were dealt -/
inductive IsPen (w : World) (nw : Led) (o : Obj) (n : Nat) : Prop
  | mk (cl : _) (cvs : _) (m : _) (t : _) (hyp1 : IsD w o [("cells", .ref cl), ("at", .int (n : Nat) t)]) (hyp2 : (cl, lstO cvs m) ∈ nw) (hyp3 : cvs.length ≤ 63) (hyp4 : ∀ v ∈ cvs, ∃ i t, v = .int i t) : IsPen w nw o n
theorem IsPen.mono {w : World} {nw nw' : Led} {o : Obj} {n : Nat} (h : IsPen w nw o n) (s : ∀ p ∈ nw, p ∈ nw') : IsPen w nw' o n := let ⟨cl, cvs, m, t, a, b, c, d⟩ := h; ⟨cl, cvs, m, t, a, s _ b, c, d⟩
section
variable {w : World} {mg mb : Str → Option Value} {h₀ h h' : Heap} {env : Env} {ns gs : List Str} {vs vs' : List (Option Value)} {mu nw fr : Led} {z : Shared} {tk : Nat} {A : Around} {E Q : Value → Shared → Prop} {o : Obj} {d pd : Addr} {kvs : List (Str × Value)} {k : Str} {t : Tok} {n : Nat} {v : Value}
theorem r_getdict {value slice : Expr} (G : GS w mg mb h₀ env ns gs vs mu nw h) (hm : (d, o) ∈ mu ++ nw) (hd : IsD w o kvs) (hv : valueAt kvs k = some v) (hq : ∀ tk', Q v (S z h tk'))
    (hs : subscripted slice false (.ref d) (.str k t) = operate [.ref d, .str k t] (getItem (.ref d) (.str k t)) := by with_unfolding_all rfl) :
    wpAny (model PG w) A (subscriptTail value slice (.ref d) (.str k t)) Q E (S z h tk) := by
  have hD := G.dict hm hd
  exact tail_any (s := S z h tk) hD.typeIs slot_dict_getitem.lookup (wpAny_getItem_of (PySem.strKind_is PG w k t) hD.mapOf hv (hq _)) hs
theorem r_lenlist {l : Addr} {ys : List Value} {m : Nat} (G : GS w mg mb h₀ env ns gs vs mu nw h) (hm : (l, lstO ys m) ∈ mu ++ nw) (hsz : ys.length ≤ 16777216) (hq : ∀ t tk', Q (.int ys.length t) (S z h tk')) :
    wpAny (model PG w) A (call (.builtin "len") [.ref l]) Q E (S z h tk) := by
  have hl : h.IsList l ys.toArray := ⟨_, (G.G.has _ hm).1, rfl, m, rfl⟩
  refine PyProof.Rows.len_list (s := S z h tk) hl (by simp; omega) ?_
  simpa using hq _ _
theorem deal_spec {many : Int} {tm : Tok} (B : Bs w mg mb h₀) (G : Gh h₀ h ((pd, o) :: mu) nw) (hA : Room A 1) (hp : IsPen w nw o n) (hn : n ≤ 1000000) (h0 : 0 < many)
    (hq : ∀ h' tk' o' r t, 0 ≤ r → r < many → IsPen w nw o' (n + 1) → Gh h₀ h' ((pd, o') :: mu) nw → Q (.int r t) (S z h' tk')) :
    wpAny (model PG w) A (call (.ref 291) [.ref pd, .int many tm]) Q E (S z h tk) := by
  try k_fold
  refine enter ["pen", "many", "at"] ["len"] [some (.ref pd), some (.int many tm), none] B G hA.depth rfl rfl rfl rfl ⟨rfl, by decide, by decide, by decide, by decide⟩ rfl ?_ rfl rfl (by decide)
  intro L h₁ tk' ev Av Qv Ev G
  obtain ⟨cl, cvs, m, ta, hd, hcl, hlen, hint⟩ := hp
  refine wpAny_execs_cons ?_
  try k_fold
  refine wpAny_Assign_Name ?_
  refine Subscript_ ?_
  walk_at "m:loc"
  refine r_strN ?_
  refine r_getdict G (.head _) hd rfl ?_
  intro tk2
  walk_at "m:st"
  intro h3 tk3 G
  refine wpAny_execs_cons ?_
  try k_fold
  refine wpAny_Assign_Subscript ?_
  refine wpAny_BinOp ?_
  walk_at "m:loc"
  refine r_intN ?_
  refine r_add ?_
  intro t5
  walk_at "m:loc"
  refine r_strN ?_
  refine r_setdict G hd (by show 2 ≤ 2 ^ 24; decide) ?_
  intro h7 o7 hd7 G
  have hpen : IsPen w nw o7 (n + 1) := ⟨cl, cvs, m, t5, hd7, hcl, hlen, hint⟩
  refine wpAny_execs_cons ?_
  try k_fold
  refine wpAny_If ?_
  try k_fold
  refine wpAny_isTrue_Compare1 ?_
  walk_at "m:loc"
  refine Call_ ?_
  refine r_blt G (by walk_at "m:has") (g_len w).1 (g_len w).2.1 (g_len w).2.2 ?_
  refine cw_b ?_
  refine args_cons ?_
  refine Subscript_ ?_
  walk_at "m:loc"
  refine r_strN ?_
  refine r_getdict G (.head _) hd7 rfl ?_
  intro tk8
  refine args_nil ?_
  refine r_lenlist G (List.mem_append_right _ hcl) (by omega) ?_
  intro t9 tk9
  refine PyProof.Rows.lt_int ?_
  refine wpAny_truthy_bool ?_
  refine ifs (fun hlt => ?_) (fun _ => ?_)
  · have hlt : (n : Int) < cvs.length := of_decide_eq_true hlt
    refine wpAny_execs_cons ?_
    try k_fold
    refine wpAny_Return_some ?_
    refine wpAny_BinOp ?_
    refine Subscript_ ?_
    refine Subscript_ ?_
    walk_at "m:loc"
    refine r_strN ?_
    refine r_getdict G (.head _) hd7 rfl ?_
    intro tk10
    walk_at "m:loc"
    have hn' : n < cvs.length := by omega
    obtain ⟨i, ti, hi⟩ := hint _ (List.getElem_mem hn')
    refine r_item_list (G.G.get hcl) (by omega) (by omega) (v := .int i ti) (by rw [Int.toNat_natCast, List.getElem?_eq_getElem hn', hi]) ?_
    walk_at "m:loc"
    refine PyProof.Rows.mod_int (s := S z h7 _) (by omega) ?_
    exact hq _ _ _ _ _ (Int.fmod_nonneg_of_pos _ h0) (Int.fmod_lt_of_pos _ h0) hpen G.G
  · refine wpAny_execs_nil ?_
    refine wpAny_execs_cons ?_
    try k_fold
    refine wpAny_Return_some ?_
    refine wpAny_BinOp ?_
    refine wpAny_BinOp ?_
    refine wpAny_BinOp ?_
    refine wpAny_BinOp ?_
    refine wpAny_BinOp ?_
    refine wpAny_BinOp ?_
    walk_at "m:loc"
    walk_at "m:loc"
    refine PyProof.Rows.mul_int (s := S z h7 _) ?_ (IntMulOk.of_left (intBits_le_64 (by omega) (by omega)))
    refine r_int (h := h7) ?_
    intro t11
    refine PyProof.Rows.mul_int (s := S z h7 _) ?_ (IntMulOk.of_right (by decide))
    refine wpAny_BinOp ?_
    refine r_loc (h := h7) G (by walk_at "m:at") ?_
    refine r_intN ?_
    refine PyProof.Rows.mul_int (s := S z h7 _) ?_ (IntMulOk.of_right (by decide))
    refine r_add (h := h7) ?_
    intro t13
    refine r_intN ?_
    refine r_addN ?_
    refine r_intN ?_
    refine PyProof.Rows.mod_int (s := S z h7 _) (by decide) ?_
    refine r_loc (h := h7) G (by walk_at "m:at") ?_
    refine PyProof.Rows.mod_int (s := S z h7 _) (by omega) ?_
    exact hq _ _ _ _ _ (Int.fmod_nonneg_of_pos _ h0) (Int.fmod_lt_of_pos _ h0) hpen G.G
end
end
section
variable [OSC]
theorem keep_law (w : World) : keepIn (KK w) (.ref 291) = true ∧ keepIn (KK w) (.ref 298) = true ∧ keepIn (KK w) (.ref 305) = true ∧ keepIn (KK w) (.ref 312) = true ∧ keepIn (KK w) (.ref 319) = true ∧ keepIn (KK w) (.ref 326) = true ∧ keepIn (KK w) (.ref 333) = true ∧ keepIn (KK w) (.ref 340) = true ∧ keepIn (KK w) (.ref 345) = true ∧ keepIn (KK w) (.ref 352) = true :=
  ⟨by kernel_rfl, by kernel_rfl, by kernel_rfl, by kernel_rfl, by kernel_rfl, by kernel_rfl, by kernel_rfl, by kernel_rfl, by kernel_rfl, by kernel_rfl⟩
noncomputable abbrev IsW (v : Value) (x : Wd) : Prop := ∃ t, v = .str x.str t
inductive WdsAt (nw : Led) (v : Value) (ws : List Wd) : Prop
  | mk (D : _) (vs : _) (n : _) (hyp1 : v = .ref D) (hyp2 : (D, lstO vs n) ∈ nw) (hyp3 : Fa2 IsW vs ws) : WdsAt nw v ws
theorem WdsAt.mono {nw nw' : Led} {v : Value} {ws : List Wd} (h : WdsAt nw v ws) (s : ∀ p ∈ nw, p ∈ nw') : WdsAt nw' v ws := let ⟨D, vs, n, a, b, c⟩ := h; ⟨D, vs, n, a, s _ b, c⟩
theorem fa2_app {α β : Type} {R : α → β → Prop} {l₁ : List α} {m₁ : List β} {l₂ : List α} {m₂ : List β} (h : Fa2 R l₁ m₁) (h' : Fa2 R l₂ m₂) : Fa2 R (l₁ ++ l₂) (m₁ ++ m₂) := by
  induction h with
  | nil => exact h'
  | cons a _ ih => exact .cons a ih
theorem fa2_at {α β : Type} {R : α → β → Prop} {l : List α} {m : List β} (h : Fa2 R l m) {i : Nat} (hi : i < l.length) : ∃ a b, l[i]? = some a ∧ m[i]? = some b ∧ R a b:= by
  induction h generalizing i with
  | nil => simp at hi
  | cons a _ ih => cases i with
    | zero => exact ⟨_, _, rfl, rfl, a⟩
    | succ i => exact ih (by simpa using hi)
theorem seqIx {r : Int} {n : Nat} (h0 : 0 ≤ r) (h1 : r < n) : seqIndex? r n = some r.toNat := by
  unfold seqIndex?
  have hn : ¬ (r < 0) := by omega
  simp only [hn, if_false]
  rw [if_pos]
  simp; omega
/-- a maker of words: the pen in, a list of words out -/
noncomputable def GenSpec (w : World) (f : Addr) (args : List Value) (room L c : Nat) : Prop :=
  ∀ {mg mb : Str → Option Value} {h₀ h : Heap} {mu nw : Led} {z : Shared} {tk : Nat} {A : Around} {E Q : Value → Shared → Prop} {pd : Addr} {o : Obj} {n : Nat},
    Bs w mg mb h₀ → Gh h₀ h ((pd, o) :: mu) nw → Room A room → A.handled = none → IsPen w nw o n → n + c ≤ 900000 →
    (∀ h' tk' o' nw' n' v ws, (∀ q ∈ nw, q ∈ nw') → n' ≤ n + c → IsPen w nw' o' n' → Gh h₀ h' ((pd, o') :: mu) nw' → WdsAt nw' v ws → ws.length ≤ L → (∀ x ∈ ws, x ≠ .fin) → Q v (S z h' tk')) →
    wpAny (model PG w) A (call (.ref f) (.ref pd :: args)) Q E (S z h tk)
section
variable {w : World} {mg mb : Str → Option Value} {h₀ h h' : Heap} {env : Env} {ns gs : List Str} {vs vs' : List (Option Value)} {mu nw fr : Led} {z : Shared} {tk : Nat} {A : Around} {E Q : Value → Shared → Prop} {o : Obj} {d pd : Addr} {k : Str} {t : Tok} {n : Nat} {v : Value} {e2 : Expr} {u : Str} {p1 p3 pf : Pos}
theorem b_deal {many : Int} (G : GS w mg mb h₀ env ns gs vs ((pd, o) :: mu) nw h) (hg : Has gs "_law_deal") (hs : At ns vs u (.ref pd)) (hA : Room A 1) (hp : IsPen w nw o n) (hn : n ≤ 1000000) (h0 : 0 < many)
    (h2 : wpAny (model PG w) A (eval e2 env) (fun v s' => Ex3 fun t h' tk' => Al3 (v = .int many t) (s' = S z h' tk') (GS w mg mb h₀ env ns gs vs ((pd, o) :: mu) nw h')) E (S z h tk))
    (hq : ∀ h' tk' o' r t, 0 ≤ r → r < many → IsPen w nw o' (n + 1) → GS w mg mb h₀ env ns gs vs ((pd, o') :: mu) nw h' → Q (.int r t) (S z h' tk'))
    (a1 : starEach [.Name u p1, e2] env = (false, eval (.Name u p1) env) :: starEach [e2] env := by rfl) (a2 : (backTo p3 (starEach [e2] env)).any (·.1) = false := by rfl) (a3 : starEach [e2] env = (false, eval e2 env) :: starEach [] env := by rfl)
    (he : eval (.Call (.Name "_law_deal" pf) [.Name u p1, e2] [] p3) env = (do callWith p3 (← eval (.Name "_law_deal" pf) env) [] (backTo p3 (starEach [.Name u p1, e2] env)) (backToKw p3 (keywordEach [] env))) := by rfl) :
    wpAny (model PG w) A (eval (.Call (.Name "_law_deal" pf) [.Name u p1, e2] [] p3) env) Q E (S z h tk) := by
  refine Call_ ?_ he
  refine r_glo G hg (g_law_deal w) ?_
  refine callWith_K G.bs.K (keep_law w).1 ?_ a1 a2
  refine args_cons ?_ a1
  refine r_loc G hs ?_
  refine args_cons ?_ a3
  try k_fold
  refine wpAny_mono h2 (fun v s' h2 => ?_) fun _ _ x => x
  obtain ⟨t, h', tk', rfl, rfl, G⟩ := h2
  refine args_nil ⟨G.K, ?_⟩
  obtain ⟨oL, Gc, hn', back⟩ := G.call1
  exact deal_spec G.bs Gc hA hp hn h0 fun h' tk' o' r t r0 r1 hp' G' => hq _ _ _ _ _ r0 r1 hp' (back _ _ _ _ G')
theorem dealc {i : Int} {kc : Nat} {pc : Pos} (G : GS w mg mb h₀ env ns gs vs mu nw h) : wpAny (model PG w) A (eval (.Constant (.int i) kc pc) env) (fun v s' => Ex3 fun t h' tk' => Al3 (v = .int i t) (s' = S z h' tk') (GS w mg mb h₀ env ns gs vs mu nw h')) E (S z h tk) :=
  r_int fun t => ⟨t, h, _, rfl, rfl, G⟩
/-- a maker of words called with the pen and a number -/
theorem b_gen2 {f : Addr} {i : Int} {room L c : Nat} {name : Str} (m : ∀ t, GenSpec w f [.int i t] room L c) (G : GS w mg mb h₀ env ns gs vs ((pd, o) :: mu) nw h) (hg : Has gs name) (hgn : nsIn (KK w) mainGlobals name = some (some (.ref f))) (keep : keepIn (KK w) (.ref f) = true)
    (hs : At ns vs u (.ref pd)) (hA : Room A room) (hH : A.handled = none) (hp : IsPen w nw o n) (hn : n + c ≤ 900000)
    (h2 : wpAny (model PG w) A (eval e2 env) (fun v s' => Ex3 fun t h' tk' => Al3 (v = .int i t) (s' = S z h' tk') (GS w mg mb h₀ env ns gs vs ((pd, o) :: mu) nw h')) E (S z h tk))
    (hq : ∀ h' tk' o' nw' n' v ws, (∀ q ∈ nw, q ∈ nw') → n' ≤ n + c → IsPen w nw' o' n' → GS w mg mb h₀ env ns gs vs ((pd, o') :: mu) nw' h' → WdsAt nw' v ws → ws.length ≤ L → (∀ x ∈ ws, x ≠ .fin) → Q v (S z h' tk'))
    (a1 : starEach [.Name u p1, e2] env = (false, eval (.Name u p1) env) :: starEach [e2] env := by rfl) (a2 : (backTo p3 (starEach [e2] env)).any (·.1) = false := by rfl) (a3 : starEach [e2] env = (false, eval e2 env) :: starEach [] env := by rfl)
    (he : eval (.Call (.Name name pf) [.Name u p1, e2] [] p3) env = (do callWith p3 (← eval (.Name name pf) env) [] (backTo p3 (starEach [.Name u p1, e2] env)) (backToKw p3 (keywordEach [] env))) := by rfl) :
    wpAny (model PG w) A (eval (.Call (.Name name pf) [.Name u p1, e2] [] p3) env) Q E (S z h tk) := by
  refine Call_ ?_ he
  refine r_glo G hg hgn ?_
  refine callWith_K G.bs.K keep ?_ a1 a2
  refine args_cons ?_ a1
  refine r_loc G hs ?_
  refine args_cons ?_ a3
  try k_fold
  refine wpAny_mono h2 (fun v s' h2 => ?_) fun _ _ x => x
  obtain ⟨t, h', tk', rfl, rfl, G⟩ := h2
  refine args_nil ⟨G.K, ?_⟩
  obtain ⟨oL, Gc, hn', back⟩ := G.call1
  exact m t G.bs Gc hA hH hp hn fun h' tk' o' nw' n' v ws s1 s2 s3 G' s4 s5 s6 => hq _ _ _ _ _ _ _ s1 s2 s3 (back _ _ _ _ G') s4 s5 s6
/-- two lists of words put together -/
theorem r_addwords {l b : Value} {xs ys : List Wd} (G : GS w mg mb h₀ env ns gs vs mu nw h) (hl : WdsAt nw l xs) (hb : WdsAt nw b ys) (hsz : xs.length + ys.length ≤ 1000)
    (hq : ∀ v h' nw', (∀ q ∈ nw, q ∈ nw') → GS w mg mb h₀ env ns gs vs mu nw' h' → WdsAt nw' v (xs ++ ys) → Q v (S z h' tk)) : wpAny (model PG w) A (binaryOp .Add l b) Q E (S z h tk) := by
  obtain ⟨D, v1, n1, rfl, m1, f1⟩ := hl
  obtain ⟨D2, v2, n2, rfl, m2, f2⟩ := hb
  have e1 := fa2_len f1
  have e2 := fa2_len f2
  refine r_addlists G (List.mem_append_right _ m1) (List.mem_append_right _ m2) (sl_small (m := 1000) (by omega) (by decide)) fun D3 h3 G3 => ?_
  exact hq _ h3 _ (fun q hq => .tail _ hq) G3 ⟨D3, _, 0, rfl, .head _, fa2_app f1 f2⟩
theorem wdlist {vs : List Value} {ws : List Wd} {D : Addr} {nw : Led} (hf : Fa2 IsW vs ws) : WdsAt ((D, lst vs) :: nw) (.ref D) ws := ⟨D, vs, 0, rfl, .head _, hf⟩
noncomputable def twL : Nat → Nat
  | 0 => 1
  | d + 1 => 3 + 2 * twL d
noncomputable def twC : Nat → Nat
  | 0 => 2
  | d + 1 => 2 + 2 * twC d
theorem twL_pos : ∀ d, 1 ≤ twL d
  | 0 => Nat.le_refl _
  | d + 1 => by unfold twL; omega
theorem twC_pos : ∀ d, 2 ≤ twC d
  | 0 => Nat.le_refl _
  | d + 1 => by unfold twC; omega
theorem tw_spec (w : World) (d : Nat) : d ≤ 3 → ∀ t : Tok, GenSpec w 298 [.int (d : Nat) t] (3 + d) (twL d) (twC d) := by
  induction d using Nat.strongRecOn with
  | ind d ih =>
  intro hd10 t mg mb h₀ h mu nw z tk A E Q pd o n B G hA hH hp hn hq
  have hR : ∀ env, Room (A.deeper env) (2 + d) := fun env => Room.deeper (by rw [show 2 + d + 1 = 3 + d by omega]; exact hA)
  have hc2 := twC_pos d
  have hl1 := twL_pos d
  refine enter ["pen", "deep", "way", "found"] ["_law_deal", "_law_term_words"] [some (.ref pd), some (.int (d : Nat) t), none, none] B G hA.depth rfl rfl rfl rfl ⟨rfl, by decide, by decide, by decide, by decide⟩ rfl ?_ rfl rfl (by decide)
  intro L h₁ tk' ev Av Qv Ev G
  let Gs := fun (vs : List (Option Value)) (mu nw : Led) (h : Heap) => G.same vs mu nw h
  refine wpAny_execs_cons ?_
  try k_fold
  refine wpAny_Assign_Name ?_
  refine b_deal G (by walk_at "m:has") .head ((hR _).le (by omega)) hp (by omega) (by decide) (dealc G) ?_
  intro h2 tk2 o2 way t2 w0 w1 hp G
  walk_at "m:st"
  intro h3 tk3 G
  have G0 := G
  refine wpAny_execs_cons ?_
  try k_fold
  refine wpAny_If ?_
  try k_fold
  try k_fold
  refine wpAny_mono (Q := fun b s' => ∃ h' tk', s' = S z h' tk' ∧ Gs [some (.ref pd), some (.int (d : Nat) t), some (.int way t2), none] ((pd, o2) :: mu) nw h' ∧ (b = false → 1 ≤ d ∧ 3 ≤ way)) ?_ (fun b s' hb => ?_) (fun _ _ x => x)
  try k_fold
  · refine wpAny_isTrue_BoolOp ?_
    refine wpAny_allTrue_Or_cons ?_
    refine wpAny_isTrue_Compare1 ?_
    walk_at "m:loc"
    refine r_int ?_
    intro t4
    refine PyProof.Rows.eq_int ?_
    refine wpAny_truthy_bool ?_
    refine ifs (fun hb => ⟨h3, _, rfl, G, fun e => nomatch e⟩) (fun hb => ?_)
    refine wpAny_allTrue_Or_cons ?_
    refine wpAny_isTrue_Compare1 ?_
    walk_at "m:loc"
    refine r_int ?_
    intro t5
    refine PyProof.Rows.lt_int ?_
    refine wpAny_truthy_bool ?_
    refine ifs (fun hb => ⟨h3, _, rfl, G, fun e => nomatch e⟩) (fun hb2 => wpAny_allTrue_Or_nil ?_)
    refine ⟨h3, _, rfl, G, fun _ => ?_⟩
    have hb2 := of_decide_eq_false hb2
    have hb : ¬ ((d : Int) = 0) := by simpa using hb
    omega
  obtain ⟨h4, tk4, rfl, G, hbf⟩ := hb
  refine ifs (fun _ => ?_) (fun hb => ?_)
  · refine wpAny_execs_cons ?_
    try k_fold
    refine wpAny_Return_some ?_
    refine List_ ?_
    refine args_cons ?_
    refine Subscript_ ?_
    refine Tuple_ ?_
    refine args_cons ?_
    refine r_str ?_
    intro t4
    refine args_cons ?_
    refine r_str ?_
    intro t5
    refine args_cons ?_
    refine r_str ?_
    intro t6
    refine args_cons ?_
    refine r_str ?_
    intro t7
    refine args_cons ?_
    refine r_str ?_
    intro t8
    refine args_nil ?_
    refine r_tup (by show 5 ≤ 2 ^ 24; decide) G (fun T h4 G => ?_)
    refine b_deal G (by walk_at "m:has") .head ((hR _).le (by omega)) (hp.mono fun q hq => .tail _ hq) (by omega) (by decide) (dealc G) ?_
    intro h5 tk5 o5 r t9 r0 r1 hp G
    have hf : Fa2 IsW [.str "a" t4, .str "?x" t5, .str "?y" t6, .str "b" t7, .str "f" t8] [.a, .vx, .vy, .b, .f] := .cons ⟨_, rfl⟩ (.cons ⟨_, rfl⟩ (.cons ⟨_, rfl⟩ (.cons ⟨_, rfl⟩ (.cons ⟨_, rfl⟩ .nil))))
    obtain ⟨v, x, hv, hx, t10, rfl⟩ := fa2_at hf (i := r.toNat) (by show r.toNat < 5; omega)
    refine r_item_tup (G.G.get (.head _)) (by omega) (by omega) (seqIx r0 (by show r < 5; omega)) hv ?_
    refine args_nil ?_
    refine r_list (by show 1 ≤ 2 ^ 24; decide) G (fun D h6 G => ?_)
    refine (hq h6 _ o5 _ (n + 1 + 1) _ [x] (fun q hq => .tail _ (.tail _ hq)) (by omega) (hp.mono fun q hq => .tail _ hq) G.G ⟨D, _, 0, rfl, .head _, .cons ⟨t10, rfl⟩ .nil⟩ hl1 ?_)
    intro y hy
    rw [List.mem_singleton.mp hy]
    have hxm := List.mem_of_getElem? hx
    rintro rfl
    simp at hxm
  · obtain ⟨hd1, hw3⟩ := hbf hb
    obtain ⟨e, rfl⟩ : ∃ e, d = e + 1:= ⟨d - 1, (Nat.sub_add_cancel hd1).symm⟩
    refine wpAny_execs_nil ?_
    refine wpAny_execs_cons ?_
    try k_fold
    refine wpAny_Assign_Name ?_
    refine wpAny_BinOp ?_
    refine List_ ?_
    refine args_cons ?_
    refine r_str ?_
    intro t6
    refine args_cons ?_
    refine r_str ?_
    intro t7
    refine args_nil ?_
    refine r_list (by show 2 ≤ 2 ^ 24; decide) G (fun D h5 G => ?_)
    have hw0 : WdsAt ((D, lst [Value.str "(" t6, Value.str "f" t7]) :: nw) (.ref D) [.lp, .f] := wdlist (.cons ⟨t6, rfl⟩ (.cons ⟨t7, rfl⟩ .nil))
    have hLe : twL (e + 1) = 3 + 2 * twL e := rfl
    have hCe : twC (e + 1) = 2 + 2 * twC e := rfl
    have hL3 : twL e ≤ 13 := by
      have : e ≤ 2 := by omega
      obtain rfl | rfl | rfl : e = 0 ∨ e = 1 ∨ e = 2 := by omega
      all_goals decide
    refine b_gen2 (ih e (by omega) (by omega)) G (by walk_at "m:has") (g_law_term_words w) (keep_law w).2.1 .head ((hR _).le (by omega)) hH (hp.mono fun q hq => .tail _ hq) (by omega) ?_ ?_
    · refine wpAny_BinOp ?_
      walk_at "m:loc"
      refine r_int ?_
      intro t8
      refine r_sub ?_
      intro t9
      rw [show ((e + 1 : Nat) : Int) - 1 = (e : Nat) by omega]
      exact ⟨_, h5, _, rfl, rfl, G⟩
    intro h6 tk6 o6 nw6 n6 v6 ws6 hs6 hn6 hp G hw6 hl6 hf6
    refine r_addwords G (hw0.mono hs6) hw6 (by simp; omega) ?_
    intro v7 h7 nw7 hs7 G hw7
    walk_at "m:st"
    intro h8 tk8 G
    have G1 := G
    refine wpAny_execs_cons ?_
    try k_fold
    refine wpAny_Return_some ?_
    refine wpAny_BinOp ?_
    refine wpAny_BinOp ?_
    walk_at "m:loc"
    try k_fold
    refine wpAny_mono (Q := fun v s' => Ex6 fun h' tk' o' nw' n' ws => Al8 (s' = S z h' tk') ((∀ q ∈ nw7, q ∈ nw')) (n' ≤ n6 + twC e) (IsPen w nw' o' n') (G1.same [some (.ref pd), some (.int (e + 1 : Nat) t), some (.int way t2), some v7] ((pd, o') :: mu) nw' h') (WdsAt nw' v ws) (ws.length ≤ twL e) (∀ x ∈ ws, x ≠ .fin)) ?_ (fun v s' hv => ?_) (fun _ _ x => x)
    try k_fold
    · refine wpAny_IfExp ?_
      refine wpAny_isTrue_Compare1 ?_
      walk_at "m:loc"
      refine r_int ?_
      intro t10
      refine PyProof.Rows.eq_int ?_
      refine wpAny_truthy_bool ?_
      refine ifs (fun _ => ?_) (fun _ => ?_)
      · refine b_gen2 (ih e (by omega) (by omega)) G (by walk_at "m:has") (g_law_term_words w) (keep_law w).2.1 .head ((hR _).le (by omega)) hH (hp.mono hs7) (by omega) ?_ ?_
        · refine wpAny_BinOp ?_
          walk_at "m:loc"
          refine r_int ?_
          intro t8
          refine r_sub ?_
          intro t9
          rw [show ((e + 1 : Nat) : Int) - 1 = (e : Nat) by omega]
          exact ⟨_, h8, _, rfl, rfl, G⟩
        intro h9 tk9 o9 nw9 n9 v9 ws9 hs9 hn9 hp9 G hw9 hl9 hf9
        exact ⟨h9, tk9, o9, nw9, n9, ws9, rfl, hs9, hn9, hp9, G, hw9, hl9, hf9⟩
      · refine List_ ?_
        refine args_nil ?_
        refine r_list (by show 0 ≤ 2 ^ 24; decide) G (fun D h9 G => ?_)
        exact ⟨h9, _, _, _, n6, [], rfl, fun q hq => .tail _ hq, by omega, hp.mono fun q hq => .tail _ (hs7 q hq), G, wdlist .nil, by simp, fun x hx => nomatch hx⟩
    obtain ⟨h9, tk9, o9, nw9, n9, ws9, rfl, hs9, hn9, hp9, G, hw9, hl9, hf9⟩ := hv
    have hlen1 : ([Wd.lp, .f] ++ ws6).length = 2 + ws6.length := by simp; omega
    refine r_addwords G (hw7.mono hs9) hw9 (by rw [hlen1]; omega) ?_
    intro v10 h10 nw10 hs10 G hw10
    refine List_ ?_
    refine args_cons ?_
    refine r_str ?_
    intro t11
    refine args_nil ?_
    refine r_list (by show 1 ≤ 2 ^ 24; decide) G (fun D2 h11 G => ?_)
    refine r_addwords G (hw10.mono fun q hq => .tail _ hq) (wdlist (ws := [.rp]) (.cons ⟨t11, rfl⟩ .nil)) (by rw [List.length_append, hlen1]; simp; omega) ?_
    intro v12 h12 nw12 hs12 G hw12
    try k_fold
    refine hq _ _ _ nw12 n9 _ _ (fun q hq => hs12 _ (.tail _ (hs10 _ (hs9 _ (hs7 _ (hs6 _ (.tail _ hq))))))) (by omega) (hp9.mono fun q hq => hs12 _ (.tail _ (hs10 _ hq))) G.G hw12 (by rw [List.length_append, List.length_append, hlen1]; simp; omega) ?_
    intro x hx
    rcases List.mem_append.mp hx with hx | hx
    · rcases List.mem_append.mp hx with hx | hx
      · rcases List.mem_append.mp hx with hx | hx
        · rcases List.mem_cons.mp hx with rfl | hx
          · decide
          · rw [List.mem_singleton.mp hx]; decide
        · exact hf6 x hx
      · exact hf9 x hx
    · rw [List.mem_singleton.mp hx]; decide
end
end
section
variable [OSC]
noncomputable abbrev rgO (x left : Int) : Obj := { cls := .type "range_iterator", dict := none, data := .fields #[rawInt x, rawInt left, rawInt 1], slots := #[] }
theorem SetAt.at_ {ns : List Str} {vs : List (Option Value)} {x : Str} {v : Value} {vs' : List (Option Value)} (a : SetAt ns vs x v vs') : ∀ {k : Nat}, ns.Nodup → ns[k]? = some x → vs' = vs.set k (some v) := by
  induction a with
  | @head x ns v u vs =>
    intro k nd hk
    cases k with
    | zero => rfl
    | succ k => exact absurd (List.mem_of_getElem? (l := ns) (i := k) (by simpa using hk)) (List.nodup_cons.mp nd).1
  | @tail x y ns v u vs vs' a ih =>
    intro k nd hk
    cases k with
    | zero => cases hk; exact absurd a.mem (List.nodup_cons.mp nd).1
    | succ k => rw [ih (k := k) (List.nodup_cons.mp nd).2 (by simpa using hk)]; rfl
section
variable {w : World} {mg mb : Str → Option Value} {h₀ h h' : Heap} {env : Env} {ns gs : List Str} {vs vs' : List (Option Value)} {mu nw fr : Led} {z : Shared} {tk : Nat} {A : Around} {E : Value → Shared → Prop} {v : Value} {x : Str} {px pos : Pos} {iter : Expr} {body : List Stmt} {Q : Flow → Shared → Prop}
theorem GS.ext1 {D : Addr} {o : Obj} (G : GS w mg mb h₀ env ns gs vs ((D, o) :: mu) nw h) (k : ∀ a ob, a ≠ D → h.get? a = some ob → h'.get? a = some ob) : GS w mg mb h₀ env ns gs vs mu nw h' := by
  have hD := G.G.has (D, o) (.head _)
  have hne : env.locals ≠ D := fun e => G.ne (D, o) (.head _) e.symm
  have ne : ∀ p ∈ mu ++ nw, p.1 ≠ D := fun p hp q => by
    rcases List.mem_append.mp hp with hp | hp
    · exact (List.nodup_cons.mp G.G.nd).1 (List.mem_map.mpr ⟨p, hp, q⟩)
    · exact G.G.apart (D, o) (.head _) p hp q.symm
  refine G.lessM.with ⟨fun b ob e => k b ob (fun q => by rw [q, hD.2] at e; cases e) (G.G.stays b ob e), ?_, fun p hp => ?_, G.lessM.G.nd, G.lessM.G.apart⟩ (fun ob e => k _ _ hne e) G.lessM.ne
  · obtain ⟨m', hn, hl'⟩ := G.ns_
    obtain ⟨ob, es, ep, hob, _⟩ := hn
    exact Nat.le_of_lt (Nat.lt_of_le_of_lt G.above (Heap.lt_size (k _ _ hne hob)))
  · have := G.lessM.G.has p hp
    exact ⟨k _ _ (ne p hp) this.1, this.2⟩
/-- for x in range(n): the ledger's J at the start of each turn; the iterator stands first -/
theorem r_for (G₀ : GS w mg mb h₀ env ns gs vs mu nw h) (hh : A.handled = none) (J : Nat → List (Option Value) → Led → Led → Prop)
    (hset : ∀ i vs mu nw, J i vs mu nw → ∀ v, ∃ vs', SetAt ns vs x v vs')
    (hi : wpAny (model PG w) A (eval iter env) (fun xv s₁ => Ex10 fun (r : Addr) (n : Nat) (t u t' : Tok) (h : Heap) (tk : Nat) (vs : List (Option Value)) (mu nw : Led) => Al8 (xv = .ref r) (s₁ = S z h tk) (IsRange h r 0 n 1 t u t') (n ≤ 1000) (J 0 vs mu nw) (GS w mg mb h₀ env ns gs vs mu nw h) ((∀ i vs mu nw h tk t vs' I io, i < n → J i vs mu nw → SetAt ns vs x (.int (i : Nat) t) vs' → GS w mg mb h₀ env ns gs vs' ((I, io) :: mu) nw h →
        wpAny (model PG w) A (execs body env) (fun f s' => f = .next ∧ Ex5 fun vs'' mu' nw' h' tk' => Al3 (s' = S z h' tk') (J (i + 1) vs'' mu' nw') (GS w mg mb h₀ env ns gs vs'' ((I, io) :: mu') nw' h')) (notedBy (model PG w) A env fun e s' => cameBackBy (model PG w) A env E e s') (S z h tk))) ((∀ vs mu nw h tk, J n vs mu nw → GS w mg mb h₀ env ns gs vs mu nw h → Q .next (S z h tk)))) E (S z h tk))
    (hs : ∀ x, foldedSetIterable iter env x = pure x := by intro _; rfl) :
    wpAny (model PG w) A (exec (.For (.Name x px) iter body [] pos) env) Q E (S z h tk) := by
  refine wpAny_For (wpAny_mono hi (fun xv s₁ h1 => ?_) fun _ _ e => e) hs
  obtain ⟨r, n, t, u, t', h1, tk1, vs1, mu1, nw1, rfl, rfl, hr, hn, hJ, G, step, fin⟩ := h1
  have hsz : Builtin.Range.rangeSize 0 n 1 = n := by rw [rangeSize_one]; split <;> omega
  refine wpAny_pyIter_range (s := S z h1 tk1) hr (small_one (by omega) (by omega) (by omega) (by omega)) ?_
  rw [hsz]
  have G1 := G.pushM (rgO 0 n) rfl
  refine codeAny_forLoop (fun k s => Ex6 fun i vs mu nw h tk => Al5 (s = S z h tk) (k = n + 1 - i) (i ≤ n) (J i vs mu nw) (GS w mg mb h₀ env ns gs vs ((h1.objs.size, rgO (i : Nat) ((n : Int) - i)) :: mu) nw h)) ?_ (n + 1) ?_
  · intro k s hI_
    try k_fold
    obtain ⟨i, vs2, mu2, nw2, h2, tk2, rfl, hk, hin, hJ2, G2⟩ := hI_
    rcases Nat.lt_or_ge i n with hlt | hge
    · refine wpAny_pyNext_range_item (s := S z h2 tk2) (G2.getM (.head _)) (by omega) fun h3 hit hs3 => ?_
      have G3 := G2.set1 hs3 hit
      dsimp only
      obtain ⟨vs3, hvs3⟩ := hset _ _ _ _ hJ2 (.int (i : Nat) tk2)
      refine wpAny_assign_Name ?_
      refine r_st G3 hvs3 fun h4 tk4 G4 => ?_
      refine wpAny_mono (step i vs2 mu2 nw2 h4 tk4 _ _ _ _ hlt hJ2 hvs3 G4) (fun f s' hf => ?_) fun _ _ e => e
      obtain ⟨rfl, vs5, mu5, nw5, h5, tk5, rfl, hJ5, G5⟩ := hf
      refine ⟨n + 1 - (i + 1), nsub_up' (by assumption) (by assumption), i + 1, vs5, mu5, nw5, h5, tk5, rfl, rfl, by omega, hJ5, ?_⟩
      have e1 : (((i + 1 : Nat) : Int)) = (i : Int) + 1 := rfl
      have e2 : (n : Int) - ((i + 1 : Nat) : Int) = (n : Int) - i - 1 := (Int.sub_sub (n : Int) i 1).symm
      rw [e2, e1]
      exact G5
    · have : i = n := by omega
      subst this
      refine wpAny_pyNext_range_end (s := S z h2 tk2) hh (G2.getM (.head _)) (by omega) fun h3 k3 => ?_
      dsimp only
      refine wpAny_execs_nil ?_
      exact fin _ _ _ h3 tk2 hJ2 (G2.ext1 k3)
  · exact ⟨0, vs1, mu1, nw1, _, tk1, rfl, rfl, Nat.zero_le _, hJ, by simpa using G1⟩
end
end
section
variable [OSC]
noncomputable def NoFin (ws : List Wd) : Prop := ∀ x ∈ ws, x ≠ .fin
theorem NoFin.app {a b : List Wd} (h : NoFin a) (h' : NoFin b) : NoFin (a ++ b) := fun x hx => by
  rcases List.mem_append.mp hx with hx | hx
  · exact h x hx
  · exact h' x hx
section
variable {w : World} {mg mb : Str → Option Value} {h₀ h h' : Heap} {env : Env} {ns gs : List Str} {vs vs' : List (Option Value)} {mu nw fr : Led} {z : Shared} {tk : Nat} {A : Around} {E Q : Value → Shared → Prop} {o : Obj} {d pd : Addr} {k : Str} {t : Tok} {n : Nat} {v : Value} {e2 : Expr} {u : Str} {p1 p3 pf : Pos}
theorem rw_spec (w : World) : GenSpec w 305 [] 8 24 40 := by
  intro mg mb h₀ h mu nw z tk A E Q pd o n B G hA hH hp hn hq
  have hR : ∀ env, Room (A.deeper env) 7 := fun env => Room.deeper hA
  refine enter ["pen", "found", "k", "sign"] ["_law_term_words", "range", "_law_deal", "int"] [some (.ref pd), none, none, none] B G hA.depth rfl rfl rfl rfl ⟨rfl, by decide, by decide, by decide, by decide⟩ rfl ?_ rfl rfl (by decide)
  intro L h₁ tk' ev Av Qv Ev G
  refine wpAny_execs_cons ?_
  try k_fold
  refine wpAny_Assign_Name ?_
  refine wpAny_BinOp ?_
  refine wpAny_BinOp ?_
  refine wpAny_BinOp ?_
  refine List_ ?_
  walk_at "m:strs"
  refine r_list (by show 4 ≤ 2 ^ 24; decide) G (fun D h5 G => ?_)
  refine b_gen2 (room := 4) (L := 5) (c := 6) (i := 1) (tw_spec w 1 (by decide)) G (by walk_at "m:has") (g_law_term_words w) (keep_law w).2.1 .head ((hR _).le (by omega)) hH (hp.mono fun q hq => .tail _ hq) (by omega) (dealc G) ?_
  intro h6 tk6 o6 nw6 n6 v6 ws6 hs6 hn6 hp G hw6 hl6 hf6
  refine r_addwords (xs := [.r, .cl, .lp, .f]) G ((wdlist (by walk_at "m:fa")).mono hs6) hw6 (by simp; omega) ?_
  intro v7 h7 nw7 hs7 G hw7
  refine List_ ?_
  walk_at "m:strs"
  refine r_list (by show 2 ≤ 2 ^ 24; decide) G (fun D2 h8 G => ?_)
  refine r_addwords (ys := [.rp, .ar]) G (hw7.mono fun q hq => .tail _ hq) (wdlist (by walk_at "m:fa")) (by simp; omega) ?_
  intro v9 h9 nw9 hs9 G hw9
  have hl1 : ([Wd.r, .cl, .lp, .f] ++ ws6 ++ [Wd.rp, .ar]).length = 6 + ws6.length := by simp; omega
  have hmono9 : ∀ q ∈ nw6, q ∈ nw9 := fun q hq => hs9 _ (.tail _ (hs7 _ hq))
  refine b_gen2 (room := 4) (L := 5) (c := 6) (i := 1) (tw_spec w 1 (by decide)) G (by walk_at "m:has") (g_law_term_words w) (keep_law w).2.1 .head ((hR _).le (by omega)) hH (hp.mono hmono9) (by omega) (dealc G) ?_
  intro h10 tk10 o10 nw10 n10 v10 ws10 hs10 hn10 hp G hw10 hl10 hf10
  refine r_addwords G (hw9.mono hs10) hw10 (by rw [hl1]; omega) ?_
  intro v11 h11 nw11 hs11 G hw11
  have hl11 : ([Wd.r, .cl, .lp, .f] ++ ws6 ++ [Wd.rp, .ar] ++ ws10).length ≤ 16 := by rw [List.length_append, hl1]; omega
  have hnf : NoFin ([Wd.r, .cl, .lp, .f] ++ ws6 ++ [Wd.rp, .ar] ++ ws10) := ((NoFin.app (by unfold NoFin; decide) hf6).app (by unfold NoFin; decide)).app hf10
  generalize ([Wd.r, .cl, .lp, .f] ++ ws6 ++ [Wd.rp, .ar] ++ ws10) = wsA at hw11 hl11 hnf
  have hsub11 : ∀ q ∈ nw, q ∈ nw11 := fun q hq => hs11 _ (hs10 _ (hmono9 _ (hs6 _ (.tail _ hq))))
  walk_at "m:st"
  intro h12 tk12 G
  refine wpAny_execs_cons ?_
  try k_fold
  try k_fold
  refine r_for (x := "k") G (A := A.deeper _) hH (fun i vs mu' nw' => Ex6 fun o' n' v ws kv sv => Al8 (vs = [some (.ref pd), some v, kv, sv]) (mu' = (pd, o') :: mu) (IsPen w nw' o' n') (n' ≤ n10 + 1 + 10 * i) (WdsAt nw' v ws) (ws.length ≤ 16 + 4 * i) (NoFin ws) (∀ q ∈ nw, q ∈ nw')) ?_ ?_
  · rintro i vs mu' nw' ⟨o', n', v, ws, kv, sv, rfl, -⟩ v'
    exact ⟨_, .tail (.tail .head)⟩
  refine Call_ ?_
  refine r_blt G (by walk_at "m:has") (g_range w).1 (g_range w).2.1 (g_range w).2.2 ?_
  refine cw_t ?_
  refine args_cons ?_
  refine b_deal G (by walk_at "m:has") .head ((hR _).le (by omega)) (hp.mono hs11) (by omega) (by decide) (dealc G) ?_
  intro h13 tk13 o13 r t13 r0 r1 hp13 G
  refine args_nil ?_
  refine call_range_1 (s := S z h13 tk13) ?_
  have hr : r = (r.toNat : Nat) := by omega
  rw [hr]
  have Gr := G.push { cls := .type "range", data := .fields #[.int 0 tk13, .int (r.toNat : Nat) t13, .int 1 (tk13 + 1)] } rfl
  try k_fold
  refine ⟨h13.objs.size, r.toNat, tk13, t13, tk13 + 1, _, _, _, _, _, rfl, rfl, Gr.G.get (.head _), by omega, ⟨o13, n10 + 1, v11, wsA, none, none, rfl, rfl, hp13.mono fun q hq => .tail _ hq, by omega, hw11.mono fun q hq => .tail _ hq, hl11, hnf, fun q hq => .tail _ (hsub11 q hq)⟩, Gr, ?_, ?_⟩
  · intro i vs mu' nw' h tk t vs' I io hi hI_ hset G
    try k_fold
    obtain ⟨o', n', v, ws, kv, sv, rfl, rfl, hp, hn', hw, hl, hf, hsub⟩ := hI_
    obtain rfl : vs' = [some (.ref pd), some v, some (.int (i : Nat) t), sv] := hset.at_ (k := 2) G.sc.nd rfl
    · have G := G.swap
      refine wpAny_execs_cons ?_
      try k_fold
      refine wpAny_Assign_Name ?_
      refine Subscript_ ?_
      refine Tuple_ ?_
      refine args_cons ?_
      refine r_str ?_
      intro tA
      refine args_cons ?_
      refine r_str ?_
      intro tB
      refine args_nil ?_
      refine r_tup (by show 2 ≤ 2 ^ 24; decide) G (fun T h14 G => ?_)
      refine b_deal G (by walk_at "m:has") .head ((hR _).le (by omega)) (hp.mono fun q hq => .tail _ hq) (by omega) (by decide) (dealc G) ?_
      intro h15 tk15 o15 r2 t15 r20 r21 hp G
      have hf2 : Fa2 IsW [.str "=" tA, .str "!=" tB] [.eq, .ne] := by walk_at "m:fa"
      obtain ⟨vS, xS, hvS, hxS, tS, rfl⟩ := fa2_at hf2 (i := r2.toNat) (by show r2.toNat < 2; omega)
      refine r_item_tup (G.G.get (.head _)) (by omega) (by omega) (seqIx r20 (by show r2 < 2; omega)) hvS ?_
      walk_at "m:st"
      intro h16 tk16 G
      refine wpAny_execs_cons ?_
      try k_fold
      refine wpAny_Assign_Name ?_
      refine wpAny_BinOp ?_
      refine wpAny_BinOp ?_
      refine wpAny_BinOp ?_
      refine wpAny_BinOp ?_
      walk_at "m:loc"
      refine List_ ?_
      refine args_cons ?_
      refine Subscript_ ?_
      refine Tuple_ ?_
      refine args_cons ?_
      refine r_str ?_
      intro tC
      refine args_cons ?_
      refine r_str ?_
      intro tD
      refine args_nil ?_
      refine r_tup (by show 2 ≤ 2 ^ 24; decide) G (fun T2 h17 G => ?_)
      refine Call_ ?_
      refine r_blt G (by walk_at "m:has") (g_int w).1 (g_int w).2.1 (g_int w).2.2 ?_
      refine cw_t ?_
      refine args_cons ?_
      refine wpAny_Compare1 ?_
      walk_at "m:loc"
      refine r_intN ?_
      refine PyProof.Rows.gt_int ?_
      refine args_nil ?_
      refine call_int_bool (s := S z h17 _) ?_
      have hfC : Fa2 IsW [.str "if" tC, .str "," tD] [.ifw, .cm] := by walk_at "m:fa"
      have hbi : ∀ b : Bool, 0 ≤ (if b = true then (1 : Int) else 0) ∧ (if b = true then (1 : Int) else 0) < 2 := fun b => by cases b <;> decide
      generalize hib : (if decide ((0 : Int) < (i : Nat)) = true then (1 : Int) else 0) = ib
      have hib2 := hbi (decide ((0 : Int) < (i : Nat)))
      rw [hib] at hib2
      obtain ⟨vC, xC, hvC, hxC, tE, rfl⟩ := fa2_at hfC (i := ib.toNat) (by show ib.toNat < 2; omega)
      refine r_item_tup (h := h17) (G.G.get (.head _)) (by omega) (by omega) (seqIx hib2.1 (by show ib < 2; omega)) hvC ?_
      refine args_nil ?_
      refine r_list (by show 1 ≤ 2 ^ 24; decide) G (fun D3 h18 G => ?_)
      refine r_addwords (xs := ws) (ys := [xC]) G (hw.mono fun q hq => .tail _ (.tail _ (.tail _ hq))) (wdlist (.cons ⟨tE, rfl⟩ .nil)) (by simp; omega) ?_
      intro v19 h19 nw19 hs19 G hw19
      refine b_gen2 (room := 3) (L := 1) (c := 2) (i := 0) (tw_spec w 0 (by decide)) G (by walk_at "m:has") (g_law_term_words w) (keep_law w).2.1 .head ((hR _).le (by omega)) hH (hp.mono fun q hq => hs19 _ (.tail _ (.tail _ hq))) (by omega) (dealc G) ?_
      intro h20 tk20 o20 nw20 n20 v20 ws20 hs20 hn20 hp G hw20 hl20 hf20
      refine r_addwords G (hw19.mono hs20) hw20 (by simp; omega) ?_
      intro v21 h21 nw21 hs21 G hw21
      refine List_ ?_
      refine args_cons ?_
      walk_at "m:loc"
      refine args_nil ?_
      refine r_list (by show 1 ≤ 2 ^ 24; decide) G (fun D4 h22 G => ?_)
      refine r_addwords (ys := [xS]) G (hw21.mono fun q hq => .tail _ hq) (wdlist (.cons ⟨tS, rfl⟩ .nil)) (by simp; omega) ?_
      intro v23 h23 nw23 hs23 G hw23
      refine b_gen2 (room := 3) (L := 1) (c := 2) (i := 0) (tw_spec w 0 (by decide)) G (by walk_at "m:has") (g_law_term_words w) (keep_law w).2.1 .head ((hR _).le (by omega)) hH (hp.mono fun q hq => hs23 _ (.tail _ (hs21 _ hq))) (by omega) (dealc G) ?_
      intro h24 tk24 o24 nw24 n24 v24 ws24 hs24 hn24 hp G hw24 hl24 hf24
      refine r_addwords G (hw23.mono hs24) hw24 (by simp; omega) ?_
      intro v25 h25 nw25 hs25 G hw25
      walk_at "m:st"
      intro h26 tk26 G
      refine wpAny_execs_nil ?_
      have hS : xS ≠ .fin := by have := List.mem_of_getElem? hxS; rintro rfl; simp at this
      have hC : xC ≠ .fin := by have := List.mem_of_getElem? hxC; rintro rfl; simp at this
      refine ⟨rfl, _, _, nw25, h26, _, rfl, ⟨o24, n24, v25, _, _, _, rfl, rfl, hp.mono hs25, by omega, hw25, by simp; omega, ?_, fun q hq => hs25 _ (hs24 _ (hs23 _ (.tail _ (hs21 _ (hs20 _ (hs19 _ (.tail _ (.tail _ (.tail _ (hsub _ hq))))))))))⟩, G.swap⟩
      exact (((hf.app (fun x hx => by rw [List.mem_singleton.mp hx]; exact hC)).app hf20).app (fun x hx => by rw [List.mem_singleton.mp hx]; exact hS)).app hf24
  · intro vs mu' nw' h tk hI_ G
    try k_fold
    obtain ⟨o', n', v, ws, kv, sv, rfl, rfl, hp, hn', hw, hl, hf, hsub⟩ := hI_
    refine wpAny_execs_cons ?_
    try k_fold
    refine wpAny_Return_some ?_
    walk_at "m:loc"
    exact hq _ _ _ nw' n' _ ws hsub (by omega) hp G.G hw (by omega) hf
end
end
section
variable [OSC]
theorem foldl_rep : ∀ (k : Nat) (vs : List Value) (acc : Array Value), (List.foldl (fun x1 x2 : Array Value => x1 ++ x2) acc (List.replicate k vs.toArray)) = (acc.toList ++ (List.replicate k vs).flatten).toArray
  | 0, vs, acc => by simp
  | k + 1, vs, acc => by
    rw [List.replicate_succ, List.foldl_cons, foldl_rep k vs]
    simp [List.replicate_succ]
theorem r_mulwords {w : World} {mg mb : Str → Option Value} {h₀ h : Heap} {env : Env} {ns gs : List Str} {vs : List (Option Value)} {mu nw : Led} {z : Shared} {tk : Nat} {A : Around} {E Q : Value → Shared → Prop} {l : Value} {xs : List Wd} {k : Int} {t : Tok}
    (G : GS w mg mb h₀ env ns gs vs mu nw h) (hl : WdsAt nw l xs) (hne : xs ≠ []) (h0 : 0 ≤ k) (h1 : k < 2)
    (hq : ∀ v h' nw' ws, (∀ q ∈ nw, q ∈ nw') → GS w mg mb h₀ env ns gs vs mu nw' h' → WdsAt nw' v ws → (ws = [] ∨ ws = xs) → Q v (S z h' tk)) (hsz : xs.length ≤ 100) : wpAny (model PG w) A (binaryOp .Mult l (.int k t)) Q E (S z h tk) := by
  obtain ⟨D, v1, n1, rfl, m1, f1⟩ := hl
  have e1 := fa2_len f1
  obtain ⟨m, F, hlv⟩ := G.fr
  have hne1 : v1 ≠ [] := by rintro rfl; simp at e1; exact hne (List.length_eq_zero_iff.mp e1.symm)
  refine mul_list (s := S z h tk) F G.news (G.G.get m1) (by omega) (by omega) (by simp; have : k.toNat ≤ 1 := by omega
                                                                                  have := Nat.mul_le_mul (show v1.length ≤ 100 by omega) this; omega) (fun h' F' N' => ?_)
  have hem : v1.toArray.isEmpty = false := by cases v1 with
    | nil => exact absurd rfl hne1
    | cons => rfl
  rw [hem, foldl_rep] at N'
  simp only [Bool.false_eq_true, if_false, List.nil_append] at N'
  have hD := N' _ (.head _)
  have N2 : News h₀ env.locals h' (mu ++ nw) := fun p hp => N' p (.tail _ hp)
  have G1 := G.back (mu' := mu) (nw' := nw) F' hlv N2 G.G.nd G.G.apart
  have fresh : ∀ p ∈ mu ++ nw, p.1 ≠ h.objs.size := fun p hp => Nat.ne_of_lt (Heap.lt_size (G.G.has p hp).1)
  have G2 : GS w mg mb h₀ env ns gs vs mu ((h.objs.size, lst (List.replicate k.toNat v1).flatten) :: nw) h' := G1.with ⟨G1.G.stays, G1.G.le, fun p hp => ?_, G1.G.nd, fun p hp q hq => ?_⟩ (fun o e => e) fun p hp => ?_
  · rcases (show k = 0 ∨ k = 1 by omega) with rfl | rfl
    · exact hq _ h' _ [] (fun q hq => .tail _ hq) G2 ⟨_, _, 0, rfl, .head _, .nil⟩ (.inl rfl)
    · refine hq _ h' _ xs (fun q hq => .tail _ hq) G2 ⟨_, _, 0, rfl, .head _, ?_⟩ (.inr rfl)
      simpa using f1
  · simp only [List.mem_append, List.mem_cons] at hp
    rcases hp with hp | rfl | hp
    · exact G1.G.has p (List.mem_append_left _ hp)
    · exact ⟨by simpa using hD.1, hD.2.2⟩
    · exact G1.G.has p (List.mem_append_right _ hp)
  · rcases List.mem_cons.mp hq with rfl | hq
    · exact fresh p (List.mem_append_left _ hp)
    · exact G1.G.apart p hp q hq
  · simp only [List.mem_append, List.mem_cons] at hp
    rcases hp with hp | rfl | hp
    · exact G1.ne p (List.mem_append_left _ hp)
    · exact hD.2.1
    · exact G1.ne p (List.mem_append_right _ hp)
noncomputable def pwL : Nat → Nat
  | 0 => 8
  | _ + 1 => 19
noncomputable def pwC : Nat → Nat
  | 0 => 10
  | _ + 1 => 25
theorem pw_spec (w : World) (d : Nat) : d ≤ 1 → ∀ t : Tok, GenSpec w 312 [.int (d : Nat) t] (8 + d) (pwL d) (pwC d) := by
  induction d using Nat.strongRecOn with
  | ind d ih =>
  intro hd10 t mg mb h₀ h mu nw z tk A E Q pd o n B G hA hH hp hn hq
  have hR : ∀ env, Room (A.deeper env) (7 + d) := fun env => Room.deeper (by rw [show 7 + d + 1 = 8 + d by omega]; exact hA)
  have hcc : 10 ≤ pwC d := by cases d <;> simp [pwC]
  have hll : 8 ≤ pwL d := by cases d <;> simp [pwL]
  refine enter ["pen", "deep", "way", "inner"] ["_law_deal", "_law_term_words", "_law_paper_words"] [some (.ref pd), some (.int (d : Nat) t), none, none] B G hA.depth rfl rfl rfl rfl ⟨rfl, by decide, by decide, by decide, by decide⟩ rfl ?_ rfl rfl (by decide)
  intro L h₁ tk' ev Av Qv Ev G
  let Gs := fun (vs : List (Option Value)) (mu nw : Led) (h : Heap) => G.same vs mu nw h
  have G0 := G
  refine wpAny_execs_cons ?_
  try k_fold
  refine wpAny_Assign_Name ?_
  try k_fold
  refine wpAny_mono (Q := fun v s' => Ex5 fun h' tk' o' way t' => Al7 (v = .int way t') (s' = S z h' tk') (0 ≤ way) (way < 6) ((d = 0 → way < 3)) (IsPen w nw o' (n + 1)) (Gs [some (.ref pd), some (.int (d : Nat) t), none, none] ((pd, o') :: mu) nw h')) ?_ (fun v s' hv => ?_) (fun _ _ x => x)
  try k_fold
  · refine wpAny_IfExp ?_
    refine wpAny_isTrue_Compare1 ?_
    walk_at "m:loc"
    refine r_intN ?_
    refine PyProof.Rows.gt_int ?_
    refine wpAny_truthy_bool ?_
    refine ifs (fun hb => ?_) (fun hb => ?_)
    · have hb := of_decide_eq_true hb
      refine b_deal G (by walk_at "m:has") .head ((hR _).le (by omega)) hp (by omega) (by decide) (dealc G) ?_
      intro h2 tk2 o2 way t2 w0 w1 hp G
      exact ⟨h2, tk2, o2, way, t2, rfl, rfl, w0, w1, fun e => by omega, hp, G⟩
    · have hb := of_decide_eq_false hb
      refine b_deal G (by walk_at "m:has") .head ((hR _).le (by omega)) hp (by omega) (by decide) (dealc G) ?_
      intro h2 tk2 o2 way t2 w0 w1 hp G
      exact ⟨h2, tk2, o2, way, t2, rfl, rfl, w0, by omega, fun e => w1, hp, G⟩
  obtain ⟨h2, tk2, o2, way, t2, rfl, rfl, w0, w1, wd, hp, G⟩ := hv
  walk_at "m:st"
  intro h3 tk3 G
  refine wpAny_execs_cons ?_
  try k_fold
  refine wpAny_If ?_
  try k_fold
  refine wpAny_isTrue_Compare1 ?_
  walk_at "m:loc"
  refine r_intN ?_
  refine PyProof.Rows.eq_int ?_
  refine wpAny_truthy_bool ?_
  refine ifs (fun hb => ?_) (fun hb0 => ?_)
  · refine wpAny_execs_cons ?_
    try k_fold
    refine wpAny_Return_some ?_
    refine wpAny_BinOp ?_
    refine wpAny_BinOp ?_
    refine List_ ?_
    walk_at "m:strs"
    refine r_list (by show 2 ≤ 2 ^ 24; decide) G (fun D h5 G => ?_)
    refine b_gen2 (room := 4) (L := 5) (c := 6) (i := 1) (tw_spec w 1 (by decide)) G (by walk_at "m:has") (g_law_term_words w) (keep_law w).2.1 .head ((hR _).le (by omega)) hH (hp.mono fun q hq => .tail _ hq) (by omega) (dealc G) ?_
    intro h6 tk6 o6 nw6 n6 v6 ws6 hs6 hn6 hp G hw6 hl6 hf6
    refine r_addwords (xs := [.lp, .same]) G ((wdlist (by walk_at "m:fa")).mono hs6) hw6 (by simp; omega) ?_
    intro v7 h7 nw7 hs7 G hw7
    refine List_ ?_
    walk_at "m:strs"
    refine r_list (by show 1 ≤ 2 ^ 24; decide) G (fun D2 h8 G => ?_)
    refine r_addwords (ys := [.rp]) G (hw7.mono fun q hq => .tail _ hq) (wdlist (by walk_at "m:fa")) (by simp; omega) ?_
    intro v9 h9 nw9 hs9 G hw9
    refine hq _ _ _ nw9 n6 _ _ (fun q hq => hs9 _ (.tail _ (hs7 _ (hs6 _ (.tail _ hq))))) (by omega) (hp.mono fun q hq => hs9 _ (.tail _ (hs7 _ hq))) G.G hw9 (by simp; omega) ?_
    exact ((NoFin.app (by unfold NoFin; decide) hf6).app (by unfold NoFin; decide))
  refine wpAny_execs_nil ?_
  refine wpAny_execs_cons ?_
  try k_fold
  refine wpAny_If ?_
  try k_fold
  refine wpAny_isTrue_Compare1 ?_
  walk_at "m:loc"
  refine r_intN ?_
  refine PyProof.Rows.eq_int ?_
  refine wpAny_truthy_bool ?_
  refine ifs (fun hb1 => ?_) (fun hb1 => ?_)
  · refine wpAny_execs_cons ?_
    try k_fold
    refine wpAny_Return_some ?_
    refine List_ ?_
    walk_at "m:strs"
    refine r_list (by show 4 ≤ 2 ^ 24; decide) G (fun D h5 G => ?_)
    refine hq _ _ _ _ (n + 1) _ [.lp, .told, .one, .rp] (fun q hq => .tail _ hq) (by omega) (hp.mono fun q hq => .tail _ hq) G.G (wdlist (by walk_at "m:fa")) (by simp; omega) (by decide)
  refine wpAny_execs_nil ?_
  refine wpAny_execs_cons ?_
  try k_fold
  refine wpAny_If ?_
  try k_fold
  refine wpAny_isTrue_Compare1 ?_
  walk_at "m:loc"
  refine r_intN ?_
  refine PyProof.Rows.eq_int ?_
  refine wpAny_truthy_bool ?_
  refine ifs (fun hb2 => ?_) (fun hb2 => ?_)
  · refine wpAny_execs_cons ?_
    try k_fold
    refine wpAny_Return_some ?_
    refine wpAny_BinOp ?_
    refine wpAny_BinOp ?_
    refine wpAny_BinOp ?_
    refine List_ ?_
    walk_at "m:strs"
    refine r_list (by show 4 ≤ 2 ^ 24; decide) G (fun D h5 G => ?_)
    refine b_gen2 (room := 3) (L := 1) (c := 2) (i := 0) (tw_spec w 0 (by decide)) G (by walk_at "m:has") (g_law_term_words w) (keep_law w).2.1 .head ((hR _).le (by omega)) hH (hp.mono fun q hq => .tail _ hq) (by omega) (dealc G) ?_
    intro h6 tk6 o6 nw6 n6 v6 ws6 hs6 hn6 hp G hw6 hl6 hf6
    refine r_addwords (xs := [.lp, .rule, .r, .vx]) G ((wdlist (by walk_at "m:fa")).mono hs6) hw6 (by simp; omega) ?_
    intro v7 h7 nw7 hs7 G hw7
    refine wpAny_BinOp ?_
    refine List_ ?_
    walk_at "m:strs"
    refine r_list (by show 2 ≤ 2 ^ 24; decide) G (fun D2 h8 G => ?_)
    refine b_deal G (by walk_at "m:has") .head ((hR _).le (by omega)) (hp.mono fun q hq => .tail _ (hs7 _ hq)) (by omega) (by decide) (dealc G) ?_
    intro h9 tk9 o9 r t9 r0 r1 hp G
    refine r_mulwords (xs := [.vy, .a]) G (wdlist (by walk_at "m:fa")) (by simp) r0 r1 ?_ (by decide)
    intro v10 h10 nw10 ws10 hs10 G hw10 hws10
    have hl10 : ws10.length ≤ 2 := by rcases hws10 with rfl | rfl <;> decide
    have hf10 : NoFin ws10 := by rcases hws10 with rfl | rfl <;> (unfold NoFin; decide)
    refine r_addwords G (hw7.mono fun q hq => hs10 _ (.tail _ hq)) hw10 (by simp; omega) ?_
    intro v11 h11 nw11 hs11 G hw11
    refine List_ ?_
    walk_at "m:strs"
    refine r_list (by show 1 ≤ 2 ^ 24; decide) G (fun D3 h12 G => ?_)
    refine r_addwords (ys := [.rp]) G (hw11.mono fun q hq => .tail _ hq) (wdlist (by walk_at "m:fa")) (by simp; omega) ?_
    intro v13 h13 nw13 hs13 G hw13
    refine hq _ _ _ nw13 (n6 + 1) _ _ (fun q hq => hs13 _ (.tail _ (hs11 _ (hs10 _ (.tail _ (hs7 _ (hs6 _ (.tail _ hq)))))))) (by omega) (hp.mono fun q hq => hs13 _ (.tail _ (hs11 _ (hs10 _ hq)))) G.G hw13 (by simp; omega) ?_
    exact ((NoFin.app (NoFin.app (by unfold NoFin; decide) hf6) hf10).app (by unfold NoFin; decide))
  refine wpAny_execs_nil ?_
  have h0 : ¬ way = 0 := by simpa using hb0
  have h1 : ¬ way = 1 := by simpa using hb1
  have h2' : ¬ way = 2 := by simpa using hb2
  have hd0 : d ≠ 0 := fun e => by have := wd e; omega
  obtain ⟨e, rfl⟩ : ∃ e, d = e + 1:= ⟨d - 1, (Nat.sub_add_cancel (Nat.pos_of_ne_zero (by assumption))).symm⟩
  obtain rfl : e = 0 := by omega
  refine wpAny_execs_cons ?_
  try k_fold
  refine wpAny_Assign_Name ?_
  refine b_gen2 (room := 8) (L := 8) (c := 10) (i := (0 : Nat)) (ih 0 (by omega) (by omega)) G (by walk_at "m:has") (g_law_paper_words w) (keep_law w).2.2.2.1 .head ((hR _).le (by omega)) hH hp (by have : n + 25 ≤ 900000 := hn; omega) ?_ ?_
  · refine wpAny_BinOp ?_
    walk_at "m:loc"
    refine r_intN ?_
    refine r_sub ?_
    intro ts2
    rw [show ((0 + 1 : Nat) : Int) - 1 = ((0 : Nat) : Int) by omega]
    exact ⟨_, _, _, rfl, rfl, G⟩
  intro h6 tk6 o6 nw6 n6 v6 ws6 hs6 hn6 hp G hw6 hl6 hf6
  walk_at "m:st"
  intro h7 tk7 G
  refine wpAny_execs_cons ?_
  try k_fold
  refine wpAny_If ?_
  try k_fold
  refine wpAny_isTrue_Compare1 ?_
  walk_at "m:loc"
  refine r_intN ?_
  refine PyProof.Rows.eq_int ?_
  refine wpAny_truthy_bool ?_
  refine ifs (fun hb3 => ?_) (fun hb3 => ?_)
  · refine wpAny_execs_cons ?_
    try k_fold
    refine wpAny_Return_some ?_
    refine wpAny_BinOp ?_
    refine wpAny_BinOp ?_
    refine List_ ?_
    walk_at "m:strs"
    refine r_list (by show 2 ≤ 2 ^ 24; decide) G (fun D h8 G => ?_)
    walk_at "m:loc"
    refine r_addwords (xs := [.lp, .turn]) G (wdlist (by walk_at "m:fa")) (hw6.mono fun q hq => .tail _ hq) (by simp; omega) ?_
    intro v9 h9 nw9 hs9 G hw9
    refine List_ ?_
    walk_at "m:strs"
    refine r_list (by show 1 ≤ 2 ^ 24; decide) G (fun D2 h10 G => ?_)
    refine r_addwords (ys := [.rp]) G (hw9.mono fun q hq => .tail _ hq) (wdlist (by walk_at "m:fa")) (by simp; omega) ?_
    intro v11 h11 nw11 hs11 G hw11
    refine hq _ _ _ nw11 n6 _ _ (fun q hq => hs11 _ (.tail _ (hs9 _ (.tail _ (hs6 _ hq))))) (by show n6 ≤ n + 25; omega) (hp.mono fun q hq => hs11 _ (.tail _ (hs9 _ (.tail _ hq)))) G.G hw11 (by show _ ≤ 19; simp; omega) ?_
    exact ((NoFin.app (by unfold NoFin; decide) hf6).app (by unfold NoFin; decide))
  refine wpAny_execs_nil ?_
  refine wpAny_execs_cons ?_
  try k_fold
  refine wpAny_Return_some ?_
  refine wpAny_IfExp ?_
  refine wpAny_isTrue_Compare1 ?_
  walk_at "m:loc"
  refine r_intN ?_
  refine PyProof.Rows.eq_int ?_
  refine wpAny_truthy_bool ?_
  refine ifs (fun hb4 => ?_) (fun hb4 => ?_)
  · refine wpAny_BinOp ?_
    refine wpAny_BinOp ?_
    refine wpAny_BinOp ?_
    refine List_ ?_
    walk_at "m:strs"
    refine r_list (by show 2 ≤ 2 ^ 24; decide) G (fun D h8 G => ?_)
    walk_at "m:loc"
    refine r_addwords (xs := [.lp, .join]) G (wdlist (by walk_at "m:fa")) (hw6.mono fun q hq => .tail _ hq) (by simp; omega) ?_
    intro v9 h9 nw9 hs9 G hw9
    refine b_gen2 (room := 8) (L := 8) (c := 10) (i := (0 : Nat)) (ih 0 (by omega) (by omega)) G (by walk_at "m:has") (g_law_paper_words w) (keep_law w).2.2.2.1 .head ((hR _).le (by omega)) hH (hp.mono fun q hq => hs9 _ (.tail _ hq)) (by have : n + 25 ≤ 900000 := hn; omega) ?_ ?_
    · refine wpAny_BinOp ?_
      walk_at "m:loc"
      refine r_intN ?_
      refine r_sub ?_
      intro ts2
      rw [show ((0 + 1 : Nat) : Int) - 1 = ((0 : Nat) : Int) by omega]
      exact ⟨_, _, _, rfl, rfl, G⟩
    intro h16 tk16 o16 nw16 n16 v16 ws16 hs16 hn16 hp G hw16 hl16 hf16
    refine r_addwords G (hw9.mono hs16) hw16 (by simp; omega) ?_
    intro v17 h17 nw17 hs17 G hw17
    refine List_ ?_
    walk_at "m:strs"
    refine r_list (by show 1 ≤ 2 ^ 24; decide) G (fun D2 h10 G => ?_)
    refine r_addwords (ys := [.rp]) G (hw17.mono fun q hq => .tail _ hq) (wdlist (by walk_at "m:fa")) (by simp; omega) ?_
    intro v11 h11 nw11 hs11 G hw11
    refine hq _ _ _ nw11 n16 _ _ (fun q hq => hs11 _ (.tail _ (hs17 _ (hs16 _ (hs9 _ (.tail _ (hs6 _ hq))))))) (by show n16 ≤ n + 25; omega) (hp.mono fun q hq => hs11 _ (.tail _ (hs17 _ hq))) G.G hw11 (by show _ ≤ 19; simp; omega) ?_
    exact (((NoFin.app (by unfold NoFin; decide) hf6).app hf16).app (by unfold NoFin; decide))
  · refine id ?_
    refine wpAny_BinOp ?_
    refine wpAny_BinOp ?_
    refine List_ ?_
    walk_at "m:strs"
    refine r_list (by show 3 ≤ 2 ^ 24; decide) G (fun D h8 G => ?_)
    walk_at "m:loc"
    refine r_addwords (xs := [.lp, .under, .f]) G (wdlist (by walk_at "m:fa")) (hw6.mono fun q hq => .tail _ hq) (by simp; omega) ?_
    intro v9 h9 nw9 hs9 G hw9
    refine List_ ?_
    walk_at "m:strs"
    refine r_list (by show 1 ≤ 2 ^ 24; decide) G (fun D2 h10 G => ?_)
    refine r_addwords (ys := [.rp]) G (hw9.mono fun q hq => .tail _ hq) (wdlist (by walk_at "m:fa")) (by simp; omega) ?_
    intro v11 h11 nw11 hs11 G hw11
    refine hq _ _ _ nw11 n6 _ _ (fun q hq => hs11 _ (.tail _ (hs9 _ (.tail _ (hs6 _ hq))))) (by show n6 ≤ n + 25; omega) (hp.mono fun q hq => hs11 _ (.tail _ (hs9 _ (.tail _ hq)))) G.G hw11 (by show _ ≤ 19; simp; omega) ?_
    exact ((NoFin.app (by unfold NoFin; decide) hf6).app (by unfold NoFin; decide))
end
section
variable [OSC]
theorem fa2_take {α β : Type} {R : α → β → Prop} {l : List α} {m : List β} (h : Fa2 R l m) : ∀ k : Nat, Fa2 R (l.take k) (m.take k) := by
  induction h with
  | nil => intro k; simp; exact .nil
  | cons a _ ih => intro k; cases k with
    | zero => exact .nil
    | succ k => exact .cons a (ih k)
theorem fa2_drop {α β : Type} {R : α → β → Prop} {l : List α} {m : List β} (h : Fa2 R l m) : ∀ k : Nat, Fa2 R (l.drop k) (m.drop k) := by
  induction h with
  | nil => intro k; simp; exact .nil
  | cons a hh ih => intro k; cases k with
    | zero => exact .cons a hh
    | succ k => exact ih k
theorem fa2_mem {α β : Type} {R : α → β → Prop} {P : β → Prop} : ∀ (l : List α), (∀ a ∈ l, ∃ b, R a b ∧ P b) → ∃ m, Fa2 R l m ∧ ∀ b ∈ m, P b
  | [], _ => ⟨[], .nil, fun b hb => nomatch hb⟩
  | a :: l, h => by
    obtain ⟨b, hb, pb⟩ := h a (.head _)
    obtain ⟨m, hm, pm⟩ := fa2_mem l fun a ha => h a (.tail _ ha)
    refine ⟨b :: m, .cons hb hm, fun c hc => ?_⟩
    rcases List.mem_cons.mp hc with rfl | hc
    · exact pb
    · exact pm c hc
section
variable {w : World} {mg mb : Str → Option Value} {h₀ h h' : Heap} {env : Env} {ns gs : List Str} {vs vs' : List (Option Value)} {mu nw fr : Led} {z : Shared} {tk : Nat} {A : Around} {E Q : Value → Shared → Prop}
theorem GS.lib {D : Addr} {o : Obj} {m : Str → Option Value} (G : GS w mg mb h₀ env ns gs vs mu nw h) (F : Fr h₀ env.locals h' m) (hl : LV ns vs m) (N : News h₀ env.locals h' ((D, o) :: (mu ++ nw))) (hD : h.objs.size ≤ D) : GS w mg mb h₀ env ns gs vs mu ((D, o) :: nw) h' := by
  have hDn := N _ (.head _)
  have N2 : News h₀ env.locals h' (mu ++ nw) := fun p hp => N p (.tail _ hp)
  have G1 := G.back (mu' := mu) (nw' := nw) F hl N2 G.G.nd G.G.apart
  have fresh : ∀ p ∈ mu ++ nw, p.1 ≠ D := fun p hp => Nat.ne_of_lt (Nat.lt_of_lt_of_le (Heap.lt_size (G.G.has p hp).1) hD)
  refine G1.with ⟨G1.G.stays, G1.G.le, fun p hp => ?_, G1.G.nd, fun p hp q hq => ?_⟩ (fun o e => e) fun p hp => ?_
  · simp only [List.mem_append, List.mem_cons] at hp
    rcases hp with hp | rfl | hp
    · exact G1.G.has p (List.mem_append_left _ hp)
    · exact ⟨hDn.1, hDn.2.2⟩
    · exact G1.G.has p (List.mem_append_right _ hp)
  · rcases List.mem_cons.mp hq with rfl | hq
    · exact fresh p (List.mem_append_left _ hp)
    · exact G1.G.apart p hp q hq
  · simp only [List.mem_append, List.mem_cons] at hp
    rcases hp with hp | rfl | hp
    · exact G1.ne p (List.mem_append_left _ hp)
    · exact hDn.2.1
    · exact G1.ne p (List.mem_append_right _ hp)
theorem r_slicelist {value slice : Expr} {l : Addr} {ys : List Value} {n : Nat} {vl vu vk : Value} {lo hi st : Option Int} {ops : List Value} (G : GS w mg mb h₀ env ns gs vs mu nw h) (hl : (l, lstO ys n) ∈ nw) (hsz : ys.length ≤ 1000) (pl : IsPart vl lo) (pu : IsPart vu hi) (pk : IsPart vk st) (h0 : st ≠ some 0)
    (hq : ∀ D h', GS w mg mb h₀ env ns gs vs mu ((D, lst (slicePick ys.toArray lo hi st).toList) :: nw) h' → Q (.ref D) (S z h' tk))
    (hs : subscripted slice false (.ref l) (.ref h.objs.size) = operate ops (getItem (.ref l) (.ref h.objs.size)) := by with_unfolding_all rfl) :
    wpAny (model PG w) A (subscriptTail value slice (.ref l) (.ref h.objs.size)) Q E (S z (h.push { cls := .type "slice", data := .fields #[vl, vu, vk] }) tk) := by
  obtain ⟨m, F, hlv⟩ := G.fr
  have il : h.IsList l ys.toArray := ⟨_, G.G.get hl, rfl, n, rfl⟩
  have N := G.news
  refine tail_any (Heap.IsList.typeIs (s := S z (h.push { cls := .type "slice", data := .fields #[vl, vu, vk] }) tk) (il.push _)) list_getitem_lookup
    (wpAny_getItem_list_slice (il.push _) (Heap.IsSliceOf.new ..) pl pu pk h0 ?_ (by rw [List.size_toArray]; exact sl_small hsz (by decide))) hs
  have N1 := News.push (F.push { cls := .type "slice", data := .fields #[vl, vu, vk] }) (N.grown fun _ _ e => Heap.get?_push_of_some _ e) { cls := .type "list", data := .seq (slicePick ys.toArray lo hi st) }
  have hge : h.objs.size ≤ (h.push { cls := .type "slice", data := .fields #[vl, vu, vk] }).objs.size := by rw [Heap.size_push]; exact Nat.le_succ _
  exact hq _ _ (G.lib ((F.push _).push _) hlv (by simpa using N1) hge)
end
end
section
variable [OSC]
noncomputable def poolWs : List Wd := [.lp, .rp, .cm, .cl, .ar, .eq, .ne, .ifw, .same, .vx, .vy, .a, .f, .lb, .told]
theorem pool284 (w : World) : ∃ l n, (KK w).lookup 284 = some (tupO l n) ∧ Fa2 IsW l poolWs:= by
  refine ⟨_, _, by with_unfolding_all rfl, ?_⟩
  unfold poolWs
  repeat (first | exact Fa2.nil | refine Fa2.cons ⟨_, rfl⟩ ?_)
section
variable {w : World} {mg mb : Str → Option Value} {h₀ h h' : Heap} {env : Env} {ns gs : List Str} {vs vs' : List (Option Value)} {mu nw fr : Led} {z : Shared} {tk : Nat} {A : Around} {E Q : Value → Shared → Prop} {u : Str} {v : Value} {xs : List Wd} {e : Expr} {p1 p2 p3 : Pos} {k : Int}
theorem w_upto (G : GS w mg mb h₀ env ns gs vs mu nw h) (hs : At ns vs u v) (hw : WdsAt nw v xs) (hl : xs.length ≤ 1000) (h0 : 0 ≤ k)
    (he : wpAny (model PG w) A (eval e env) (fun v' s' => ∃ t tk', v' = .int k t ∧ s' = S z h tk') E (S z h tk))
    (hq : ∀ v' h' nw' tk', (∀ q ∈ nw, q ∈ nw') → GS w mg mb h₀ env ns gs vs mu nw' h' → WdsAt nw' v' (xs.take k.toNat) → Q v' (S z h' tk')) :
    wpAny (model PG w) A (eval (.Subscript (.Name u p1) (.Slice none (some e) none p2) p3) env) Q E (S z h tk) := by
  obtain ⟨D, ys, n, rfl, hD, hf⟩ := hw
  refine Subscript_ ?_
  refine r_loc G hs ?_
  refine Slice_ns ?_
  try k_fold
  refine wpAny_mono he (fun v' s' ⟨t, tk', e1, e2⟩ => ?_) fun _ _ x => x
  subst e1 e2
  refine r_slicelist G hD (by rw [fa2_len hf]; exact hl) .none (.int k t) .none (by simp) fun D2 h2 G2 => ?_
  have ek : k = (k.toNat : Int) := tn_eq (by assumption)
  refine hq _ h2 _ tk' (fun q hq => .tail _ hq) G2 ⟨D2, _, 0, rfl, .head _, ?_⟩
  have e2 := slicePick_upto' ys.toArray k.toNat
  rw [← ek] at e2
  rw [e2]
  exact fa2_take hf k.toNat
theorem w_from (G : GS w mg mb h₀ env ns gs vs mu nw h) (hs : At ns vs u v) (hw : WdsAt nw v xs) (hl : xs.length ≤ 1000) (h0 : 0 ≤ k)
    (he : wpAny (model PG w) A (eval e env) (fun v' s' => ∃ t tk', v' = .int k t ∧ s' = S z h tk') E (S z h tk))
    (hq : ∀ v' h' nw' tk', (∀ q ∈ nw, q ∈ nw') → GS w mg mb h₀ env ns gs vs mu nw' h' → WdsAt nw' v' (xs.drop k.toNat) → Q v' (S z h' tk')) :
    wpAny (model PG w) A (eval (.Subscript (.Name u p1) (.Slice (some e) none none p2) p3) env) Q E (S z h tk) := by
  obtain ⟨D, ys, n, rfl, hD, hf⟩ := hw
  refine Subscript_ ?_
  refine r_loc G hs ?_
  refine Slice_sn ?_
  try k_fold
  refine wpAny_mono he (fun v' s' ⟨t, tk', e1, e2⟩ => ?_) fun _ _ x => x
  subst e1 e2
  refine r_slicelist G hD (by rw [fa2_len hf]; exact hl) (.int k t) .none .none (by simp) fun D2 h2 G2 => ?_
  have ek : k = (k.toNat : Int) := tn_eq (by assumption)
  refine hq _ h2 _ tk' (fun q hq => .tail _ hq) G2 ⟨D2, _, 0, rfl, .head _, ?_⟩
  have e2 := slicePick_from' ys.toArray k.toNat
  rw [← ek] at e2
  rw [e2]
  exact fa2_drop hf k.toNat
theorem mem_pick {items : Array Value} {lo hi st : Option Int} {v : Value} (h : v ∈ (slicePick items lo hi st).toList) : v ∈ items.toList := by
  unfold slicePick at h
  simp only [List.mem_filterMap] at h
  obtain ⟨i, _, e⟩ := h
  rw [← Array.getElem?_toList] at e
  exact List.mem_of_getElem? e
theorem isw_of {ys : List Value} {xs : List Wd} (h : Fa2 IsW ys xs) (hf : NoFin xs) : ∀ v ∈ ys, ∃ x, IsW v x ∧ x ≠ .fin:= by
  induction h with
  | nil => intro v hv; cases hv
  | cons a _ ih =>
    intro v hv
    rcases List.mem_cons.mp hv with rfl | hv
    · exact ⟨_, a, hf _ (.head _)⟩
    · exact ih (fun x hx => hf x (.tail _ hx)) v hv
/-- words[k:k + 2][::-1] -/
theorem w_turned {e1 e2 : Expr} {p4 p5 p6 p7 : Pos} {kc : Nat} {n0 : Nat} (G : GS w mg mb h₀ env ns gs vs mu nw h) (hs : At ns vs u v) (hw : WdsAt nw v xs) (hl : xs.length ≤ 1000) (hf : NoFin xs)
    (he1 : ∀ tk, wpAny (model PG w) A (eval e1 env) (fun v' s' => ∃ t tk', v' = .int (n0 : Nat) t ∧ s' = S z h tk') E (S z h tk))
    (he2 : ∀ tk, wpAny (model PG w) A (eval e2 env) (fun v' s' => ∃ t tk', v' = .int ((n0 : Nat) + 2) t ∧ s' = S z h tk') E (S z h tk))
    (hq : ∀ v' h' nw' tk' ws', (∀ q ∈ nw, q ∈ nw') → GS w mg mb h₀ env ns gs vs mu nw' h' → WdsAt nw' v' ws' → NoFin ws' → ws'.length + (xs.drop (n0 + 2)).length ≤ (xs.drop n0).length → Q v' (S z h' tk')) :
    wpAny (model PG w) A (eval (.Subscript (.Subscript (.Name u p1) (.Slice (some e1) (some e2) none p2) p3) (.Slice none none (some (.UnaryOp .USub (.Constant (.int 1) kc p4) p5)) p6) p7) env) Q E (S z h tk) := by
  obtain ⟨D, ys, n, rfl, hD, hfa⟩ := hw
  refine Subscript_ ?_
  refine Subscript_ ?_
  refine r_loc G hs ?_
  refine Slice_ss ?_
  try k_fold
  refine wpAny_mono (he1 _) (fun v' s' ⟨t, tk', e1, e2⟩ => ?_) fun _ _ x => x
  subst e1 e2
  try k_fold
  refine wpAny_mono (he2 _) (fun v' s' ⟨t2, tk2, e1, e2⟩ => ?_) fun _ _ x => x
  subst e1 e2
  refine r_slicelist G hD (by rw [fa2_len hfa]; exact hl) (.int _ t) (.int _ t2) .none (by simp) fun D2 h2 G2 => ?_
  have hlen1 : (slicePick ys.toArray (some (n0 : Int)) (some ((n0 : Int) + 2)) none).toList.length = min (n0 + 2) ys.length - min n0 ys.length := by
    have e2 : ((n0 : Int) + 2) = ((n0 + 2 : Nat) : Int) := rfl
    have c1 := clipAt_nat ys.toArray.size n0
    have c2 := clipAt_nat ys.toArray.size (n0 + 2)
    rw [e2, slicePick_plain]
    show (List.take (clipAt ys.toArray.size ((n0 + 2 : Nat) : Int) - clipAt ys.toArray.size (n0 : Int)) (List.drop (clipAt ys.toArray.size (n0 : Int)) ys)).length = _
    rw [c1, c2, List.length_take, List.length_drop, List.size_toArray]
    exact min_cut
  refine wpAny_Slice (wpAny_pure (wpAny_pure ?_))
  refine wpAny_UnaryOp ?_
  refine r_intN (h := h2) ?_
  refine PyProof.Rows.neg_int (s := S z h2 _) ?_
  have hxl := fa2_len hfa
  refine r_slicelist (h := h2) G2 (.head _) (by rw [hlen1]; exact cut_le hxl hl) .none .none (.int (-1) _) (by simp) fun D3 h3 G3 => ?_
  obtain ⟨ws', f', pf⟩ := fa2_mem (R := IsW) (P := fun x => x ≠ .fin) (slicePick (slicePick ys.toArray (some (n0 : Int)) (some ((n0 : Int) + 2)) none).toList.toArray none none (some (-1))).toList (fun a ha => by
    have h1 := mem_pick ha
    have h2 := mem_pick (items := ys.toArray) (by simpa using h1)
    exact isw_of hfa hf a (by simpa using h2))
  have hsz := slicePick_size_le (slicePick ys.toArray (some (n0 : Int)) (some ((n0 : Int) + 2)) none).toList.toArray none none (some (-1))
  have e3 := fa2_len f'
  refine hq _ h3 _ _ ws' (fun q hq => .tail _ (.tail _ hq)) G3 ⟨D3, _, 0, rfl, .head _, f'⟩ pf ?_
  have e4 : ((slicePick ys.toArray (some (n0 : Int)) (some ((n0 : Int) + 2)) none).toList.toArray).size = min (n0 + 2) ys.length - min n0 ys.length := by rw [List.size_toArray]; exact hlen1
  rw [e4] at hsz
  rw [Array.length_toList] at e3
  rw [List.length_drop, List.length_drop]
  exact cut_sum hsz e3 hxl
end
end
section
variable [OSC]
theorem layNew_led (t : SetTable) (es : Array (Int × Value)) (h : Int) (x : Value) : (layNew t es h x).2.1.led = t.led := by
  unfold layNew
  split
  · simp only [SetTable.put, SetTable.orStandIn]
    split <;> split <;> rfl
  · rfl
theorem relayAll_lp (t : SetTable) (es : Array (Int × Value)) (n : Nat) : (relayAll t es n).2.1.led = t.led ∧ ((relayAll t es n).2.1.plain = true → t.plain = true) := by
  unfold relayAll
  split
  · rename_i t' order e
    simp only [SetTable.relaid, SetTable.laid, Option.bind_eq_bind, Option.bind_eq_some_iff] at e
    obtain ⟨ow, h1, h2⟩ := e
    cases h2
    dsimp only
    split
    · exact ⟨rfl, id⟩
    · exact ⟨rfl, fun h => nomatch h⟩
  · exact ⟨rfl, fun h => nomatch h⟩
noncomputable abbrev byT (w : World) : Bool := w.params.followText "set-order"
/-- a set of texts, its table told as far as a walk over it wants it -/
inductive SetO (w : World) (o : Obj) (ks : List Str) : Prop
  | mk (es : _) (ep : _) (t : _) (hyp1 : o = { cls := .type "set", data := .set es ep t }) (hyp2 : ElemsOf (PySem.strKind PG w) es.toList) (hyp3 : t.fits es.size = true) (hyp4 : t.led = !byT w) (hyp5 : (t.plain = true → es.size = 0)) (hyp6 : (∀ k, k ∈ ks ↔ ∃ e ∈ es.toList, (PySem.strKind PG w).is k e.2 = true)) (hyp7 : es.size ≤ ks.length) : SetO w o ks
section
variable {w : World} {A : Around} {E : Value → Shared → Prop} {s : Shared}
theorem set_tail {g : Bool → Sem Unit} (hg : ∀ (b : Bool) (s₁ : Shared) (Q' : Unit → Shared → Prop), Q' () s₁ → wpAny (model PG w) A (g b) Q' E s₁)
    {a : Addr} {o : Obj} {es : Array (Int × Value)} {ep : Nat} {t : SetTable} (ho : s.heap.get? a = some o) (hd : o.data = .set es ep t) (hc : o.cls = .type "set" ∧ o.dict = none ∧ o.slots = #[])
    {es1 : Array (Int × Value)} {t2 : SetTable} {ks : List Str} (hel1 : ElemsOf (PySem.strKind PG w) es1.toList) (hmem1 : ∀ k, k ∈ ks ↔ ∃ e ∈ es1.toList, (PySem.strKind PG w).is k e.2 = true) (hks : es1.size ≤ ks.length)
    (hb1 : es1.size < scanBound) (hf2 : t2.fits es1.size = true) (hl : t2.led = !byT w) (hp2 : t2.plain = false) {wasDummy : Bool} {R : Option Bool → Shared → Prop}
    (h : ∀ h' o', Heap.SameBut a s.heap h' → h'.get? a = some o' → SetO w o' ks → R (some true) { s with heap := h' }) :
    wpAny (model PG w) A (do
        storeSet a es1 t2
        if (!wasDummy && t2.tooFull) = true then do
            g (relayAll t2 es1 (SetTable.grown es1.size)).2.2
            storeSet a (relayAll t2 es1 (SetTable.grown es1.size)).1 (relayAll t2 es1 (SetTable.grown es1.size)).2.1
            pure (some true)
          else pure (some true)) R E s := by
  obtain ⟨c1, c2, c3⟩ := hc
  obtain ⟨oc, od, odt, osl⟩ := o
  simp only at hd c1 c2 c3
  subst hd c1 c2 c3
  refine wpAny_bind (wpAny_storeSet_of ho rfl ?_ (fits_of_scanBound hb1))
  have hg1 : (s.heap.update a (Obj.putSet es1 t2)).get? a = some { cls := .type "set", data := .set es1 (ep + 1) t2 } := Heap.get?_update_self (Obj.putSet es1 t2) ho rfl
  have hsb1 := Heap.SameBut.update s.heap a (Obj.putSet es1 t2)
  split
  · have hp := relayAll_perm t2 es1 (SetTable.grown es1.size)
    have hfr := relayAll_fits t2 es1 (SetTable.grown es1.size)
    have hlp := relayAll_lp t2 es1 (SetTable.grown es1.size)
    generalize hRl : relayAll t2 es1 (SetTable.grown es1.size) = Rl at hp hfr hlp ⊢
    obtain ⟨es2, t3, gave2⟩ := Rl
    dsimp only at hp hfr hlp ⊢
    have hel2 := hel1.perm hp
    have hsz : es2.size = es1.size := by rw [← Array.length_toList, hp.length_eq, Array.length_toList]
    refine wpAny_bind (hg _ _ _ ?_)
    refine wpAny_bind (wpAny_storeSet_of hg1 rfl ?_ (fits_of_scanBound (by rw [hsz]; exact hb1)))
    refine wpAny_pure (h _ _ (hsb1.trans (Heap.SameBut.update _ a _)) (Heap.get?_update_self (Obj.putSet es2 t3) hg1 rfl) ⟨es2, _, t3, rfl, hel2, hfr, hlp.1.trans hl, fun q => ?_, fun k' => (hmem1 k').trans ⟨fun ⟨e, he, q⟩ => ⟨e, hp.mem_iff.mpr he, q⟩, fun ⟨e, he, q⟩ => ⟨e, hp.mem_iff.mp he, q⟩⟩, by rw [hsz]; exact hks⟩)
    have := hlp.2 q
    rw [hp2] at this; cases this
  · exact wpAny_pure (h _ _ hsb1 hg1 ⟨es1, _, t2, rfl, hel1, hf2, hl, fun q => (by rw [hp2] at q; cases q), hmem1, hks⟩)
theorem set_add {a : Addr} {o : Obj} {ks : List Str} {k : Str} {t0 : Tok} {Q : Bool → Shared → Prop} (ho : s.heap.get? a = some o) (hS : SetO w o ks) (hroom : ks.length + 1 < scanBound)
    (h : ∀ b h' o', Heap.SameBut a s.heap h' → h'.get? a = some o' → SetO w o' (ks ++ [k]) → Q b { s with heap := h' }) :
    wpAny (model PG w) A (setAddHashed a (.str k t0) ((PySem.strKind PG w).hash k)) Q E s := by
  obtain ⟨es, ep, t, rfl, hel, hf, hl, hpl, hmem, hks⟩ := hS
  have hkey : (PySem.strKind PG w).is k (.str k t0) = true := PySem.strKind_is PG w k t0
  have hsc : (Value.str k t0).scannable = true := rfl
  have hb : es.size < scanBound := by omega
  have hb1 : es.size + 1 < scanBound := by omega
  unfold setAddHashed setAddHashedIn
  refine wpAny_holding (wpAny_bind (wpAny_setState_of ho rfl hf ?_))
  dsimp only
  rw [byScan_of hsc hb hel]
  simp only [↓reduceIte]
  unfold setAddByScan
  refine wpAny_bind ?_
  refine wpAny_bind (wpAny_rule ?_)
  refine wpAny_bind (wpAny_setScan_of hkey ho rfl hf hel ?_)
  cases hr : List.findIdx? (fun e => (PySem.strKind PG w).is k e.2) es.toList with
  | some j =>
    dsimp only
    obtain ⟨hj, hpj, _⟩ := List.findIdx?_eq_some_iff_getElem.mp hr
    refine wpAny_pure (wpAny_pure ?_)
    have e : s = { s with heap := s.heap } := by cases s; rfl
    rw [e]
    refine h _ _ _ (Heap.SameBut.refl a s.heap) ho ⟨es, ep, t, rfl, hel, hf, hl, hpl, fun k' => ?_, by simp; omega⟩
    rw [List.mem_append, hmem k', List.mem_singleton]
    refine ⟨fun hk => hk.elim id fun e => ?_, .inl⟩
    subst e
    exact ⟨es.toList[j], List.getElem_mem hj, hpj⟩
  | none =>
    dsimp only
    have hgw : ∀ (b : Bool) {s₁ : Shared} {Q' : Unit → Shared → Prop}, Q' () s₁ → wpAny (model PG w) A (match b with | true => rule "set.scan.the-table-gave-way" | false => pure ()) Q' E s₁ :=
      fun b s₁ Q' hq => by cases b <;> first | exact wpAny_pure hq | exact wpAny_rule hq
    have hperm := layNew_perm t es ((PySem.strKind PG w).hash k) (.str k t0)
    have hfits := layNew_fits t es ((PySem.strKind PG w).hash k) (.str k t0)
    have hled := layNew_led t es ((PySem.strKind PG w).hash k) (.str k t0)
    generalize hL : layNew t es ((PySem.strKind PG w).hash k) (.str k t0) = L at hperm hfits hled ⊢
    obtain ⟨es1, t1, wasDummy, gave⟩ := L
    dsimp only at hperm hfits hled ⊢
    rw [Array.toList_push] at hperm
    have hel1 : ElemsOf (PySem.strKind PG w) es1.toList := (hel.push hkey hsc).perm hperm
    have hmem1 : ∀ k', k' ∈ ks ++ [k] ↔ ∃ e ∈ es1.toList, (PySem.strKind PG w).is k' e.2 = true := fun k' => by
      rw [List.mem_append, hmem k', List.mem_singleton]
      constructor
      · rintro (⟨e, he, hp⟩ | rfl)
        · exact ⟨e, hperm.mem_iff.mpr (List.mem_append_left _ he), hp⟩
        · exact ⟨_, hperm.mem_iff.mpr (List.mem_append_right _ (.head _)), hkey⟩
      · rintro ⟨e, he, hp⟩
        rcases List.mem_append.mp (hperm.mem_iff.mp he) with he | he
        · exact .inl ⟨e, he, hp⟩
        · rw [List.mem_singleton] at he; subst he
          exact .inr ((PySem.strKind PG w).inj _ k' k hp hkey)
    have hsz1 : es1.size = es.size + 1 := by rw [← Array.length_toList, hperm.length_eq, List.length_append, Array.length_toList]; rfl
    refine wpAny_bind (hgw _ ?_)
    split
    · refine wpAny_bind ?_
      rw [hashByValue_scannable 8 hsc]
      refine wpAny_pure ?_
      refine set_tail (ks := ks ++ [k]) ?_ ho rfl ⟨rfl, rfl, rfl⟩ hel1 hmem1 (by simp; omega) (by omega) ?_ ?_ ?_ ?_
      · intro b s₁ Q' hq; cases b <;> first | exact wpAny_pure hq | exact wpAny_rule hq
      · show ({ t1 with plain := false } : SetTable).fits _ = true
        exact SetTable.fits_plain_off hfits
      · exact hled.trans hl
      · rfl
      · intro h' o' hsb ho' hS'; dsimp only; exact wpAny_pure (h _ _ _ hsb ho' hS')
    · rename_i hnp
      have hnp : t1.plain = false := by cases hq : t1.plain with
        | false => rfl
        | true => exact absurd hq hnp
      refine wpAny_bind (wpAny_pure ?_)
      simp only [↓reduceIte]
      refine set_tail (ks := ks ++ [k]) ?_ ho rfl ⟨rfl, rfl, rfl⟩ hel1 hmem1 (by simp; omega) (by omega) hfits (hled.trans hl) hnp ?_
      · intro b s₁ Q' hq; cases b <;> first | exact wpAny_pure hq | exact wpAny_rule hq
      · intro h' o' hsb ho' hS'; dsimp only; exact wpAny_pure (h _ _ _ hsb ho' hS')
end
end
section
variable [OSC]
theorem StrsAre.get {vs : List Value} {ss : List Str} (h : StrsAre vs ss) {i : Nat} {v : Value} (e : vs[i]? = some v) : ∃ k t, v = .str k t ∧ ss[i]? = some k:= by
  induction h generalizing i with
  | nil => cases e
  | cons y t _ ih => cases i with
    | zero => cases e; exact ⟨y, t, rfl, rfl⟩
    | succ i => exact ih e
theorem setO_nil (w : World) : SetO w { cls := .type "set", dict := none, data := .set #[] 0 (.fresh 0 0 (!byT w)) } [] :=
  ⟨#[], 0, _, rfl, fun e he => by simp at he, rfl, rfl, fun _ => rfl, fun k => by simp, by simp⟩
section
variable {w : World} {A : Around} {R : Result → Shared → Prop} {I : Addr} {fp wr : List Addr} {G : Array GenState → Array GenState → Prop} {n : Nat} {P : Nat → Value → Prop} {St : Nat → Shared → Prop}
theorem set_loop (W : WalksS PG w A.in1 I fp wr G n P St) (Sa : Addr) (hSf : Sa ∉ fp) (ks : List Str) (hkn : ks.length = n)
    (hval : ∀ i v, P i v → ∃ k t, v = .str k t ∧ ks[i]? = some k) (hb : n + 1 < scanBound) :
    ∀ (k i : Nat) (s : Shared) (o : Obj), n - i = k → i ≤ n → St i s → s.heap.get? Sa = some o → SetO w o (ks.take i) →
      (∀ s' o', Moved (Sa :: wr) G s s' → s'.heap.get? Sa = some o' → SetO w o' ks → R (.ok (.ret .none)) s') →
      codeAny (model PG w) A (.builtin "set.update.loop" ⟨[.ref Sa, .ref I], []⟩) R s := by
  have hSw : Sa ∉ wr := fun h => hSf (W.sub _ h)
  have hsub : ∀ b ∈ wr, b ∈ Sa :: wr := fun b hb => List.mem_cons_of_mem _ hb
  intro k
  induction k with
  | zero =>
    intro i s o hk hi hst ho hS hR
    have hin : i = n := Nat.le_antisymm (by assumption) (Nat.le_of_sub_eq_zero (by assumption))
    subst hin
    refine codeAny_builtin PyProof.Rows.F.entry_set_update_loop ?_
    rw [Around.under_plainId PyProof.Rows.F.plain_set_update_loop _]
    show wpAny _ A.in1 (pyNext (.ref I) >>= _) _ _ s
    refine wpAny_bind (W.done s _ _ hst fun s' hm => ?_)
    show wpAny _ A.in1 (ret Value.none) _ _ s'
    rw [List.take_of_length_le (by omega)] at hS
    exact wpAny_pure (hR s' o (hm.mono hsub) (hm.heap Sa _ hSw ho) hS)
  | succ k ih =>
    intro i s o hk hi hst ho hS hR
    have hlt : i < n := nsub_pos (by assumption)
    refine codeAny_builtin PyProof.Rows.F.entry_set_update_loop ?_
    rw [Around.under_plainId PyProof.Rows.F.plain_set_update_loop _]
    show wpAny _ A.in1 (pyNext (.ref I) >>= _) _ _ s
    refine wpAny_bind (W.item i s _ _ hlt hst fun v s' hP hst' hm => ?_)
    obtain ⟨key, t, rfl, hkey⟩ := hval i v hP
    have ho' := hm.heap Sa _ hSw ho
    show wpAny _ A.in1 (holding [Value.str key t] (setAdd Sa (.str key t)) >>= _) _ _ s'
    refine wpAny_bind (wpAny_holding ?_)
    unfold setAdd
    refine wpAny_holding ?_
    refine wpAny_bind ((PySem.strKind PG w).pyHash (k := key) (PySem.strKind_is PG w key t) ?_)
    refine set_add (s := { s' with toks := s'.toks + 1 }) ho' hS (by rw [List.length_take]; omega) fun b h' o2 hsb ho2 hS2 => ?_
    have htk : ks.take i ++ [key] = ks.take (i + 1) := by
      rw [List.take_succ, hkey]; rfl
    rw [htk] at hS2
    refine wpAny_pure ⟨plainId_quiet PyProof.Rows.F.plain_set_update_loop _, ih (i + 1) _ o2 (nsub_eq (by assumption)) hlt (W.frame _ s' _ _ hst' (Nat.le_succ _) fun b hb o e => ?_) ho2 hS2 fun s'' o'' hm'' ho'' hS'' => ?_⟩
    · rw [hsb.2 b (fun h : b = Sa => hSf (by rw [← h]; exact hb))]; exact e
    · refine hR s'' o'' (Moved.trans W.gtrans ((hm.mono hsub).then_heap (Nat.le_succ _) fun b o hb e => ?_) hm'') ho'' hS''
      rw [hsb.2 b (fun h : b = Sa => hb (by rw [h]; exact List.mem_cons_self))]; exact e
end
section
variable {w : World} {A : Around} {E : Value → Shared → Prop} {s : Shared}
theorem code_set_new (a : Value) {Q₁ : Value → Shared → Prop}
    (h : Q₁ (.ref s.heap.objs.size) { s with heap := s.heap.push { cls := .type "set", dict := none, data := .set #[] 0 (.fresh 0 0 (!byT w)) } }) :
    codeAny (model PG w) A (.call (.builtin "set.__new__") ⟨[.type "set", a], []⟩) (wants Q₁ E) s := by
  refine codeAny_of_tree ?_
  show wpAny _ A.in1 (do checkBuiltinCall "set.__new__" ⟨[.type "set", a], []⟩; again (.builtin "set.__new__" ⟨[.type "set", a], []⟩)) _ _ s
  refine wpAny_bind (wpAny_of_eq (PySem.F.newCall_set_1 a) (wpAny_pure ⟨plainId_quiet PySem.F.plain_set_new _, codeAny_builtin PySem.F.entry_set_new ?_⟩))
  rw [Around.under_plainId PySem.F.plain_set_new _]
  unfold Builtin.«set.__new__» Builtin.Frozenset.newClass
  have hsub := sub_set_self
  obtain ⟨hp, g, d, tk, os⟩ := s
  dsimp only
  wp_walk
  refine wpAny_askSetting (wpAny_pure ?_)
  dsimp only
  simp only [newObj]
  refine wpAny_bind (wpAny_alloc (wpAny_pure ?_))
  exact wpAny_pure h
theorem set_init_list {w : World} {A : Around} {E : Value → Shared → Prop} {Q : PySem.Fin → Shared → Prop} {hp : Heap} {g : Array GenState} {d : Drawn} {tk : Nat} {os : OsState} {a l : Addr} {b : Bool} {odict : Option Addr} {items : Array Value} {nl : Nat} {oslots : Array (Option Value)}
    (hS : hp.get? a = some { cls := .type "set", dict := none, data := .set #[] 0 (.fresh 0 0 b) })
    (hol' : hp.get? l = some { cls := .type "list", dict := odict, data := .seq items nl, slots := oslots })
    (h : wpAny (model PG w) A (pyIter (.ref l)) (fun it s' => wpAny (model PG w) A (runValue (Code.builtin "set.update.loop" ⟨[.ref a, it], []⟩) >>= fun _ => pure ()) (fun _ s' => wpAny (model PG w) A (ret Value.none) Q E s') E s') E ⟨hp, g, d, tk, os⟩) :
    wpAny (model PG w) A (Builtin.«set.__init__» ⟨[.ref a, .ref l], []⟩) Q E ⟨hp, g, d, tk, os⟩ := by
  have hT : Shared.TypeIs ⟨hp, g, d, tk, os⟩ (.ref a) "set" := ⟨_, hS, rfl⟩
  have hsls := PySem.F.sub_list_set
  have hslf := PySem.F.sub_list_frozenset
  have hne : (Value.type "list" == Value.type "dict") = false := by decide
  have hl1 : hp.IsList l items := ⟨_, hol', rfl, nl, rfl⟩
  unfold Builtin.«set.__init__» noKeywords Builtin.Frozenset.updateFrom
  generalize hPI : pyIter = PI
  wp_walk
  subst hPI
  exact h
set_option maxHeartbeats 3200000 in
theorem call_set_strs {l : Addr} {items : Array Value} {ks : List Str} {Q : Value → Shared → Prop}
    (hh : A.handled = none) (hl : s.heap.IsList l items) (hi : StrsAre items.toList ks) (hb : items.size + 1 < scanBound)
    (h : ∀ (h' : Heap) (tk : Nat) (o : Obj), h'.get? s.heap.objs.size = some o → SetO w o ks →
      (∀ b o, b < s.heap.objs.size → s.heap.get? b = some o → h'.get? b = some o) → Q (.ref s.heap.objs.size) { s with heap := h', toks := tk }) :
    wpAny (model PG w) A (call (.type "set") [.ref l]) Q E s := by
  obtain ⟨c, tl, hmro⟩ := PySem.F.called_set.mro
  have hmade := PySem.F.called_set.made
  have hsub := PySem.F.called_set.sub
  refine wpAny_call (codeAny_of_tree ?_)
  show wpAny _ _ (callAny (.type "set") _) _ _ _
  refine wpAny_pure ⟨Code.quiet_builtin _ (by decide +kernel), codeAny_builtin PySem.F.entry_type_call ?_⟩
  rw [Around.under_plain (weight_type_call_type "set" [.ref l] []) rfl]
  have h1 := PySem.F.called_set.notType
  have h2 := PySem.F.called_set.canCreate
  have hct := PySem.F.typeCall_set_1 (.ref l)
  repeat (any_goals (first | assumption | wp_step))
  refine codeAny_mono (code_set_new (.ref l) (E := E) (Q₁ := fun obj s₁ => obj = .ref s.heap.objs.size ∧ s₁ = { s with heap := s.heap.push { cls := .type "set", dict := none, data := .set #[] 0 (.fresh 0 0 (!byT w)) } }) ⟨rfl, rfl⟩) fun r s₁ hr => ?_
  cases r with
  | error e => exact hr
  | ok fl =>
    cases fl with
    | ret obj =>
      obtain ⟨rfl, rfl⟩ := hr
      have hS : (s.heap.push { cls := .type "set", dict := none, data := .set #[] 0 (.fresh 0 0 (!byT w)) }).get? s.heap.objs.size = some { cls := .type "set", dict := none, data := .set #[] 0 (.fresh 0 0 (!byT w)) } := Heap.get?_push_size _ rfl
      have hT : Shared.TypeIs { s with heap := s.heap.push { cls := .type "set", dict := none, data := .set #[] 0 (.fresh 0 0 (!byT w)) } } (.ref s.heap.objs.size) "set" := ⟨_, hS, rfl⟩
      have hli := PySem.F.called_set.init.lookup
      have hbi := PySem.F.called_set.init.bind (.ref s.heap.objs.size)
      repeat (any_goals (first | assumption | wp_step))
      refine codeAny_mono (codeAny_call_builtin (R := wants (fun r s₂ => r = .none ∧ Ex3 fun h' tk o => Al4 (s₂ = { s with heap := h', toks := tk }) (h'.get? s.heap.objs.size = some o) (SetO w o ks) ((∀ b o, b < s.heap.objs.size → s.heap.get? b = some o → h'.get? b = some o))) E) PySem.F.called_set.init.plain PySem.F.entry_set_init (check_set_init_1 hT ?_)) fun r₂ s₂ hr₂ => ?_
      · obtain ⟨ol, hol, hcl, nl, hdl⟩ := hl
        obtain ⟨ocls, odict, odata, oslots⟩ := ol
        simp only at hcl hdl
        subst hcl; subst hdl
        have hol' : (s.heap.push { cls := .type "set", dict := none, data := .set #[] 0 (.fresh 0 0 (!byT w)) }).get? l = some { cls := .type "list", dict := odict, data := .seq items nl, slots := oslots } := Heap.get?_push_of_some _ hol
        have hl1 : (s.heap.push { cls := .type "set", dict := none, data := .set #[] 0 (.fresh 0 0 (!byT w)) }).IsList l items := ⟨_, hol', rfl, nl, rfl⟩
        refine set_init_list hS hol' ?_
        refine wpAny_pyIter_list hl1 ?_
        refine wpAny_bind (wpAny_runValue ?_)
        have hlS : l < s.heap.objs.size := Heap.lt_size hol
        have hh3 : A.in1.in1.in1.handled = none := by simp [hh]
        have hneI : l ≠ (s.heap.push { cls := .type "set", dict := none, data := .set #[] 0 (.fresh 0 0 (!byT w)) }).objs.size := by
          rw [Heap.size_push]; exact Nat.ne_of_lt (Nat.lt_succ_of_lt hlS)
        have hSf : s.heap.objs.size ∉ [(s.heap.push { cls := .type "set", dict := none, data := .set #[] 0 (.fresh 0 0 (!byT w)) }).objs.size, l] := by
          rw [Heap.size_push]; simp only [List.mem_cons, List.mem_singleton, List.not_mem_nil, or_false, not_or]
          exact ⟨Nat.ne_of_lt (Nat.lt_succ_self _), Nat.ne_of_gt hlS⟩
        have hlen : ks.length = items.size := by have := hi.length; simp at this; omega
        refine set_loop ((Walks.list hh3 _ l hneI items).toS) s.heap.objs.size
          hSf ks hlen (fun i v hv => StrsAre.get hi (by rw [Array.getElem?_toList]; exact hv)) hb (items.size - 0) 0 _ _ (by omega) (Nat.zero_le _)
          ⟨⟨_, Heap.get?_push_size _ rfl, rfl, rfl⟩, (hl1.push _)⟩ (Heap.get?_push_of_some _ hS) (by rw [List.take_zero]; exact setO_nil w) ?_
        intro s' o' hm ho' hS'
        obtain ⟨h', g', d', tk', os'⟩ := s'
        have eg : g' = s.gens := hm.gens
        have ed : d' = s.drawn := hm.drawn
        have eo : os' = s.os := hm.os
        subst eg; subst ed; subst eo
        show wpAny _ _ _ _ _ _
        refine wpAny_pure ?_
        show wpAny _ _ (ret Value.none) _ _ _
        refine wpAny_pure ⟨rfl, h', tk', o', rfl, ho', hS', fun b o hb e => ?_⟩
        have hb1 : b ≠ s.heap.objs.size := Nat.ne_of_lt hb
        have hb2 : b ≠ (s.heap.push { cls := .type "set", dict := none, data := .set #[] 0 (.fresh 0 0 (!byT w)) }).objs.size := by
          rw [Heap.size_push]; exact Nat.ne_of_lt (Nat.lt_succ_of_lt hb)
        exact hm.heap b o (by simp only [List.mem_cons, List.mem_singleton, List.not_mem_nil, or_false, not_or]; exact ⟨hb1, hb2⟩) (Heap.get?_push_of_some _ (Heap.get?_push_of_some _ e))
      · cases r₂ with
        | error e => exact hr₂
        | ok fl₂ =>
          cases fl₂ with
          | ret r =>
            obtain ⟨rfl, h', tk, o', rfl, ho', hS', hk'⟩ := hr₂
            repeat (any_goals (first | assumption | wp_step))
            exact h _ _ _ ho' hS' hk'
          | _ => exact hr₂.elim
    | _ => exact hr.elim
end
end
section
variable [OSC]
theorem slot_sit_next : Slot "set_iterator" "__next__" "set_iterator.__next__" :=
  .of (owner := "set_iterator") (n := "__next__") (by rw [typeLookup_type, builtinLookup_eq_fast]; kernel_rfl) (by decide +kernel) (by decide +kernel) (by decide +kernel)
    (by first | exact .inl (by decide +kernel) | exact .inr (by decide +kernel)) (by rw [isSubtype_type]; kernel_rfl)
theorem entry_sit_next : entryFor table "set_iterator.__next__" = some Builtin.«set_iterator.__next__» := entryFor_of_tree (by kernel_rfl)
theorem owner_sit : Manifest.owners.lookup (String.ofList ['r', 'o', 't', 'a', 'r', 'e', 't', 'i', '_', 't', 'e', 's'].reverse) = some Manifest.sig_set_iterator := by kernel_rfl
theorem args_sit_next (a : Value) : argsOk "set_iterator.__next__" ⟨[a], []⟩ := by
  unfold argsOk; rw [signature?_of (id := "set_iterator.__next__") (n := ['_', '_', 't', 'x', 'e', 'n', '_', '_']) (o := ['r', 'o', 't', 'a', 'r', 'e', 't', 'i', '_', 't', 'e', 's']) (by kernel_rfl) owner_sit]; kernel_rfl
theorem slot_sit_iter : Slot "set_iterator" "__iter__" "set_iterator.__iter__" :=
  .of (owner := "set_iterator") (n := "__iter__") (by rw [typeLookup_type, builtinLookup_eq_fast]; kernel_rfl) (by decide +kernel) (by decide +kernel) (by decide +kernel)
    (by first | exact .inl (by decide +kernel) | exact .inr (by decide +kernel)) (by rw [isSubtype_type]; kernel_rfl)
theorem entry_set_iter : entryFor table "set.__iter__" = some Builtin.«frozenset.__iter__» :=
  entryFor_alias (id' := "frozenset.__iter__") (by kernel_rfl) rfl (by decide +kernel) (by kernel_rfl)
theorem entry_sit_iter : entryFor table "set_iterator.__iter__" = some Builtin.«dict_keyiterator.__iter__» :=
  entryFor_alias (id' := "dict_keyiterator.__iter__") (by kernel_rfl) rfl (by decide +kernel) (by kernel_rfl)
theorem args_sit_iter (a : Value) : argsOk "set_iterator.__iter__" ⟨[a], []⟩ := by
  unfold argsOk; rw [signature?_of (id := "set_iterator.__iter__") (n := ['_', '_', 'r', 'e', 't', 'i', '_', '_']) (o := ['r', 'o', 't', 'a', 'r', 'e', 't', 'i', '_', 't', 'e', 's']) (by kernel_rfl) owner_sit]; kernel_rfl
end
section
variable [OSC]
noncomputable abbrev sitO (first : Value) (i : Nat) (d : Addr) (n ep : Nat) : Obj := { cls := .type "set_iterator", data := .fields #[first, rawInt i, .ref d, rawInt n, rawInt ep] }
noncomputable abbrev setOb (es : Array (Int × Value)) (ep : Nat) (t : SetTable) : Obj := { cls := .type "set", data := .set es ep t }
/-- how a set is walked by its slots -/
structure SlotWay (w : World) (d : Addr) (es : Array (Int × Value)) (ep : Nat) (t : SetTable) (vs : List Value) (sl : Nat → Nat → Prop) : Prop where
  item : ∀ (A : Around) (E : Value → Shared → Prop) (s : Shared) (i slot : Nat) (v : Value) (Q : Option (Value × Nat) → Shared → Prop), s.heap.get? d = some (setOb es ep t) → sl i slot → vs[i]? = some v → (∀ slot', sl (i + 1) slot' → Q (some (v, slot')) s) → wpAny (model PG w) A (setNext d slot i ep) Q E s
  done : ∀ (A : Around) (E : Value → Shared → Prop) (s : Shared) (slot : Nat) (Q : Option (Value × Nat) → Shared → Prop), s.heap.get? d = some (setOb es ep t) → sl vs.length slot → Q none s → wpAny (model PG w) A (setNext d slot vs.length ep) Q E s
section
variable {w : World} {A : Around} {E : Value → Shared → Prop} {s : Shared} {es : Array (Int × Value)} {ep : Nat} {t : SetTable} {vs : List Value} {sl : Nat → Nat → Prop} {I d T : Addr} {i n slot : Nat} {v : Value}
theorem sit_type {first : Value} (h : s.heap.get? I = some (sitO first i d n ep)) : s.TypeIs (.ref I) "set_iterator" := ⟨_, h, rfl⟩
theorem sit_item {Q : Option Value → Shared → Prop} (W : SlotWay w d es ep t vs sl) (hf : t.fits es.size = true) (hI : s.heap.get? I = some (sitO (rawInt slot) i d es.size ep)) (hd : s.heap.get? d = some (setOb es ep t)) (hsl : sl i slot) (hv : vs[i]? = some v)
    (hQ : ∀ slot' h', sl (i + 1) slot' → h'.get? I = some (sitO (rawInt slot') (i + 1) d es.size ep) → Heap.SameBut I s.heap h' → Q (some v) { s with heap := h' }) : wpAny (model PG w) A (pyNext (.ref I)) Q E s := by
  unfold pyNext
  refine wpAny_bind (wpAny_attempt (wpAny_callSpecial?_slot (name := Str.ofString "__next__") (sit_type hI) slot_sit_next
    (wpAny_call_entry slot_sit_next (sit_type hI) entry_sit_next ?_ (args_sit_next _))))
  unfold Builtin.«set_iterator.__next__»
  refine wpAny_bind (m := slotArgs "__next__" 0 _) (wpAny_pure ?_)
  refine wpAny_bind (wpAny_fieldsOf hI rfl ?_)
  dsimp only [rawInt]
  refine wpAny_bind (wpAny_setEntries_of hd rfl hf ?_)
  rw [if_neg (by simp)]
  try dsimp only
  refine wpAny_bind (W.item _ _ _ i slot v _ hd hsl hv fun slot' hs' => ?_)
  try dsimp only
  refine wpAny_bind (wpAny_setField hI rfl (by simp) ?_)
  have h1 := Heap.get?_update_self (Obj.mapFields (·.setIfInBounds 0 (rawInt slot'))) hI rfl
  refine wpAny_bind (wpAny_setField h1 rfl (by simp) ?_)
  have h2 := Heap.get?_update_self (Obj.mapFields (·.setIfInBounds 1 (rawInt ((i : Int) + 1)))) h1 rfl
  exact wpAny_pure ⟨_, rfl, wpAny_pure (hQ slot' _ hs' h2 ((Heap.SameBut.update _ I _).trans (Heap.SameBut.update _ I _)))⟩
theorem sit_stop {R : Fin → Shared → Prop} {Q : Option Value → Shared → Prop} (hh : A.handled = none) {h : Heap} (hs : Heap.ExtBut I s.heap h) (hQ : ∀ h', Heap.ExtBut I s.heap h' → Q none { s with heap := h' }) :
    wpAny (model PG w) A.in1 (do let a ← newExc (.type "StopIteration") []; raiseNew a : Sem (Fin)) R (fun e s' => wpAny (model PG w) A (do if ← isInstance e (.type "StopIteration") then pure none else throw e) Q E s') { s with heap := h } := by
  refine wpAny_bind ?_
  simp only [newExc, newTuple]
  refine wpAny_bind (wpAny_newObj_type ?_ (by size_fits))
  refine wpAny_bind (m := firstArgMember _ _) (wpAny_of_eq (a := Value.none) (by first | rfl | (simp only [firstArgMember]; rfl)) ?_)
  refine wpAny_newObj_type ?_ (by size_fits)
  simp only [raiseNew]
  refine wpAny_bind (wpAny_handled ?_)
  rw [show A.in1.handled = none from hh]
  refine wpAny_bind (wpAny_pure (wpAny_throw ?_))
  refine wpAny_bind (wpAny_isInstance (T := "StopIteration") (b := true) ⟨_, Heap.get?_push_size _ rfl, rfl⟩ isSubtype_stop ?_)
  exact wpAny_pure (hQ _ ((hs.push _).push _))
theorem sit_done {Q : Option Value → Shared → Prop} (hh : A.handled = none) (W : SlotWay w d es ep t vs sl) (hf : t.fits es.size = true) (hI : s.heap.get? I = some (sitO (rawInt slot) vs.length d es.size ep)) (hd : s.heap.get? d = some (setOb es ep t)) (hsl : sl vs.length slot)
    (hQ : ∀ h', Heap.ExtBut I s.heap h' → Q none { s with heap := h' }) : wpAny (model PG w) A (pyNext (.ref I)) Q E s := by
  unfold pyNext
  refine wpAny_bind (wpAny_attempt (wpAny_callSpecial?_slot (name := Str.ofString "__next__") (sit_type hI) slot_sit_next
    (wpAny_call_entry slot_sit_next (sit_type hI) entry_sit_next ?_ (args_sit_next _))))
  unfold Builtin.«set_iterator.__next__»
  refine wpAny_bind (m := slotArgs "__next__" 0 _) (wpAny_pure ?_)
  refine wpAny_bind (wpAny_fieldsOf hI rfl ?_)
  dsimp only [rawInt]
  refine wpAny_bind (wpAny_setEntries_of hd rfl hf ?_)
  rw [if_neg (by simp)]
  try dsimp only
  refine wpAny_bind (W.done _ _ _ slot _ hd hsl ?_)
  try dsimp only
  refine wpAny_bind (wpAny_setField hI rfl (by simp) ?_)
  exact sit_stop (s := s) (I := I) hh (Heap.SameBut.update s.heap I (Obj.mapFields (·.setIfInBounds 2 Value.none))).extBut hQ
noncomputable abbrev idxT (idx : List Nat) : Obj := { cls := .type "tuple", data := .seq (idx.map fun i : Nat => rawInt i).toArray }
theorem dit_item {Q : Option Value → Shared → Prop} {idx : List Nat} {p : Nat} {hsh : Int} (hf : t.fits es.size = true) (hI : s.heap.get? I = some (sitO (.ref T) i d es.size ep)) (hT : s.heap.get? T = some (idxT idx)) (hd : s.heap.get? d = some (setOb es ep t)) (hp : idx[i]? = some p) (hv : es[p]? = some (hsh, v))
    (hQ : ∀ h', h'.get? I = some (sitO (.ref T) (i + 1) d es.size ep) → Heap.SameBut I s.heap h' → Q (some v) { s with heap := h' }) : wpAny (model PG w) A (pyNext (.ref I)) Q E s := by
  unfold pyNext
  refine wpAny_bind (wpAny_attempt (wpAny_callSpecial?_slot (name := Str.ofString "__next__") (sit_type hI) slot_sit_next
    (wpAny_call_entry slot_sit_next (sit_type hI) entry_sit_next ?_ (args_sit_next _))))
  unfold Builtin.«set_iterator.__next__»
  refine wpAny_bind (m := slotArgs "__next__" 0 _) (wpAny_pure ?_)
  refine wpAny_bind (wpAny_fieldsOf hI rfl ?_)
  dsimp only [rawInt]
  refine wpAny_bind (wpAny_setEntries_of hd rfl hf ?_)
  rw [if_neg (by simp)]
  try dsimp only
  refine wpAny_bind (wpAny_seqItems hT rfl ?_)
  have hx : ((idx.map fun i : Nat => rawInt i).toArray)[((i : Nat) : Int).toNat]? = some (.int p 0) := by
    simp [hp, rawInt]
  dsimp only
  rw [hx]
  dsimp only
  unfold setNextDrawn
  refine wpAny_bind (wpAny_bind (wpAny_setState_of hd rfl hf ?_))
  dsimp only
  rw [if_neg (by simp)]
  simp only [Int.toNat_natCast, hv]
  refine wpAny_pure ?_
  refine wpAny_bind (wpAny_setField hI rfl (by simp) ?_)
  have h2 := Heap.get?_update_self (Obj.mapFields (·.setIfInBounds 1 (rawInt ((i : Int) + 1)))) hI rfl
  exact wpAny_pure ⟨_, rfl, wpAny_pure (hQ _ h2 (Heap.SameBut.update _ I _))⟩
theorem dit_done {Q : Option Value → Shared → Prop} {idx : List Nat} (hh : A.handled = none) (hf : t.fits es.size = true) (hI : s.heap.get? I = some (sitO (.ref T) idx.length d es.size ep)) (hT : s.heap.get? T = some (idxT idx)) (hd : s.heap.get? d = some (setOb es ep t))
    (hQ : ∀ h', Heap.ExtBut I s.heap h' → Q none { s with heap := h' }) : wpAny (model PG w) A (pyNext (.ref I)) Q E s := by
  unfold pyNext
  refine wpAny_bind (wpAny_attempt (wpAny_callSpecial?_slot (name := Str.ofString "__next__") (sit_type hI) slot_sit_next
    (wpAny_call_entry slot_sit_next (sit_type hI) entry_sit_next ?_ (args_sit_next _))))
  unfold Builtin.«set_iterator.__next__»
  refine wpAny_bind (m := slotArgs "__next__" 0 _) (wpAny_pure ?_)
  refine wpAny_bind (wpAny_fieldsOf hI rfl ?_)
  dsimp only [rawInt]
  refine wpAny_bind (wpAny_setEntries_of hd rfl hf ?_)
  rw [if_neg (by simp)]
  try dsimp only
  refine wpAny_bind (wpAny_seqItems hT rfl ?_)
  have hx : ((idx.map fun i : Nat => rawInt i).toArray)[((idx.length : Nat) : Int).toNat]? = none := by
    simp
  dsimp only
  rw [hx]
  dsimp only
  refine wpAny_bind (wpAny_setField hI rfl (by simp) ?_)
  have h1 := Heap.get?_update_self (Obj.mapFields (·.setIfInBounds 0 (rawInt 0))) hI rfl
  refine wpAny_bind (wpAny_setField h1 rfl (by simp) ?_)
  exact sit_stop (s := s) (I := I) hh ((Heap.SameBut.update s.heap I (Obj.mapFields (·.setIfInBounds 0 (rawInt 0)))).trans (Heap.SameBut.update _ I (Obj.mapFields (·.setIfInBounds 2 Value.none)))).extBut hQ
end
end
section
variable [OSC]
theorem erase_perm {α : Type} : ∀ (l : List α) (i : Nat) (h : i < l.length), (l[i] :: l.eraseIdx i).Perm l
  | [], i, h => absurd h (Nat.not_lt_zero _)
  | a :: l, 0, h => List.Perm.refl _
  | a :: l, i + 1, h => by
    have := erase_perm l i (by simpa using h)
    simp only [List.getElem_cons_succ, List.eraseIdx_cons_succ]
    exact (List.Perm.swap a _ _).trans (List.Perm.cons a this)
theorem pick_perm {α : Type} (next : Nat → Nat) : ∀ (fuel k : Nat) (left : List α) (out : Array α), left.length = fuel → (pickOrder.go next fuel k left out).toList.Perm (out.toList ++ left)
  | 0, k, left, out, h => by
    rw [List.length_eq_zero_iff.mp h]
    simp [pickOrder.go]
  | fuel + 1, k, left, out, h => by
    have hpos : 0 < left.length := by omega
    have hj : next k % left.length < left.length := Nat.mod_lt _ hpos
    unfold pickOrder.go
    rw [List.getElem?_eq_getElem hj]
    dsimp only
    refine (pick_perm next fuel (k + 1) _ _ (by rw [List.length_eraseIdx_of_lt hj]; omega)).trans ?_
    rw [Array.toList_push, List.append_assoc]
    exact List.Perm.append_left _ (erase_perm _ _ hj)
section
variable {w : World} {A : Around} {E : Value → Shared → Prop} {s : Shared} {es : Array (Int × Value)} {ep : Nat} {t : SetTable} {vs : List Value} {sl : Nat → Nat → Prop} {I d T : Addr} {i n slot : Nat} {v : Value}
theorem a_choose {M : Model} {src : Source} {n : Nat} {Q : Nat → Shared → Prop} (hn : n ≠ 0) (h : ∀ k d', k < n → Q k { s with drawn := d' }) : wpAny M A (choose src n) Q E s := fun Γ p hΓ => by
  unfold choose
  rw [Sem.wp_choose]
  exact ⟨hn, h _ _ (Nat.mod_lt _ (Nat.pos_of_ne_zero hn))⟩
theorem draw_perm {α : Type} {M : Model} : ∀ (n : Nat) (xs : List α) (s : Shared) (Q : List α → Shared → Prop), xs.length = n → (∀ ys d', ys.Perm xs → Q ys { s with drawn := d' }) → wpAny M A (drawOrder n xs) Q E s
  | 0, xs, s, Q, h, hq => by
    rw [List.length_eq_zero_iff.mp h]
    unfold drawOrder
    have := hq [] s.drawn (by rw [List.length_eq_zero_iff.mp h])
    exact wpAny_pure this
  | n + 1, [], s, Q, h, hq => by cases h
  | n + 1, x :: xs, s, Q, h, hq => by
    unfold drawOrder
    refine wpAny_bind (a_choose (by simp) fun k d' hk => ?_)
    rw [List.getElem?_eq_getElem hk]
    dsimp only
    refine wpAny_bind (draw_perm n _ _ _ (by rw [List.length_eraseIdx_of_lt hk]; omega) fun ys d2 hp => ?_)
    exact wpAny_pure (hq _ d2 ((List.Perm.cons _ hp).trans (erase_perm _ _ hk)))
theorem way_text (hb : byT w = true) (hf : t.fits es.size = true) (d : Addr) : SlotWay w d es ep t ((pickOrder (w.params.setOrder d ep) es).toList.map (·.2)) (fun _ slot => slot = 0) := by
  have hw : ∀ (A : Around) (E : Value → Shared → Prop) (s : Shared) (slot given : Nat) (Q : Option (Value × Nat) → Shared → Prop), s.heap.get? d = some (setOb es ep t) → Q (((pickOrder (w.params.setOrder d ep) es)[given]?).map fun e => (e.2, slot)) s → wpAny (model PG w) A (setNext d slot given ep) Q E s := by
    intro A E s slot given Q hd hq
    unfold setNext
    refine wpAny_bind (wpAny_setState_of hd rfl hf ?_)
    dsimp only
    unfold setsByText
    refine wpAny_bind (wpAny_bind (wpAny_askSetting (wpAny_pure ?_)))
    refine wpAny_ite_split (fun _ => ?_) (fun h => absurd hb h)
    rw [if_neg (by simp)]
    unfold setWalk
    refine wpAny_bind (wpAny_bind (wpAny_setState_of hd rfl hf ?_))
    dsimp only
    unfold setsByText
    refine wpAny_bind (wpAny_bind (wpAny_askSetting (wpAny_pure ?_)))
    refine wpAny_ite_split (fun _ => ?_) (fun h => absurd hb h)
    refine wpAny_bind (wpAny_askSetting (wpAny_pure ?_))
    exact wpAny_pure hq
  refine ⟨fun A E s i slot v Q hd hsl hv hq => hw _ _ _ _ _ _ hd ?_, fun A E s slot Q hd hsl hq => hw _ _ _ _ _ _ hd ?_⟩
  · rw [List.getElem?_map, Array.getElem?_toList] at hv
    cases e : (pickOrder (w.params.setOrder d ep) es)[i]? with
    | none => rw [e] at hv; cases hv
    | some p => rw [e] at hv; cases hv; exact hq slot hsl
  · rw [Array.getElem?_eq_none (by simp)]
    exact hq
theorem below1 {p : Array Nat} (h : p.size = 1) (j : Nat) : SetTable.below p j = if p.getD 0 0 < j then 1 else 0 := by
  have e : p.getD 0 j = p.getD 0 0 := by rw [Array.getD, dif_pos (by omega), Array.getD, dif_pos (by omega)]
  unfold SetTable.below
  rw [h]
  unfold SetTable.below.go
  simp only [show (0 : Nat) < 1 from by decide, if_true, show (0 + 1) / 2 = 0 from rfl, e]
  split <;> (unfold SetTable.below.go; rfl)
theorem below0 {p : Array Nat} (h : p.size = 0) (j : Nat) : SetTable.below p j = 0 := by
  unfold SetTable.below
  rw [h]
  unfold SetTable.below.go
  rfl
theorem way_one (hb : byT w = false) (hl : t.led = true) (hf : t.fits es.size = true) (h1 : es.size ≤ 1) (d : Addr) : SlotWay w d es ep t (es.toList.map (·.2)) (fun i slot => (i = 0 ∧ slot = 0) ∨ (i = 1 ∧ slot = t.place.getD 0 0 + 1)) := by
  have hps : t.place.size = es.size := by
    unfold SetTable.fits at hf
    simp only [Bool.and_eq_true, beq_iff_eq] at hf
    exact hf.1
  have hw : ∀ (A : Around) (E : Value → Shared → Prop) (s : Shared) (slot given : Nat) (Q : Option (Value × Nat) → Shared → Prop), s.heap.get? d = some (setOb es ep t) →
      Q (match es[SetTable.below t.place slot]?, t.place[SetTable.below t.place slot]? with | some (_, x), some j => some (x, j + 1) | _, _ => none) s → wpAny (model PG w) A (setNext d slot given ep) Q E s := by
    intro A E s slot given Q hd hq
    unfold setNext
    refine wpAny_bind (wpAny_setState_of hd rfl hf ?_)
    dsimp only
    unfold setsByText
    refine wpAny_bind (wpAny_bind (wpAny_askSetting (wpAny_pure ?_)))
    refine wpAny_ite_split (fun h => absurd (hb.symm.trans h) (by decide)) (fun _ => ?_)
    refine wpAny_ite_split (fun h => ?_) (fun _ => ?_)
    · have h : (!t.plain && decide (es.size > 1)) = true := h
      simp at h
      omega
    refine wpAny_bind ?_
    show wpAny _ _ (if (!t.led && !es.isEmpty) = true then _ else _) _ _ _
    rw [if_neg (by rw [hl]; simp)]
    refine wpAny_pure ?_
    exact wpAny_pure hq
  refine ⟨fun A E s i slot v Q hd hsl hv hq => hw _ _ _ _ _ _ hd ?_, fun A E s slot Q hd hsl hq => hw _ _ _ _ _ _ hd ?_⟩
  · have hi : i < es.size := by
      have := (List.getElem?_eq_some_iff.mp hv).1
      simpa using this
    have h0 : i = 0 := by omega
    have hs1 : es.size = 1 := by omega
    subst h0
    rcases hsl with ⟨_, rfl⟩ | ⟨h, _⟩
    · rw [below1 (by omega), if_neg (by omega)]
      rw [List.getElem?_map, Array.getElem?_toList] at hv
      cases e : es[0]? with
      | none => rw [e] at hv; cases hv
      | some p =>
        rw [e] at hv; cases hv
        have e2 : t.place[0]? = some (t.place.getD 0 0) := by
          rw [Array.getElem?_eq_getElem (by omega), Array.getD, dif_pos (by omega)]
          rfl
        rw [e2]
        exact hq _ (.inr ⟨rfl, rfl⟩)
    · cases h
  · have hlen : (es.toList.map (·.2)).length = es.size := by simp
    rw [hlen] at hsl
    rcases hsl with ⟨h, rfl⟩ | ⟨h, rfl⟩
    · rw [below0 (by omega), Array.getElem?_eq_none (by omega)]
      exact hq
    · rw [below1 (by omega), if_pos (by omega), Array.getElem?_eq_none (by omega)]
      exact hq
end
end
section
variable [OSC]
section
variable {w : World} {A : Around} {E : Value → Shared → Prop} {s : Shared} {es : Array (Int × Value)} {ep : Nat} {t : SetTable} {vs : List Value} {sl : Nat → Nat → Prop} {I d T : Addr} {i n slot : Nat} {v : Value}
theorem sit_self {first : Value} {Q : Value → Shared → Prop} (h : s.heap.get? I = some (sitO first i d n ep)) (hq : Q (.ref I) s) : wpAny (model PG w) A (pyIter (.ref I)) Q E s := by
  refine wpAny_pyIter_slot (sit_type h) slot_sit_iter (wpAny_call_entry slot_sit_iter (sit_type h) entry_sit_iter ?_ (args_sit_iter _))
  show wpAny _ _ (ret (.ref I)) _ _ s
  exact wpAny_pure ⟨_, rfl, "set_iterator", _, sit_type h, slot_sit_next.lookup, hq⟩
theorem walks_slot (hh : A.handled = none) (hne : d ≠ I) (W : SlotWay w d es ep t vs sl) (hf : t.fits es.size = true) :
    Walks PG w A I [I, d] [I] vs.length (fun i v => vs[i]? = some v) (fun i h => (∃ slot, sl i slot ∧ h.get? I = some (sitO (rawInt slot) i d es.size ep)) ∧ h.get? d = some (setOb es ep t)) where
  sub := fun b hb => by simp at hb; simp [hb]
  frame := fun _ _ _ st hk => ⟨let ⟨slot, a, b⟩ := st.1; ⟨slot, a, hk I (by simp) _ b⟩, hk d (by simp) _ st.2⟩
  item := fun i s Q E hi st hQ => by
    obtain ⟨⟨slot, hs, hI⟩, hd⟩ := st
    refine sit_item W hf hI hd hs (List.getElem?_eq_getElem hi) fun slot' h' hs' hI' hsb => ?_
    exact hQ _ h' s.toks (List.getElem?_eq_getElem hi) ⟨⟨slot', hs', hI'⟩, hsb.extBut d _ hne hd⟩ fun b o hb e => hsb.extBut b o (fun h => hb (by simp [h])) e
  done := fun s Q E st hQ => by
    obtain ⟨⟨slot, hs, hI⟩, hd⟩ := st
    exact sit_done hh W hf hI hd hs fun h' he' => hQ h' s.toks fun b o hb e => he' b o (fun h => hb (by simp [h])) e
  self := fun _ _ _ _ st hQ => let ⟨⟨slot, hs, hI⟩, hd⟩ := st; sit_self hI hQ
theorem walks_drawn {idx : List Nat} (hh : A.handled = none) (hne : d ≠ I) (hT : T ≠ I) (hf : t.fits es.size = true) (hix : ∀ p ∈ idx, p < es.size) :
    Walks PG w A I [I, d, T] [I] idx.length (fun i v => (idx.map fun p => (es.getD p default).2)[i]? = some v) (fun i h => h.get? I = some (sitO (.ref T) i d es.size ep) ∧ h.get? T = some (idxT idx) ∧ h.get? d = some (setOb es ep t)) where
  sub := fun b hb => by simp at hb; simp [hb]
  frame := fun _ _ _ st hk => ⟨hk I (by simp) _ st.1, hk T (by simp) _ st.2.1, hk d (by simp) _ st.2.2⟩
  item := fun i s Q E hi st hQ => by
    obtain ⟨hI, hTT, hd⟩ := st
    have hp := hix _ (List.getElem_mem hi)
    have hv : es[idx[i]]? = some (es[idx[i]].1, es[idx[i]].2) := Array.getElem?_eq_getElem hp
    refine dit_item hf hI hTT hd (List.getElem?_eq_getElem hi) hv fun h' hI' hsb => ?_
    refine hQ _ h' s.toks ?_ ⟨hI', hsb.extBut T _ hT hTT, hsb.extBut d _ hne hd⟩ fun b o hb e => hsb.extBut b o (fun h => hb (by simp [h])) e
    simp [hi, Array.getD, hp]
  done := fun s Q E st hQ => by
    obtain ⟨hI, hTT, hd⟩ := st
    exact dit_done hh hf hI hTT hd fun h' he' => hQ h' s.toks fun b o hb e => he' b o (fun h => hb (by simp [h])) e
  self := fun _ _ _ _ st hQ => sit_self st.1 hQ
/-- the values of a set's entries -/
theorem elems_strs {l : List (Int × Value)} (h : ElemsOf (PySem.strKind PG w) l) : ∃ ss, StrsAre (l.map (·.2)) ss ∧ ∀ k, k ∈ ss ↔ ∃ e ∈ l, (PySem.strKind PG w).is k e.2 = true:= by
  induction l with
  | nil => exact ⟨[], .nil, fun k => by simp⟩
  | cons e l ih =>
    obtain ⟨ss, h1, h2⟩ := ih h.tail
    obtain ⟨⟨k, hk, _⟩, _⟩ := h.head
    obtain ⟨t, ht⟩ : ∃ t, e.2 = .str k t:= by
      have : e.2.isStrOf k = true := hk
      cases he : e.2 <;> rw [he] at this <;> simp [Value.isStrOf] at this
      subst this; exact ⟨_, rfl⟩
    refine ⟨k :: ss, by rw [List.map_cons, ht]; exact .cons _ _ h1, fun k' => ?_⟩
    rw [List.mem_cons, h2]
    constructor
    · rintro (rfl | ⟨e', he', hi⟩)
      · exact ⟨e, .head _, hk⟩
      · exact ⟨e', .tail _ he', hi⟩
    · rintro ⟨e', he', hi⟩
      rcases List.mem_cons.mp he' with rfl | he'
      · exact .inl ((PySem.strKind PG w).inj _ k' k hi hk)
      · exact .inr ⟨e', he', hi⟩
theorem strs_perm {vs vs' : List Value} (h : vs.Perm vs') : ∀ {ss : List Str}, StrsAre vs ss → ∃ ss', StrsAre vs' ss' ∧ ss'.Perm ss:= by
  induction h with
  | nil => intro ss h; exact ⟨ss, h, List.Perm.refl _⟩
  | cons x _ ih =>
    intro ss h
    cases h with
    | cons y t h =>
      obtain ⟨ss', h1, h2⟩ := ih h
      exact ⟨_, .cons y t h1, h2.cons _⟩
  | swap x y l =>
    intro ss h
    cases h with
    | cons a t h =>
      cases h with
      | cons b t' h => exact ⟨_, .cons b t' (.cons a t h), List.Perm.swap _ _ _⟩
  | trans _ _ ih1 ih2 =>
    intro ss h
    obtain ⟨s1, h1, p1⟩ := ih1 h
    obtain ⟨s2, h2, p2⟩ := ih2 h1
    exact ⟨s2, h2, p2.trans p1⟩
theorem slot_len_set_hint {r : Addr} {Q : Bool → Shared → Prop} (hT : s.TypeIs (.ref r) "set") (h : Q false s) : wpAny (model PG w) A (Builtin.List.listLengthHint (.ref r)) Q E s := by
  unfold Builtin.List.listLengthHint
  refine wpAny_bind (wpAny_specialOf hT PySem.F.slot_set_len.lookup ?_)
  generalize hid : ("set.__len__" : String) = id0
  wp_delta
  rw [show splitId id0 = some ("set", "__len__") from by subst hid; decide +kernel]
  subst hid
  refine wpAny_bind (wpAny_isInstance (T := "set") (b := true) hT (by rw [isSubtype_type]; kernel_rfl) ?_)
  refine wpAny_ite_split (fun hab => absurd hab (by decide)) (fun _ => ?_)
  refine wpAny_ite_split (fun _ => ?_) (fun hab => absurd (by decide +kernel) hab)
  refine wpAny_bind (wpAny_typeOf hT ?_)
  exact wpAny_pure h
theorem set_iter {o : Obj} {ks : List Str} {Q : Value → Shared → Prop} (hh : A.handled = none) (hd : s.heap.get? d = some o) (hS : SetO w o ks) (hkl : ks.length ≤ 1000)
    (hq : ∀ (I : Addr) (h' : Heap) (dr : Drawn) (vs : List Value) (ss : List Str) (fp : List Addr) (St : Nat → Heap → Prop), s.heap.get? I = none → (∀ b o, s.heap.get? b = some o → h'.get? b = some o) → (∀ b ∈ fp, b = d ∨ s.heap.get? b = none) →
      Walks PG w A I fp [I] vs.length (fun i v => vs[i]? = some v) St → St 0 h' → StrsAre vs ss → (∀ k, k ∈ ss ↔ k ∈ ks) → vs.length ≤ ks.length → Q (.ref I) { s with heap := h', drawn := dr }) :
    wpAny (model PG w) A (pyIter (.ref d)) Q E s := by
  obtain ⟨es, ep, t, rfl, hel, hf, hl, hpl, hmem, hks⟩ := hS
  have hT : s.TypeIs (.ref d) "set" := ⟨_, hd, rfl⟩
  obtain ⟨ss, hss, hsm⟩ := elems_strs hel
  have hsz : ∀ b o, s.heap.get? b = some o → b ≠ s.heap.objs.size := fun b o e => Nat.ne_of_lt (Heap.lt_size e)
  have hfresh : ∀ b, s.heap.objs.size ≤ b → s.heap.get? b = none := fun b hb => by
    cases e : s.heap.get? b with
    | none => rfl
    | some o => exact absurd (Heap.lt_size e) (Nat.not_lt.mpr hb)
  refine wpAny_pyIter_slot hT PySem.F.slot_set_iter (wpAny_call_entry PySem.F.slot_set_iter hT entry_set_iter ?_ (PySem.F.args_set_iter_1 _))
  unfold Builtin.«frozenset.__iter__»
  refine wpAny_bind (m := Builtin.Frozenset.slot0 "__iter__" _) (wpAny_pure ?_)
  unfold Builtin.Frozenset.sizeOf
  refine wpAny_bind (wpAny_bind (wpAny_setEntries_of hd rfl hf (wpAny_pure ?_)))
  unfold setDrawn
  refine wpAny_bind ?_
  refine wpAny_bind (wpAny_setState_of hd rfl hf ?_)
  dsimp only
  unfold setsByText
  refine wpAny_bind (wpAny_bind (wpAny_askSetting (wpAny_pure ?_)))
  refine wpAny_pure ?_
  refine wpAny_ite_split (fun hab => ?_) (fun hab => ?_)
  · have hab : (!byT w && (!t.plain && decide (es.size > 1))) = true := hab
    refine wpAny_bind ?_
    refine draw_perm es.size (List.range es.size) _ _ (by simp) fun idx dr hp => ?_
    have hil : idx.length = es.size := by simpa using hp.length_eq
    have hix : ∀ p ∈ idx, p < es.size := fun p hx => by simpa using hp.mem_iff.mp hx
    refine wpAny_bind (wpAny_newTuple (items := idx.map fun i : Nat => rawInt i) ?_ (by rw [List.length_map, hil]; exact sl_small (m := 1000) (by omega) (by decide)))
    have hd1 := Heap.get?_push_of_some (idxT idx) hd
    refine wpAny_bind (wpAny_bind (wpAny_setState_of hd1 rfl hf (wpAny_pure ?_)))
    dsimp only
    unfold newFields
    refine wpAny_bind (wpAny_newObj_type (wpAny_pure ⟨_, rfl, "set_iterator", _, ⟨_, Heap.get?_push_size _ rfl, rfl⟩, slot_sit_next.lookup, ?_⟩))
    have hT1 : (s.heap.push (idxT idx)).get? s.heap.objs.size = some (idxT idx) := Heap.get?_push_size _ rfl
    have hd2 := Heap.get?_push_of_some (sitO (.ref s.heap.objs.size) 0 d es.size ep) hd1
    have hT2 := Heap.get?_push_of_some (sitO (.ref s.heap.objs.size) 0 d es.size ep) hT1
    have hsz2 : (s.heap.push (idxT idx)).objs.size = s.heap.objs.size + 1 := Heap.size_push ..
    have hdl := Heap.lt_size hd
    have hperm : (idx.map fun p => (es.getD p default).2).Perm (es.toList.map (·.2)) := by
      refine (hp.map _).trans (List.Perm.of_eq ?_)
      apply List.ext_getElem
      · simp
      · intro i h1 h2
        simp at h1 h2
        simp [Array.getD, h1]
    obtain ⟨ss', hs1, hs2⟩ := strs_perm hperm.symm hss
    refine hq (s.heap.push (idxT idx)).objs.size ((s.heap.push (idxT idx)).push (sitO (.ref s.heap.objs.size) 0 d es.size ep)) dr (idx.map fun p => (es.getD p default).2) ss' [(s.heap.push (idxT idx)).objs.size, d, s.heap.objs.size]
      (fun i h => h.get? (s.heap.push (idxT idx)).objs.size = some (sitO (.ref s.heap.objs.size) i d es.size ep) ∧ h.get? s.heap.objs.size = some (idxT idx) ∧ h.get? d = some (setOb es ep t))
      (hfresh _ (by omega)) (fun b o e => Heap.get?_push_of_some _ (Heap.get?_push_of_some _ e)) (fun b hb => ?_) ?_ ⟨Heap.get?_push_size _ rfl, hT2, hd2⟩ hs1 (fun k => by rw [hs2.mem_iff, hsm, hmem]) (by simp; omega)
    · simp only [List.mem_cons, List.not_mem_nil, or_false] at hb
      rcases hb with rfl | rfl | rfl
      · exact .inr (hfresh _ (by omega))
      · exact .inl rfl
      · exact .inr (hfresh _ (Nat.le_refl _))
    · have := walks_drawn (w := w) (A := A) (es := es) (ep := ep) (t := t) (I := (s.heap.push (idxT idx)).objs.size) (d := d) (T := s.heap.objs.size) hh (Nat.ne_of_lt (by rw [hsz2]; exact Nat.lt_succ_of_lt hdl)) (Nat.ne_of_lt (by rw [hsz2]; exact Nat.lt_succ_self _)) hf hix
      simpa using this
  · have hab : ¬ (!byT w && (!t.plain && decide (es.size > 1))) = true := hab
    refine wpAny_bind (wpAny_pure ?_)
    refine wpAny_bind (wpAny_bind (wpAny_setState_of hd rfl hf (wpAny_pure ?_)))
    dsimp only
    unfold newFields
    refine wpAny_bind (wpAny_newObj_type (wpAny_pure ⟨_, rfl, "set_iterator", _, ⟨_, Heap.get?_push_size _ rfl, rfl⟩, slot_sit_next.lookup, ?_⟩))
    have hd1 := Heap.get?_push_of_some (sitO (rawInt 0) 0 d es.size ep) hd
    have hdl := Heap.lt_size hd
    have key : ∀ (vs : List Value) (sl : Nat → Nat → Prop), SlotWay w d es ep t vs sl → sl 0 0 → vs.Perm (es.toList.map (·.2)) → Q (.ref s.heap.objs.size) { s with heap := s.heap.push (sitO (rawInt 0) 0 d es.size ep) } := fun vs sl W h0 hp => by
      obtain ⟨ss', hs1, hs2⟩ := strs_perm hp.symm hss
      have hl := hp.length_eq
      refine hq s.heap.objs.size (s.heap.push (sitO (rawInt 0) 0 d es.size ep)) s.drawn vs ss' [s.heap.objs.size, d]
        (fun i h => (∃ slot, sl i slot ∧ h.get? s.heap.objs.size = some (sitO (rawInt slot) i d es.size ep)) ∧ h.get? d = some (setOb es ep t))
        (hfresh _ (Nat.le_refl _)) (fun b o e => Heap.get?_push_of_some _ e) (fun b hb => ?_) (walks_slot hh (Nat.ne_of_lt hdl) W hf) ⟨⟨0, h0, Heap.get?_push_size _ rfl⟩, hd1⟩ hs1 (fun k => by rw [hs2.mem_iff, hsm, hmem]) (by rw [hl, List.length_map, Array.length_toList]; exact hks)
      simp only [List.mem_cons, List.not_mem_nil, or_false] at hb
      rcases hb with rfl | rfl
      · exact .inr (hfresh _ (Nat.le_refl _))
      · exact .inl rfl
    cases hb : byT w with
    | true =>
      have hp := pick_perm (w.params.setOrder d ep) es.size 0 es.toList #[] (by simp)
      exact key _ _ (way_text hb hf d) rfl ((show (pickOrder (w.params.setOrder d ep) es).toList.Perm es.toList by unfold pickOrder; simpa using hp).map _)
    | false =>
      have h1 : es.size ≤ 1 := by
        rcases Nat.lt_or_ge 1 es.size with h | h
        · exfalso
          refine hab ?_
          have : t.plain = false := by
            cases hp : t.plain with
            | false => rfl
            | true => have := hpl hp; omega
          rw [hb, this]
          simp; omega
        · exact h
      exact key _ _ (way_one hb (by rw [hl, hb]; rfl) hf h1 d) (.inl ⟨rfl, rfl⟩) (List.Perm.refl _)
end
end
section
variable [OSC]
section
variable {w : World} {A : Around} {E : Value → Shared → Prop} {s : Shared} {d : Addr} {o : Obj} {ks : List Str}
/-- what a walk over the set has brought -/
inductive SetGot (ks : List Str) (vs : List Value) : Prop
  | mk (ss : _) (hyp1 : StrsAre vs ss) (hyp2 : (∀ k, k ∈ ss ↔ k ∈ ks)) (hyp3 : vs.length ≤ ks.length) : SetGot ks vs
theorem set_extend {R : Result → Shared → Prop} (hh : A.handled = none) (hd : s.heap.get? d = some o) (hS : SetO w o ks) (hkl : ks.length ≤ 1000) (Sa : Addr) (hSd : Sa ≠ d) (res : Value) (c₀ : Nat) (hSa : s.heap.get? Sa = some { cls := .type "list", data := .seq #[] c₀ })
    (hR : ∀ h' tk dr acc' c', (∀ b o, b ≠ Sa → s.heap.get? b = some o → h'.get? b = some o) → h'.get? Sa = some { cls := .type "list", dict := none, data := .seq acc' c', slots := #[] } → SetGot ks acc'.toList → R (.ok (.ret res)) { s with heap := h', toks := tk, drawn := dr }) :
    wpAny (model PG w) A.in1 (Builtin.List.listExtendWith (.ref Sa) (.ref d) res)
      (fun fin s' => match fin with | .done f => R (.ok f) s' | .again c' => c'.quiet = true ∧ codeAny (model PG w) A c' R s') (fun e s' => R (.error e) s') s := by
  have hT : s.TypeIs (.ref d) "set" := by obtain ⟨es, ep, t, rfl, _⟩ := id hS; exact ⟨_, hd, rfl⟩
  unfold Builtin.List.listExtendWith
  refine wpAny_bind (wpAny_typeOf (T := "set") hT ?_)
  have h1 : Builtin.List.listSameRef (.ref Sa) (.ref d) = false := by simp [Builtin.List.listSameRef, hSd]
  have h2 : (Value.type "set" == Value.type "list") = false := by decide
  have h3 : (Value.type "set" == Value.type "tuple") = false := by decide
  simp only [h1, h2, h3, Bool.or_false, Bool.false_eq_true, if_false]
  refine wpAny_bind (set_iter hh hd hS hkl fun I h' dr vs ss fp St hI keep hfp W st hss hmem hlen => ?_)
  have hSf : Sa ∉ fp := fun hm => by
    rcases hfp _ hm with h | h
    · exact hSd h
    · rw [hSa] at h; cases h
  have hn : vs.length ≤ sizeLine := sl_small (m := 1000) (by omega) (by decide)
  have key : ∀ (h : Heap) (c₁ tk : Nat), St 0 h → (∀ b o, b ≠ Sa → s.heap.get? b = some o → h.get? b = some o) →
      h.get? Sa = some { cls := .type "list", data := .seq #[] c₁ } → codeAny (model PG w) A (.builtin "list.extend.loop" ⟨[.ref Sa, .ref I, res], []⟩) R { s with heap := h, drawn := dr, toks := tk } := by
    intro h c₁ tk hst hk hS₁
    refine codeAny_extend_loopS W.toS hn Sa hSf res vs.length 0 _ #[] c₁ rfl (Nat.zero_le _) hst hS₁ (ItemsOf.nil _) fun s' acc' c' hm hS' hacc => ?_
    rw [Moved.eq_with hm]
    refine hR s'.heap s'.toks dr acc' c' (fun b o hb e => hm.heap b o (fun hmem => ?_) (hk b o hb e)) hS' ?_
    · rcases List.mem_cons.mp hmem with e' | hmem
      · exact hb e'
      · rw [List.mem_singleton.mp hmem, hI] at e; cases e
    · have : acc'.toList = vs := by
        apply List.ext_getElem?
        intro j
        cases e : acc'[j]? with
        | none =>
          have h1 := Array.getElem?_eq_none_iff.mp e
          rw [List.getElem?_eq_none_iff.mpr (by simpa using h1), List.getElem?_eq_none_iff.mpr (by rw [← hacc.1]; exact h1)]
        | some v => rw [Array.getElem?_toList, e, hacc.2 j v e]
      rw [this]
      exact ⟨ss, hss, hmem, hlen⟩
  have hT' : Shared.TypeIs { s with heap := h', drawn := dr } (.ref d) "set" := by obtain ⟨es, ep, t, rfl, _⟩ := id hS; exact ⟨_, keep _ _ hd, rfl⟩
  refine wpAny_bind (wpAny_holding (slot_len_set_hint hT' ?_))
  have hS₁ := keep _ _ hSa
  refine wpAny_ite_split (fun _ => ?_) (fun _ => wpAny_pure ⟨plainId_quiet PySem.F.plain_extend_loop _, key _ c₀ _ st (fun b o _ e => keep _ _ e) hS₁⟩)
  refine wpAny_bind (wpAny_rule ?_)
  refine wpAny_bind ?_
  show wpAny _ _ (updateSeq Sa (·.push .none) >>= fun _ => updateSeq Sa (·.pop)) _ _ _
  refine wpAny_bind (wpAny_updateSeq hS₁ rfl ?_)
  have hS₂ := Heap.get?_update_self (Obj.mapSeq (·.push Value.none)) hS₁ rfl
  refine wpAny_updateSeq (hz := by seq_fits) hS₂ rfl ?_
  have hS₃ := Heap.get?_update_self (Obj.mapSeq (·.pop)) hS₂ rfl
  refine wpAny_pure ⟨plainId_quiet PySem.F.plain_extend_loop _, key _ _ _ ?_ (fun b o hb e => ?_) hS₃⟩
  · refine W.frame 0 _ _ st fun b hb o e => ?_
    have hbS : b ≠ Sa := fun h => hSf (h ▸ hb)
    exact (Heap.get?_update_other _ _ (Ne.symm hbS)).trans ((Heap.get?_update_other _ _ (Ne.symm hbS)).trans e)
  · exact (Heap.get?_update_other _ _ (Ne.symm hb)).trans ((Heap.get?_update_other _ _ (Ne.symm hb)).trans (keep _ _ e))
theorem set_collect {R : List Value → Shared → Prop} (hh : A.handled = none) (hd : s.heap.get? d = some o) (hS : SetO w o ks) (hkl : ks.length ≤ 1000)
    (h : ∀ (h' : Heap) (tk : Nat) (dr : Drawn) (vs : List Value), (∀ b o, s.heap.get? b = some o → h'.get? b = some o) → SetGot ks vs → R vs { s with heap := h', toks := tk, drawn := dr }) :
    wpAny (model PG w) A (collect (.ref d)) R E s := by
  have hlt := Heap.lt_size hd
  unfold collect
  refine wpAny_bind (wpAny_runValue (codeAny_builtin entry_proto_collect' ?_))
  rw [Around.under_plainId PySem.F.plain_proto_collect _]
  show wpAny _ A.in1 (newList [] >>= fun l => again (.builtin "list.__iadd__" ⟨[l, .ref d], []⟩)) _ _ s
  refine wpAny_bind (wpAny_newObj_type ?_)
  refine wpAny_pure ⟨plainId_quiet PySem.F.plain_list_iadd _, codeAny_builtin entry_list_iadd' ?_⟩
  rw [Around.under_plainId PySem.F.plain_list_iadd _]
  have hS₁ : (s.heap.push { cls := .type "list", data := .seq ([] : List Value).toArray }).get? s.heap.objs.size = some { cls := .type "list", data := .seq #[] } := Heap.get?_push_size _ rfl
  show wpAny _ A.in1 (Builtin.List.listExtendWith (.ref s.heap.objs.size) (.ref d) (.ref s.heap.objs.size)) _ _ _
  have key := set_extend (A := A) (w := w) (s := { s with heap := s.heap.push { cls := .type "list", data := .seq ([] : List Value).toArray } })
    (R := fun (q : Result) (s' : Shared) => Ex5 fun (h' : Heap) (tk : Nat) (dr : Drawn) (acc' : Array Value) (c' : Nat) => Al5 (q = .ok (.ret (.ref s.heap.objs.size))) (s' = { s with heap := h', toks := tk, drawn := dr }) ((∀ b o, s.heap.get? b = some o → h'.get? b = some o)) (h'.get? s.heap.objs.size = some { cls := .type "list", dict := none, data := .seq acc' c', slots := #[] }) (SetGot ks acc'.toList))
    hh (Heap.get?_push_of_some _ hd) hS hkl s.heap.objs.size (Nat.ne_of_gt hlt) (.ref s.heap.objs.size) 0 hS₁
    (fun h' tk dr acc' c' hk hS' hacc => ⟨h', tk, dr, acc', c', rfl, rfl, fun b o e => hk b o (Nat.ne_of_lt (Heap.lt_size e)) (Heap.get?_push_of_some _ e), hS', hacc⟩)
  refine wpAny_mono key (fun fin s' x => ?_) fun e s' x => ?_
  · cases fin with
    | done f =>
      obtain ⟨h', tk, dr, acc', c', e, rfl, hk, hS', hacc⟩ := x
      cases e
      show wpAny _ A (load s.heap.objs.size >>= _) _ _ _
      refine wpAny_bind (wpAny_load hS' ?_)
      exact wpAny_pure (h h' tk dr acc'.toList hk hacc)
    | again c₁ =>
      refine ⟨x.1, codeAny_mono x.2 fun q s₂ y => ?_⟩
      obtain ⟨h', tk, dr, acc', c', rfl, rfl, hk, hS', hacc⟩ := y
      show wpAny _ A (load s.heap.objs.size >>= _) _ _ _
      refine wpAny_bind (wpAny_load hS' ?_)
      exact wpAny_pure (h h' tk dr acc'.toList hk hacc)
  · obtain ⟨_, _, _, _, _, e', _⟩ := x
    cases e'
end
section
variable {w : World} {mg mb : Str → Option Value} {h₀ h h' : Heap} {env : Env} {ns gs : List Str} {vs vs' : List (Option Value)} {mu nw fr : Led} {z : Shared} {tk : Nat} {A : Around} {E Q : Value → Shared → Prop} {d : Addr} {o : Obj} {ks : List Str}
theorem sorted_set (G : GS w mg mb h₀ env ns gs vs mu nw h) (hh : A.handled = none) (hd : h.get? d = some o) (hS : SetO w o ks) (hkl : ks.length < 64)
    (hq : ∀ B h' tk' z' vs' ss' e, GS w mg mb h₀ env ns gs vs mu ((B, lstO vs' e) :: nw) h' → StrsAre vs' ss' → (∀ k, k ∈ ss' ↔ k ∈ ks) → vs'.length < 64 → Q (.ref B) (S z' h' tk')) :
    wpAny (model PG w) A (call (.builtin "sorted") [.ref d]) Q E (S z h tk) := by
  refine call_function_entry kind_sorted plain_sorted entry_sorted (args_sorted1 _) ?_
  unfold Builtin.«sorted»
  refine wpAny_bind (m := checkCount "sorted" 1 1 _) (wpAny_pure ?_)
  refine wpAny_bind (set_collect (A := A.in1) hh hd hS (by omega) fun h1 tk1 dr vs1 hk hgot => ?_)
  obtain ⟨ss, hss, hmem, hlen⟩ := hgot
  have G1 := (G.Ns_keep hk).pushM (lstO vs1 0) rfl
  refine wpAny_bind (wpAny_newList ?_ (sl_small (m := 64) (by omega) (by decide)))
  refine wpAny_bind (wpAny_holding ?_)
  refine sort_strs (s := S ⟨z.heap, z.gens, dr, z.toks, z.os⟩ (h1.push (lstO vs1 0)) tk1) (n := 0) (G1.getM (.head _)) hss (by omega) fun h2 vs' ss' e keep hB2 hS' hp => ?_
  refine wpAny_pure ⟨_, rfl, ?_⟩
  exact hq h1.objs.size h2 _ ⟨z.heap, z.gens, dr, z.toks, z.os⟩ vs' ss' e (((G.Ns_keep hk).pushM (lstO vs1 0) rfl).chg keep hB2).settle hS' (fun k => by rw [hp.mem_iff, hmem]) (by have := hp.length_eq; have := hS'.length; have := hss.length; omega)
end
end
section
variable [OSC]
section
variable {prog : Program} {w : World} {A : Around} {E : Value → Shared → Prop} {R : Result → Shared → Prop} {s : Shared}
theorem comp_turns {elt target iter : Expr} {ifs : List Expr} {scope : Scope} {pos : Pos} {it acc : Value} {env : Env} (I : Nat → Shared → Prop)
    (turn : ∀ n s, I n s → wpAny (model prog w) A (pyNext it) (fun r s₁ => match r with
      | none => R (.ok .next) s₁
      | some v => wpAny (model prog w) A (letOwnedTupleGo target it v) (fun _ s₀ => wpAny (model prog w) A (assign target env v) (fun _ s₂ =>
          wpAny (model prog w) A (forIn ifs true fun c r => if r = true then do let ok ← isTrue c env (eval c env); pure (ForInStep.yield ok) else pure (ForInStep.yield r)) (fun ok s₃ =>
            if ok = true then wpAny (model prog w) A (eval elt env) (fun x s₄ =>
              wpAny (model prog w) A (call (.builtin "list.append") [acc, x]) (fun _ s₅ => ∃ m, m < n ∧ I m s₅) (notedBy (model prog w) A env fun e s' => R (.error e) s') s₄) (notedBy (model prog w) A env fun e s' => R (.error e) s') s₃
            else ∃ m, m < n ∧ I m s₃) (notedBy (model prog w) A env fun e s' => R (.error e) s') s₂) (notedBy (model prog w) A env fun e s' => R (.error e) s') s₀) (notedBy (model prog w) A env fun e s' => R (.error e) s') s₁) (notedBy (model prog w) A env fun e s' => R (.error e) s') s)
    (n : Nat) (h : I n s) :
    codeAny (model prog w) A (.compLoop (.ListComp elt [⟨target, iter, ifs, 0⟩] scope pos) 0 it acc env) R s := by
  refine codeAny_loop rfl I (fun n s hI => ?_) n h
  show wpAny _ A ((compTurn (.ListComp elt [⟨target, iter, ifs, 0⟩] scope pos) 0 it acc env).onRaise (fun x => do noteFrame x env; theTreesLotGoes x)) _ _ s
  refine wpAny_noted ?_
  rw [compTurn_list]
  refine wpAny_bind (wpAny_standAt (wpAny_bind (wpAny_mono (turn n s hI) (fun r s₁ h₁ => ?_) fun _ _ h' => h')))
  cases r with
  | none => exact wpAny_pure h₁
  | some v =>
    refine wpAny_bind (wpAny_mono h₁ (fun _ s₀ h₀ => ?_) fun _ _ h' => h')
    refine wpAny_bind (wpAny_mono h₀ (fun _ s₂ h₂ => wpAny_bind (wpAny_mono h₂ (fun ok s₃ h₃ => ?_) fun _ _ h' => h')) fun _ _ h' => h')
    cases ok with
    | false => exact wpAny_pure ⟨rfl, h₃⟩
    | true =>
      exact wpAny_bind (wpAny_bind (wpAny_mono h₃ (fun x s₄ h₄ => wpAny_bind (wpAny_mono h₄ (fun _ s₅ h₅ => wpAny_pure (wpAny_pure ⟨rfl, h₅⟩)) fun _ _ h' => h')) fun _ _ h' => h'))
/-- objects that a list of pairs names -/
noncomputable def PairsAt (h : Heap) (ys : List Value) (ps : List (Value × Value)) : Prop := Paired (fun v p => ∃ T n, v = .ref T ∧ h.get? T = some (tupO [p.1, p.2] n)) ys ps
theorem paired_get {α β : Type} {F : α → β → Prop} {l : List α} {m : List β} (h : Paired F l m) : ∀ {i : Nat} {b : β}, m[i]? = some b → ∃ a, l[i]? = some a ∧ F a b := by
  induction h with
  | nil => intro i b e; cases e
  | cons a t ih =>
    intro i b e
    cases i with
    | zero => exact ⟨_, rfl, Option.some.inj e ▸ a⟩
    | succ i => exact ih e
theorem paired_mono {α β : Type} {F F' : α → β → Prop} {l : List α} {m : List β} (h : Paired F l m) (s : ∀ a b, F a b → F' a b) : Paired F' l m := by
  induction h with
  | nil => exact .nil
  | cons a t ih => exact .cons (s _ _ a) ih
inductive TupObj (o : Obj) : Prop
  | mk (l : _) (n : _) (hyp1 : o = tupO l n) : TupObj o
theorem comp2_loop {elt iter : Expr} {a b : Str} {pa pb tp : Pos} {kk : Nat} {ifs : List Expr} {scope : Scope} {pos : Pos} {I D l : Addr} {cenv : Env} {m : Str → Option Value} {ys : List Value} {ps : List (Value × Value)}
    (p : Value × Value → Bool) (F : Heap → Value × Value → Value → Prop) (hh : A.handled = none) (hsz : ys.length ≤ sizeLine)
    (ha : cenv.kindOf a = some .local) (hb : cenv.kindOf b = some .local) (hab : ¬ a = b) (hp : (cenv.scope.kind == .class || (cenv.scope.kind == .module && cenv.locals != cenv.globals)) = false)
    (hIC : I ≠ cenv.locals) (hID : I ≠ D) (hDC : D ≠ cenv.locals) (hlI : l ≠ I) (hlD : l ≠ D) (hlC : l ≠ cenv.locals)
    (hF : ∀ h h' q y, (∀ c o, TupObj o → h.get? c = some o → h'.get? c = some o) → F h q y → F h' q y)
    (hit : s.heap.IsListIter I l 0) (hl : s.heap.IsList l ys.toArray) (hacc : s.heap.get? D = some (lst [])) (hn : s.heap.Ns cenv.locals m) (hps : PairsAt s.heap ys ps)
    (htests : ∀ q s₂ m₂ E', q ∈ ps → s₂.heap.Ns cenv.locals m₂ → m₂ a = some q.1 → m₂ b = some q.2 → (∀ c o, c ≠ cenv.locals → c ≠ I → c ≠ D → s.heap.get? c = some o → s₂.heap.get? c = some o) →
      wpAny (model prog w) A (forIn ifs true fun c r => if r = true then do let ok ← isTrue c cenv (eval c cenv); pure (ForInStep.yield ok) else pure (ForInStep.yield r)) (fun ok s₃ => ok = p q ∧ Keeps s₂ s₃) E' s₂)
    (helt : ∀ q s₂ m₂ E', q ∈ ps → p q = true → s₂.heap.Ns cenv.locals m₂ → m₂ a = some q.1 → m₂ b = some q.2 → (∀ c o, c ≠ cenv.locals → c ≠ I → c ≠ D → s.heap.get? c = some o → s₂.heap.get? c = some o) →
      wpAny (model prog w) A (eval elt cenv) (fun y s₃ => F s₃.heap q y ∧ Keeps s₂ s₃) E' s₂)
    (hR : ∀ h' tk m' rs n, h'.Ns cenv.locals m' → h'.get? D = some (lstO rs n) → Paired (F h') (ps.filter p) rs → (∀ c o, c ≠ cenv.locals → c ≠ I → c ≠ D → s.heap.get? c = some o → h'.get? c = some o) → R (.ok .next) { s with heap := h', toks := tk }) :
    codeAny (model prog w) A (.compLoop (.ListComp elt [⟨.Tuple [.Name a pa, .Name b pb] kk tp, iter, ifs, 0⟩] scope pos) 0 (.ref I) (.ref D) cenv) R s := by
  have hlen : ys.length = ps.length := hps.length
  refine comp_turns
    (fun k s' => Ex6 fun h' tk m' i rs n => Al8 (s' = { s with heap := h', toks := tk }) (h'.IsListIter I l i) (h'.get? D = some (lstO rs n)) (h'.Ns cenv.locals m') (Paired (F h') ((ps.take i).filter p) rs) (i ≤ ps.length) (k = ps.length + 1 - i) ((∀ c o, c ≠ cenv.locals → c ≠ I → c ≠ D → s.heap.get? c = some o → h'.get? c = some o))) ?_ (ps.length + 1)
    ⟨s.heap, s.toks, m, 0, [], 0, rfl, hit, hacc, hn, .nil, Nat.zero_le _, rfl, fun _ _ _ _ _ e => e⟩
  intro k s' hI_
  try k_fold
  obtain ⟨H, tk, m', i, rs, n, rfl, hit', hacc', hn', hrs, hi, rfl, hk⟩ := hI_
  have hl' : H.IsList l ys.toArray := hl.at fun o e => hk l o hlC hlI hlD e
  have noT : ∀ (h : Heap) (c : Addr) (o o' : Obj), TupObj o → h.get? c = some o → ∀ c', h.get? c' = some o' → ¬ TupObj o' → c ≠ c' := fun h c o o' h1 h2 c' h3 h4 q => by
    rw [q, h3] at h2; cases h2; exact h4 h1
  have clsC : ∀ (h : Heap) m, h.Ns cenv.locals m → ∃ o, h.get? cenv.locals = some o ∧ ¬ TupObj o:= fun h m hn => by
    obtain ⟨o, es, ep, ho, hd, hr⟩ := hn
    refine ⟨o, ho, fun ⟨l, n, e⟩ => ?_⟩
    rw [e] at hd; cases hd
  have clsI : ∀ (h : Heap) j, h.IsListIter I l j → ∃ o, h.get? I = some o ∧ ¬ TupObj o:= fun h j ⟨o, ho, hc, _⟩ => ⟨o, ho, fun ⟨l, n, e⟩ => by rw [e] at hc; exact absurd (show Value.type "tuple" = Value.type "list_iterator" from hc) (by decide)⟩
  have clsD : ∀ rs n, ¬ TupObj (lstO rs n) := fun rs n ⟨l, m, e⟩ => absurd (show Value.type "list" = Value.type "tuple" from congrArg Obj.cls e) (by decide)
  by_cases hlt : i < ps.length
  · obtain ⟨v, hv, T, nT, rfl, hT⟩ := paired_get hps (List.getElem?_eq_getElem hlt)
    have hTC : T ≠ cenv.locals := by
      obtain ⟨o, ho, hc⟩ := clsC _ _ hn
      exact noT s.heap T _ o ⟨_, _, rfl⟩ hT _ ho hc
    have hTI : T ≠ I := by
      obtain ⟨o, ho, hc⟩ := clsI _ _ hit
      exact noT s.heap T _ o ⟨_, _, rfl⟩ hT _ ho hc
    have hTD : T ≠ D := noT s.heap T _ _ ⟨_, _, rfl⟩ hT _ hacc (clsD _ _)
    refine wpAny_pyNext_list_item hit' hl' (x := .ref T) (by simpa using hv) fun h₁ hit₁ hs₁ => ?_
    dsimp only
    refine wpAny_letOwnedTupleGo_listiter hit₁ ?_
    have hT₁ : h₁.IsTuple T #[ps[i].1, ps[i].2] := ⟨_, hs₁.extBut T _ hTI (hk T _ hTC hTI hTD hT), rfl, nT, rfl⟩
    have hn₁ := hn'.at' fun o e => hs₁.extBut _ o (Ne.symm hIC) e
    refine kcp_assign hh hT₁ ha hb hp hn₁ fun h₂ tk₂ hn₂ hk₂ => ?_
    have up₂ : ∀ c o, c ≠ cenv.locals → c ≠ I → H.get? c = some o → h₂.get? c = some o := fun c o h1 h2 e => hk₂ c o h1 (hs₁.extBut c o h2 e)
    have hm1 : (fun z => if z = b then some ps[i].2 else if z = a then some ps[i].1 else m' z) a = some ps[i].1 := by simp [hab]
    have hm2 : (fun z => if z = b then some ps[i].2 else if z = a then some ps[i].1 else m' z) b = some ps[i].2 := by simp
    refine wpAny_mono (htests ps[i] _ _ _ (List.getElem_mem hlt) hn₂ hm1 hm2 fun c o h1 h2 h3 e => up₂ c o h1 h2 (hk c o h1 h2 h3 e)) (fun ok s₃ h₃ => ?_) fun _ _ e => e
    obtain ⟨rfl, h₃, tk₃, rfl, hk₃⟩ := h₃
    have up₃ : ∀ c o, c ≠ cenv.locals → c ≠ I → H.get? c = some o → h₃.get? c = some o := fun c o h1 h2 e => hk₃ _ _ (up₂ c o h1 h2 e)
    have upT : ∀ c o, TupObj o → H.get? c = some o → h₃.get? c = some o := fun c o h1 e => by
      obtain ⟨o1, ho1, hc1⟩ := clsC _ _ hn'
      obtain ⟨o2, ho2, hc2⟩ := clsI _ _ hit'
      exact up₃ c o (noT H c _ _ h1 e _ ho1 hc1) (noT H c _ _ h1 e _ ho2 hc2) e
    have hit₃ : h₃.IsListIter I l (i + 1) := hit₁.at fun o e => hk₃ _ _ (hk₂ _ _ hIC e)
    have hacc₃ : h₃.get? D = some (lstO rs n) := up₃ _ _ hDC (Ne.symm hID) hacc'
    have hn₃ := hn₂.at' fun o e => hk₃ _ _ e
    have htk := take_succ_filter p ps i ps[i] (List.getElem?_eq_getElem hlt)
    cases hq : p ps[i] with
    | false =>
      simp only [Bool.false_eq_true, if_false]
      refine ⟨ps.length + 1 - (i + 1), nsub_up (by assumption), h₃, tk₃, _, i + 1, rs, n, rfl, hit₃, hacc₃, hn₃, ?_, hlt, rfl, fun c o h1 h2 h3 e => up₃ c o h1 h2 (hk c o h1 h2 h3 e)⟩
      rw [htk, hq]
      simpa using paired_mono hrs fun q y => hF _ _ q y upT
    | true =>
      simp only [if_true]
      refine wpAny_mono (helt ps[i] _ _ _ (List.getElem_mem hlt) hq hn₃ hm1 hm2 fun c o h1 h2 h3 e => up₃ c o h1 h2 (hk c o h1 h2 h3 e)) (fun y s₄ h₄ => ?_) fun _ _ e => e
      obtain ⟨hFy, h₄, tk₄, rfl, hk₄⟩ := h₄
      have hrl : rs.length ≤ ps.length := by
        have e1 := hrs.length
        have e2 : ((ps.take i).filter p).length ≤ (ps.take i).length := List.length_filter_le _ _
        have e3 : (ps.take i).length ≤ ps.length := by rw [List.length_take]; omega
        omega
      refine append_at (hk₄ _ _ hacc₃) (fun h₅ hs₅ ho₅ => ?_) (by rw [List.size_toArray]; omega)
      rw [List.push_toArray] at ho₅
      have up₅ : ∀ c o, c ≠ cenv.locals → c ≠ I → c ≠ D → H.get? c = some o → h₅.get? c = some o := fun c o h1 h2 h3 e => hs₅.extBut c o h3 (hk₄ _ _ (up₃ c o h1 h2 e))
      have up45 : ∀ c o, TupObj o → h₄.get? c = some o → h₅.get? c = some o := fun c o h1 e => hs₅.extBut c o (noT h₄ c _ _ h1 e _ (hk₄ _ _ hacc₃) (clsD _ _)) e
      refine ⟨ps.length + 1 - (i + 1), nsub_up (by assumption), h₅, tk₄, _, i + 1, rs ++ [y], _, rfl, (hit₃.at fun o e => hk₄ _ _ e).at fun o e => hs₅.extBut _ _ hID e, ho₅, (hn₃.at' fun o e => hk₄ _ _ e).at' fun o e => hs₅.extBut _ _ (Ne.symm hDC) e, ?_, hlt, rfl, fun c o h1 h2 h3 e => up₅ c o h1 h2 h3 (hk c o h1 h2 h3 e)⟩
      rw [htk, hq]
      simp only [if_true]
      exact (paired_mono hrs fun q y => hF _ _ q y fun c o h1 e => up45 c o h1 (hk₄ _ _ (upT c o h1 e))).snoc (hF _ _ _ _ up45 hFy)
  · have : i = ps.length := by omega
    subst this
    refine wpAny_pyNext_list_end hh hit' hl' (by simp; omega) fun h₁ he₁ => ?_
    dsimp only
    rw [List.take_length] at hrs
    have upT : ∀ c o, TupObj o → H.get? c = some o → h₁.get? c = some o := fun c o h1 e => by
      obtain ⟨o2, ho2, hc2⟩ := clsI _ _ hit'
      exact he₁ c o (noT H c _ _ h1 e _ ho2 hc2) e
    exact hR h₁ tk m' rs n (hn'.at' fun o e => he₁ _ _ (Ne.symm hIC) e) (he₁ _ _ (Ne.symm hID) hacc') (paired_mono hrs fun q y => hF _ _ q y upT) fun c o h1 h2 h3 e => he₁ c o h2 (hk c o h1 h2 h3 e)
end
end
section
variable [OSC]
section
variable {w : World} {mg mb : Str → Option Value} {h₀ h h' : Heap} {env : Env} {ns gs : List Str} {vs vs' : List (Option Value)} {mu nw fr : Led} {z : Shared} {tk : Nat} {A : Around} {E Q : Value → Shared → Prop} {a b : Str} {v : Value} {pos : Pos}
/-- a new object that something has made: all else stands -/
theorem GS.fresh {D : Addr} {o : Obj} (G : GS w mg mb h₀ env ns gs vs mu nw h) (hk : ∀ b o, h.get? b = some o → h'.get? b = some o) (hDn : h.get? D = none) (hD : h'.get? D = some o) : GS w mg mb h₀ env ns gs vs mu ((D, o) :: nw) h' := by
  have G' := G.Ns_keep hk
  have fresh : ∀ p ∈ mu ++ nw, p.1 ≠ D := fun p hp e => by have := (G.G.has p hp).1; rw [e, hDn] at this; cases this
  refine G'.with ⟨G'.G.stays, G'.G.le, fun p hp => ?_, G'.G.nd, fun p hp q hq => ?_⟩ (fun o e => e) fun p hp => ?_
  · simp only [List.mem_append, List.mem_cons] at hp
    rcases hp with hp | rfl | hp
    · exact G'.G.has p (List.mem_append_left _ hp)
    · refine ⟨hD, ?_⟩
      cases e : h₀.get? D with
      | none => rfl
      | some o => rw [G.G.stays _ _ e] at hDn; cases hDn
    · exact G'.G.has p (List.mem_append_right _ hp)
  · rcases List.mem_cons.mp hq with rfl | hq
    · exact fresh p (List.mem_append_left _ hp)
    · exact G'.G.apart p hp q hq
  · simp only [List.mem_append, List.mem_cons] at hp
    rcases hp with hp | rfl | hp
    · exact G'.ne p (List.mem_append_left _ hp)
    · rintro rfl
      obtain ⟨m, hn, _⟩ := G.ns_
      obtain ⟨ob, es, ep, hob, _⟩ := hn
      have e : h.get? env.locals = some ob := hob
      exact absurd (hDn.symm.trans e) (by simp)
    · exact G'.ne p (List.mem_append_right _ hp)
/-- [elt for a, b in (a list of pairs) if ..] -/
theorem r_comp2 {elt iter : Expr} {pa pb tp : Pos} {kk : Nat} {ifs : List Expr} {scope : Scope} {cl : List (Str × Addr)} (_G₀ : GS w mg mb h₀ env ns gs vs mu nw h)
    (hh : A.handled = none) (hclos : closureFor scope env = pure cl) (hcell : ∀ y ∈ scope.names, y.2 ≠ .cell) (hkind : scope.kind = .function) (hnames : ∀ y ∈ scope.names, y.2 = .local → scope.names.lookup y.1 = some .local) (ha : scope.names.lookup a = some .local) (hb : scope.names.lookup b = some .local) (hab : ¬ a = b)
    (hi : wpAny (model PG w) A (eval iter env) (fun xv s₁ => Ex11 fun (p : Value × Value → Bool) (F : Heap → Value × Value → Value → Prop) (l : Addr) (ys : List Value) (ps : List (Value × Value)) (n : Nat) (h : Heap) (tk : Nat) (z : Shared) (mu nw : Led) => Al10 ((∀ h h' q y, (∀ c o, TupObj o → h.get? c = some o → h'.get? c = some o) → F h q y → F h' q y)) (xv = .ref l) (s₁ = S z h tk) (GS w mg mb h₀ env ns gs vs mu nw h) ((l, lstO ys n) ∈ mu ++ nw) (ys.length ≤ sizeLine) (PairsAt h ys ps) ((∀ C q s₃ m₃ E', q ∈ ps → s₃.heap.Ns C m₃ → m₃ a = some q.1 → m₃ b = some q.2 → (∀ c o, h.get? c = some o → s₃.heap.get? c = some o) →
        wpAny (model PG w) A (forIn ifs true fun c r => if r = true then do let ok ← isTrue c (compEnvC scope cl C env) (eval c (compEnvC scope cl C env)); pure (ForInStep.yield ok) else pure (ForInStep.yield r)) (fun ok s₄ => ok = p q ∧ Keeps s₃ s₄) E' s₃)) ((∀ C q s₃ m₃ E', q ∈ ps → p q = true → s₃.heap.Ns C m₃ → m₃ a = some q.1 → m₃ b = some q.2 → (∀ c o, h.get? c = some o → s₃.heap.get? c = some o) →
        wpAny (model PG w) A (eval elt (compEnvC scope cl C env)) (fun y s₄ => F s₄.heap q y ∧ Keeps s₃ s₄) E' s₃)) ((∀ D h' tk' rs n', GS w mg mb h₀ env ns gs vs mu ((D, lstO rs n') :: nw) h' → (∀ b o, h.get? b = some o → h'.get? b = some o) → Paired (F h') (ps.filter p) rs → Q (.ref D) (S z h' tk')))) E (S z h tk))
    (hs : ∀ x, foldedSetIterable iter env x = pure x := by intro _; rfl) :
    wpAny (model PG w) A (eval (.ListComp elt [⟨.Tuple [.Name a pa, .Name b pb] kk tp, iter, ifs, 0⟩] scope pos) env) Q E (S z h tk) := by
  rw [eval_ListComp]
  refine wpAny_comprehension_free (use := none) rfl hs hclos hkind hnames (wpAny_mono hi (fun xv s₁ h1 => ?_) fun _ _ e => e)
  obtain ⟨p, F, l, ys, ps, n, h2, tk2, z2, mu2, nw2, hF, rfl, rfl, G, hm, hsz, hps, htests, helt, hQ⟩ := h1
  have hlo := (G.G.has _ hm).1
  have hl : h2.IsList l ys.toArray := ⟨_, hlo, rfl, n, rfl⟩
  have hlt : l < h2.objs.size := Heap.lt_size hlo
  refine wpAny_pyIter_list (s := S z2 h2 tk2) hl ?_
  refine wpAny_newObj_type (wpAny_newFunctionEnv hcell (by intro y hy; simp at hy) (fun h₁ hns₁ hsb₁ => ?_) hkind)
  dsimp only at hns₁ hsb₁ ⊢
  generalize hH1 : h2.push { cls := .type "list_iterator", data := .fields #[.ref l, .int 0 0] } = H1 at hns₁ hsb₁ ⊢
  have hs1 : H1.objs.size = h2.objs.size + 1 := by rw [← hH1, Heap.size_push]
  have hI1 : H1.get? h2.objs.size = some { cls := .type "list_iterator", data := .fields #[.ref l, .int 0 0] } := hH1 ▸ Heap.get?_push_size _ rfl
  have k1 : ∀ b o, h2.get? b = some o → H1.get? b = some o := fun b o e => hH1 ▸ Heap.get?_push_of_some _ e
  generalize hH2 : H1.push { cls := .type "list", dict := none, data := .seq ([] : List Value).toArray } = H2 at hns₁ hsb₁ ⊢
  have hs2 : H2.objs.size = h2.objs.size + 2 := by rw [← hH2, Heap.size_push, hs1]
  have hIlt : h2.objs.size < H1.objs.size := by rw [hs1]; exact Nat.lt_succ_self _
  have hID : h2.objs.size ≠ H1.objs.size := Nat.ne_of_lt hIlt
  have hDC : H1.objs.size ≠ H2.objs.size := by rw [hs1, hs2]; exact Nat.ne_of_lt (Nat.lt_succ_self _)
  have hIC : h2.objs.size ≠ H2.objs.size := by rw [hs2]; exact Nat.ne_of_lt (Nat.lt_succ_of_lt (Nat.lt_succ_self _))
  have lt3 : ∀ b o, h2.get? b = some o → b ≠ H2.objs.size ∧ b ≠ h2.objs.size ∧ b ≠ H1.objs.size := fun b o e => by
    have := Heap.lt_size e
    exact ⟨by rw [hs2]; exact Nat.ne_of_lt (Nat.lt_succ_of_lt (Nat.lt_succ_of_lt this)), Nat.ne_of_lt this, by rw [hs1]; exact Nat.ne_of_lt (Nat.lt_succ_of_lt this)⟩
  have k2 : ∀ b o, h2.get? b = some o → h₁.get? b = some o := fun b o e => hsb₁.extBut b o (lt3 b o e).1 (Heap.get?_push_of_some _ (hH2 ▸ Heap.get?_push_of_some _ (k1 b o e)))
  have hit : h₁.IsListIter h2.objs.size l 0 := ⟨_, hsb₁.extBut _ _ hIC (Heap.get?_push_of_some _ (hH2 ▸ Heap.get?_push_of_some _ hI1)), rfl, rfl⟩
  have hacc : h₁.get? H1.objs.size = some (lst []) := hsb₁.extBut _ _ hDC (Heap.get?_push_of_some _ (hH2 ▸ Heap.get?_push_size _ rfl))
  have none_ : ∀ a, h2.objs.size ≤ a → h2.get? a = none := fun a ha => by
    cases e : h2.get? a with
    | none => rfl
    | some o' => exact absurd (Heap.lt_size e) (Nat.not_lt.mpr ha)
  have loop : ∀ s₃ : Shared, s₃ = S z2 h₁ tk2 →
      codeAny (model PG w) A (.compLoop (.ListComp elt [⟨.Tuple [.Name a pa, .Name b pb] kk tp, iter, ifs, 0⟩] scope pos) 0 (.ref h2.objs.size) (.ref H1.objs.size) (compEnvC scope cl H2.objs.size env))
        (compPost (model PG w) A E none Q (.ref H1.objs.size) H2.objs.size) s₃ := by
    rintro s₃ rfl
    refine comp2_loop (cenv := compEnvC scope cl H2.objs.size env) p F hh hsz (lookup_relabel_local ha) (lookup_relabel_local hb) hab (by simp [compEnvC, relabel, hkind]) hIC hID hDC (lt3 _ _ hlo).2.1 (lt3 _ _ hlo).2.2 (lt3 _ _ hlo).1 hF hit (hl.at fun o e => k2 _ _ e) hacc hns₁
      (paired_mono hps fun v q ⟨T, nT, e, hT⟩ => ⟨T, nT, e, k2 _ _ hT⟩)
      (fun q s₃ m₃ E' hq hn h1 h2' hk => htests _ q s₃ m₃ E' hq hn h1 h2' fun c o e => hk c o (lt3 c o e).1 (lt3 c o e).2.1 (lt3 c o e).2.2 (k2 c o e))
      (fun q s₃ m₃ E' hq hpq hn h1 h2' hk => helt _ q s₃ m₃ E' hq hpq hn h1 h2' fun c o e => hk c o (lt3 c o e).1 (lt3 c o e).2.1 (lt3 c o e).2.2 (k2 c o e)) ?_
    intro h' tk' m' rs n' hn' hD' hrs hk'
    refine ⟨m', hn', fun h'' hs'' => ?_⟩
    have hk : ∀ b o, h2.get? b = some o → h''.get? b = some o := fun b o e => hs''.extBut b o (lt3 b o e).1 (hk' b o (lt3 b o e).1 (lt3 b o e).2.1 (lt3 b o e).2.2 (k2 b o e))
    refine hQ H1.objs.size h'' tk' rs n' (G.fresh hk (none_ _ (by rw [hs1]; exact Nat.le_succ _)) (hs''.extBut _ _ hDC hD')) hk ?_
    refine paired_mono hrs fun q y => hF _ _ q y fun c o ht e => hs''.extBut c o (fun q => ?_) e
    obtain ⟨ob, es, ep, hob, hd, _⟩ := hn'
    obtain ⟨l', n'', rfl⟩ := ht
    rw [q] at e
    rw [show h'.get? H2.objs.size = some ob from hob] at e
    cases e
    cases hd
  exact codeAny_compStart_list (loop _ rfl) (wpAny_pyIter_listiter (s := S z2 h₁ tk2) hit (loop _ rfl))
end
end
section
variable [OSC]
section
variable {w : World} {mg mb : Str → Option Value} {h₀ h h' : Heap} {env : Env} {ns gs : List Str} {vs vs' : List (Option Value)} {mu nw fr own own' : Led} {z : Shared} {tk : Nat} {A : Around} {E : Value → Shared → Prop} {Q : Flow → Shared → Prop} {v : Value} {pos : Pos} {iter target : Expr} {body : List Stmt}
/-- a loop's own objects have moved -/
theorem GS.owned (G : GS w mg mb h₀ env ns gs vs (own ++ mu) nw h) (ha : own'.map (·.1) = own.map (·.1)) (k : ∀ b o, b ∉ own.map (·.1) → h.get? b = some o → h'.get? b = some o) (ho : ∀ p ∈ own', h'.get? p.1 = some p.2) : GS w mg mb h₀ env ns gs vs (own' ++ mu) nw h' := by
  have inown : ∀ b, b ∈ own.map (·.1) → ∃ p ∈ own, p.1 = b := fun b hb => let ⟨p, hp, e⟩ := List.mem_map.mp hb; ⟨p, hp, e⟩
  have base : ∀ b ob, h₀.get? b = some ob → b ∉ own.map (·.1) := fun b ob e hb => by
    obtain ⟨p, hp, rfl⟩ := inown b hb
    rw [(G.G.has p (List.mem_append_left _ (List.mem_append_left _ hp))).2] at e; cases e
  have loc : env.locals ∉ own.map (·.1) := fun hb => by
    obtain ⟨p, hp, e⟩ := inown _ hb
    exact G.ne p (List.mem_append_left _ (List.mem_append_left _ hp)) e
  have nd := G.G.nd
  rw [List.map_append, List.nodup_append] at nd
  have muown : ∀ p ∈ mu, p.1 ∉ own.map (·.1) := fun p hp hb => nd.2.2 _ hb _ (List.mem_map.mpr ⟨p, hp, rfl⟩) rfl
  have nwown : ∀ p ∈ nw, p.1 ∉ own.map (·.1) := fun p hp hb => by
    obtain ⟨q, hq, e⟩ := inown _ hb
    exact G.G.apart q (List.mem_append_left _ hq) p hp e
  have own'mem : ∀ p ∈ own', ∃ q ∈ own, q.1 = p.1 := fun p hp => inown _ (by rw [← ha]; exact List.mem_map.mpr ⟨p, hp, rfl⟩)
  refine G.with ⟨fun b ob e => k b ob (base b ob e) (G.G.stays b ob e), ?_, fun p hp => ?_, ?_, fun a ha' q hq => ?_⟩ (fun ob e => k _ _ loc e) fun p hp => ?_
  · obtain ⟨m', hn, hl'⟩ := G.ns_
    obtain ⟨ob, es, ep, hob, _⟩ := hn
    exact Nat.le_of_lt (Nat.lt_of_le_of_lt G.above (Heap.lt_size (k _ _ loc hob)))
  · rcases List.mem_append.mp hp with hp | hp
    · rcases List.mem_append.mp hp with hp | hp
      · obtain ⟨q, hq, e⟩ := own'mem p hp
        exact ⟨ho p hp, e ▸ (G.G.has q (List.mem_append_left _ (List.mem_append_left _ hq))).2⟩
      · have := G.G.has p (List.mem_append_left _ (List.mem_append_right _ hp))
        exact ⟨k _ _ (muown p hp) this.1, this.2⟩
    · have := G.G.has p (List.mem_append_right _ hp)
      exact ⟨k _ _ (nwown p hp) this.1, this.2⟩
  · rw [List.map_append, ha, ← List.map_append]; exact G.G.nd
  · rcases List.mem_append.mp ha' with ha' | ha'
    · obtain ⟨q', hq', e⟩ := own'mem a ha'
      exact fun e2 => G.G.apart q' (List.mem_append_left _ hq') q hq (e.trans e2)
    · exact G.G.apart a (List.mem_append_right _ ha') q hq
  · rcases List.mem_append.mp hp with hp | hp
    · rcases List.mem_append.mp hp with hp | hp
      · obtain ⟨q, hq, e⟩ := own'mem p hp
        exact fun e2 => G.ne q (List.mem_append_left _ (List.mem_append_left _ hq)) (e.trans e2)
      · exact G.ne p (List.mem_append_left _ (List.mem_append_right _ hp))
    · exact G.ne p (List.mem_append_right _ hp)
theorem GS.dropM {own : Led} (G : GS w mg mb h₀ env ns gs vs (own ++ mu) nw h) : GS w mg mb h₀ env ns gs vs mu nw h := by
  induction own with
  | nil => exact G
  | cons p own ih => exact ih G.lessM
/-- for target in (anything that is walked) -/
theorem r_forT {J : Nat → List (Option Value) → Led → Led → Heap → Prop} {keep : Led} (hJt : ∀ i vs mu nw h h', (∀ c o, TupObj o → h.get? c = some o → h'.get? c = some o) → J i vs mu nw h → J i vs mu nw h') (hJk : ∀ i vs mu nw h, J i vs mu nw h → ∀ p ∈ keep, p ∈ nw)
    {I : Addr} {fp wr : List Addr} {n : Nat} {P Md : Nat → Value → Heap → Prop} {St : Nat → Heap → Prop} (W : KTurns PG w A target I fp wr n P Md St)
    (hex : ∀ i h, St i h → ∀ b ∈ wr, ∃ o, h.get? b = some o ∧ ¬ TupObj o) (hfp : ∀ b ∈ fp, b ∈ wr ∨ ∃ o, (b, o) ∈ keep)
    (how : own.map (·.1) = wr) (hst : St 0 h) (hJ : J 0 vs mu nw h) (G : GS w mg mb h₀ env ns gs vs (own ++ mu) nw h)
    (step : ∀ i v vs mu nw own h tk z, i < n → own.map (·.1) = wr → P i v h → J i vs mu nw h → GS w mg mb h₀ env ns gs vs (own ++ mu) nw h →
      wpAny (model PG w) A (assign target env v) (fun _ s2 => wpAny (model PG w) A (execs body env) (fun f s' => f = .next ∧ Ex6 fun z vs' mu' nw' h' tk' => Al3 (s' = S z h' tk') (J (i + 1) vs' mu' nw' h') (GS w mg mb h₀ env ns gs vs' (own ++ mu') nw' h'))
        (notedBy (model PG w) A env fun e s' => cameBackBy (model PG w) A env E e s') s2) (notedBy (model PG w) A env fun e s' => cameBackBy (model PG w) A env E e s') (S z h tk))
    (fin : ∀ vs mu nw h tk z, J n vs mu nw h → GS w mg mb h₀ env ns gs vs mu nw h → Q .next (S z h tk)) :
    codeAny (model PG w) A (.forLoop target (.ref I) body [] env) (fun r s' => match r with | .ok f => Q f s' | .error e => cameBackBy (model PG w) A env E e s') (S z h tk) := by
  refine codeAny_forLoop_any
    (fun k s' => Ex8 fun z h tk i vs mu nw own => Al7 (s' = S z h tk) (own.map (·.1) = wr) (St i h) (J i vs mu nw h) (GS w mg mb h₀ env ns gs vs (own ++ mu) nw h) (i ≤ n) (k = n + 1 - i)) ?_ (n + 1)
    ⟨z, h, tk, 0, vs, mu, nw, own, rfl, how, hst, hJ, G, Nat.zero_le _, rfl⟩
  intro k s' hI_
  try k_fold
  obtain ⟨z, h, tk, i, vs, mu, nw, own, rfl, how, hst, hJ, G, hi, rfl⟩ := hI_
  have tups : ∀ c o, TupObj o → h.get? c = some o → c ∉ wr := fun c o ht e hb => by
    obtain ⟨o', ho', hn⟩ := hex _ _ hst _ hb
    rw [e] at ho'; cases ho'; exact hn ht
  by_cases hlt : i < n
  · refine W.item i _ _ _ hlt hst fun v h₁ tk₁ hMd hk₁ => ?_
    refine W.go i v _ _ _ hMd fun h₂ hP hst₂ hk₂ => ?_
    have up : ∀ b o, b ∉ wr → h.get? b = some o → h₂.get? b = some o := fun b o hb e => hk₂ b o hb (hk₁ b o hb e)
    obtain ⟨own', ho1, ho2⟩ : ∃ own' : Led, own'.map (·.1) = wr ∧ ∀ p ∈ own', h₂.get? p.1 = some p.2:= by
      have := hex _ _ hst₂
      clear hex how hfp
      have key : ∀ l : List Addr, (∀ b ∈ l, ∃ o, h₂.get? b = some o ∧ ¬ TupObj o) → ∃ own' : Led, own'.map (·.1) = l ∧ ∀ p ∈ own', h₂.get? p.1 = some p.2:= by
        intro l
        induction l with
        | nil => intro _; exact ⟨[], rfl, fun p hp => nomatch hp⟩
        | cons b l ih =>
          intro hb
          obtain ⟨o, ho, _⟩ := hb b (.head _)
          obtain ⟨r, h1, h2⟩ := ih fun c hc => hb c (.tail _ hc)
          refine ⟨(b, o) :: r, by rw [List.map_cons, h1], fun p hp => ?_⟩
          rcases List.mem_cons.mp hp with rfl | hp
          · exact ho
          · exact h2 p hp
      exact key wr this
    have G2 := G.owned (own' := own') (h' := h₂) (ho1.trans how.symm) (fun b o hb e => up b o (by rw [← how]; exact hb) e) ho2
    have hJ2 := hJt _ _ _ _ _ h₂ (fun c o ht e => up c o (tups c o ht e) e) hJ
    refine wpAny_mono (step i v vs mu nw own' h₂ tk₁ z hlt ho1 hP hJ2 G2) (fun _ s₂ h₂' => wpAny_mono h₂' (fun f s₃ h₃ => ?_) fun _ _ e => e) fun _ _ e => e
    obtain ⟨rfl, z3, vs3, mu3, nw3, h3, tk3, rfl, hJ3, G3⟩ := h₃
    refine ⟨n + 1 - (i + 1), nsub_up (by assumption), z3, h3, tk3, i + 1, vs3, mu3, nw3, own', rfl, ho1, W.frame _ _ _ hst₂ (fun b hb o e => ?_), hJ3, G3, hlt, rfl⟩
    rcases hfp b hb with hb | ⟨o', hb⟩
    · rw [← ho1] at hb
      obtain ⟨p, hp, rfl⟩ := List.mem_map.mp hb
      rw [ho2 p hp] at e
      rw [← e]
      exact (G3.G.has p (List.mem_append_left _ (List.mem_append_left _ hp))).1
    · have e1 := (G2.G.has _ (List.mem_append_right _ (hJk _ _ _ _ _ hJ2 _ hb))).1
      have e2 := (G3.G.has _ (List.mem_append_right _ (hJk _ _ _ _ _ hJ3 _ hb))).1
      rw [e1] at e
      rw [← e]; exact e2
  · have hin : i = n := by omega
    subst hin
    refine W.done _ _ _ hst fun h₁ tk₁ hk₁ => wpAny_execs_nil ?_
    have hJ1 := hJt _ _ _ _ _ h₁ (fun c o ht e => hk₁ c o (tups c o ht e) e) hJ
    refine fin vs mu nw h₁ tk₁ z hJ1 ?_
    have G0 := G.dropM
    have notown : ∀ p ∈ mu ++ nw, p.1 ∉ wr := fun p hp hb => by
      rw [← how] at hb
      obtain ⟨q, hq, e⟩ := List.mem_map.mp hb
      rcases List.mem_append.mp hp with hp | hp
      · have nd := G.G.nd
        rw [List.map_append, List.nodup_append] at nd
        exact nd.2.2 _ (List.mem_map.mpr ⟨q, hq, rfl⟩) _ (List.mem_map.mpr ⟨p, hp, rfl⟩) e
      · exact G.G.apart q (List.mem_append_left _ hq) p hp e
    have base : ∀ b ob, h₀.get? b = some ob → b ∉ wr := fun b ob e hb => by
      rw [← how] at hb
      obtain ⟨p, hp, rfl⟩ := List.mem_map.mp hb
      rw [(G.G.has p (List.mem_append_left _ (List.mem_append_left _ hp))).2] at e; cases e
    have loc : env.locals ∉ wr := fun hb => by
      rw [← how] at hb
      obtain ⟨p, hp, e⟩ := List.mem_map.mp hb
      exact G.ne p (List.mem_append_left _ (List.mem_append_left _ hp)) e
    refine G0.with ⟨fun b ob e => hk₁ b ob (base b ob e) (G0.G.stays b ob e), ?_, fun p hp => ⟨hk₁ _ _ (notown p hp) (G0.G.has p hp).1, (G0.G.has p hp).2⟩, G0.G.nd, G0.G.apart⟩ (fun ob e => hk₁ _ _ loc e) G0.ne
    obtain ⟨m', hn, hl'⟩ := G.ns_
    obtain ⟨ob, es, ep, hob, _⟩ := hn
    exact Nat.le_of_lt (Nat.lt_of_le_of_lt G.above (Heap.lt_size (hk₁ _ _ loc hob)))
end
end
section
variable [OSC]
open AutoSeq1 (wpAny_loadPart')
noncomputable abbrev tupIterO (l : Addr) : Obj := { cls := .type "tuple_iterator", data := .fields #[.ref l, .int 0 0] }
noncomputable abbrev enumO (it : Addr) : Obj := { cls := .type "enumerate", data := .fields #[.none, .bool false, .ref it, rawInt 0, .none, .none] }
theorem meets_enumT (l : Addr) (items : Array Value) (n : Nat) :
    Meets (Builtin.«enumerate.__new__» ⟨[.type "enumerate", .ref l], []⟩) (fun _ R s => s.heap.get? l = some { cls := .type "tuple", dict := none, data := .seq items n, slots := #[] } ∧
      R (.ok (.ret (.ref (s.heap.push (tupIterO l)).objs.size))) { s with heap := (s.heap.push (tupIterO l)).push (enumO s.heap.objs.size) }) :=
  .of_wp fun prog w A R s h => by
    obtain ⟨hp, g, d, tk, os⟩ := s; obtain ⟨hl, h⟩ := h
    have hsub := sub_enumerate
    have hL : Heap.IsTuple (Shared.heap ⟨hp, g, d, tk, os⟩) l items := ⟨_, hl, rfl, n, rfl⟩
    wp_walk using wpAny_loadPart' hl
    refine wpAny_stack_any fun st => wpAny_pure ?_
    split
    · rename_i c _ _ _ _ _
      cases (c == Value.type "enumerate")
      · wp_walk using wpAny_loadPart' hl, wpAny_pyIter_tuple hL
        exact ⟨_, rfl, h⟩
      · wp_walk using wpAny_loadPart' hl, wpAny_pyIter_tuple hL
        exact ⟨_, rfl, h⟩
    · wp_walk using wpAny_loadPart' hl, wpAny_pyIter_tuple hL
      exact ⟨_, rfl, h⟩
section
variable {prog : Program} {w : World} {A : Around} {E : Value → Shared → Prop} {s : Shared}
theorem call_enumT {l : Addr} {items : Array Value} {n : Nat} {Q : Value → Shared → Prop} (hl : s.heap.get? l = some { cls := .type "tuple", dict := none, data := .seq items n, slots := #[] })
    (h : Q (.ref (s.heap.objs.size + 1)) { s with heap := (s.heap.push (tupIterO l)).push (enumO s.heap.objs.size) }) :
    wpAny (model prog w) A (call (.type "enumerate") [.ref l]) Q E s := by
  refine callType_new PySem.F.called_enumerate (by decide) (PySem.F.typeCall_enumerate_1 _) (PySem.F.newCall_enumerate_1 _) (fun obj => PySem.F.args_object_init_2 obj _) PySem.F.entry_enumerate_new
    (meets_enumT l items n) ⟨hl, ?_⟩
  have hz : (s.heap.push (tupIterO l)).objs.size = s.heap.objs.size + 1 := Heap.size_push ..
  show _ ∧ _
  rw [hz]
  have he : ((s.heap.push (tupIterO l)).push (enumO s.heap.objs.size)).get? (s.heap.objs.size + 1) = some (enumO s.heap.objs.size) := by
    have := Heap.get?_push_size (s.heap.push (tupIterO l)) (o := enumO s.heap.objs.size) rfl
    rw [hz] at this; exact this
  exact ⟨⟨_, he, rfl⟩, h⟩
theorem nextOf_tuple_item {it t : Addr} {i : Nat} {items : Array Value} {x : Value} {Q : Value → Shared → Prop} (hit : s.heap.IsTupleIter it t i) (ht : s.heap.IsTuple t items) (hx : items[i]? = some x)
    (hQ : ∀ h', h'.IsTupleIter it t (i + 1) → Heap.SameBut it s.heap h' → Q x { s with heap := h' }) : wpAny (model prog w) A (Builtin.SmallTypes.nextOf (.ref it)) Q E s := by
  obtain ⟨o, ho, hc, hd⟩ := id hit
  obtain ⟨ol, hol, _, nl, hdl⟩ := ht
  unfold Builtin.SmallTypes.nextOf
  refine wpAny_bind (wpAny_callSpecial?_slot (name := Str.ofString "__next__") hit.typeIs PySem.F.slot_tuple_iterator_next
    (wpAny_call_entry PySem.F.slot_tuple_iterator_next hit.typeIs PySem.F.entry_tuple_iterator_next ?_ (PySem.F.args_tuple_iterator_next_1 _)))
  show wpAny _ _ (field (.ref it) 0 >>= _) _ _ s
  refine wpAny_bind (wpAny_field ho hd (x := .ref t) rfl ?_)
  show wpAny _ _ (if (Value.ref t == Value.none) = true then _ else _) _ _ s
  rw [if_neg (show ¬ ((Value.ref t == Value.none) = true) from Bool.false_ne_true)]
  show wpAny _ _ (field (.ref it) 1 >>= _) _ _ s
  refine wpAny_bind (wpAny_field ho hd (x := .int i 0) rfl ?_)
  show wpAny _ _ (seqItems? (.ref t) >>= _) _ _ s
  refine wpAny_bind (wpAny_seqItems hol hdl ?_)
  simp only [Int.toNat_natCast, hx]
  refine wpAny_bind (wpAny_setField ho hd (by simp) (wpAny_pure ⟨x, rfl, wpAny_pure (hQ _ ?_ (Heap.SameBut.update ..))⟩))
  exact ⟨_, Heap.get?_update_self _ ho (Obj.isFreed_of_fields (Obj.data_mapFields hd _)), (Obj.cls_mapFields ..).trans hc, by
    rw [Obj.data_mapFields hd]; simp [rawInt]⟩
theorem nextOf_tuple_end {it t : Addr} {i : Nat} {items : Array Value} {Q : Value → Shared → Prop} (hh : A.handled = none) (hit : s.heap.IsTupleIter it t i) (ht : s.heap.IsTuple t items) (hx : items[i]? = none)
    (hE : ∀ h' e, Heap.ExtBut it s.heap h' → (∃ o, h'.get? e = some o ∧ o.cls = .type "StopIteration") → E (.ref e) { s with heap := h' }) : wpAny (model prog w) A (Builtin.SmallTypes.nextOf (.ref it)) Q E s := by
  obtain ⟨o, ho, hc, hd⟩ := id hit
  obtain ⟨ol, hol, _, nl, hdl⟩ := ht
  unfold Builtin.SmallTypes.nextOf
  refine wpAny_bind (wpAny_callSpecial?_slot (name := Str.ofString "__next__") hit.typeIs PySem.F.slot_tuple_iterator_next
    (wpAny_call_entry PySem.F.slot_tuple_iterator_next hit.typeIs PySem.F.entry_tuple_iterator_next ?_ (PySem.F.args_tuple_iterator_next_1 _)))
  show wpAny _ _ (field (.ref it) 0 >>= _) _ _ s
  refine wpAny_bind (wpAny_field ho hd (x := .ref t) rfl ?_)
  show wpAny _ _ (if (Value.ref t == Value.none) = true then _ else _) _ _ s
  rw [if_neg (show ¬ ((Value.ref t == Value.none) = true) from Bool.false_ne_true)]
  show wpAny _ _ (field (.ref it) 1 >>= _) _ _ s
  refine wpAny_bind (wpAny_field ho hd (x := .int i 0) rfl ?_)
  show wpAny _ _ (seqItems? (.ref t) >>= _) _ _ s
  refine wpAny_bind (wpAny_seqItems hol hdl ?_)
  simp only [Int.toNat_natCast, hx]
  refine wpAny_bind (wpAny_rule (wpAny_bind (wpAny_setField ho hd (by simp) ?_)))
  show wpAny _ _ (newExc (.type "StopIteration") [] >>= _) _ _ _
  refine wpAny_bind ?_
  simp only [newExc, newTuple]
  refine wpAny_bind (wpAny_newObj_type ?_ (by size_fits))
  refine wpAny_bind (m := firstArgMember _ _) (wpAny_of_eq (a := Value.none) (by first | rfl | (simp only [firstArgMember]; rfl)) ?_)
  refine wpAny_newObj_type ?_ (by size_fits)
  simp only [raiseNew]
  refine wpAny_bind (wpAny_handled ?_)
  first | rw [show A.in1.handled = none from hh] | rw [hh]
  refine wpAny_bind (wpAny_pure (wpAny_throw ?_))
  exact hE _ _ (((Heap.SameBut.update ..).extBut.push _).push _) ⟨_, Heap.get?_push_size _ rfl, rfl⟩
end
theorem drawsT {prog : Program} {w : World} {A : Around} (hh : A.handled = none) (it t : Addr) (hne : t ≠ it) (items : Array Value) :
    Draws prog w A it [it, t] items.size (fun i v => items[i]? = some v) (fun i h => h.IsTupleIter it t i ∧ h.IsTuple t items) where
  live := fun _ _ st => let ⟨o, ho, _⟩ := st.1; ⟨o, ho⟩
  frame := fun _ _ _ st hk => ⟨st.1.at fun o e => hk it (by simp) o e, st.2.at fun o e => hk t (by simp) o e⟩
  item := fun i s Q E hi st hQ => by
    refine nextOf_tuple_item st.1 st.2 (x := items[i]) (by simp [hi]) fun h' hit' hs' => ?_
    exact hQ _ h' s.toks (by simp [hi]) ⟨hit', st.2.extBut hs'.extBut hne⟩ hs'
  done := fun s Q E st hE => nextOf_tuple_end hh st.1 st.2 (by simp) hE
end
section
variable [OSC]
mutual
noncomputable def TermH (h : Heap) (v : Value) : Tree → Prop
  | .node op ks => Ex4 fun a n t vs => Al3 (v = .ref a) (h.get? a = some (tupO (.str op.str t :: vs) n)) (TermsH h vs ks)
noncomputable def TermsH (h : Heap) (vs : List Value) : List Tree → Prop
  | [] => vs = []
  | k :: ks => ∃ v vs', vs = v :: vs' ∧ TermH h v k ∧ TermsH h vs' ks
end
mutual
theorem TermH.mono {h h' : Heap} (s : ∀ c o, TupObj o → h.get? c = some o → h'.get? c = some o) {v : Value} : ∀ {t : Tree}, TermH h v t → TermH h' v t
  | .node op ks, ⟨a, n, t, vs, e, hm, hk⟩ => ⟨a, n, t, vs, e, s _ _ ⟨_, _, rfl⟩ hm, TermsH.mono s hk⟩
theorem TermsH.mono {h h' : Heap} (s : ∀ c o, TupObj o → h.get? c = some o → h'.get? c = some o) {vs : List Value} : ∀ {t : List Tree}, TermsH h vs t → TermsH h' vs t
  | [], h => h
  | k :: ks, ⟨v, vs', e, h, hk⟩ => ⟨v, vs', e, TermH.mono s h, TermsH.mono s hk⟩
end
mutual
theorem TermAt.toH {nw : Led} {h : Heap} (s : ∀ p ∈ nw, h.get? p.1 = some p.2) {v : Value} : ∀ {t : Tree}, TermAt nw v t → TermH h v t
  | .node op ks, ⟨a, n, t, vs, e, hm, hk⟩ => ⟨a, n, t, vs, e, s _ hm, TermsAt.toH s hk⟩
theorem TermsAt.toH {nw : Led} {h : Heap} (s : ∀ p ∈ nw, h.get? p.1 = some p.2) {vs : List Value} : ∀ {t : List Tree}, TermsAt nw vs t → TermsH h vs t
  | [], h => h
  | k :: ks, ⟨v, vs', e, h, hk⟩ => ⟨v, vs', e, TermAt.toH s h, TermsAt.toH s hk⟩
end
theorem TermsH.len {h : Heap} : ∀ {vs : List Value} {ks : List Tree}, TermsH h vs ks → vs.length = ks.length
  | _, [], e => by rw [e]; rfl
  | _, k :: ks, ⟨v, vs', e, _, hk⟩ => by rw [e, List.length_cons, List.length_cons, TermsH.len hk]
theorem TermsH.at {h : Heap} : ∀ {vs : List Value} {ks : List Tree}, TermsH h vs ks → ∀ {i : Nat} {v : Value}, vs[i]? = some v → ∃ t, ks[i]? = some t ∧ TermH h v t
  | _, [], e, i, v, hv => by rw [e] at hv; cases hv
  | _, k :: ks, ⟨v', vs', e, h1, hk⟩, i, v, hv => by
    subst e
    cases i with
    | zero => cases hv; exact ⟨k, rfl, h1⟩
    | succ i => exact TermsH.at hk hv
noncomputable def opOf : Tree → Wd
  | .node op _ => op
mutual
noncomputable def Tree.parts : Tree → List Tree
  | .node op ks => .node op ks :: Tree.partsL ks
noncomputable def Tree.partsL : List Tree → List Tree
  | [] => []
  | k :: ks => k.parts ++ Tree.partsL ks
end
mutual
theorem parts_len : ∀ t : Tree, t.parts.length = t.size
  | .node op ks => by simp only [Tree.parts, Tree.size, List.length_cons, partsL_len ks]; omega
theorem partsL_len : ∀ ks : List Tree, (Tree.partsL ks).length = Tree.sizeL ks
  | [] => rfl
  | k :: ks => by simp only [Tree.partsL, Tree.sizeL, List.length_append, parts_len k, partsL_len ks]
end
mutual
theorem parts_vars : ∀ t : Tree, (t.parts.filter isVarT).map opOf = t.vars
  | .node op [] => by cases h : op.var <;> simp [Tree.parts, Tree.partsL, isVarT, Tree.vars, h, opOf]
  | .node op (k :: ks) => by
    simp only [Tree.parts, List.filter_cons, isVarT, List.isEmpty_cons, Bool.false_and, Bool.false_eq_true, if_false, Tree.vars]
    have := partsL_vars (k :: ks)
    simpa [Tree.varsL] using this
theorem partsL_vars : ∀ ks : List Tree, ((Tree.partsL ks).filter isVarT).map opOf = Tree.varsL ks
  | [] => rfl
  | k :: ks => by simp only [Tree.partsL, Tree.varsL, List.filter_append, List.map_append, parts_vars k, partsL_vars ks]
end
theorem partsL_app : ∀ (a b : List Tree), Tree.partsL (a ++ b) = Tree.partsL a ++ Tree.partsL b
  | [], b => rfl
  | k :: ks, b => by simp only [List.cons_append, Tree.partsL, partsL_app ks b, List.append_assoc]
theorem sizeL_app : ∀ (a b : List Tree), Tree.sizeL (a ++ b) = Tree.sizeL a + Tree.sizeL b
  | [], b => by simp [Tree.sizeL]
  | k :: ks, b => by simp only [List.cons_append, Tree.sizeL, sizeL_app ks b]; omega
theorem size_pos : ∀ t : Tree, 1 ≤ t.size
  | .node op ks => by simp only [Tree.size]; omega
theorem sizeL_len : ∀ ks : List Tree, ks.length ≤ Tree.sizeL ks
  | [] => Nat.le_refl _
  | k :: ks => by simp only [Tree.sizeL, List.length_cons]; have := size_pos k; have := sizeL_len ks; omega
theorem keep_r (w : World) : keepIn (KK w) (.ref 102) = true ∧ keepIn (KK w) (.ref 107) = true ∧ keepIn (KK w) (.ref 112) = true ∧ keepIn (KK w) (.ref 134) = true ∧ keepIn (KK w) (.ref 88) = true :=
  ⟨by kernel_rfl, by kernel_rfl, by kernel_rfl, by kernel_rfl, by kernel_rfl⟩
section
variable {w : World} {mg mb : Str → Option Value} {h₀ h h' : Heap} {env : Env} {ns gs : List Str} {vs vs' : List (Option Value)} {mu nw fr : Led} {z : Shared} {tk : Nat} {A : Around} {E Q : Value → Shared → Prop} {o : Obj} {v : Value} {u : Str} {p1 p3 pf : Pos} {t : Tree}
theorem isvar_spec (B : Bs w mg mb h) (hA : Room A 2) (ht : TermH h v t) (hs : t.size ≤ 1000)
    (hq : ∀ h' tk', (∀ b o, h.get? b = some o → h'.get? b = some o) → Q (.bool (isVarT t)) (S z h' tk')) : wpAny (model PG w) A (call (.ref 102) [v]) Q E (S z h tk) := by
  obtain ⟨op, ks⟩ := t
  refine enter ["t"] ["len"] [some v] B Gh.rfl' hA.depth rfl rfl rfl rfl ⟨rfl, by decide, by decide, by decide, by decide⟩ rfl ?_ rfl rfl (by decide)
  intro L h₁ tk' ev Av Qv Ev G
  obtain ⟨a, n, to, vs, rfl, hm, hks⟩ := ht
  have hlen := hks.len
  have hm1 := G.G.stays _ _ hm
  refine wpAny_execs_cons ?_
  try k_fold
  refine wpAny_Return_some ?_
  refine wpAny_And2 ?_
  refine wpAny_Compare1 ?_
  refine Call_ ?_
  refine r_blt G .head (g_len w).1 (g_len w).2.1 (g_len w).2.2 ?_
  refine cw_b ?_
  refine args_cons ?_
  walk_at "m:loc"
  refine args_nil ?_
  have hsz : (((Value.str op.str to :: vs).toArray.size : Nat) : Int) < 2 ^ 63 := by
    have := sizeL_len ks
    simp only [Tree.size] at hs
    simp; omega
  refine PyProof.Rows.len_tuple (s := S z h₁ tk') ⟨_, hm1, rfl, n, rfl⟩ hsz ?_
  refine r_int (h := h₁) ?_
  intro t3
  refine PyProof.Rows.eq_int ?_
  refine wpAny_truthy_bool ?_
  refine ifs (fun hb => ?_) (fun hb => ?_)
  · refine wpAny_Compare1 ?_
    refine Subscript_ ?_
    refine Subscript_ ?_
    refine r_loc (h := h₁) G .head ?_
    refine r_intN ?_
    refine r_item_tup (j := 0) hm1 (by decide) (by decide) (seqIx (by decide) (by simp)) rfl ?_
    refine Slice_ns ?_
    refine r_int (h := h₁) ?_
    intro t5
    refine r_slice_ns G op.sz ?_
    intro h6 t6 tk6 G6
    refine r_strN ?_
    refine PyProof.Rows.eq_str ?_
    rw [Wd.isvar']
    have : isVarT (.node op ks) = op.var := by
      have e : ks.isEmpty = true := by
        have h1 := of_decide_eq_true hb
        simp at h1
        rw [List.isEmpty_iff_length_eq_zero]; omega
      simp [isVarT, e]
    rw [← this]
    exact hq _ _ G6.G.stays
  · rw [hb]
    have : isVarT (.node op ks) = false := by
      have e : ks.isEmpty = false := by
        have h1 := of_decide_eq_false hb
        simp at h1
        cases ks with
        | nil => exact absurd (by rw [hlen]; rfl) h1
        | cons => rfl
      simp [isVarT, e]
    rw [← this]
    exact hq _ _ G.G.stays
end
end
section
variable [OSC]
section
variable {w : World} {mg mb : Str → Option Value} {h₀ h h' : Heap} {env : Env} {ns gs : List Str} {vs vs' : List (Option Value)} {mu nw fr : Led} {z : Shared} {tk : Nat} {A : Around} {E Q : Value → Shared → Prop} {o : Obj} {v : Value} {u : Str} {p1 p3 pf : Pos} {t : Tree} {D b : Addr} {ys rs : List Value} {n n2 : Nat}
theorem r_extend (G : GS w mg mb h₀ env ns gs vs ((D, lstO ys n) :: mu) nw h) (hb : h.get? b = some (lstO rs n2)) (hsz : ys.length + rs.length ≤ sizeLine)
    (hq : ∀ h' n', GS w mg mb h₀ env ns gs vs ((D, lstO (ys ++ rs) n') :: mu) nw h' → (∀ c o, TupObj o → h.get? c = some o → h'.get? c = some o) → Q .none (S z h' tk)) : wpAny (model PG w) A (call (.builtin "list.extend") [.ref D, .ref b]) Q E (S z h tk) := by
  have hD := G.getM (.head _)
  have hsz' : ys.toArray.size + rs.toArray.size ≤ sizeLine := by rw [List.size_toArray, List.size_toArray]; exact hsz
  refine call_meets (s := S z h tk) PySem.F.slot_list_extend ⟨_, hD, rfl⟩ PySem.F.entry_list_extend (PySem.F.args_list_extend_2 _ _) (AutoSeq1.list_extend_list_list_0 D ys.toArray n b rs.toArray n2 (extend_door hsz') (Nat.le_trans (Nat.le_add_right _ _) hsz')) ⟨hD, hb, ?_⟩
  have e : ys.toArray ++ rs.toArray = (ys ++ rs).toArray := by simp
  have ho' : (h.update D (Obj.mapSeq fun x => x ++ rs.toArray)).get? D = some (lstO (ys ++ rs) (if (ys.toArray ++ rs.toArray).size == ys.toArray.size then n else n + 1)) := by
    rw [Heap.get?_update_self _ hD (by rw [mapSeq_app]; rfl), mapSeq_app, e]
  refine hq _ _ (G.set1 (Heap.SameBut.update ..) ho') fun c o ht e => (Heap.SameBut.update ..).extBut c o (fun q => ?_) e
  rw [q, hD] at e; cases e
  obtain ⟨l, m, e⟩ := ht
  exact absurd (show Value.type "list" = Value.type "tuple" from congrArg Obj.cls e) (by decide)
theorem ns_notup {a : Addr} {m : Str → Option Value} {h : Heap} (hn : h.Ns a m) {c : Addr} {o : Obj} (ht : TupObj o) (e : h.get? c = some o) : c ≠ a := fun q => by
  obtain ⟨ob, es, ep, hob, hd, _⟩ := hn
  obtain ⟨l, m, rfl⟩ := ht
  rw [q, show h.get? a = some ob from hob] at e
  cases e; cases hd
theorem r_stT {x : Str} {Q : Unit → Shared → Prop} {M : Model} (G : GS w mg mb h₀ env ns gs vs mu nw h) (hx : SetAt ns vs x v vs') (hq : ∀ h' tk', GS w mg mb h₀ env ns gs vs' mu nw h' → (∀ c o, TupObj o → h.get? c = some o → h'.get? c = some o) → Q () (S z h' tk')) : wpAny M A (storeName env x v) Q E (S z h tk) := by
  obtain ⟨m, hn, hl⟩ := G.ns_
  refine wpAny_storeName_local (G.sc.loc x hx.mem) hn (fun h' hn' hs => hq h' _ ⟨G.bs, G.sc, G.eg, G.eb, ⟨_, hn', hx.set G.sc.nd hl⟩, G.above, ?_, G.ne⟩ fun c o ht e => (hs.2 c (ns_notup hn ht e)).trans e) ?_
  · refine ⟨fun b o e => (hs.2 b (Nat.ne_of_lt (Nat.lt_of_lt_of_le (Heap.lt_size e) G.above))).trans (G.G.stays b o e), Nat.le_of_lt (Nat.lt_of_le_of_lt G.above hn'.lt), fun p hp => ⟨(hs.2 p.1 (G.ne p hp)).trans (G.G.has p hp).1, (G.G.has p hp).2⟩, G.G.nd, G.G.apart⟩
  · have := G.sc.kind
    rw [this]; rfl
theorem st_cellT {x : Str} {c : Addr} {Q : Unit → Shared → Prop} {v₀ : Option Value} {M : Model} (G : GS w mg mb h₀ env ns gs vs ((c, o) :: mu) nw h) (hk : env.kindOf x = some .cell) (hc : env.cells.lookup x = some c) (hd : o.data = .cell v₀)
    (hq : ∀ h' o', o'.data = .cell (some v) → GS w mg mb h₀ env ns gs vs ((c, o') :: mu) nw h' → (∀ b o, TupObj o → h.get? b = some o → h'.get? b = some o) → Q () (S z h' tk)) : wpAny M A (storeName env x v) Q E (S z h tk) := by
  refine wpAny_storeName_cell (s := S z h tk) G.sc.kind hk hc ⟨o, (G.G.has _ (.head _)).1, hd⟩ fun h' ⟨o', ho', hd'⟩ hs => hq h' o' hd' (G.set1 hs ho') fun b ob ht e => (hs.2 b fun q => ?_).trans e
  rw [q, (G.G.has _ (.head _)).1] at e; cases e
  obtain ⟨l, m, rfl⟩ := ht
  cases hd
/-- f(x) in a def's body -/
theorem b_call1 {f : Addr} {name : Str} (G : GS w mg mb h₀ env ns gs vs mu nw h) (hg : Has gs name) (hgn : nsIn (KK w) mainGlobals name = some (some (.ref f))) (keep : keepIn (KK w) (.ref f) = true) (ha : At ns vs u v)
    (hq : wpAny (model PG w) A (call (.ref f) [v]) Q E (S z h tk))
    (a1 : starEach [.Name u p1] env = (false, eval (.Name u p1) env) :: starEach [] env := by rfl)
    (he : eval (.Call (.Name name pf) [.Name u p1] [] p3) env = (do callWith p3 (← eval (.Name name pf) env) [] (backTo p3 (starEach [.Name u p1] env)) (backToKw p3 (keywordEach [] env))) := by rfl) :
    wpAny (model PG w) A (eval (.Call (.Name name pf) [.Name u p1] [] p3) env) Q E (S z h tk) := by
  refine Call_ ?_ he
  refine r_glo G hg hgn ?_
  refine callWith_K G.bs.K keep ?_ a1
  refine args_cons ?_ a1
  refine r_loc G ha ?_
  exact args_nil ⟨G.K, hq⟩
theorem r_slicetup {value slice : Expr} {T : Addr} {items : List Value} {n a : Nat} {ut : Tok} (G : GS w mg mb h₀ env ns gs vs mu nw h) (hT : h.get? T = some (tupO items n)) (h1 : 1 ≤ a) (ha : a ≤ items.length) (hsz : items.length ≤ 1000)
    (hq : ∀ D h', GS w mg mb h₀ env ns gs vs mu ((D, tup (items.drop a)) :: nw) h' → Q (.ref D) (S z h' tk))
    (hs : subscripted slice false (.ref T) (.ref h.objs.size) = operate [.ref h.objs.size, .ref T] (getItem (.ref T) (.ref h.objs.size)) := by with_unfolding_all rfl)
    (hg : ∀ r, letTemporaryGo value (.ref T) r = pure () := by intro _; with_unfolding_all rfl) :
    wpAny (model PG w) A (subscriptTail value slice (.ref T) (.ref h.objs.size)) Q E (S z (h.push { cls := .type "slice", data := .fields #[.int a ut, .none, .none] }) tk) := by
  obtain ⟨m, F, hlv⟩ := G.fr
  exact slice_tuple_from (s := S z h tk) (items := items.toArray) F G.news ⟨_, hT, rfl, n, rfl⟩ h1 (by simpa using ha) (fun h' F' N' => hq _ _ (G.lib F' hlv N' (Nat.le_succ _))) hs hg (by rw [List.size_toArray]; exact sl_small hsz (by decide))
/-- (k,) + path in a comprehension's block -/
theorem c_addtup {s : Shared} {t b : Addr} {vs ws : List Value} {n n2 : Nat} (ht : s.heap.get? t = some (tupO vs n)) (hb : s.heap.get? b = some (tupO ws n2)) (hv : vs ≠ []) (hsz : vs.length + ws.length ≤ sizeLine)
    (h : ∀ T h' n', (∀ b o, s.heap.get? b = some o → h'.get? b = some o) → h'.get? T = some (tupO (vs ++ ws) n') → Q (.ref T) { s with heap := h' }) : wpAny (model PG w) A (binaryOp .Add (.ref t) (.ref b)) Q E s := by
  by_cases hw : ws = []
  · subst hw
    refine concat_meets (s := s) ⟨_, ht, rfl⟩ ⟨_, hb, rfl⟩ noFill_tuple_add seq_tuple_add PySem.F.slot_tuple_add PySem.F.entry_tuple_add (PySem.F.args_tuple_add_2 _ _)
        (tuple_addW1 t b vs.toArray [].toArray n n2 none none #[] #[] (by simpa using hv) (by simp)) ⟨ht, hb, ?_⟩
    have := h t s.heap n (fun _ _ e => e) (by rw [List.append_nil]; exact ht)
    exact this
  · refine concat_meets (s := s) ⟨_, ht, rfl⟩ ⟨_, hb, rfl⟩ noFill_tuple_add seq_tuple_add PySem.F.slot_tuple_add PySem.F.entry_tuple_add (PySem.F.args_tuple_add_2 _ _)
        (tuple_addW2 t b vs.toArray ws.toArray n n2 none none #[] #[] (by simpa using hv) (by simpa using hw) (by rw [List.size_toArray, List.size_toArray]; exact hsz)) ⟨ht, hb, ?_⟩
    refine h _ _ 0 (fun b o e => Heap.get?_push_of_some _ e) ?_
    rw [show vs.toArray ++ ws.toArray = (vs ++ ws).toArray by simp]
    exact Heap.get?_push_size _ rfl
end
inductive PartAt (m : Nat) (h : Heap) (v : Value) (t : Tree) : Prop
  | mk (T : _) (n : _) (pa : _) (pv : _) (pl : _) (pn : _) (hyp1 : v = .ref T) (hyp2 : h.get? T = some (tupO [.ref pa, pv] n)) (hyp3 : h.get? pa = some (tupO pl pn)) (hyp4 : pl.length ≤ m) (hyp5 : TermH h pv t) : PartAt m h v t
theorem PartAt.mono {m : Nat} {h h' : Heap} (s : ∀ c o, TupObj o → h.get? c = some o → h'.get? c = some o) {v : Value} {t : Tree} (x : PartAt m h v t) : PartAt m h' v t :=
  let ⟨T, n, pa, pv, pl, pn, e, h1, h2, h3, h4⟩ := x; ⟨T, n, pa, pv, pl, pn, e, s _ _ ⟨_, _, rfl⟩ h1, s _ _ ⟨_, _, rfl⟩ h2, h3, h4.mono s⟩
theorem PartAt.le {m m' : Nat} {h : Heap} {v : Value} {t : Tree} (x : PartAt m h v t) (l : m ≤ m') : PartAt m' h v t :=
  let ⟨T, n, pa, pv, pl, pn, e, h1, h2, h3, h4⟩ := x; ⟨T, n, pa, pv, pl, pn, e, h1, h2, Nat.le_trans h3 l, h4⟩
inductive PartQ (m : Nat) (h : Heap) (q : Value × Value) (t : Tree) : Prop
  | mk (pa : _) (pl : _) (pn : _) (hyp1 : q.1 = .ref pa) (hyp2 : h.get? pa = some (tupO pl pn)) (hyp3 : pl.length ≤ m) (hyp4 : TermH h q.2 t) : PartQ m h q t
theorem parts_pairs {m : Nat} {h : Heap} {vs : List Value} {ts : List Tree} (hp : Paired (PartAt m h) vs ts) : ∃ ps, PairsAt h vs ps ∧ Paired (PartQ m h) ps ts := by
  induction hp with
  | nil => exact ⟨[], .nil, .nil⟩
  | cons f tl ih =>
    obtain ⟨T, n, pa, pv, pl, pn, e, h1, h2, h3, h4⟩ := f
    obtain ⟨ps, a, b⟩ := ih
    exact ⟨(.ref pa, pv) :: ps, .cons ⟨T, n, e, h1⟩ a, .cons ⟨pa, pl, pn, rfl, h2, h3, h4⟩ b⟩
theorem paired_mem {α β : Type} {F : α → β → Prop} {l : List α} {m : List β} (hp : Paired F l m) : ∀ {a : α}, a ∈ l → ∃ b ∈ m, F a b := by
  induction hp with
  | nil => intro a h; cases h
  | cons f t ih =>
    intro a h
    rcases List.mem_cons.mp h with rfl | h
    · exact ⟨_, .head _, f⟩
    · obtain ⟨b, hb, hf⟩ := ih h
      exact ⟨b, .tail _ hb, hf⟩
theorem paired_join {α β γ : Type} {F : α → β → Prop} {G : α → γ → Prop} {R : β → γ → Prop} {l : List α} {m : List β} {k : List γ} (hp : Paired F l m) (hg : Paired G l k) (r : ∀ a b c, F a b → G a c → R b c) : Paired R m k := by
  induction hp generalizing k with
  | nil => cases hg; exact .nil
  | cons f t ih => cases hg with
    | cons g t' => exact .cons (r _ _ _ f g) (ih t')
theorem paired_app {α β : Type} {F : α → β → Prop} {l : List α} {m : List β} {l' : List α} {m' : List β} (hp : Paired F l m) (h : Paired F l' m') : Paired F (l ++ l') (m ++ m') := by
  induction hp with
  | nil => exact h
  | cons f t ih => exact .cons f ih
end
section
variable [OSC]
section
variable {w : World} {mg mb : Str → Option Value} {h₀ h h' : Heap} {env : Env} {ns gs : List Str} {vs vs' : List (Option Value)} {mu nw fr : Led} {z : Shared} {tk : Nat} {A : Around} {E Q : Value → Shared → Prop} {o : Obj} {v : Value} {u : Str} {p1 p3 pf : Pos} {t : Tree}
noncomputable def PartsSpec (w : World) (t : Tree) : Prop := ∀ {mg mb : Str → Option Value} {h : Heap} {z : Shared} {tk : Nat} {A : Around} {E Q : Value → Shared → Prop} {v : Value},
  Bs w mg mb h → Room A (5 + t.size) → A.handled = none → TermH h v t → t.size ≤ 60 →
  (∀ h' tk' z' D vs n, (∀ b o, h.get? b = some o → h'.get? b = some o) → h.get? D = none → h'.get? D = some (lstO vs n) → Paired (PartAt t.size h') vs t.parts → Q (.ref D) (S z' h' tk')) →
  wpAny (model PG w) A (call (.ref 112) [v]) Q E (S z h tk)
theorem parts_spec (w : World) : ∀ (m : Nat) (t : Tree), t.size ≤ m → PartsSpec w t := by
  intro m
  induction m with
  | zero => intro t ht; have := size_pos t; omega
  | succ m ih =>
  rintro ⟨op, ks⟩ htm mg mb h z tk A E Q v B hA hH ht hsz hq
  have hszk : (Tree.node op ks).size = 1 + Tree.sizeL ks := rfl
  have hR : ∀ env, Room (A.deeper env) (5 + Tree.sizeL ks) := fun env => Room.deeper (by rw [show 5 + Tree.sizeL ks + 1 = 5 + (Tree.node op ks).size by omega]; exact hA)
  refine enterC ["t", "found", "kid"] ["enumerate", "parts"] [some v, none, none] "k" B Gh.rfl' hA.depth rfl rfl rfl (fun x hx => ?_) ⟨rfl, by decide, by decide, by decide, by decide⟩ (fun n => rfl) (fun kd hkd => ?_) (fun kd hkd => ?_) ?_ rfl rfl
  · rcases List.mem_singleton.mp hx with rfl
    rfl
  · simp [bindL, hkd, List.lookup]; decide
  · simp [bindC, hkd, List.lookup]
  intro L oL h₁ tk' hoL ev Av Qv Ev G
  have htH : TermH h v (.node op ks) := ht
  obtain ⟨a, na, ta, kvs, rfl, hma, hks⟩ := ht
  have hklen := hks.len
  have hsl := sizeL_len ks
  refine wpAny_execs_cons ?_
  try k_fold
  refine wpAny_Assign_Name ?_
  refine List_ ?_
  refine args_cons ?_
  refine Tuple_ ?_
  refine args_cons ?_
  refine Tuple_ ?_
  refine args_nil ?_
  refine r_tup (by show 0 ≤ 2 ^ 24; decide) G (fun T0 h2 G => ?_)
  refine args_cons ?_
  walk_at "m:loc"
  refine args_nil ?_
  refine r_tup (by show 2 ≤ 2 ^ 24; decide) G (fun T1 h3 G => ?_)
  refine args_nil ?_
  refine r_listM (by show 1 ≤ 2 ^ 24; decide) G (fun D h4 G => ?_)
  walk_at "m:st"
  intro h5 tk5 G
  refine wpAny_execs_cons ?_
  try k_fold
  refine wpAny_For ?_
  try k_fold
  refine Call_ ?_
  refine r_blt G (by walk_at "m:has") (g_enumerate w).1 (g_enumerate w).2.1 (g_enumerate w).2.2 ?_
  refine cw_t ?_
  refine args_cons ?_
  refine Subscript_ ?_
  walk_at "m:loc"
  refine Slice_sn ?_
  refine r_int (h := h5) ?_
  intro t6
  refine r_slicetup (a := 1) G (G.G.stays _ _ hma) (Nat.le_refl _) (by simp) (by simp; omega) ?_
  intro l h6 G
  refine args_nil ?_
  have hl6 := G.G.get (List.Mem.head _)
  refine call_enumT (s := S z h6 _) hl6 ?_
  have hlt : l < h6.objs.size := Heap.lt_size hl6
  have G := (G.pushM (tupIterO l) rfl).pushM (enumO h6.objs.size) rfl
  have hz6 : (h6.push (tupIterO l)).objs.size = h6.objs.size + 1 := Heap.size_push ..
  rw [hz6] at G
  have hE7 := G.getM (.head _)
  have hI7 := G.getM (.tail _ (.head _))
  have hl7 := G.G.get (List.Mem.head _)
  refine wpAny_pyIter_enum (s := S z _ _) (it := h6.objs.size) (i := 0) (old := .none) hE7 ?_
  have hne : l ≠ h6.objs.size := Nat.ne_of_lt hlt
  have hl7' : ((h6.push (tupIterO l)).push (enumO h6.objs.size)).IsTuple l kvs.toArray := ⟨_, hl7, rfl, 0, rfl⟩
  have hsel : (h6.objs.size + 1 : Nat) ≠ h6.objs.size := Nat.succ_ne_self _
  have hself : (h6.objs.size + 1 : Nat) ∉ [h6.objs.size, l] := by
    intro hm
    rcases List.mem_cons.mp hm with e | hm
    · exact hsel e
    · rw [List.mem_singleton] at hm; rw [← hm] at hlt; exact absurd hlt (by simp)
  have tupS : ∀ (items : Array Value) (n : Nat) (hh : Heap) (c : Addr), hh.get? c = some { cls := .type "tuple", data := .seq items n } → hh.IsTuple c items := fun items n hh c e => ⟨_, e, rfl, n, rfl⟩
  refine r_forT (own := [(h6.objs.size + 1, enumO h6.objs.size), (h6.objs.size, tupIterO l)]) (keep := [(l, tup (List.drop 1 (.str op.str ta :: kvs)))])
    (J := fun i vs mu nw hh => Ex5 fun kv ys n oc co => Al5 (vs = [some (.ref a), some (.ref D), kv]) (mu = [(D, lstO ys n), (L + 1, oc)]) (oc.data = .cell co) ((l, tup (List.drop 1 (.str op.str ta :: kvs))) ∈ nw) (Paired (PartAt (Tree.node op ks).size hh) ys (.node op ks :: Tree.partsL (ks.take i))))
    ?_ ?_ (KTurns.ofWalksU (WalksT.enumerateD (drawsT (A := (A.deeper _).in1) hH h6.objs.size l hne kvs.toArray) (h6.objs.size + 1) hsel hself (.head _)).toU) ?_ ?_ rfl ⟨⟨.none, hE7⟩, ⟨_, hI7, rfl, rfl⟩, hl7'⟩ ?_ G ?_ ?_
  · intro i vs mu nw hh hh' hk hI_
    try k_fold
    obtain ⟨kv, ys, n, oc, co, e1, e2, e3, e4, e5⟩ := hI_
    exact ⟨kv, ys, n, oc, co, e1, e2, e3, e4, paired_mono e5 fun _ _ x => x.mono hk⟩
  · rintro i vs mu nw hh ⟨kv, ys, n, oc, co, e1, e2, e3, e4, e5⟩ p hp
    rw [List.mem_singleton.mp hp]; exact e4
  · rintro i hh ⟨⟨old, he⟩, ⟨oi, hoi, hic, hid⟩, _⟩ b hb
    rcases List.mem_cons.mp hb with rfl | hb
    · exact ⟨_, he, fun ⟨_, _, e⟩ => by have := congrArg Obj.data e; cases this⟩
    · rw [List.mem_singleton.mp hb]
      exact ⟨_, hoi, fun ⟨_, _, e⟩ => by rw [e] at hid; cases hid⟩
  · intro b hb
    rcases List.mem_cons.mp hb with rfl | hb
    · exact .inl (.head _)
    · rcases List.mem_cons.mp hb with rfl | hb
      · exact .inl (.tail _ (.head _))
      · rw [List.mem_singleton.mp hb]; exact .inr ⟨_, .head _⟩
  · refine ⟨none, [.ref T1], 0, oL, _, rfl, rfl, hoL, .head _, ?_⟩
    exact .cons ⟨T1, 0, T0, .ref a, [], 0, rfl, G.G.get (.tail _ (.head _)), G.G.get (.tail _ (.tail _ (.head _))), Nat.zero_le _, htH.mono fun c o _ e => G.G.stays _ _ e⟩ .nil
  · intro i v vs mu nw own h8 tk8 z8 hi how hP hI_ G
    try k_fold
    obtain ⟨kv, ys, n, oc, co, rfl, rfl, hoc, hlm, hys⟩ := hI_
    obtain ⟨T, vals, rfl, ⟨ti, x, hx, rfl⟩, hT⟩ := hP
    have hx' : kvs[i]? = some x := by simpa using hx
    obtain ⟨kt, hkt, htx⟩ := hks.at hx'
    have hkmem := List.mem_of_getElem? hkt
    have hksz : kt.size ≤ Tree.sizeL ks := by
      have : ∀ (l : List Tree) (t : Tree), t ∈ l → t.size ≤ Tree.sizeL l := by
        intro l
        induction l with
        | nil => intro t h; cases h
        | cons k l ih =>
          intro t h
          simp only [Tree.sizeL]
          rcases List.mem_cons.mp h with rfl | h
          · omega
          · have := ih t h; omega
      exact this _ _ hkmem
    refine wpAny_assign_Tuple (s := S z8 h8 tk8) hH hT rfl rfl fun h9 he9 => ?_
    have G := G.Ns_keep fun b o e => he9 b o (Nat.ne_of_lt (Heap.lt_size e)) e
    show wpAny _ _ (assignInOrder [assign (.Name "k" _) _, assign (.Name "kid" _) _] [.int i ti, x]) _ _ _
    refine assignInOrder_cons ?_
    refine wpAny_assign_Name ?_
    have G := (G.perm List.perm_append_comm).swap
    refine st_cellT (v := .int i ti) G rfl rfl hoc ?_
    intro h10 oc' hoc' G up10
    refine assignInOrder_cons ?_
    refine wpAny_assign_Name ?_
    refine r_stT G (by walk_at "m:setat") ?_
    intro h11 tk11 G up11
    refine assignInOrder_nil ?_
    have G := G.swap
    have hyl : ys.length ≤ 60 := by
      have h1 := hys.length
      have h2 : (Tree.partsL (ks.take i)).length ≤ Tree.sizeL ks := by
        rw [partsL_len]
        have h3 := sizeL_app (ks.take i) (ks.drop i)
        rw [List.take_append_drop] at h3
        omega
      simp at h1
      omega
    refine wpAny_execs_cons ?_
    try k_fold
    refine wpAny_Expr ?_
    refine mcall rfl ?_
    walk_at "m:loc"
    refine getMethod_list_of (s := S z8 h11 tk11) PySem.F.slot_list_extend PySem.F.type_list_extend (items := ys.toArray) ⟨_, G.getM (.head _), rfl, n, rfl⟩ ⟨_, G.getM (.head _), rfl⟩ ?_
    refine cw_b ?_
    refine args_cons ?_
    try k_fold
    refine r_comp2 (cl := [("k", L + 1)]) G (A := A.deeper _) hH rfl (by decide) rfl (by decide) rfl rfl (by decide) ?_
    try k_fold
    refine b_call1 G (by walk_at "m:has") (g_parts w) (keep_r w).2.2.1 (by walk_at "m:at") ?_
    refine ih kt (by omega) (G.bs.keep G.G.stays) ((hR _).le (by omega)) hH (htx.mono fun c o _ e => G.G.stays _ _ e) (by omega) ?_
    intro h12 tk12 z12 D2 vs12 n12 hk12 hn12 hD12 hp12
    have hcell := (G.G.has _ (List.mem_append_left _ (List.Mem.tail _ (.head _)))).1
    have G := G.fresh hk12 hn12 hD12
    obtain ⟨ps, hps, hpq⟩ := parts_pairs hp12
    have hvl : vs12.length ≤ 60 := by have := hp12.length; rw [parts_len] at this; omega
    refine ⟨fun _ => true, fun hh q y => Ex5 fun T n pa pl pn => Al4 (y = .ref T) (hh.get? T = some (tupO [.ref pa, q.2] n)) (hh.get? pa = some (tupO pl pn)) (pl.length ≤ kt.size + 1), D2, vs12, ps, n12, h12, _, z12, _, _, ?_, rfl, rfl, G, List.mem_append_right _ (.head _), sl_small (m := 60) hvl (by decide), hps, ?_, ?_, ?_⟩
    · intro hh hh' q y hk hI_
      try k_fold
      obtain ⟨T, n, pa, pl, pn, e1, e2, e3, e4⟩ := hI_
      exact ⟨T, n, pa, pl, pn, e1, hk _ _ ⟨_, _, rfl⟩ e2, hk _ _ ⟨_, _, rfl⟩ e3, e4⟩
    · intro C q s₃ m₃ E' hq hn h1 h2 hk
      exact wpAny_tests_nil ⟨rfl, s₃.heap, s₃.toks, rfl, fun _ _ e => e⟩
    · intro C q s₃ m₃ E' hq _ hn h1 h2 hk
      obtain ⟨t', _, pa, pl, pn, e1, e2, e3, e4⟩ := paired_mem hpq hq
      refine with_cs ["path", "part"] [] [some q.1, some q.2] (G.bs.keep fun b o e => hk _ _ (G.G.stays _ _ e)) (Sc.of rfl rfl rfl (by decide) (by decide)) rfl rfl ⟨m₃, hn, h1, h2, trivial⟩ fun cs => ?_
      refine Tuple_ ?_
      refine args_cons ?_
      refine wpAny_BinOp ?_
      refine Tuple_ ?_
      refine args_cons ?_
      refine c_cell cs rfl rfl (hk _ _ (hk12 _ _ hcell)) hoc' rfl ?_
      refine args_nil ?_
      refine wpAny_newTuple ?_ (by show 1 ≤ 2 ^ 24; decide)
      have cs := cs.keep (h' := s₃.heap.push (tup [.int (i : Nat) ti])) fun b o e => Heap.get?_push_of_some _ e
      refine c_loc (s := { s₃ with heap := s₃.heap.push (tup [.int (i : Nat) ti]) }) cs .head ?_
      have e2' := Heap.get?_push_of_some (tup [.int (i : Nat) ti]) (hk _ _ e2)
      rw [e1]
      refine c_addtup (s := { s₃ with heap := s₃.heap.push (tup [.int (i : Nat) ti]) }) (vs := [.int (i : Nat) ti]) (n := 0) (Heap.get?_push_size _ rfl) e2' (by simp) (sl_small (m := 100) (by simp; omega) (by decide)) ?_
      intro T2 h14 n14 hk14 hT14
      have cs := cs.keep hk14
      refine args_cons ?_
      refine c_loc (s := { s₃ with heap := h14 }) cs (.tail .head) ?_
      refine args_nil ?_
      refine wpAny_newTuple ?_ (by show 2 ≤ 2 ^ 24; decide)
      refine ⟨⟨_, 0, T2, _, _, rfl, Heap.get?_push_size _ rfl, Heap.get?_push_of_some _ hT14, by simp; omega⟩, _, _, rfl, fun b o e => Heap.get?_push_of_some _ (hk14 _ _ (Heap.get?_push_of_some _ e))⟩
    · intro D3 h13 tk13 rs n13 G hk13 hrs
      refine args_nil ?_
      rw [show ps.filter (fun _ => true) = ps from List.filter_eq_self.mpr fun _ _ => rfl] at hrs
      have hrl : rs.length ≤ 60 := by have := hrs.length; have := hps.length; omega
      refine r_extend G (G.G.get (.head _)) (sl_small (m := 120) (by omega) (by decide)) ?_
      intro h15 n15 G15 up
      refine wpAny_execs_nil ?_
      refine ⟨rfl, z12, _, _, _, h15, _, rfl, ⟨_, ys ++ rs, n15, oc', _, rfl, rfl, hoc', .tail _ (.tail _ hlm), ?_⟩, G15.perm (List.perm_append_comm (l₁ := [(D, lstO (ys ++ rs) n15), (L + 1, oc')]) (l₂ := own))⟩
      have hold : ∀ c o, TupObj o → h8.get? c = some o → h15.get? c = some o := fun c o ht e => up _ _ ht (hk13 _ _ (hk12 _ _ (up11 _ _ ht (up10 _ _ ht (he9 _ _ (Nat.ne_of_lt (Heap.lt_size e)) e)))))
      have e1 : ks.take (i + 1) = ks.take i ++ [kt] := by rw [List.take_succ, hkt]; rfl
      rw [e1, partsL_app, ← List.cons_append]
      refine paired_app (paired_mono hys fun _ _ x => x.mono hold) ?_
      have e2 : Tree.partsL [kt] = kt.parts := by simp [Tree.partsL]
      rw [e2]
      try k_fold
      refine paired_join hrs hpq ?_
      rintro q y t' ⟨T, n, pa, pl, pn, r1, r2, r3, r4⟩ ⟨_, _, _, _, _, _, r5⟩
      exact ⟨T, n, pa, q.2, pl, pn, r1, up _ _ ⟨_, _, rfl⟩ r2, up _ _ ⟨_, _, rfl⟩ r3, by omega, r5.mono fun c o ht e => up _ _ ht (hk13 _ _ e)⟩
  · intro vs mu nw h9 tk9 z9 hI_ G
    try k_fold
    obtain ⟨kv, ys, n, oc, co, rfl, rfl, hoc, hlm, hys⟩ := hI_
    refine wpAny_execs_cons ?_
    try k_fold
    refine wpAny_Return_some ?_
    walk_at "m:loc"
    rw [show kvs.toArray.size = ks.length by simp [hklen], List.take_length] at hys
    have hD := G.G.has _ (List.mem_append_left _ (List.Mem.head _))
    exact hq h9 _ z9 D ys n G.G.stays hD.2 hD.1 hys
end
end
section
variable [OSC]
mutual
theorem TermH.uniq {h : Heap} {v : Value} : ∀ {t t' : Tree}, TermH h v t → TermH h v t' → t = t'
  | .node op ks, .node op' ks', ⟨a, n, t, vs, e, hm, hk⟩, ⟨a', n', t', vs', e', hm', hk'⟩ => by
    rw [e] at e'
    cases e'
    rw [hm] at hm'
    have h1 := Option.some.inj hm'
    have h2 : Data.seq (Value.str op.str t :: vs).toArray n = Data.seq (Value.str op'.str t' :: vs').toArray n' := congrArg Obj.data h1
    simp at h2
    obtain ⟨⟨⟨h3, _⟩, h4⟩, _⟩ := h2
    have := Wd.inj h3
    subst this h4
    rw [TermsH.uniq hk hk']
theorem TermsH.uniq {h : Heap} {vs : List Value} : ∀ {ks ks' : List Tree}, TermsH h vs ks → TermsH h vs ks' → ks = ks'
  | [], [], _, _ => rfl
  | [], k :: ks, e, ⟨v, vs', e', _, _⟩ => by rw [show vs = [] from e] at e'; cases e'
  | k :: ks, [], ⟨v, vs', e', _, _⟩, e => by rw [show vs = [] from e] at e'; cases e'
  | k :: ks, k' :: ks', ⟨v, vs', e, h1, h2⟩, ⟨v', vs'', e', h1', h2'⟩ => by
    rw [e] at e'
    cases e'
    rw [TermH.uniq h1 h1', TermsH.uniq h2 h2']
end
mutual
theorem parts_size : ∀ (t t' : Tree), t' ∈ t.parts → t'.size ≤ t.size
  | .node op ks, t', h => by
    simp only [Tree.parts, List.mem_cons] at h
    rcases h with rfl | h
    · exact Nat.le_refl _
    · have := partsL_size ks t' h
      simp only [Tree.size]; omega
theorem partsL_size : ∀ (ks : List Tree) (t' : Tree), t' ∈ Tree.partsL ks → t'.size ≤ Tree.sizeL ks
  | [], t', h => nomatch h
  | k :: ks, t', h => by
    simp only [Tree.partsL, List.mem_append] at h
    simp only [Tree.sizeL]
    rcases h with h | h
    · have := parts_size k t' h; omega
    · have := partsL_size ks t' h; omega
end
theorem vars_len (t : Tree) : t.vars.length ≤ t.size := by
  rw [← parts_vars, List.length_map, ← parts_len]
  exact List.length_filter_le _ _
open Classical in
noncomputable def varQ (m : Nat) (h : Heap) (q : Value × Value) : Bool := decide (∃ t, PartQ m h q t ∧ isVarT t = true)
theorem varQ_eq {m : Nat} {h : Heap} {q : Value × Value} {t : Tree} (x : PartQ m h q t) : varQ m h q = isVarT t := by
  unfold varQ
  cases e : isVarT t with
  | true => exact @decide_eq_true _ (Classical.propDecidable _) ⟨t, x, e⟩
  | false =>
    refine @decide_eq_false _ (Classical.propDecidable _) fun ⟨t', x', e'⟩ => ?_
    obtain ⟨_, _, _, _, _, _, r⟩ := x
    obtain ⟨_, _, _, _, _, _, r'⟩ := x'
    rw [TermH.uniq r r', e'] at e
    cases e
theorem vars_strs {m : Nat} {h : Heap} {ps : List (Value × Value)} {ts : List Tree} {rs : List Value} (hp : Paired (PartQ m h) ps ts) (h2 : Paired (fun q y => ∃ t' tok, PartQ m h q t' ∧ y = .str (opOf t').str tok) (ps.filter (varQ m h)) rs) : StrsAre rs (((ts.filter isVarT).map opOf).map Wd.str) := by
  induction hp generalizing rs with
  | nil => cases h2; exact .nil
  | @cons q t ps ts hq hp ih =>
    rw [List.filter_cons, varQ_eq hq] at h2
    rw [List.filter_cons]
    cases e : isVarT t with
    | false =>
      rw [e] at h2
      exact ih h2
    | true =>
      rw [e] at h2
      replace h2 : Paired _ (q :: ps.filter (varQ m h)) rs := h2
      cases h2 with
      | cons hy h2 =>
        obtain ⟨t', tok, hq', rfl⟩ := hy
        obtain ⟨_, _, _, _, _, _, r⟩ := hq
        obtain ⟨_, _, _, _, _, _, r'⟩ := hq'
        rw [TermH.uniq r' r]
        exact .cons _ _ (ih h2)
section
variable {w : World} {mg mb : Str → Option Value} {h₀ h h' : Heap} {env : Env} {ns gs : List Str} {vs vs' : List (Option Value)} {mu nw fr : Led} {z : Shared} {tk : Nat} {A : Around} {E Q : Value → Shared → Prop} {o : Obj} {v : Value} {u : Str} {p1 p3 pf : Pos} {t : Tree}
theorem vars_spec (B : Bs w mg mb h) (hA : Room A (8 + t.size)) (hH : A.handled = none) (ht : TermH h v t) (hsz : t.size ≤ 60)
    (hq : ∀ h' tk' z' D vs ss n, (∀ b o, h.get? b = some o → h'.get? b = some o) → h.get? D = none → h'.get? D = some (lstO vs n) → StrsAre vs ss → (∀ k, k ∈ ss ↔ k ∈ t.vars.map Wd.str) → vs.length ≤ 64 → Q (.ref D) (S z' h' tk')) :
    wpAny (model PG w) A (call (.ref 107) [v]) Q E (S z h tk) := by
  have hR : ∀ env, Room (A.deeper env) (7 + t.size) := fun env => Room.deeper (by rw [show 7 + t.size + 1 = 8 + t.size by omega]; exact hA)
  refine enter ["t"] ["sorted", "set", "parts"] [some v] B Gh.rfl' hA.depth rfl rfl rfl rfl ⟨rfl, by decide, by decide, by decide, by decide⟩ rfl ?_ rfl rfl (by decide)
  intro L h₁ tk' ev Av Qv Ev G
  refine wpAny_execs_cons ?_
  try k_fold
  refine wpAny_Return_some ?_
  refine Call_ ?_
  refine r_blt G (by walk_at "m:has") (g_sorted w).1 (g_sorted w).2.1 (g_sorted w).2.2 ?_
  refine cw_b ?_
  refine args_cons ?_
  refine Call_ ?_
  refine r_blt G (by walk_at "m:has") (g_set w).1 (g_set w).2.1 (g_set w).2.2 ?_
  refine cw_t ?_
  refine args_cons ?_
  try k_fold
  refine r_comp2 (cl := []) G (A := A.deeper _) hH rfl (by decide) rfl (by decide) rfl rfl (by decide) ?_
  try k_fold
  refine b_call1 G (by walk_at "m:has") (g_parts w) (keep_r w).2.2.1 (by walk_at "m:at") ?_
  refine parts_spec w t.size t (Nat.le_refl _) (G.bs.keep G.G.stays) ((hR _).le (by omega)) hH (ht.mono fun c o _ e => G.G.stays _ _ e) (by omega) ?_
  intro h12 tk12 z12 D2 vs12 n12 hk12 hn12 hD12 hp12
  have G := G.fresh hk12 hn12 hD12
  obtain ⟨ps, hps, hpq⟩ := parts_pairs hp12
  have hvl : vs12.length ≤ 60 := by have := hp12.length; rw [parts_len] at this; omega
  have hts : ∀ t' ∈ t.parts, t'.size ≤ 60 := fun t' ht' => Nat.le_trans (parts_size t t' ht') hsz
  try k_fold
  refine ⟨varQ t.size h12, fun _ q y => ∃ t' tok, PartQ t.size h12 q t' ∧ y = .str (opOf t').str tok, D2, vs12, ps, n12, h12, _, z12, _, _, fun _ _ _ _ _ x => x, rfl, rfl, G, List.mem_append_right _ (.head _), sl_small (m := 60) hvl (by decide), hps, ?_, ?_, ?_⟩
  · intro C q s₃ m₃ E' hqm hn h1 h2 hk
    obtain ⟨t', htm, hpt⟩ := paired_mem hpq hqm
    have hts' := hts t' htm
    refine wpAny_tests_one ?_
    refine wpAny_isTrue_value ?_
    refine with_cs ["path", "part"] ["is_variable"] [some q.1, some q.2] (G.bs.keep fun b o e => hk _ _ (G.G.stays _ _ e)) (Sc.of rfl rfl rfl (by decide) (by decide)) rfl rfl ⟨m₃, hn, h1, h2, trivial⟩ fun cs => ?_
    refine Call_ ?_
    refine c_glo cs (by walk_at "m:has") (g_is_variable w) ?_
    refine callWith_K cs.bs.K (keep_r w).1 ?_
    refine args_cons ?_
    refine c_loc cs (.tail .head) ?_
    refine args_nil ⟨cs.bs.K, ?_⟩
    obtain ⟨_, _, _, _, _, _, hth⟩ := id hpt
    letI : OSC := ⟨s₃.gens, s₃.os⟩
    refine isvar_spec (z := s₃) (h := s₃.heap) (tk := s₃.toks) cs.bs ((hR _).le (by omega)) (hth.mono fun c o _ e => hk _ _ e) (by omega) ?_
    intro h' tk' hk'
    refine wpAny_truthy_bool ?_
    exact ⟨(varQ_eq hpt).symm, h', tk', rfl, hk'⟩
  · intro C q s₃ m₃ E' hqm hvq hn h1 h2 hk
    obtain ⟨t', htm, hpt⟩ := paired_mem hpq hqm
    refine with_cs ["path", "part"] [] [some q.1, some q.2] (G.bs.keep fun b o e => hk _ _ (G.G.stays _ _ e)) (Sc.of rfl rfl rfl (by decide) (by decide)) rfl rfl ⟨m₃, hn, h1, h2, trivial⟩ fun cs => ?_
    obtain ⟨_, _, _, _, _, _, hth⟩ := id hpt
    obtain ⟨op, ks⟩ := t'
    obtain ⟨a, n, to, kv, e1, hma, hks⟩ := hth
    refine Subscript_ ?_
    refine c_loc cs (.tail .head) ?_
    rw [e1]
    letI : OSC := ⟨s₃.gens, s₃.os⟩
    refine r_int (z := s₃) (h := s₃.heap) (tk := s₃.toks) ?_
    intro t4
    refine r_item_tup (j := 0) (hk _ _ hma) (by decide) (by decide) (seqIx (by decide) (by simp)) rfl ?_
    exact ⟨⟨_, to, hpt, rfl⟩, s₃.heap, _, rfl, fun _ _ e => e⟩
  · intro D3 h13 tk13 rs n13 G hk13 hrs
    have hstr := vars_strs hpq hrs
    rw [parts_vars] at hstr
    have hvl := vars_len t
    have hrl := hstr.length
    simp at hrl
    refine args_nil ?_
    refine call_set_strs (s := S z12 h13 tk13) hH ⟨_, G.G.get (.head _), rfl, n13, rfl⟩ (by simpa using hstr) (by rw [List.size_toArray]; show _ < 4096; omega) ?_
    intro h14 tk14 o14 ho14 hS14 hk14
    have G := G.Ns_keep fun b o e => hk14 b o (Heap.lt_size e) e
    refine args_nil ?_
    refine sorted_set G hH ho14 hS14 (by simp; omega) ?_
    intro B2 h15 tk15 z15 vs' ss' e15 G hS15 hmem hl15
    have hB := G.G.has _ (List.mem_append_right _ (List.Mem.head _))
    exact hq h15 tk15 z15 B2 vs' ss' e15 G.G.stays hB.2 hB.1 hS15 hmem (by omega)
end
end
section
variable [OSC]
/-- an own exception out of a call, out of a body: whatever has been drawn -/
noncomputable def CXZ (h₀ : Heap) (fr : Led) (C : Addr) (P : Obj → Prop) (E : Value → Shared → Prop) : Prop := ∀ z h' tk' e de od, Fly h₀ h' fr C e de od false → P od → E (.ref e) (S z h' tk')
noncomputable def EXZ (h₀ : Heap) (L : Addr) (fr : Led) (C : Addr) (P : Obj → Prop) (E : Value → Shared → Prop) : Prop :=
  ∀ z h' tk' e de od oL new, (∀ u, oL.data ≠ .fields u) → Fly h₀ h' ((L, oL) :: fr) C e de od new → P od → E (.ref e) (S z h' tk')
section
variable {w : World} {mg mb : Str → Option Value} {h₀ h h' : Heap} {env : Env} {ns gs : List Str} {vs vs' : List (Option Value)} {mu nw fr : Led} {z : Shared} {tk : Nat} {A : Around} {E Q : Value → Shared → Prop} {M : Model} {outer : List Env} {C : Addr} {P : Obj → Prop} {k : Int}
theorem EXZ.of (O : Out A outer fr mu) (hk : env.scope.kind = .function) (hf : env.frame = some env.locals) (hE : CXZ h₀ fr C P E) :
    EXZ h₀ env.locals fr C P (fun e s' => wpAny (model PG w) (A.deeper env) (leaving env e) (fun _ s'' => E e s'') (fun e' s'' => E e' s'') s') :=
  fun z h' tk' e de od oL new hn X Pd => leave_text (oL := oL) O hk hf hn X fun h'' X' => hE _ _ _ _ _ _ X' Pd
theorem EXZ.cx {oL : Obj} (hE : EXZ h₀ env.locals fr C P E) (hn : ∀ u, oL.data ≠ .fields u) : CXZ h₀ ((env.locals, oL) :: fr) C P E := fun z h' tk' e de od X Pd => hE z h' tk' e de od oL _ hn X Pd
theorem EXZ.loop (O : BO A env outer fr mu) (hE : EXZ h₀ env.locals fr C P E) : EXZ h₀ env.locals fr C P (notedBy M A env fun e s' => cameBackBy M A env E e s') :=
  fun z h' tk' e de od oL new hn X Pd => fly_noted O.frames (show Frs (env :: outer) ((env.locals, oL) :: fr) from ⟨by rw [O.kind]; decide, O.frame, O.al⟩) O.frame X fun h1 X1 => fly_back X1 fun h2 X2 => hE _ _ _ _ _ _ oL false hn X2 Pd
theorem CXZ.cx (hE : CXZ h₀ fr 76 (fun od => PayT od k) E) : CX h₀ z fr E k := fun h' tk' e de od X Pd => hE z h' tk' e de od X Pd
theorem EXZ.ex (hE : EXZ h₀ env.locals fr 76 (fun od => PayT od k) E) : EX h₀ z env.locals fr E k := fun h' tk' e de od oL new hn X Pd => hE z h' tk' e de od oL new hn X Pd
/-- raise RuleFault(text): behind its argument -/
theorem raised_rule {s : Str} {t : Tok} (G : GS w mg mb h₀ env ns gs vs mu nw h) (R : Room A 20) (hfr : ∀ p ∈ fr, p ∈ mu ∧ ∀ u, p.2.data ≠ .fields u)
    (hE : ∀ h' tk' e de od oL, (∀ u, oL.data ≠ .fields u) → Fly h₀ h' ((env.locals, oL) :: fr) 88 e de od true → PayR od s → E (.ref e) (S z h' tk')) :
    wpAny (model PG w) A (call (.ref 88) [.str s t]) (fun v s' => Made w v s' (E v s')) E (S z h tk) := by
  obtain ⟨oL, G1, hn, _⟩ := G.call
  refine rule_new G.bs G1 ⟨_, .head _, G.above⟩ R fun h' tk' e de tp od G2 P => ?_
  have he := G2.has _ (.tail _ (.head _))
  exact ⟨e, 88, _, _, _, rfl, G.bs.K.keeps G2.stays, he.1, rfl, sub88 w, ty88 w, hE _ _ _ _ _ _ hn (fly_gh G2 hn hfr P.nf) P⟩
/-- raise RuleFault(a) in a def's body -/
theorem b_raiseR {e1 : Expr} {pf pc pos : Pos} {Q : Flow → Shared → Prop} (O : BO A env outer fr mu) (R : Room A 20) (hX : EXZ h₀ env.locals fr 88 (fun od => ∃ s, PayR od s) E) (G : GS w mg mb h₀ env ns gs vs mu nw h) (hg : Has gs "RuleFault")
    (h1 : wpAny (model PG w) A (eval e1 env) (fun v s' => Ex4 fun s t h' tk' => Al3 (v = .str s t) (s' = S z h' tk') (GS w mg mb h₀ env ns gs vs mu nw h')) E (S z h tk))
    (a1 : starEach [e1] env = (false, eval e1 env) :: starEach [] env := by rfl)
    (he : eval (.Call (.Name "RuleFault" pf) [e1] [] pc) env = (do callWith pc (← eval (.Name "RuleFault" pf) env) [] (backTo pc (starEach [e1] env)) (backToKw pc (keywordEach [] env))) := by rfl) :
    wpAny (model PG w) A (exec (.Raise (some (.Call (.Name "RuleFault" pf) [e1] [] pc)) none pos) env) Q E (S z h tk) := by
  refine r_raise O.hd ?_
  refine Call_ ?_ he
  refine r_glo G hg (g_RuleFault w) ?_
  refine callWith_K G.bs.K (keep_r w).2.2.2.2 ?_ a1
  refine args_cons ?_ a1
  refine wpAny_mono h1 (fun v s' h1 => ?_) fun _ _ x => x
  obtain ⟨s, t, h', tk', rfl, rfl, G1⟩ := h1
  refine args_nil ⟨G1.K, ?_⟩
  refine raised_rule G1 R O.sub fun h' tk' e de od oL hn X P => ?_
  exact hX _ _ _ _ _ _ oL true hn X ⟨s, P⟩
theorem ne_nil {s : Shared} {a b : Addr} {ys : List Value} {n n2 : Nat} (ha : s.heap.get? a = some (lstO ys n)) (hb : s.heap.get? b = some (lstO [] n2)) (hu : A.units < cLine) (h : Q (.bool (!ys.isEmpty)) s) :
    wpAny (model PG w) A (compareOp .NotEq (.ref a) (.ref b)) Q E s := by
  have i1 : s.heap.IsList a ys.toArray := ⟨_, ha, rfl, n, rfl⟩
  have i2 : s.heap.IsList b #[] := ⟨_, hb, rfl, n2, rfl⟩
  cases ys with
  | nil => exact SeqAt.RcNeAt.lists (e := fun _ => true) i1 i2 rfl hu (fun j h1 _ => absurd h1 (Nat.not_lt_zero _)) PG w E Q h
  | cons y yt => exact SeqAt.RcNeAt.lists_lengths i1 i2 (by simp) hu PG w E Q h
theorem r_listtup {T : Addr} {ys : List Value} {n : Nat} (G : GS w mg mb h₀ env ns gs vs mu nw h) (hT : h.get? T = some (tupO ys n)) (hsz : ys.length ≤ 1000)
    (hq : ∀ D h' n', GS w mg mb h₀ env ns gs vs mu ((D, lstO ys n') :: nw) h' → Q (.ref D) (S z h' tk)) : wpAny (model PG w) A (call (.type "list") [.ref T]) Q E (S z h tk) := by
  refine call_list_seq (s := S z h tk) T (T := "tuple") (.inr rfl) hT rfl rfl (fun h' c' hk hD => ?_) (by rw [List.size_toArray]; exact sl_small hsz (by decide))
  refine hq _ h' c' (G.fresh hk ?_ hD)
  cases e : h.get? h.objs.size with
  | none => rfl
  | some o => exact absurd (Heap.lt_size e) (Nat.lt_irrefl _)
end
theorem bindL_loc {kd : Str → Option NameKind} : ∀ (binds : List (Str × Value)) (m : Str → Option Value), (∀ x ∈ binds, kd x.1 = some .local) → ∀ y, bindL kd binds m y = (match binds.reverse.lookup y with | some v => some v | none => m y)
  | [], m, _, y => rfl
  | (n, v) :: r, m, h, y => by
    unfold bindL
    rw [if_pos (h (n, v) (.head _)), bindL_loc r _ (fun x hx => h x (.tail _ hx)) y, List.reverse_cons, List.lookup_append]
    cases hr : List.lookup y r.reverse with
    | some u => rfl
    | none =>
      by_cases e : y = n
      · subst e; simp [List.lookup]
      · have : (y == n) = false := by simpa using e
        simp [List.lookup, this, e]
theorem bindC_loc {kd : Str → Option NameKind} : ∀ (binds : List (Str × Value)) (m : Str → Option Value), (∀ x ∈ binds, kd x.1 = some .local) → bindC kd binds m = m
  | [], m, _ => rfl
  | (n, v) :: r, m, h => by
    unfold bindC
    rw [if_pos (h (n, v) (.head _)), bindC_loc r _ fun x hx => h x (.tail _ hx)]
/-- entering a def with one cell, as the machine's code -/
theorem enterCodeC {w : World} {mg mb : Str → Option Value} {h₀ h : Heap} {z : Shared} {tk : Nat} {A : Around} {R : Result → Shared → Prop} {mu nw : Led} {f : Addr} {args : List Value} {binds : List (Str × Value)}
    {qual nm : Str} {params : Arguments} {body : List Stmt} {scope : Scope} {dV kV doc pm cdv ct oc : Value} {an od : Option Addr} {osl : Array (Option Value)} (ns gs : List Str) (vs : List (Option Value)) (cn : Str)
    (B : Bs w mg mb h₀) (G : Gh h₀ h mu nw) (hroom : A.depth < recursionLimit)
    (ho : (KK w).lookup f = some ⟨oc, od, .func (fnOf nm qual params body scope dV kV doc pm an cdv ct), osl⟩) (hcd : codeIn (KK w) cdv qual = true)
    (hbind : bindArgs (fnOf nm qual params body scope dV kV doc pm an cdv ct) ⟨args, []⟩ = pure binds)
    (hloc₀ : (binds.all fun x => decide (scope.names.lookup x.1 = some .local)) = true)
    (hsc : Sc scope ns gs) (hcells : ∀ n, cellsFrom n scope.names [] = [(cn, n)]) (hvs₀ : ns.map (fun y => binds.reverse.lookup y) = vs)
    (hh : ∀ L oL h₁ tk', oL.data = .cell none → let ev := envX qual scope L f cdv [(cn, L + 1)]; let Av := A.deeper ev
      let Qv : Flow → Shared → Prop := fun fl s' => R (.ok (.ret (match fl with | .ret v => v | _ => .none))) s'
      let Ev : Value → Shared → Prop := fun e s' => wpAny (model PG w) Av (leaving ev e) (fun _ s'' => R (.error e) s'') (fun e' s'' => R (.error e') s'') s'
      GS w mg mb h₀ ev ns gs vs ((L + 1, oL) :: mu) nw h₁ → wpAny (model PG w) Av (execs body ev) Qv Ev (S z h₁ tk'))
    (hco : scope.isCoroutine = false) (hgen : scope.isGenerator = false) :
    codeAny (model PG w) A (.call (.ref f) ⟨args, []⟩) R (S z h tk) := by
  have X : (KK w).In h := B.K.keeps G.stays
  have hloc : ∀ x ∈ binds, scope.names.lookup x.1 = some .local := fun x hx => of_decide_eq_true (List.all_eq_true.mp hloc₀ x hx)
  have hvs : ∀ kd, (∀ x, kd x = scope.names.lookup x) → ns.map (bindL kd binds fun _ => none) = vs := fun kd hkd => by
    rw [← hvs₀]
    refine List.map_congr_left fun y _ => ?_
    rw [bindL_loc binds _ (fun x hx => (hkd _).trans (hloc x hx)) y]
    cases List.lookup y binds.reverse <;> rfl
  have hcm : ∀ kd, (∀ x, kd x = scope.names.lookup x) → bindC kd binds (fun _ => none) cn = none := fun kd hkd => by
    rw [bindC_loc binds _ fun x hx => (hkd _).trans (hloc x hx)]
  have henv : callEnvC (fnOf nm qual params body scope dV kV doc pm an cdv ct) h.objs.size f = envX qual scope h.objs.size f cdv [(cn, h.objs.size + 1)] := by
    show newEnv scope h.objs.size _ (cellsFrom (h.objs.size + 1) scope.names []) _ _ _ none _ = _
    rw [hcells]; rfl
  have hkd : ∀ x, (envX qual scope h.objs.size f cdv [(cn, h.objs.size + 1)]).kindOf x = scope.names.lookup x := fun _ => rfl
  refine codeAny_call_cells (s := S z h tk) (fd := fnOf nm qual params body scope dV kV doc pm an cdv ct) (body := body) (binds := binds) hroom (X _ _ ho) rfl (B.T.nolimit.keeps G.stays) (codeRec_of X hcd) rfl hbind rfl (fun x hx => .inl (hloc x hx)) (fun s₁ I => ?_) hco hgen hsc.kind
  rw [show ((S z h tk).heap.objs.size) = h.objs.size from rfl, henv] at I ⊢
  obtain ⟨IC, cell, apart, above⟩ := I
  obtain ⟨h₁, tk₁, rfl⟩ := IC.same
  have keep := IC.keep
  obtain ⟨oL, hoL, hdL⟩ := cell cn (h.objs.size + 1) (by simp [List.lookup])
  rw [hcm _ hkd] at hdL
  have hsz : ∀ b o, h.get? b = some o → b < h.objs.size := fun b o e => Heap.lt_size e
  have G1 : Gh h₀ h₁ mu nw := ⟨fun b o e => keep _ _ (G.stays b o e), Nat.le_of_lt (Nat.lt_of_le_of_lt G.le IC.ns.lt), fun p hp => ⟨keep _ _ (G.has p hp).1, (G.has p hp).2⟩, G.nd, G.apart⟩
  have old : ∀ p ∈ mu ++ nw, p.1 < h.objs.size := fun p hp => hsz _ _ (G.has p hp).1
  refine hh h.objs.size oL h₁ _ hdL ⟨B, hsc, rfl, rfl, ⟨_, IC.ns, ?_⟩, G.le, ⟨G1.stays, G1.le, fun p hp => ?_, ?_, fun p hp q hq => ?_⟩, fun p hp => ?_⟩
  · have := hvs _ hkd
    subst this
    exact LV.of_map ns
  · rcases List.mem_cons.mp hp with rfl | hp
    · refine ⟨hoL, ?_⟩
      cases e : h₀.get? (h.objs.size + 1) with
      | none => rfl
      | some o => exact absurd (Heap.lt_size e) (Nat.not_lt.mpr (Nat.le_succ_of_le G.le))
    · exact G1.has p hp
  · refine List.nodup_cons.mpr ⟨fun hm => ?_, G.nd⟩
    obtain ⟨p, hp, e⟩ := List.mem_map.mp hm
    have := old p (List.mem_append_left _ hp)
    rw [e] at this
    exact absurd this (by simp)
  · rcases List.mem_cons.mp hp with rfl | hp
    · have := old q (List.mem_append_right _ hq)
      exact fun e => by rw [← e] at this; exact absurd this (by simp)
    · exact G.apart p hp q hq
  · show p.1 ≠ h.objs.size
    rcases List.mem_cons.mp hp with rfl | hp
    · exact Nat.succ_ne_self _
    · exact Nat.ne_of_lt (old p hp)
end
section
variable [OSC]
section
variable {prog : Program} {w : World} {A : Around} {E : Value → Shared → Prop} {env : Env}
theorem lc_free {s : Shared} {elt iter : Expr} {x : Str} {px : Pos} {ifs : List Expr} {scope : Scope} {cl : List (Str × Addr)} {pos : Pos} {Q : Value → Shared → Prop}
    (hclos : closureFor scope env = pure cl) (hcell : ∀ y ∈ scope.names, y.2 ≠ .cell) (hkind : scope.kind = .function)
    (hnames : ∀ y ∈ scope.names, y.2 = .local → scope.names.lookup y.1 = some .local) (hx : scope.names.lookup x = some .local)
    (h : wpAny (model prog w) A (eval iter env) (fun xv s₁ => wpAny (model prog w) A (pyIter xv) (fun it s₂ => Ex8 fun (p : Value → Bool) (F : Value → Value → Prop) (I : Addr) (fp wr : List Addr) (n : Nat) (P : Nat → Value → Prop) (St : Nat → Heap → Prop) => Al7 (it = .ref I) (Walks prog w A I fp wr n P St) (n ≤ sizeLine) (St 0 s₂.heap) ((∀ b ∈ fp, b < s₂.heap.objs.size)) (QuietOnC prog w A env scope cl x ifs elt wr P p F s₂) ((∀ D h' tk ys (vs : List Value), s₂.heap.get? D = none → h'.IsList D ys → h'.PlainList D ys → vs.length = n → (∀ j v, vs[j]? = some v → P j v) → Paired F (vs.filter p) ys.toList →
        (∀ b o, b ∉ wr → s₂.heap.get? b = some o → h'.get? b = some o) → Q (.ref D) { s₂ with heap := h', toks := tk }))) E s₁) E s)
    (hs : ∀ x, foldedSetIterable iter env x = pure x := by intro _; rfl) :
    wpAny (model prog w) A (eval (.ListComp elt [⟨.Name x px, iter, ifs, 0⟩] scope pos) env) Q E s := by
  rw [eval_ListComp]
  refine wpAny_comprehension_free (use := none) rfl hs hclos hkind hnames (wpAny_mono h (fun xv s₁ h₁ => wpAny_mono h₁ (fun it s₂ h₂ => ?_) fun _ _ e => e) fun _ _ e => e)
  obtain ⟨p, F, I, fp, wr, n, P, St, rfl, W, hsz, hst, hfp, hq, hQ⟩ := h₂
  refine comp_block_walkC (RR := fun acc C => compPost (model prog w) A E none Q acc C) W hsz p F hcell hkind hx hst hfp hq ?_
  intro D C h' tk m' ys vs hD hC hDC hn hl hpl hlen hP hF hk
  exact ⟨m', hn, fun h'' hs'' => hQ D h'' tk ys vs hD (hl.extBut hs''.extBut hDC) (hpl.extBut hs''.extBut hDC) hlen hP hF fun b o hbf e => hs''.extBut b o (by rintro rfl; rw [hC] at e; cases e) (hk b o hbf e)⟩
end
section
variable {w : World} {mg mb : Str → Option Value} {h₀ h h' : Heap} {env : Env} {ns gs : List Str} {vs vs' : List (Option Value)} {mu nw fr : Led} {z : Shared} {tk : Nat} {A : Around} {E Q : Value → Shared → Prop} {x : Str} {v : Value} {pos : Pos}
/-- [elt for x in (a list) if ..] -/
theorem r_compZ {elt iter : Expr} {px : Pos} {ifs : List Expr} {scope : Scope} {cl : List (Str × Addr)} (_G₀ : GS w mg mb h₀ env ns gs vs mu nw h)
    (hh : A.handled = none) (hclos : closureFor scope env = pure cl) (hcell : ∀ y ∈ scope.names, y.2 ≠ .cell) (hkind : scope.kind = .function) (hnames : ∀ y ∈ scope.names, y.2 = .local → scope.names.lookup y.1 = some .local) (hx : scope.names.lookup x = some .local)
    (hi : wpAny (model PG w) A (eval iter env) (fun xv s₁ => Ex10 fun (p : Value → Bool) (F : Value → Value → Prop) (l : Addr) (ys : List Value) (n : Nat) (h : Heap) (tk : Nat) (z : Shared) (mu nw : Led) => Al8 (xv = .ref l) (s₁ = S z h tk) (GS w mg mb h₀ env ns gs vs mu nw h) ((l, lstO ys n) ∈ mu ++ nw) (ys.length ≤ sizeLine) ((∀ C v s₃ m₃ E', v ∈ ys → s₃.heap.Ns C m₃ → m₃ x = some v → (∀ b o, h.get? b = some o → s₃.heap.get? b = some o) →
        wpAny (model PG w) A (forIn ifs true fun c r => if r = true then do let ok ← isTrue c (compEnvC scope cl C env) (eval c (compEnvC scope cl C env)); pure (ForInStep.yield ok) else pure (ForInStep.yield r)) (fun ok s₄ => ok = p v ∧ Keeps s₃ s₄) E' s₃)) ((∀ C v s₃ m₃ E', v ∈ ys → p v = true → s₃.heap.Ns C m₃ → m₃ x = some v → (∀ b o, h.get? b = some o → s₃.heap.get? b = some o) →
        wpAny (model PG w) A (eval elt (compEnvC scope cl C env)) (fun y s₄ => F v y ∧ Keeps s₃ s₄) E' s₃)) ((∀ D h' tk' rs n', GS w mg mb h₀ env ns gs vs mu ((D, lstO rs n') :: nw) h' → (∀ b o, h.get? b = some o → h'.get? b = some o) → Paired F (ys.filter p) rs → Q (.ref D) (S z h' tk')))) E (S z h tk))
    (hs : ∀ x, foldedSetIterable iter env x = pure x := by intro _; rfl) :
    wpAny (model PG w) A (eval (.ListComp elt [⟨.Name x px, iter, ifs, 0⟩] scope pos) env) Q E (S z h tk) := by
  refine lc_free hclos hcell hkind hnames hx (wpAny_mono hi (fun xv s₁ h1 => ?_) fun _ _ e => e) hs
  obtain ⟨p, F, l, ys, n, h2, tk2, z, mu, nw, rfl, rfl, G, hm, hsz, htests, helt, hQ⟩ := h1
  have hl : h2.IsList l ys.toArray := ⟨_, (G.G.has _ hm).1, rfl, n, rfl⟩
  have hlt : l < h2.objs.size := Heap.lt_size (G.G.has _ hm).1
  refine wpAny_pyIter_list (s := S z h2 tk2) hl ?_
  have up : ∀ (h3 : Heap), (∀ b o, b ∉ [h2.objs.size] → (h2.push { cls := .type "list_iterator", data := .fields #[.ref l, .int 0 0] }).get? b = some o → h3.get? b = some o) → ∀ b o, h2.get? b = some o → h3.get? b = some o := fun h3 hk b o e =>
    hk b o (fun hb => by rw [List.mem_singleton] at hb; exact absurd (Heap.lt_size e) (by rw [hb]; exact Nat.lt_irrefl _)) (Heap.get?_push_of_some _ e)
  refine ⟨p, F, h2.objs.size, [h2.objs.size, l], [h2.objs.size], ys.length, _, _, rfl, Walks.list hh h2.objs.size l (Nat.ne_of_lt hlt) ys.toArray, hsz, ⟨⟨_, Heap.get?_push_size _ rfl, rfl, rfl⟩, hl.at fun o e => Heap.get?_push_of_some _ e⟩, fun b hb => ?_, ⟨fun C i v s₃ m₃ E' _ hP hn hm3 hk _ => ?_, fun C i v s₃ m₃ E' _ hP hp hn hm3 hk _ => ?_⟩, fun D h' tk' ys' vs' hD hlD hpl hlen hP hF hk => ?_⟩
  · show b < (h2.push _).objs.size
    rw [Heap.size_push]
    rcases List.mem_cons.mp hb with rfl | hb
    · exact Nat.lt_succ_self _
    · rw [List.mem_singleton.mp hb]; exact Nat.lt_succ_of_lt hlt
  · exact htests C v s₃ m₃ E' (List.mem_of_getElem? (by simpa using hP)) hn hm3 (up _ hk)
  · exact helt C v s₃ m₃ E' (List.mem_of_getElem? (by simpa using hP)) hp hn hm3 (up _ hk)
  · have hvs : vs' = ys := by
      apply List.ext_getElem?
      intro j
      cases e : vs'[j]? with
      | none =>
        have := List.getElem?_eq_none_iff.mp e
        rw [List.getElem?_eq_none_iff.mpr]
        omega
      | some v => simpa using (hP j v e).symm
    subst hvs
    have hk' := up h' hk
    have G' := G.Ns_keep hk'
    obtain ⟨n', hn'⟩ := hpl
    have hDn : h2.get? D = none := by
      cases e : h2.get? D with
      | none => rfl
      | some o => rw [show (_ : Shared).heap.get? D = some o from Heap.get?_push_of_some _ e] at hD; cases hD
    have fresh : ∀ p ∈ mu ++ nw, p.1 ≠ D := fun p hp e => by rw [← e, (G.G.has p hp).1] at hDn; cases hDn
    refine hQ D h' tk' ys'.toList n' (G'.with ⟨G'.G.stays, G'.G.le, fun p hp => ?_, G'.G.nd, fun p hp q hq => ?_⟩ (fun o e => e) fun p hp => ?_) hk' hF
    · simp only [List.mem_append, List.mem_cons] at hp
      rcases hp with hp | rfl | hp
      · exact G'.G.has p (List.mem_append_left _ hp)
      · refine ⟨by simpa using hn', ?_⟩
        cases e : h₀.get? D with
        | none => rfl
        | some o => rw [G.G.stays _ _ e] at hDn; cases hDn
      · exact G'.G.has p (List.mem_append_right _ hp)
    · rcases List.mem_cons.mp hq with rfl | hq
      · exact fresh p (List.mem_append_left _ hp)
      · exact G'.G.apart p hp q hq
    · simp only [List.mem_append, List.mem_cons] at hp
      rcases hp with hp | rfl | hp
      · exact G'.ne p (List.mem_append_left _ hp)
      · rintro rfl
        obtain ⟨m, hn, _⟩ := G.ns_
        obtain ⟨ob, es, ep, hob, _⟩ := hn
        have e : h2.get? env.locals = some ob := hob
        exact absurd (hDn.symm.trans e) (by simp)
      · exact G'.ne p (List.mem_append_right _ hp)
theorem alc_free {prog : Program} {env : Env} {s : Shared} {elt iter : Expr} {x y : Str} {px py : Pos} {ifs : List Expr} {scope : Scope} {cl : List (Str × Addr)} {pos spos : Pos} {Q : Flow → Shared → Prop}
    (hsw : swapsWith (.ListComp elt [⟨.Name x px, iter, ifs, 0⟩] scope pos) (some (.Name y py)) spos.line env = pure true)
    (hclos : closureFor scope env = pure cl) (hcell : ∀ z ∈ scope.names, z.2 ≠ .cell) (hkind : scope.kind = .function)
    (hnames : ∀ z ∈ scope.names, z.2 = .local → scope.names.lookup z.1 = some .local) (hx : scope.names.lookup x = some .local)
    (hy : env.kindOf y = some .local) (hp : (env.scope.kind == .class || (env.scope.kind == .module && env.locals != env.globals)) = false)
    (h : wpAny (model prog w) A (eval iter env) (fun xv s₁ => wpAny (model prog w) A (pyIter xv) (fun it s₂ => Ex9 fun (p : Value → Bool) (F : Value → Value → Prop) (I : Addr) (fp wr : List Addr) (n : Nat) (P : Nat → Value → Prop) (St : Nat → Heap → Prop) (m : Str → Option Value) => Al9 (it = .ref I) (Walks prog w A I fp wr n P St) (n ≤ sizeLine) (St 0 s₂.heap) ((∀ b ∈ fp, b < s₂.heap.objs.size)) (env.locals ∉ wr) (s₂.heap.Ns env.locals m) (QuietOnC prog w A env scope cl x ifs elt wr P p F s₂) ((∀ D h' tk ys (vs : List Value), s₂.heap.get? D = none → h'.IsList D ys → h'.PlainList D ys → vs.length = n → (∀ j v, vs[j]? = some v → P j v) → Paired F (vs.filter p) ys.toList →
        h'.Ns env.locals (fun z => if z = y then some (.ref D) else m z) → (∀ b o, b ≠ env.locals → b ∉ wr → s₂.heap.get? b = some o → h'.get? b = some o) → Q .next { s₂ with heap := h', toks := tk }))) E s₁) E s)
    (hs : ∀ x, foldedSetIterable iter env x = pure x := by intro _; rfl) :
    wpAny (model prog w) A (exec (.Assign [.Name y py] (.ListComp elt [⟨.Name x px, iter, ifs, 0⟩] scope pos) spos) env) Q E s := by
  rw [exec_Assign_Name_used _ _ _ _ hsw]
  refine wpAny_bind (wpAny_standAt (wpAny_bind ?_))
  show wpAny _ A (do let _ ← comprehension (.ListComp elt [⟨.Name x px, iter, ifs, 0⟩] scope pos) scope env _ (newList []) false (eval iter env) (some (assign (.Name y py) env))) _ _ s
  refine wpAny_bind (wpAny_mono (wpAny_comprehension_free (use := some (assign (.Name y py) env)) (Q := fun _ s' => Q .next s') rfl hs hclos hkind hnames
    (wpAny_mono h (fun xv s₁ h₁ => wpAny_mono h₁ (fun it s₂ h₂ => ?_) fun _ _ e => e) fun _ _ e => e)) (fun _ s' hq => wpAny_pure (wpAny_pure hq)) fun _ _ e => e)
  obtain ⟨p, F, I, fp, wr, n, P, St, m, rfl, W, hsz, hst, hfp, hLf, hn, hq, hQ⟩ := h₂
  refine comp_block_walkC (RR := fun acc C => compPost (model prog w) A E (some (assign (.Name y py) env)) (fun _ s' => Q .next s') acc C) W hsz p F hcell hkind hx hst hfp hq ?_
  intro D C h' tk m' ys vs hD hC hDC hnC hlD hplD hlen hP hF hk
  have hLC : env.locals ≠ C := by rintro rfl; obtain ⟨o, _, _, ho, _⟩ := hn; rw [hC] at ho; cases ho
  have hLD : env.locals ≠ D := by rintro rfl; obtain ⟨o, _, _, ho, _⟩ := hn; rw [hD] at ho; cases ho
  show wpAny _ A (assign (.Name y py) env (.ref D)) _ _ _
  refine wpAny_assign_Name (wpAny_storeName_local hy (hn.at' fun o e => hk _ o hLf e) (fun h₂ hn₂ hs₂ => ?_) hp)
  refine ⟨m', hnC.sameBut hs₂ (Ne.symm hLC), fun h₃ hs₃ => ?_⟩
  exact hQ D h₃ _ ys vs hD ((hlD.extBut hs₂.extBut (Ne.symm hLD)).extBut hs₃.extBut hDC) ((hplD.extBut hs₂.extBut (Ne.symm hLD)).extBut hs₃.extBut hDC) hlen hP hF (hn₂.sameBut hs₃ hLC) fun b o hbL hbf e =>
    hs₃.extBut b o (by rintro rfl; rw [hC] at e; cases e) (hs₂.extBut b o hbL (hk b o hbf e))
/-- y = [elt for x in (a list) if ..] -/
theorem r_acompZ {elt iter : Expr} {y : Str} {px py spos : Pos} {ifs : List Expr} {scope : Scope} {cl : List (Str × Addr)} {Q : Flow → Shared → Prop} (_G₀ : GS w mg mb h₀ env ns gs vs mu nw h)
    (hsw : swapsWith (.ListComp elt [⟨.Name x px, iter, ifs, 0⟩] scope pos) (some (.Name y py)) spos.line env = pure true) (hym : y ∈ ns)
    (hh : A.handled = none) (hclos : closureFor scope env = pure cl) (hcell : ∀ y ∈ scope.names, y.2 ≠ .cell) (hkind : scope.kind = .function) (hnames : ∀ y ∈ scope.names, y.2 = .local → scope.names.lookup y.1 = some .local) (hx : scope.names.lookup x = some .local)
    (hi : wpAny (model PG w) A (eval iter env) (fun xv s₁ => Ex11 fun (p : Value → Bool) (F : Value → Value → Prop) (l : Addr) (ys : List Value) (n : Nat) (h : Heap) (tk : Nat) (z : Shared) (vs : List (Option Value)) (mu nw : Led) => Al8 (xv = .ref l) (s₁ = S z h tk) (GS w mg mb h₀ env ns gs vs mu nw h) ((l, lstO ys n) ∈ mu ++ nw) (ys.length ≤ sizeLine) ((∀ C v s₃ m₃ E', v ∈ ys → s₃.heap.Ns C m₃ → m₃ x = some v → (∀ b o, h.get? b = some o → s₃.heap.get? b = some o) →
        wpAny (model PG w) A (forIn ifs true fun c r => if r = true then do let ok ← isTrue c (compEnvC scope cl C env) (eval c (compEnvC scope cl C env)); pure (ForInStep.yield ok) else pure (ForInStep.yield r)) (fun ok s₄ => ok = p v ∧ Keeps s₃ s₄) E' s₃)) ((∀ C v s₃ m₃ E', v ∈ ys → p v = true → s₃.heap.Ns C m₃ → m₃ x = some v → (∀ b o, h.get? b = some o → s₃.heap.get? b = some o) →
        wpAny (model PG w) A (eval elt (compEnvC scope cl C env)) (fun y s₄ => F v y ∧ Keeps s₃ s₄) E' s₃)) ((∀ D, ∃ vs', SetAt ns vs y (.ref D) vs' ∧ ∀ h' tk' rs n', GS w mg mb h₀ env ns gs vs' mu ((D, lstO rs n') :: nw) h' → Paired F (ys.filter p) rs → Q .next (S z h' tk')))) E (S z h tk))
    (hs : ∀ x, foldedSetIterable iter env x = pure x := by intro _; rfl) :
    wpAny (model PG w) A (exec (.Assign [.Name y py] (.ListComp elt [⟨.Name x px, iter, ifs, 0⟩] scope pos) spos) env) Q E (S z h tk) := by
  have hp : (env.scope.kind == .class || (env.scope.kind == .module && env.locals != env.globals)) = false := by rw [_G₀.sc.kind]; rfl
  refine alc_free hsw hclos hcell hkind hnames hx (_G₀.sc.loc y hym) hp (wpAny_mono hi (fun xv s₁ h1 => ?_) fun _ _ e => e) hs
  obtain ⟨p, F, l, ys, n, h2, tk2, z, vs2, mu, nw, rfl, rfl, G, hm, hsz, htests, helt, hQ⟩ := h1
  have hl : h2.IsList l ys.toArray := ⟨_, (G.G.has _ hm).1, rfl, n, rfl⟩
  have hlt : l < h2.objs.size := Heap.lt_size (G.G.has _ hm).1
  refine wpAny_pyIter_list (s := S z h2 tk2) hl ?_
  have up : ∀ (h3 : Heap), (∀ b o, b ∉ [h2.objs.size] → (h2.push { cls := .type "list_iterator", data := .fields #[.ref l, .int 0 0] }).get? b = some o → h3.get? b = some o) → ∀ b o, h2.get? b = some o → h3.get? b = some o := fun h3 hk b o e =>
    hk b o (fun hb => by rw [List.mem_singleton] at hb; exact absurd (Heap.lt_size e) (by rw [hb]; exact Nat.lt_irrefl _)) (Heap.get?_push_of_some _ e)
  obtain ⟨m, hnm, hlv⟩ := G.ns_
  refine ⟨p, F, h2.objs.size, [h2.objs.size, l], [h2.objs.size], ys.length, _, _, m, rfl, Walks.list hh h2.objs.size l (Nat.ne_of_lt hlt) ys.toArray, hsz, ⟨⟨_, Heap.get?_push_size _ rfl, rfl, rfl⟩, hl.at fun o e => Heap.get?_push_of_some _ e⟩, fun b hb => ?_, ?_, hnm.at' fun o e => Heap.get?_push_of_some _ e, ⟨fun C i v s₃ m₃ E' _ hP hn hm3 hk _ => ?_, fun C i v s₃ m₃ E' _ hP hp hn hm3 hk _ => ?_⟩, fun D h' tk' ys' vs' hD hlD hpl hlen hP hF hns hk => ?_⟩
  · show b < (h2.push _).objs.size
    rw [Heap.size_push]
    rcases List.mem_cons.mp hb with rfl | hb
    · exact Nat.lt_succ_self _
    · rw [List.mem_singleton.mp hb]; exact Nat.lt_succ_of_lt hlt
  · intro hb
    rw [List.mem_singleton] at hb
    exact absurd hnm.lt (by rw [hb]; exact Nat.lt_irrefl _)
  · exact htests C v s₃ m₃ E' (List.mem_of_getElem? (by simpa using hP)) hn hm3 (up _ hk)
  · exact helt C v s₃ m₃ E' (List.mem_of_getElem? (by simpa using hP)) hp hn hm3 (up _ hk)
  · have hvs : vs' = ys := by
      apply List.ext_getElem?
      intro j
      cases e : vs'[j]? with
      | none =>
        have := List.getElem?_eq_none_iff.mp e
        rw [List.getElem?_eq_none_iff.mpr]
        omega
      | some v => simpa using (hP j v e).symm
    subst hvs
    obtain ⟨vsN, hset, hQ⟩ := hQ D
    have hk' : ∀ b o, b ≠ env.locals → h2.get? b = some o → h'.get? b = some o := fun b o hb e => hk b o hb (fun hbm => by rw [List.mem_singleton] at hbm; exact absurd (Heap.lt_size e) (by rw [hbm]; exact Nat.lt_irrefl _)) (Heap.get?_push_of_some _ e)
    obtain ⟨n', hn'⟩ := hpl
    have hDn : h2.get? D = none := by
      cases e : h2.get? D with
      | none => rfl
      | some o => rw [show (_ : Shared).heap.get? D = some o from Heap.get?_push_of_some _ e] at hD; cases hD
    have fresh : ∀ p ∈ mu ++ nw, p.1 ≠ D := fun p hp e => by rw [← e, (G.G.has p hp).1] at hDn; cases hDn
    have base : ∀ b o, h₀.get? b = some o → b ≠ env.locals := fun b o e => Nat.ne_of_lt (Nat.lt_of_lt_of_le (Heap.lt_size e) G.above)
    have hDL : D ≠ env.locals := by
      rintro rfl
      obtain ⟨ob, es, ep, hob, _⟩ := hnm
      have e : h2.get? env.locals = some ob := hob
      exact absurd (hDn.symm.trans e) (by simp)
    refine hQ h' tk' ys'.toList n' ⟨G.bs, G.sc, G.eg, G.eb, ⟨_, hns, hset.set G.sc.nd hlv⟩, G.above, ⟨fun b o e => hk' b o (base b o e) (G.G.stays b o e), Nat.le_of_lt (Nat.lt_of_le_of_lt G.above hns.lt), fun p hp => ?_, G.G.nd, fun p hp q hq => ?_⟩, fun p hp => ?_⟩ hF
    · simp only [List.mem_append, List.mem_cons] at hp
      have old : ∀ p ∈ mu ++ nw, h'.get? p.1 = some p.2 ∧ h₀.get? p.1 = none := fun p hp => ⟨hk' _ _ (G.ne p hp) (G.G.has p hp).1, (G.G.has p hp).2⟩
      rcases hp with hp | rfl | hp
      · exact old p (List.mem_append_left _ hp)
      · refine ⟨by simpa using hn', ?_⟩
        cases e : h₀.get? D with
        | none => rfl
        | some o => rw [G.G.stays _ _ e] at hDn; cases hDn
      · exact old p (List.mem_append_right _ hp)
    · rcases List.mem_cons.mp hq with rfl | hq
      · exact fresh p (List.mem_append_left _ hp)
      · exact G.G.apart p hp q hq
    · simp only [List.mem_append, List.mem_cons] at hp
      rcases hp with hp | rfl | hp
      · exact G.ne p (List.mem_append_left _ hp)
      · exact hDL
      · exact G.ne p (List.mem_append_right _ hp)
end
end
section
variable [OSC]
inductive NeedAt (nw : Led) (v : Value) (q : Tree × Tree) : Prop
  | mk (kd : _) (a : _) (n : _) (tt : _) (v1 : _) (v2 : _) (hyp1 : v = .ref a) (hyp2 : (a, tupO [.str kd tt, v1, v2] n) ∈ nw) (hyp3 : (kd = "alike" ∨ kd = "unlike")) (hyp4 : (TermAt nw v1 q.1 ∧ q.1.size ≤ 40)) (hyp5 : (TermAt nw v2 q.2 ∧ q.2.size ≤ 40)) : NeedAt nw v q
theorem NeedAt.mono {nw nw' : Led} {v : Value} {q : Tree × Tree} (h : NeedAt nw v q) (s : ∀ p ∈ nw, p ∈ nw') : NeedAt nw' v q :=
  let ⟨kd, a, n, tt, v1, v2, e, m, k, ⟨t1, s1⟩, ⟨t2, s2⟩⟩ := h; ⟨kd, a, n, tt, v1, v2, e, s _ m, k, ⟨t1.mono s, s1⟩, ⟨t2.mono s, s2⟩⟩
noncomputable def allIn (left : Tree) (q : Tree × Tree) : Bool := (q.1.vars ++ q.2.vars).all fun x => left.vars.contains x
theorem strs_app {a b : List Value} {s t : List Str} (h : StrsAre a s) (h' : StrsAre b t) : StrsAre (a ++ b) (s ++ t) := by
  induction h with
  | nil => exact h'
  | cons y t _ ih => exact .cons y t ih
noncomputable def lostP (ks : List Str) (v : Value) : Bool := match v with | .str k _ => !(ks.any (· == k)) | _ => false
theorem paired_eq {l m : List Value} (h : Paired (fun v y => y = v) l m) : m = l := by
  induction h with
  | nil => rfl
  | cons e t ih => rw [e, ih]
theorem lost_empty {ks : List Str} {vs : List Value} {ss : List Str} (hs : StrsAre vs ss) : ((vs.filter (lostP ks)).isEmpty = true ↔ ∀ k ∈ ss, k ∈ ks) := by
  induction hs with
  | nil => simp
  | cons k t h ih =>
    rw [List.filter_cons]
    by_cases hk : k ∈ ks
    · have : lostP ks (.str k t) = false := by simp [lostP, hk]
      rw [this]
      simp only [Bool.false_eq_true, if_false]
      rw [ih]
      simp [hk]
    · have : lostP ks (.str k t) = true := by
        simp only [lostP, Bool.not_eq_true', List.any_eq_false, beq_iff_eq]
        exact fun x hx e => hk (e ▸ hx)
      rw [this]
      simp [hk]
theorem allIn_iff {left : Tree} {q : Tree × Tree} {ks ss : List Str} (hk : ∀ k, k ∈ ks ↔ k ∈ left.vars.map Wd.str) (hs : ∀ k, k ∈ ss ↔ k ∈ (q.1.vars ++ q.2.vars).map Wd.str) : (∀ k ∈ ss, k ∈ ks) ↔ allIn left q = true := by
  unfold allIn
  rw [List.all_eq_true]
  constructor
  · intro h x hx
    have := (hk _).mp (h x.str ((hs _).mpr (List.mem_map.mpr ⟨x, hx, rfl⟩)))
    obtain ⟨y, hy, e⟩ := List.mem_map.mp this
    rw [← Wd.inj e]
    simpa using hy
  · intro h k hk'
    obtain ⟨x, hx, rfl⟩ := List.mem_map.mp ((hs _).mp hk')
    have := h x hx
    exact (hk _).mpr (List.mem_map.mpr ⟨x, by simpa using this, rfl⟩)
theorem paired_left {α β : Type} {F : α → β → Prop} {l : List α} {m : List β} (h : Paired F l m) : ∀ {i : Nat} {a : α}, l[i]? = some a → ∃ b, m[i]? = some b ∧ F a b := by
  induction h with
  | nil => intro i a e; cases e
  | cons f t ih =>
    intro i a e
    cases i with
    | zero => exact ⟨_, rfl, Option.some.inj e ▸ f⟩
    | succ i => exact ih e
theorem turnsL {w : World} {A : Around} (hh : A.handled = none) (I l : Addr) (hne : l ≠ I) (items : Array Value) (elts : List Expr) (k : Nat) (pos : Pos) :
    KTurns PG w A (.Tuple elts k pos) I [I, l] [I] items.size (fun i v _ => items[i]? = some v) (fun i v h => items[i]? = some v ∧ (h.IsListIter I l (i + 1) ∧ h.IsList l items)) (fun i h => h.IsListIter I l i ∧ h.IsList l items) :=
  KTurns.ofWalks (Walks.list hh I l hne items) fun i v s Q E st hq => by
    cases v with
    | ref T => exact wpAny_letOwnedTupleGo_listiter st.1 hq
    | _ => exact wpAny_pure hq
section
variable (w : World)
theorem k134 : findIn (KK w) (.ref 134) "__setattr__" = some (some (.builtin "object.__setattr__")) ∧ plainOver (KK w) 134 = true ∧ hasDictIn (KK w) 134 = true ∧ takerIn (KK w) 134 "name" = some none ∧ takerIn (KK w) 134 "left" = some none ∧ takerIn (KK w) 134 "right" = some none ∧ takerIn (KK w) 134 "needs" = some none :=
  ⟨by kernel_rfl, by kernel_rfl, by kernel_rfl, by kernel_rfl, by kernel_rfl, by kernel_rfl, by kernel_rfl⟩
end
section
variable {w : World} {mg mb : Str → Option Value} {h₀ h h' : Heap} {env : Env} {ns gs : List Str} {vs vs' : List (Option Value)} {mu nw fr : Led} {z : Shared} {tk : Nat} {A : Around} {E Q : Value → Shared → Prop} {outer : List Env} {x dx nt : Addr} {name : Wd} {t : Tok} {lv rv : Value} {left right : Tree} {nvs : List Value} {nn : Nat} {nds : List (Tree × Tree)}
theorem GS.termH (G : GS w mg mb h₀ env ns gs vs mu nw h) {v : Value} {t : Tree} (ht : TermAt nw v t) : TermH h v t := ht.toH fun p hp => G.G.get hp
theorem gs_vars {v : Value} {t : Tree} (G : GS w mg mb h₀ env ns gs vs mu nw h) (hA : Room A 60) (hH : A.handled = none) (ht : TermAt nw v t ∧ t.size ≤ 40)
    (hq : ∀ h' tk' z' D vs' ss n, GS w mg mb h₀ env ns gs vs mu ((D, lstO vs' n) :: nw) h' → StrsAre vs' ss → (∀ k, k ∈ ss ↔ k ∈ t.vars.map Wd.str) → vs'.length ≤ 64 → Q (.ref D) (S z' h' tk')) :
    wpAny (model PG w) A (call (.ref 107) [v]) Q E (S z h tk) := by
  have := ht.2
  refine vars_spec (G.bs.keep G.G.stays) (hA.le (by omega)) hH (G.termH ht.1) (by omega) ?_
  intro h' tk' z' D vs' ss n hk hDn hD hs hm hl
  exact hq h' tk' z' D vs' ss n (G.fresh hk hDn hD) hs hm hl
theorem rinit_spec {R : Result → Shared → Prop} (B : Bs w mg mb h₀) (G : Gh h₀ h ((dx, dictOf [] 0) :: mu) nw) (hA : Room A 80) (hx : (x, instObj 134 dx) ∈ nw) (O : Out A outer fr mu)
    (hl : TermAt nw lv left ∧ left.size ≤ 40) (hr : TermAt nw rv right ∧ right.size ≤ 40) (hn : (nt, tupO nvs nn) ∈ nw) (hnd : Paired (NeedAt nw) nvs nds) (hnl : nds.length ≤ 40)
    (hq : isVarT left = false → ((right, right) :: nds).all (allIn left) = true → ∀ z' h' tk' o' nw', (∀ q ∈ nw, q ∈ nw') → Gh h₀ h' ((dx, o') :: mu) nw' → R (.ok (.ret .none)) (S z' h' tk'))
    (hE : (isVarT left = true ∨ ((right, right) :: nds).all (allIn left) = false) → CXZ h₀ fr 88 (fun od => ∃ s, PayR od s) (fun e s => R (.error e) s)) :
    codeAny (model PG w) A (.call (.ref 124) ⟨[.ref x, .str name.str t, lv, rv, .ref nt], []⟩) R (S z h tk) := by
  have hR : ∀ env, Room (A.deeper env) 79 := fun env => Room.deeper hA
  have hvl : nvs.length = nds.length := hnd.length
  refine enterCodeC ["self", "name", "left", "right", "needs", "asked", "kind", "one", "other", "lost"] ["is_variable", "RuleFault", "variables", "list", "tuple"] [some (.ref x), some (.str name.str t), some lv, some rv, some (.ref nt), none, none, none, none, none] "known" B G hA.depth rfl rfl rfl rfl ⟨rfl, by decide, by decide, by decide, by decide⟩ (fun n => rfl) rfl ?_ rfl rfl
  intro L oL h₁ tk' hoL ev Av Qv Ev G
  refine wpAny_execs_cons ?_
  try k_fold
  refine wpAny_If ?_
  try k_fold
  refine wpAny_isTrue_value ?_
  try k_fold
  refine b_call1 G (by walk_at "m:has") (g_is_variable w) (keep_r w).1 (by walk_at "m:at") ?_
  refine isvar_spec (G.bs.keep G.G.stays) ((hR _).le (by omega)) (G.termH hl.1) (by omega) ?_
  intro h2 tk2 hk2
  have G := G.Ns_keep hk2
  refine wpAny_truthy_bool ?_
  refine ifs (fun hb => ?_) (fun hb => ?_)
  · refine wpAny_execs_cons ?_
    try k_fold
    refine b_raiseR ((BO.of O rfl rfl).mono fun _ h => .tail _ (.tail _ h)) ((hR _).le (by omega)) (EXZ.of O rfl rfl (hE (.inl hb))) G (by walk_at "m:has") ?_
    refine JoinedStr_many ?_
    refine joinParts_cons ?_
    refine FormattedValue_plain ?_
    walk_at "m:loc"
    refine formatField_str ?_ (Nat.le_trans name.len (by decide))
    intro t14 tk14
    have l1 : (Str.empty ++ name.str).length = name.str.length := by rw [strLen_append]; exact Nat.zero_add _
    refine ⟨by rw [l1]; exact Nat.le_trans name.len (by decide), ?_⟩
    refine joinParts_cons ?_
    refine r_strN ?_
    have l2 : (Str.empty ++ name.str ++ ": a variable alone matches everything").length ≤ sizeLine := by rw [strLen_append, l1]; exact Nat.le_trans (Nat.add_le_add_right name.len _) (by decide)
    refine ⟨l2, ?_⟩
    refine joinParts_nilE ?_
    with_reducible refine joinParts_nil ?_ ?_
    rotate_left
    · exact l2
    · exact ⟨_, _, h2, _, rfl, rfl, G⟩
  refine wpAny_execs_nil ?_
  refine wpAny_execs_cons ?_
  try k_fold
  refine wpAny_Assign_Name ?_
  try k_fold
  refine b_call1 G (by walk_at "m:has") (g_variables w) (keep_r w).2.1 (by walk_at "m:at") ?_
  refine gs_vars G ((hR _).le (by omega)) O.hd hl ?_
  intro h3 tk3 z3 DK vsK ssK nK G hsK hmK hlK
  refine st_cell G rfl rfl hoL ?_
  intro h4 oc hoc G
  have G := G.settle
  refine wpAny_execs_cons ?_
  try k_fold
  refine wpAny_Assign_Name ?_
  refine wpAny_BinOp ?_
  refine List_ ?_
  refine args_cons ?_
  refine Tuple_ ?_
  refine args_cons ?_
  refine r_str ?_
  intro t5
  refine args_cons ?_
  walk_at "m:loc"
  refine args_cons ?_
  walk_at "m:loc"
  refine args_nil ?_
  refine r_tup (by show 3 ≤ 2 ^ 24; decide) G (fun T0 h6 G => ?_)
  refine args_nil ?_
  refine r_list (by show 1 ≤ 2 ^ 24; decide) G (fun D0 h7 G => ?_)
  refine Call_ ?_
  refine r_blt G (by walk_at "m:has") (g_list w).1 (g_list w).2.1 (g_list w).2.2 ?_
  refine cw_t ?_
  refine args_cons ?_
  walk_at "m:loc"
  refine args_nil ?_
  refine r_listtup G (G.G.get (.tail _ (.tail _ (.tail _ (.tail _ hn))))) (by omega) ?_
  intro D1 h8 n8 G
  refine r_addlists G (List.mem_append_right _ (.tail _ (.head _))) (List.mem_append_right _ (.head _)) (sl_small (m := 100) (by simp; omega) (by decide)) ?_
  intro DA h9 G
  walk_at "m:st"
  intro h10 tk10 G
  have hasks : Paired (NeedAt ((DA, lst ([.ref T0] ++ nvs)) :: (D1, lstO nvs n8) :: (D0, lst [.ref T0]) :: (T0, tup [.str "alike" t5, rv, rv]) :: (L + 1, oc) :: (DK, lstO vsK nK) :: nw)) ([.ref T0] ++ nvs) ((right, right) :: nds) := by
    have up : ∀ p ∈ nw, p ∈ ((DA, lst ([.ref T0] ++ nvs)) :: (D1, lstO nvs n8) :: (D0, lst [.ref T0]) :: (T0, tup [.str "alike" t5, rv, rv]) :: (L + 1, oc) :: (DK, lstO vsK nK) :: nw) := fun p hp => .tail _ (.tail _ (.tail _ (.tail _ (.tail _ (.tail _ hp)))))
    refine .cons ⟨"alike", T0, 0, t5, rv, rv, rfl, .tail _ (.tail _ (.tail _ (.head _))), .inl rfl, ⟨hr.1.mono up, hr.2⟩, ⟨hr.1.mono up, hr.2⟩⟩ (paired_mono hnd fun _ _ x => x.mono up)
  have hDA : (DA, lst ([.ref T0] ++ nvs)) ∈ ((DA, lst ([.ref T0] ++ nvs)) :: (D1, lstO nvs n8) :: (D0, lst [.ref T0]) :: (T0, tup [.str "alike" t5, rv, rv]) :: (L + 1, oc) :: (DK, lstO vsK nK) :: nw) := .head _
  have hcl : (L + 1, oc) ∈ ((DA, lst ([.ref T0] ++ nvs)) :: (D1, lstO nvs n8) :: (D0, lst [.ref T0]) :: (T0, tup [.str "alike" t5, rv, rv]) :: (L + 1, oc) :: (DK, lstO vsK nK) :: nw) := .tail _ (.tail _ (.tail _ (.tail _ (.head _))))
  have hDKm : (DK, lstO vsK nK) ∈ ((DA, lst ([.ref T0] ++ nvs)) :: (D1, lstO nvs n8) :: (D0, lst [.ref T0]) :: (T0, tup [.str "alike" t5, rv, rv]) :: (L + 1, oc) :: (DK, lstO vsK nK) :: nw) := .tail _ (.tail _ (.tail _ (.tail _ (.tail _ (.head _)))))
  have hsub : ∀ p ∈ nw, p ∈ ((DA, lst ([.ref T0] ++ nvs)) :: (D1, lstO nvs n8) :: (D0, lst [.ref T0]) :: (T0, tup [.str "alike" t5, rv, rv]) :: (L + 1, oc) :: (DK, lstO vsK nK) :: nw) := fun p hp => .tail _ (.tail _ (.tail _ (.tail _ (.tail _ (.tail _ hp)))))
  generalize ((DA, lst ([.ref T0] ++ nvs)) :: (D1, lstO nvs n8) :: (D0, lst [.ref T0]) :: (T0, tup [.str "alike" t5, rv, rv]) :: (L + 1, oc) :: (DK, lstO vsK nK) :: nw) = NW at G hasks hDA hcl hDKm hsub
  generalize hys : [Value.ref T0] ++ nvs = ys at G hasks hDA
  have hyl : ys.length = nds.length + 1 := by rw [hasks.length]; rfl
  refine wpAny_execs_cons ?_
  try k_fold
  refine wpAny_For ?_
  try k_fold
  walk_at "m:loc"
  have hA10 := G.G.get hDA
  refine wpAny_pyIter_list (s := S z3 h10 tk10) (items := ys.toArray) ⟨_, hA10, rfl, 0, rfl⟩ ?_
  have hltA : DA < h10.objs.size := Heap.lt_size hA10
  have G := G.pushM { cls := .type "list_iterator", data := .fields #[.ref DA, .int 0 0] } rfl
  have hI := G.getM (.head _)
  refine r_forT (own := [(h10.objs.size, { cls := .type "list_iterator", data := .fields #[.ref DA, .int 0 0] })]) (keep := [(DA, lst ys)])
    (J := fun i vs mu' nw' hh => Ex4 fun k1 k2 k3 k4 => Al4 (vs = [some (.ref x), some (.str name.str t), some lv, some rv, some (.ref nt), some (.ref DA), k1, k2, k3, k4]) (mu' = (dx, dictOf [] 0) :: mu) ((∀ p ∈ NW, p ∈ nw')) ((((right, right) :: nds).take i).all (allIn left) = true))
    ?_ ?_ (turnsL (A := A.deeper _) O.hd h10.objs.size DA (Nat.ne_of_lt hltA) ys.toArray _ _ _) ?_ ?_ rfl ⟨⟨_, hI, rfl, rfl⟩, ⟨_, Heap.get?_push_of_some _ hA10, rfl, 0, rfl⟩⟩ ⟨_, _, _, _, rfl, rfl, fun _ h => h, rfl⟩ G ?_ ?_
  · rintro i vs mu nw hh hh' hk x; exact x
  · rintro i vs mu nw hh ⟨k1, k2, k3, k4, e1, e2, e3, e4⟩ p hp
    rw [List.mem_singleton.mp hp]; exact e3 _ hDA
  · rintro i hh ⟨⟨oi, hoi, hic, hid⟩, _⟩ b hb
    rw [List.mem_singleton.mp hb]
    exact ⟨_, hoi, fun ⟨_, _, e⟩ => by rw [e] at hid; cases hid⟩
  · intro b hb
    rcases List.mem_cons.mp hb with rfl | hb
    · exact .inl (.head _)
    · rw [List.mem_singleton.mp hb]; exact .inr ⟨_, .head _⟩
  · intro i v vs mu' nw' own h11 tk11 z11 hi how hP hI_ G
    try k_fold
    obtain ⟨k1, k2, k3, k4, rfl, rfl, hsn, hall⟩ := hI_
    have hP' : ys[i]? = some v := by simpa using hP
    obtain ⟨q, hqi, kd, a, na, tt, v1, v2, rfl, hma, hkd, ht1, ht2⟩ := paired_left hasks hP'
    have hT := G.G.get (hsn _ hma)
    refine wpAny_assign_Tuple (s := S z11 h11 tk11) O.hd ⟨_, hT, rfl, na, rfl⟩ rfl rfl fun h12 he12 => ?_
    have G := G.Ns_keep fun b o e => he12 b o (Nat.ne_of_lt (Heap.lt_size e)) e
    show wpAny _ _ (assignInOrder [assign (.Name "kind" _) _, assign (.Name "one" _) _, assign (.Name "other" _) _] [.str kd tt, v1, v2]) _ _ _
    refine assignInOrder_cons ?_
    refine wpAny_assign_Name ?_
    walk_at "m:st"
    intro h13 tk13 G
    refine assignInOrder_cons ?_
    refine wpAny_assign_Name ?_
    walk_at "m:st"
    intro h14 tk14 G
    refine assignInOrder_cons ?_
    refine wpAny_assign_Name ?_
    walk_at "m:st"
    intro h15 tk15 G
    refine assignInOrder_nil ?_
    refine wpAny_execs_cons ?_
    try k_fold
    refine wpAny_If ?_
    try k_fold
    refine wpAny_isTrue_Compare1 ?_
    walk_at "m:loc"
    refine Tuple_ ?_
    refine args_cons ?_
    refine r_strN ?_
    refine args_cons ?_
    refine r_strN ?_
    refine args_nil ?_
    refine r_tup (by show 2 ≤ 2 ^ 24; decide) G (fun T h16 G => ?_)
    refine notin_tuple_strs (s := S z11 h16 _) (ys := ["alike", "unlike"]) ⟨_, G.G.get (.head _), rfl, 0, rfl⟩ (.cons _ _ (.cons _ _ .nil)) ?_
    have G := G.less
    refine wpAny_truthy_bool ?_
    have hkk : (!(List.any (["alike", "unlike"] : List Str) fun y => y == kd)) = false := by rcases hkd with rfl | rfl <;> decide
    rw [hkk]
    refine ifs (fun hb => nomatch hb) (fun _ => ?_)
    refine wpAny_execs_nil ?_
    refine wpAny_execs_cons ?_
    try k_fold
    refine r_acompZ (cl := [("known", L + 1)]) G (A := A.deeper _) rfl (by decide) O.hd rfl (by decide) rfl (by decide) rfl ?_
    refine wpAny_BinOp ?_
    try k_fold
    refine b_call1 G (by walk_at "m:has") (g_variables w) (keep_r w).2.1 (by walk_at "m:at") ?_
    refine gs_vars G ((hR _).le (by omega)) O.hd ⟨ht1.1.mono hsn, ht1.2⟩ ?_
    intro h17 tk17 z17 D17 vs17 ss17 n17 G hs17 hm17 hl17
    try k_fold
    refine b_call1 G (by walk_at "m:has") (g_variables w) (keep_r w).2.1 (by walk_at "m:at") ?_
    refine gs_vars G ((hR _).le (by omega)) O.hd ⟨ht2.1.mono fun p hp => .tail _ (hsn p hp), ht2.2⟩ ?_
    intro h18 tk18 z18 D18 vs18 ss18 n18 G hs18 hm18 hl18
    refine r_addlists G (List.mem_append_right _ (.tail _ (.head _))) (List.mem_append_right _ (.head _)) (sl_small (m := 200) (by omega) (by decide)) ?_
    intro D19 h19 G
    have hss := strs_app hs17 hs18
    have hmm : ∀ k, k ∈ ss17 ++ ss18 ↔ k ∈ (q.1.vars ++ q.2.vars).map Wd.str := fun k => by rw [List.mem_append, hm17, hm18, List.map_append, List.mem_append]
    have hcell := (G.G.has _ (List.mem_append_right _ (.tail _ (.tail _ (.tail _ (hsn _ hcl)))))).1
    have hDKg := (G.G.has _ (List.mem_append_right _ (.tail _ (.tail _ (.tail _ (hsn _ hDKm)))))).1
    have hval : ∀ v ∈ vs17 ++ vs18, ∃ k t, v = .str k t ∧ k ∈ ss17 ++ ss18:= fun v hv => StrsAre.mem hss hv
    try k_fold
    refine ⟨lostP ssK, fun v y => y = v, D19, vs17 ++ vs18, 0, h19, _, z18, _, _, _, rfl, rfl, G, List.mem_append_right _ (.head _), sl_small (m := 200) (by simp; omega) (by decide), ?_, ?_, ?_⟩
    · intro C v s₃ m₃ E' hv hn hm hk
      obtain ⟨k, t, rfl, hkm⟩ := hval v hv
      refine wpAny_tests_one ?_
      refine wpAny_isTrue_Compare1 ?_
      refine with_cs ["late"] [] [some (.str k t)] (G.bs.keep fun b o e => hk _ _ (G.G.stays _ _ e)) (Sc.of rfl rfl rfl (by decide) (by decide)) rfl rfl ⟨m₃, hn, hm, trivial⟩ fun cs => ?_
      refine c_loc cs .head ?_
      refine c_cell cs rfl rfl (hk _ _ hcell) hoc rfl ?_
      refine notin_list_strs (ys := ssK) ⟨_, hk _ _ hDKg, rfl, nK, rfl⟩ hsK ?_
      refine wpAny_truthy_bool ?_
      exact ⟨rfl, s₃.heap, s₃.toks, rfl, fun _ _ e => e⟩
    · intro C v s₃ m₃ E' hv _ hn hm hk
      refine with_cs ["late"] [] [some v] (G.bs.keep fun b o e => hk _ _ (G.G.stays _ _ e)) (Sc.of rfl rfl rfl (by decide) (by decide)) rfl rfl ⟨m₃, hn, hm, trivial⟩ fun cs => ?_
      refine c_loc cs .head ?_
      exact ⟨rfl, s₃.heap, s₃.toks, rfl, fun _ _ e => e⟩
    · intro D20
      refine ⟨_, by walk_at "m:setat", ?_⟩
      intro h20 tk20 rs n20 G hrs
      have hrs := paired_eq hrs
      subst hrs
      refine wpAny_execs_cons ?_
      try k_fold
      refine wpAny_If ?_
      try k_fold
      refine wpAny_isTrue_Compare1 ?_
      walk_at "m:loc"
      refine List_ ?_
      refine args_nil ?_
      refine r_list (by show 0 ≤ 2 ^ 24; decide) G (fun D22 h22 G => ?_)
      refine ne_nil (s := S z18 h22 _) (G.G.get (.tail _ (.head _))) (G.G.get (.head _)) (hR _).units ?_
      refine wpAny_truthy_bool ?_
      have hall1 := allIn_iff (left := left) (q := q) hmK hmm
      have hlast : (((right, right) :: nds).take (i + 1)).all (allIn left) = allIn left q := by
        rw [List.take_succ, hqi, List.all_append, hall]
        simp
      refine ifs (fun hb => ?_) (fun hb => ?_)
      · have hb' : (((vs17 ++ vs18).filter (lostP ssK)).isEmpty) = false := by simpa using hb
        have hno : allIn left q = false := by
          cases e : allIn left q with
          | false => rfl
          | true => rw [(lost_empty hss).mpr (hall1.mpr e)] at hb'; cases hb'
        have hbad : ((right, right) :: nds).all (allIn left) = false := by
          rw [List.all_eq_false]
          exact ⟨q, List.mem_of_getElem? hqi, by rw [hno]; decide⟩
        obtain ⟨v0, hv0⟩ : ∃ v0, ((vs17 ++ vs18).filter (lostP ssK))[0]? = some v0:= by
          cases e : (vs17 ++ vs18).filter (lostP ssK) with
          | nil => rw [e] at hb'; cases hb'
          | cons a r => exact ⟨a, rfl⟩
        obtain ⟨k0, t0, rfl, hk0⟩ := hval v0 (List.mem_filter.mp (List.mem_of_getElem? hv0)).1
        obtain ⟨x0, _, rfl⟩ := List.mem_map.mp ((hmm k0).mp hk0)
        refine wpAny_execs_cons ?_
        try k_fold
        refine b_raiseR ((BO.of O rfl rfl).mono fun p hp => List.mem_append_right _ (.tail _ hp)) ((hR _).le (by omega)) (EXZ.loop ((BO.of O rfl rfl)) (EXZ.of O rfl rfl (hE (.inr hbad)))) G (by walk_at "m:has") ?_
        refine JoinedStr_many ?_
        refine joinParts_cons ?_
        refine FormattedValue_plain ?_
        walk_at "m:loc"
        refine formatField_str ?_ (Nat.le_trans name.len (by decide))
        intro t24 tk24
        have nl := name.len
        have xl := x0.len
        have l1 : (Str.empty ++ name.str).length = name.str.length := by rw [strLen_append]; exact Nat.zero_add _
        refine ⟨by rw [l1]; exact Nat.le_trans nl (by decide), ?_⟩
        refine joinParts_cons ?_
        refine r_strN ?_
        have l2 : (Str.empty ++ name.str ++ ": ").length = name.str.length + 2 := by rw [strLen_append, l1]; rfl
        refine ⟨by rw [l2]; exact sl_small (m := 7) (by omega) (by decide), ?_⟩
        refine joinParts_cons ?_
        refine FormattedValue_plain ?_
        refine Subscript_ ?_
        refine r_loc (h := h22) G (by walk_at "m:at") ?_
        refine r_intN ?_
        refine r_item_list (G.G.get (.tail _ (.head _))) (by decide) (by decide) hv0 ?_
        refine formatField_str ?_ (Nat.le_trans xl (by decide))
        intro t27 tk27
        have l3 : (Str.empty ++ name.str ++ ": " ++ x0.str).length = name.str.length + 2 + x0.str.length := by rw [strLen_append, l2]
        refine ⟨by rw [l3]; exact sl_small (m := 12) (by omega) (by decide), ?_⟩
        refine joinParts_cons ?_
        refine r_strN ?_
        have l4 : (Str.empty ++ name.str ++ ": " ++ x0.str ++ " is not on the left").length ≤ sizeLine := by
          rw [strLen_append, l3]
          exact sl_small (m := 31) (Nat.add_le_add_right (show _ ≤ 12 by omega) 19) (by decide)
        refine ⟨l4, ?_⟩
        refine joinParts_nilE ?_
        with_reducible refine joinParts_nil ?_ ?_
        rotate_left
        · exact l4
        · exact ⟨_, _, h22, _, rfl, rfl, G⟩
      · have hb' : (((vs17 ++ vs18).filter (lostP ssK)).isEmpty) = true := by simpa using hb
        refine wpAny_execs_nil ?_
        refine wpAny_execs_nil ?_
        refine ⟨rfl, z18, _, _, _, h22, _, rfl, ⟨_, _, _, _, rfl, rfl, fun p hp => .tail _ (.tail _ (.tail _ (.tail _ (.tail _ (hsn p hp))))), ?_⟩, G⟩
        rw [hlast]
        exact hall1.mp ((lost_empty hss).mp hb')
  · intro vs mu' nw' h11 tk11 z11 hI_ G
    try k_fold
    obtain ⟨k1, k2, k3, k4, rfl, rfl, hsn, hall⟩ := hI_
    rw [List.size_toArray, List.take_of_length_le (by simp; omega)] at hall
    have hx := hsn _ (hsub _ hx)
    refine wpAny_execs_cons ?_
    try k_fold
    refine plainObj_wpAny_Assign_Attribute ?_
    walk_at "m:loc"
    walk_at "m:loc"
    refine r_setattr G hx (k134 w).1 (k134 w).2.1 (k134 w).2.2.2.1 (k134 w).2.2.1 rfl (by show 1 ≤ 1000; decide) ?_
    intro h3 tk3 G
    refine wpAny_execs_cons ?_
    try k_fold
    refine plainObj_wpAny_Assign_Attribute ?_
    walk_at "m:loc"
    walk_at "m:loc"
    refine r_setattr G hx (k134 w).1 (k134 w).2.1 (k134 w).2.2.2.2.1 (k134 w).2.2.1 rfl (by show 2 ≤ 1000; decide) ?_
    intro h3 tk3 G
    refine wpAny_execs_cons ?_
    try k_fold
    refine plainObj_wpAny_Assign_Attribute ?_
    walk_at "m:loc"
    walk_at "m:loc"
    refine r_setattr G hx (k134 w).1 (k134 w).2.1 (k134 w).2.2.2.2.2.1 (k134 w).2.2.1 rfl (by show 3 ≤ 1000; decide) ?_
    intro h3 tk3 G
    refine wpAny_execs_cons ?_
    try k_fold
    refine plainObj_wpAny_Assign_Attribute ?_
    refine Call_ ?_
    refine r_blt G (by walk_at "m:has") (g_tuple w).1 (g_tuple w).2.1 (g_tuple w).2.2 ?_
    refine cw_t ?_
    refine args_cons ?_
    walk_at "m:loc"
    refine args_nil ?_
    refine call_tuple_same (s := S z11 h3 _) ⟨_, G.G.get (hsn _ (hsub _ hn)), rfl, nn, rfl⟩ ?_
    refine r_loc (h := h3) G (by walk_at "m:at") ?_
    refine r_setattr G hx (k134 w).1 (k134 w).2.1 (k134 w).2.2.2.2.2.2 (k134 w).2.2.1 rfl (by show 4 ≤ 1000; decide) ?_
    intro h4 tk4 G
    refine wpAny_execs_nil ?_
    exact hq hb hall z11 h4 _ _ nw' (fun p hp => hsn _ (hsub _ hp)) G.G
end
end
section
variable [OSC]
theorem plain_unchain : plainId "proto.unchain" = true := by decide +kernel
theorem entry_unchain : entryFor table "proto.unchain" = some Builtin.«proto.unchain» := entryFor_of_tree (by kernel_rfl)
theorem self76 (w : World) : subIn (KK w) (.ref 76) (.ref 76) = some true ∧ subIn (KK w) (.ref 88) (.ref 88) = some true := ⟨by kernel_rfl, by kernel_rfl⟩
/-- an own exception that was just made, at the raise, while another is handled -/
inductive MadeH (w : World) (hd : Addr) (v : Value) (s : Shared) (P : Shared → Prop) : Prop
  | mk (e : _) (C : _) (od : _) (vs : _) (sl : _) (hyp1 : v = .ref e) (hyp2 : (KK w).In s.heap) (hyp3 : s.heap.get? e = some ⟨.ref C, od, .fields vs, sl⟩) (hyp4 : vs[1]? = some .none) (hyp5 : 2 < vs.size) (hyp6 : subIn (KK w) (.ref C) (.type "BaseException") = some true) (hyp7 : typeIn (KK w) (.ref C) = some (.type "type")) (hyp8 : hd ≠ e) (hyp9 : (∃ oh hvs, s.heap.get? hd = some oh ∧ oh.data = .fields hvs ∧ hvs[2]? = some .none)) (hyp10 : P { s with heap := s.heap.update e (Obj.mapFields (·.setIfInBounds 2 (.ref hd))) }) : MadeH w hd v s P
section
variable {w : World} {mg mb : Str → Option Value} {h₀ h h' : Heap} {env : Env} {ns gs : List Str} {vs vs' : List (Option Value)} {mu nw fr : Led} {z : Shared} {tk : Nat} {A : Around} {E : Value → Shared → Prop} {outer : List Env} {pos : Pos} {hd : Addr}
theorem raise_madeH {Q : Flow → Shared → Prop} {x : Sem Value} (hh : A.handled = some (.ref hd))
    (hx : wpAny (model PG w) A x (fun v s' => MadeH w hd v s' (fun s'' => E v s'')) E (S z h tk)) :
    wpAny (model PG w) A (raiseStmt env (some x) none) Q E (S z h tk) := by
  unfold raiseStmt
  refine wpAny_bind (wpAny_mono hx (fun v s' hm => ?_) fun _ _ q => q)
  obtain ⟨e, C, od, vs, sl, rfl, K, he, h1, h2, hs, ht, hne, ⟨oh, hvs, hoh, hod, hv2⟩, hE⟩ := hm
  have hty : Looks (model PG w) s'.heap (typeOf (.ref e)) (.ref C) := (Looks.ld he).andThen .now
  have hnt : ∀ {Q' : Bool → Shared → Prop} {E' : Value → Shared → Prop}, Q' false s' → wpAny (model PG w) A (isType (.ref e)) Q' E' s' := fun q => by
    unfold isType loadHead
    exact wpAny_bind (wpAny_loadPart he (wpAny_pure q))
  refine wpAny_bind (wpAny_pure (wpAny_bind (wpAny_holding ?_)))
  unfold excFromValue isExcClass
  refine wpAny_bind (wpAny_bind (hnt (wpAny_pure ?_)))
  rw [if_neg (by decide)]
  unfold isInstance
  refine wpAny_bind (wpAny_bind (hty.here ((looks_subIn K hs).here ?_)))
  rw [if_pos rfl]
  refine wpAny_pure ?_
  refine wpAny_bind (hnt ?_)
  rw [if_neg (by decide)]
  refine wpAny_bind ?_
  unfold raisedInstance
  refine wpAny_bind (hty.here (wpAny_bind ((looks_typeIn K ht).here ?_)))
  rw [if_pos (by decide)]
  refine wpAny_pure ?_
  unfold setFlight
  refine wpAny_bind (wpAny_bind (wpAny_field he rfl h1 ?_))
  rw [if_neg (by decide)]
  refine wpAny_pure ?_
  unfold raiseNew
  refine wpAny_bind (wpAny_handled ?_)
  rw [hh]
  dsimp only
  rw [if_pos (by simpa using hne)]
  refine wpAny_bind (wpAny_holding (wpAny_runValue (codeAny_builtin entry_unchain ?_)))
  rw [Around.under_plainId plain_unchain _]
  unfold Builtin.«proto.unchain»
  refine wpAny_bind (wpAny_field hoh hod hv2 ?_)
  rw [if_pos (by decide)]
  refine wpAny_pure ?_
  refine wpAny_bind (wpAny_setField he rfl h2 ?_)
  exact wpAny_throw hE
theorem r_raiseH {Q : Flow → Shared → Prop} {x : Expr} (hh : A.handled = some (.ref hd))
    (hx : wpAny (model PG w) A (eval x env) (fun v s' => MadeH w hd v s' (fun s'' => E v s'')) E (S z h tk)) :
    wpAny (model PG w) A (exec (.Raise (some x) none pos) env) Q E (S z h tk) := by
  rw [arm_exec_Raise]
  refine wpAny_bind (wpAny_standAt ?_)
  refine raise_madeH hh ?_
  refine wpAny_bind (wpAny_mono hx (fun v s' hm => wpAny_bind (wpAny_standAt (wpAny_pure hm))) fun _ _ q => q)
theorem exc_get {Q : Value → Shared → Prop} {s : Shared} {C e de : Addr} {vs : Array Value} {sl : Array (Option Value)} {es : List DictEntry} {n : Nat} {name : Str} {attr : Option Value} {v : Value} {expr : Bool} (X : (KK w).In s.heap) (he : s.heap.get? e = some ⟨.ref C, some de, .fields vs, sl⟩) (hde : s.heap.get? de = some (dictOf es n))
    (hg : plainGet (KK w) C name = true) (hh : hasDictIn (KK w) C = true) (ha : findIn (KK w) (.ref C) name = some attr) (hn : noGet (KK w) attr = true) (hl : getL name es = some (some v)) (hv : handedIn v = true) (h : Q v { s with toks := s.toks + 1 }) :
    wpAny (model PG w) A (getAttr (.ref e) name expr) Q E s :=
  get_value (I := ⟨he, rfl, rfl, hde⟩) X (plainGet_of hg).1 (findObj_own (od := dictOf es n) hh ha hn hl) hv h
theorem exc_match {Q : Bool → Shared → Prop} {C e : Addr} {o : Obj} (K : (KK w).In h) (he : h.get? e = some o) (hc : o.cls = .ref C)
    (hx : exmOne (KK w) (.ref C) (.ref C) = some true) (hq : Q true (S z h tk)) : wpAny (model PG w) A (excMatches (.ref e) (.ref C)) Q E (S z h tk) := by
  have t1 : Looks (model PG w) h (typeOf (.ref e)) (.ref C) := hc ▸ ((Looks.ld he).andThen .now)
  exact (exm_one K t1 hx).here (s := S z h tk) hq
theorem exm (w : World) : exmOne (KK w) (.ref 88) (.ref 88) = some true ∧ exmOne (KK w) (.ref 76) (.ref 76) = some true := ⟨by kernel_rfl, by kernel_rfl⟩
/-- two rows of frames, alike but for their slots -/
noncomputable def SlotsOf (fr fr' : Led) : Prop := Paired (fun p p' => p'.1 = p.1 ∧ ∃ sl, p'.2 = { p.2 with slots := sl }) fr fr'
theorem slots_mem {fr fr' : Led} (S : SlotsOf fr fr') : ∀ p ∈ fr, ∃ p' ∈ fr', p'.1 = p.1 ∧ ∃ sl, p'.2 = { p.2 with slots := sl }:= by
  induction S with
  | nil => intro p hp; cases hp
  | cons f t ih =>
    intro p hp
    rcases List.mem_cons.mp hp with rfl | hp
    · exact ⟨_, .head _, f⟩
    · obtain ⟨q, hq, r⟩ := ih p hp
      exact ⟨q, .tail _ hq, r⟩
theorem slots_memR {fr fr' : Led} (S : SlotsOf fr fr') : ∀ p' ∈ fr', ∃ p ∈ fr, p'.1 = p.1 ∧ ∃ sl, p'.2 = { p.2 with slots := sl }:= by
  induction S with
  | nil => intro p hp; cases hp
  | cons f t ih =>
    intro p hp
    rcases List.mem_cons.mp hp with rfl | hp
    · exact ⟨_, .head _, f⟩
    · obtain ⟨q, hq, r⟩ := ih p hp
      exact ⟨q, .tail _ hq, r⟩
theorem slots_frs {l : List Env} {fr fr' : Led} (hs : SlotsOf fr fr') (x : Frs l fr) : Frs l fr' := by
  induction hs generalizing l with
  | nil => exact x
  | cons f t ih => cases l with
    | nil => exact x.elim
    | cons env r => exact ⟨x.1, x.2.1.trans (congrArg some f.1.symm), ih x.2.2⟩
theorem fly_rows {C e de : Addr} {od : Obj} {new : Bool} {fr : Led} (X : Fly h₀ h fr C e de od new) : ∃ fr', SlotsOf fr fr' ∧ ∀ p ∈ fr', h.get? p.1 = some p.2 ∧ h₀.get? p.1 = none ∧ (∀ u, p.2.data ≠ .fields u) ∧ p.1 ≠ de:= by
  have H := X.frs
  clear X
  induction fr with
  | nil => exact ⟨[], .nil, fun p hp => nomatch hp⟩
  | cons p q ih =>
    obtain ⟨fr', hs, hf⟩ := ih fun x hx => H x (.tail _ hx)
    obtain ⟨⟨sl, hg⟩, h0, hn, hd⟩ := H p (.head _)
    refine ⟨(p.1, { p.2 with slots := sl }) :: fr', .cons ⟨rfl, sl, rfl⟩ hs, fun x hx => ?_⟩
    rcases List.mem_cons.mp hx with rfl | hx
    · exact ⟨hg, h0, hn, hd⟩
    · exact hf x hx
theorem fly_unslot {C e de : Addr} {od : Obj} {new : Bool} {fr fr' : Led} {p p' : Addr × Obj} (S : SlotsOf fr fr') (hp : p' = p) (X : Fly h₀ h (p' :: fr') C e de od new) : Fly h₀ h (p :: fr) C e de od new := by
  subst hp
  refine ⟨X.stays, X.fe, X.fde, X.rec_, X.pay, X.payf, fun q hq => ?_, X.ctx⟩
  rcases List.mem_cons.mp hq with rfl | hq
  · exact X.frs _ (.head _)
  · obtain ⟨q', hq', e1, sl, e2⟩ := slots_mem S q hq
    obtain ⟨⟨sl', g⟩, h0, hn, hd⟩ := X.frs q' (.tail _ hq')
    rw [e2] at g hn
    rw [e1] at g h0 hd
    exact ⟨⟨sl', g⟩, h0, hn, hd⟩
/-- the ledger behind an exception that was caught: what a raise in the handler may lean on -/
theorem fly_gs {C e de : Addr} {od oL : Obj} {new : Bool} (G : GS w mg mb h₀ env ns gs vs mu nw h) (hoL : h.get? env.locals = some oL) (hfr : ∀ p ∈ fr, p.1 ≠ env.locals) (X : Fly h₀ h' ((env.locals, oL) :: fr) C e de od new) :
    Ex3 fun rv sl fr' => Al4 (SlotsOf fr fr') ((∀ p ∈ fr', ∀ u, p.2.data ≠ .fields u)) ((C = 88 → rv[2]? = some .none)) (GS w mg mb h₀ env ns gs vs [] ((e, ⟨.ref C, some de, .fields rv, sl⟩) :: (de, od) :: fr') h') := by
  obtain ⟨frs, hS, hF⟩ := fly_rows X
  cases hS with
  | @cons _ p' _ fr' f hS =>
  obtain ⟨rv, sl, tb, he, h1, htb⟩ := X.rec_
  obtain ⟨pe, slp, eo⟩ := f
  have hL := hF p' (.head _)
  obtain ⟨p1, p2⟩ := p'
  dsimp only at pe eo
  subst pe eo
  obtain ⟨m, ⟨o, es, ep, ho, hd, hk, hf⟩, hl⟩ := G.ns_
  rw [hoL] at ho
  cases ho
  have hlt : h₀.objs.size ≤ h'.objs.size := Nat.le_of_lt (Nat.lt_of_le_of_lt G.above (Heap.lt_size hL.1))
  refine ⟨rv, sl, fr', hS, fun p hp => (hF p (.tail _ hp)).2.2.1, fun hC => ?_, G.bs, G.sc, G.eg, G.eb, ⟨m, ⟨_, es, ep, hL.1, hd, hk, hf⟩, hl⟩, G.above, ⟨X.stays, hlt, fun p hp => ?_, List.nodup_nil, fun p hp => nomatch hp⟩, fun p hp => ?_⟩
  · obtain ⟨vs', sl', he', h2⟩ := X.ctx hC
    rw [he] at he'
    cases he'
    exact h2
  · rw [List.nil_append] at hp
    rcases List.mem_cons.mp hp with rfl | hp
    · exact ⟨he, X.fe⟩
    rcases List.mem_cons.mp hp with rfl | hp
    · exact ⟨X.pay, X.fde⟩
    · exact ⟨(hF p (.tail _ hp)).1, (hF p (.tail _ hp)).2.1⟩
  · rw [List.nil_append] at hp
    rcases List.mem_cons.mp hp with rfl | hp
    · intro q
      dsimp only at q
      rw [q, hL.1] at he
      have e1 : oL.data = .fields rv := congrArg Obj.data (Option.some.inj he)
      rw [hd] at e1
      cases e1
    rcases List.mem_cons.mp hp with rfl | hp
    · exact fun q => hL.2.2.2 q.symm
    · obtain ⟨q, hq, e1, _⟩ := slots_memR hS p hp
      rw [e1]
      exact hfr q hq
/-- raise TextFault(text, k) while an exception is handled: behind its two arguments -/
theorem raised_textH {s : Str} {t t' : Tok} {k : Int} {e : Addr} {rec_ : Obj} {rv : Array Value} (G : GS w mg mb h₀ env ns gs vs mu nw h) (R : Room A 20) (hrec : (e, rec_) ∈ nw) (hrd : rec_.data = .fields rv) (hr2 : rv[2]? = some .none) (hfr : ∀ p ∈ fr, p ∈ nw ∧ ∀ u, p.2.data ≠ .fields u)
    (hE : ∀ h' tk' e2 de od oL m, h'.Ns env.locals m → (∀ u, oL.data ≠ .fields u) → Fly h₀ h' ((env.locals, oL) :: fr) 76 e2 de od true → PayT od k → E (.ref e2) (S z h' tk')) :
    wpAny (model PG w) A (call (.ref 76) [.str s t, .int k t']) (fun v s' => MadeH w e v s' (E v)) E (S z h tk) := by
  obtain ⟨oL, G1, hn, back⟩ := G.call
  refine text_new G.bs G1 ⟨_, .head _, G.above⟩ R fun h' tk' e2 de tp od G2 P => ?_
  have he := G2.has _ (.tail _ (.head _))
  have hd := G2.has _ (.head _)
  have hL := G2.has _ (.tail _ (.tail _ (.head _)))
  have hr := G2.has _ (List.mem_append_right _ hrec)
  have hne : e ≠ e2 := fun q => G2.apart _ (.tail _ (.head _)) _ hrec q.symm
  have hnd : (e2 ≠ env.locals) ∧ de ≠ e2 ∧ de ≠ env.locals := by
    have := G2.nd
    simp only [List.map_cons, List.nodup_cons, List.mem_cons, not_or] at this
    exact ⟨this.2.1.1, this.1.1, this.1.2.1⟩
  have other : ∀ b o, b ≠ e2 → h'.get? b = some o → (h'.update e2 (Obj.mapFields (·.setIfInBounds 2 (.ref e)))).get? b = some o := fun b o hb hg => (Heap.get?_update_other _ _ (Ne.symm hb)).trans hg
  refine ⟨e2, 76, _, _, _, rfl, G.bs.K.keeps G2.stays, he.1, rfl, (by show 2 < 6; decide), sub76 w, ty76 w, hne, ⟨_, rv, hr.1, hrd, hr2⟩, ?_⟩
  have hns : h'.Ns env.locals _ := (back h' mu nw (by
    have := G2.lessM.lessM; exact this)).ns_.choose_spec.1
  obtain ⟨o, es, ep, ho, hod, hk, hf⟩ := hns
  refine hE _ _ e2 de od oL _ ⟨o, es, ep, other _ _ (Ne.symm hnd.1) ho, hod, hk, hf⟩ hn ⟨fun b o hb => other b o (fun q => by rw [q, he.2] at hb; cases hb) (G2.stays b o hb), he.2, hd.2, ⟨_, _, _, Heap.get?_update_self _ he.1 rfl, ?_, .inl ⟨rfl, rfl⟩⟩, other de _ hnd.2.1 hd.1, P.nf, fun p hp => ?_, fun hC => absurd hC (by decide)⟩ P
  · rfl
  · rcases List.mem_cons.mp hp with rfl | hp
    · exact ⟨⟨oL.slots, other _ _ (Ne.symm hnd.1) hL.1⟩, hL.2, hn, Ne.symm hnd.2.2⟩
    · obtain ⟨hm, hpf⟩ := hfr p hp
      have hg := G2.has p (List.mem_append_right _ hm)
      exact ⟨⟨p.2.slots, other _ _ (fun q => G2.apart _ (.tail _ (.head _)) p hm q.symm) hg.1⟩, hg.2, hpf, fun q => G2.apart _ (.head _) p hm q.symm⟩
theorem fly_chg {C e de L : Addr} {od oL oL' : Obj} {new : Bool} (X : Fly h₀ h ((L, oL) :: fr) C e de od new) (hfr : ∀ p ∈ fr, p.1 ≠ L) (hs : Heap.SameBut L h h') (ho : h'.get? L = some oL') (hn : ∀ u, oL'.data ≠ .fields u) :
    Fly h₀ h' ((L, oL') :: fr) C e de od new := by
  obtain ⟨⟨slL, hL⟩, hL0, hLn, hLd⟩ := X.frs _ (.head _)
  have keep : ∀ b o, b ≠ L → h.get? b = some o → h'.get? b = some o := fun b o hb hg => (hs.2 b hb).trans hg
  have nef : ∀ b o u, h.get? b = some o → o.data = .fields u → b ≠ L := fun b o u hb hd q => by
    rw [q, hL] at hb
    cases hb
    exact hLn u hd
  obtain ⟨vs, sl, tb, he, h1, htb⟩ := X.rec_
  refine ⟨fun b o hb => keep b o (fun q => by rw [q, hL0] at hb; cases hb) (X.stays b o hb), X.fe, X.fde, ⟨vs, sl, tb, keep e _ (nef e _ vs he rfl) he, h1, ?_⟩, keep de _ (Ne.symm hLd) X.pay, X.payf, fun p hp => ?_, fun hC => ?_⟩
  · rcases htb with h | ⟨a, T, oT, ts, b, c, d, e', f, g⟩
    · exact .inl h
    · exact .inr ⟨a, T, oT, ts, b, c, d, keep T _ (nef T _ ts e' f) e', f, g⟩
  · rcases List.mem_cons.mp hp with rfl | hp
    · exact ⟨⟨oL'.slots, ho⟩, hL0, hn, hLd⟩
    · obtain ⟨⟨sl', hx⟩, h2, h3, h4⟩ := X.frs p (.tail _ hp)
      exact ⟨⟨sl', keep _ _ (hfr p hp) hx⟩, h2, h3, h4⟩
  · obtain ⟨vs', sl', he', h2'⟩ := X.ctx hC
    exact ⟨vs', sl', keep e _ (nef e _ vs' he' rfl) he', h2'⟩
/-- an exception of the handler's own -/
noncomputable def Back2 (h₀ : Heap) (env : Env) (fr' : Led) (P : Obj → Prop) : Value → Shared → Prop := fun x s =>
  Ex9 fun z3 h3 tk3 e2 de2 od2 oL2 m new2 => Al6 (x = .ref e2) (s = S z3 h3 tk3) (Heap.Ns h3 env.locals m) ((∀ u, oL2.data ≠ .fields u)) (Fly h₀ h3 ((env.locals, oL2) :: fr') 76 e2 de2 od2 new2) (P od2)
theorem mark_frames (hf : A.frames = some (env :: outer)) (e : Addr) : (A.mark (some (.ref e))).frames = some (env :: outer) := hf
theorem r_handle {Q : Flow → Shared → Prop} {C e de : Addr} {od oL : Obj} {new : Bool} {P : Obj → Prop} {cn n : Str} {b₀ : Stmt} {suite : List Stmt} {pc : Pos}
    (O : BO A env outer fr mu) (G : GS w mg mb h₀ env ns gs vs mu nw h) (hoL : h.get? env.locals = some oL) (X : Fly h₀ h' ((env.locals, oL) :: fr) C e de od new)
    (hg : Has gs cn) (hcn : nsIn (KK w) mainGlobals cn = some (some (.ref C))) (hx : exmOne (KK w) (.ref C) (.ref C) = some true) (hset : SetAt ns vs n (.ref e) vs')
    (hP : EXZ h₀ env.locals fr 76 P E)
    (hb : ∀ rv sl fr' h2 tk2, SlotsOf fr fr' → (∀ p ∈ fr', ∀ u, p.2.data ≠ .fields u) → (C = 88 → rv[2]? = some .none) → GS w mg mb h₀ env ns gs vs' [] ((e, ⟨.ref C, some de, .fields rv, sl⟩) :: (de, od) :: fr') h2 →
      wpAny (model PG w) (A.mark (some (.ref e))) (execs (b₀ :: suite) env) (fun f s => Ex6 fun z h tk vs mu nw => Al3 (s = S z h tk) (GS w mg mb h₀ env ns gs vs mu nw h) (∀ h' tk' vs', GS w mg mb h₀ env ns gs vs' mu nw h' → Q f (S z h' tk'))) (Back2 h₀ env fr' P) (S z h2 tk2)) :
    wpAny (model PG w) A (noteFrame (.ref e) env) (fun _ s₂ => wpAny (model PG w) A (setFlight (.ref e) none) (fun _ s₃ => wpAny (model PG w) A (handleBy (.ref e) env [.ExceptHandler (some (.Name cn pc)) (some n) (b₀ :: suite) pos]) Q E s₃) E s₂) E (S z h' tk) := by
  have F : Frs (env :: outer) ((env.locals, oL) :: fr) := ⟨by rw [O.kind]; decide, O.frame, O.al⟩
  have hfr : ∀ p ∈ fr, p.1 ≠ env.locals := fun p hp => G.ne p (List.mem_append_left _ (O.sub p hp).1)
  have hl : env.kindOf n = some .local := G.sc.loc n hset.mem
  have hk : (env.scope.kind == .class || (env.scope.kind == .module && env.locals != env.globals)) = false := by rw [G.sc.kind]; rfl
  refine fly_note O.frames F O.frame X fun h1 X1 => ?_
  refine fly_flight X1 fun h2 X2 => ?_
  obtain ⟨rv2, sl2, fr2, hS2, hnf2, hr2, G2⟩ := fly_gs G hoL hfr X2
  refine wpAny_handleBy_cons (codeAny_handlers_test ?_) (by intro q; cases q)
  refine r_glo G2 hg hcn ?_
  refine exc_match (z := z) (h := h2) G2.K (G2.G.get (.head _)) rfl hx ?_
  refine codeAny_handlers_suite_as ?_
  refine fly_flight X2 fun h3 X3 => ?_
  obtain ⟨rv, sl, fr', hS, hnf, hr, G3⟩ := fly_gs G hoL hfr X3
  refine r_st G3 hset fun h4 tk4 G4 => ?_
  refine wpAny_mono (hb rv sl fr' h4 tk4 hS hnf hr G4) (fun f s hs => ?_) fun x s hs => ?_
  · obtain ⟨z5, h5, tk5, vs5, mu5, nw5, rfl, G5, hq⟩ := hs
    obtain ⟨m, hn, hlv⟩ := G5.ns_
    refine wpAny_nameGoes hl hn hk fun h6 m6 hn6 hs6 => ?_
    refine hq h6 _ (ns.map m6) ⟨G5.bs, G5.sc, G5.eg, G5.eb, ⟨m6, hn6, LV.of_map ns⟩, G5.above, ⟨fun b o hb => (hs6.2 b (Nat.ne_of_lt (Nat.lt_of_lt_of_le (Heap.lt_size hb) G5.above))).trans (G5.G.stays b o hb), Nat.le_of_lt (Nat.lt_of_le_of_lt G5.above hn6.lt), fun p hp => ⟨(hs6.2 p.1 (G5.ne p hp)).trans (G5.G.has p hp).1, (G5.G.has p hp).2⟩, G5.G.nd, G5.G.apart⟩, G5.ne⟩
  · obtain ⟨z5, h5, tk5, e2, de2, od2, oL2, m, new2, rfl, rfl, hns, hn2, X5, hPd⟩ := hs
    have hfr' : ∀ p ∈ fr', p.1 ≠ env.locals := fun p hp => by
      obtain ⟨q, hq, e1, _⟩ := slots_memR hS p hp
      rw [e1]; exact hfr q hq
    have F' : ∀ o, Frs (env :: outer) ((env.locals, o) :: fr') := fun o => ⟨by rw [O.kind]; decide, O.frame, slots_frs hS O.al⟩
    refine fly_note (mark_frames O.frames e) (F' oL2) O.frame X5 fun h6 X6 => ?_
    obtain ⟨⟨sl5, g5⟩, _⟩ := X5.frs _ (.head _)
    obtain ⟨⟨sl6, g6⟩, _⟩ := X6.frs _ (.head _)
    obtain ⟨o, es, ep, ho, hod, hks, hfd⟩ := hns
    rw [g5] at ho
    cases ho
    refine wpAny_nameGoes (m := m) hl ⟨_, es, ep, g6, hod, hks, hfd⟩ hk fun h7 m7 hn7 hs7 => ?_
    obtain ⟨o7, es7, ep7, ho7, hod7, _⟩ := hn7
    have hn7' : ∀ u, o7.data ≠ .fields u := fun u q => by rw [hod7] at q; cases q
    have X7 := fly_chg X6 hfr' hs7 ho7 hn7'
    obtain ⟨vs7, sl7, tb7, he7, h17, htb7⟩ := X7.rec_
    unfold PySem.passOn
    refine wpAny_bind (wpAny_field he7 rfl h17 ?_)
    rcases htb7 with ⟨rfl, hn⟩ | ⟨_, T, oT, ts, rfl, hTe, hT0, hT, hTd, hts⟩
    · cases hn
    rw [if_neg (show ¬ (Value.ref T == Value.none) = true from by simp)]
    refine wpAny_bind (fly_flight X7 fun h8 X8 => wpAny_throw ?_)
    refine fly_noted (mark_frames O.frames e) (F' o7) O.frame X8 fun h9 X9 => ?_
    refine fly_back X9 fun h10 X10 => ?_
    exact hP _ _ _ _ _ _ o7 false hn7' (fly_unslot hS rfl X10) hPd
end
end
section
/-- the signs that stand lowest on the stack -/
noncomputable def Sg.low : Sg → Bool
  | .fin | .needs | .more | .rule => true
  | _ => false
noncomputable def Sg.c : Sg → Nat
  | .kids | .papers | .needs | .more | .right => 2
  | .term | .places | .paper | .kind | .rule | .made => 1
  | _ => 0
noncomputable def okS : List Sg → Bool
  | [] => true
  | [s] => s.low
  | s :: t :: S => !s.low && (s != .q .fin) && (s != .right || t == .term) && (s != .made || t == .fin) && okS (t :: S)
noncomputable def topc : List Sg → Nat
  | [] => 0
  | s :: _ => s.c
/-- how far the run still is from its end -/
noncomputable def mu_ (wl : List Wd) (st : St) : Nat := 3 * (wl.length - st.at_) + topc st.stack
structure InvM (wl : List Wd) (st : St) : Prop where
  ok : okS st.stack = true
  lt : st.stack ≠ [] → st.at_ < wl.length
  nm : st.names ≠ []
theorem sg_c (s : Sg) : s.c ≤ 2 := by cases s <;> first | decide | exact Nat.zero_le _
theorem topc_le (S : List Sg) : topc S ≤ 2 := by
  cases S with
  | nil => exact Nat.zero_le _
  | cons s _ => exact sg_c s
theorem okS_tail {s t : Sg} {S : List Sg} (h : okS (s :: t :: S) = true) : okS (t :: S) = true := by
  simp only [okS, Bool.and_eq_true] at h
  exact h.2
theorem okS_tail' {s : Sg} {S : List Sg} (h : okS (s :: S) = true) : okS S = true := by
  cases S with
  | nil => rfl
  | cons t S => exact okS_tail h
noncomputable def okL (l : List Sg) : Bool := l.all fun s => !s.low && (s != .q .fin) && (s != .right) && (s != .made)
noncomputable def wchk (s : Sg) (x : Wd) : Bool := match wanted s x with
  | none => true
  | some late => (if s.low then okS late else okL late) && decide (topc late < s.c) && decide (late.length ≤ 7) && !late.isEmpty
noncomputable def Sg.wides : List Sg := [.term, .kids, .papers, .places, .paper, .kind, .rule, .needs, .more]
theorem Sg.mem_wides {s : Sg} (h : s.wide = true) : s ∈ Sg.wides := by cases s <;> first | (cases h; done) | decide
theorem wchk_all : ∀ s ∈ Sg.wides, ∀ x ∈ Wd.all, wchk s x = true := by decide +kernel
theorem okL_app : ∀ {l S : List Sg}, okL l = true → okS S = true → S ≠ [] → okS (l ++ S) = true
  | [], _, _, h, _ => h
  | [s], t :: S, h, h2, _ => by
    simp only [okL, List.all_cons, List.all_nil, Bool.and_eq_true] at h
    show (!s.low && (s != .q .fin) && (s != .right || t == .term) && (s != .made || t == .fin) && okS (t :: S)) = true
    rw [h.1.1.1.1, h.1.1.1.2, h.1.1.2, h.1.2, h2]; rfl
  | s :: u :: l, S, h, h2, h3 => by
    have h' : okL (u :: l) = true := (Bool.and_eq_true_iff.mp (h : (_ && okL (u :: l)) = true)).2
    have h1 : (!s.low && (s != .q .fin) && (s != .right) && (s != .made)) = true := (Bool.and_eq_true_iff.mp (h : (_ && okL (u :: l)) = true)).1
    simp only [Bool.and_eq_true] at h1
    have ih := okL_app h' h2 h3
    show (!s.low && (s != .q .fin) && (s != .right || u == .term) && (s != .made || u == .fin) && okS (u :: l ++ S)) = true
    rw [h1.1.1.1, h1.1.1.2, h1.1.2, h1.2, ih]; rfl
theorem topc_app {l S : List Sg} (h : l ≠ []) : topc (l ++ S) = topc l := by cases l <;> first | rfl | exact absurd rfl h
theorem wanted_ok {s : Sg} {x : Wd} {late S : List Sg} (h : wanted s x = some late) (hs : okS (s :: S) = true) (hw : s.wide = true) : okS (late ++ S) = true ∧ topc (late ++ S) < s.c ∧ late.length ≤ 7 ∧ late ≠ [] := by
  have k := wchk_all s (Sg.mem_wides hw) x x.mem
  unfold wchk at k
  rw [h] at k
  simp only [Bool.and_eq_true, decide_eq_true_eq] at k
  obtain ⟨⟨⟨k1, k2⟩, k3⟩, k4⟩ := k
  have k4 : late ≠ [] := fun e => by rw [e] at k4; cases k4
  refine ⟨?_, by rw [topc_app k4]; exact k2, k3, k4⟩
  cases S with
  | nil =>
    rw [if_pos (show s.low = true from hs)] at k1
    rw [List.append_nil]; exact k1
  | cons t S =>
    have hl : s.low = false := by
      cases q : s.low with
      | false => rfl
      | true => rw [show okS (s :: t :: S) = (!s.low && (s != .q .fin) && (s != .right || t == .term) && (s != .made || t == .fin) && okS (t :: S)) from rfl, q] at hs; cases hs
    rw [hl] at k1
    exact okL_app k1 (okS_tail hs) (by simp)
theorem isWord_fin {s : Sg} (h : isWord s .fin = true) (hw : s.wide = false) : s = .fin ∨ s = .q .fin := by
  cases s with
  | q w => exact .inr (congrArg Sg.q (of_decide_eq_true h).symm)
  | fin => exact .inl rfl
  | _ => first | cases h; done | cases hw
theorem ok_bits {s t : Sg} {S : List Sg} (h : okS (s :: t :: S) = true) : s.low = false ∧ (s = .right → t = .term) ∧ (s = .made → t = .fin) ∧ s ≠ .q .fin := by
  have h1 := (Bool.and_eq_true_iff.mp (h : (_ && okS (t :: S)) = true)).1
  have h2 := Bool.and_eq_true_iff.mp h1
  have h3 := Bool.and_eq_true_iff.mp h2.1
  have h4 := Bool.and_eq_true_iff.mp h3.1
  refine ⟨by cases q : s.low with | false => rfl | true => rw [q] at h4; exact absurd h4.1 Bool.false_ne_true, fun e => ?_, fun e => ?_, fun e => ?_⟩
  · have := h3.2; rw [e] at this; exact of_decide_eq_true this
  · have := h2.2; rw [e] at this; exact of_decide_eq_true this
  · have := h4.2; rw [e] at this; exact absurd this (by decide)
theorem ok_right {S : List Sg} (h : okS (.right :: S) = true) : topc S < 2 := by
  cases S with
  | nil => exact absurd h Bool.false_ne_true
  | cons t S => rw [(ok_bits h).2.1 rfl]; exact Nat.lt_succ_self _
theorem ok_made {S : List Sg} (h : okS (.made :: S) = true) : topc S < 1 := by
  cases S with
  | nil => exact absurd h Bool.false_ne_true
  | cons t S => rw [(ok_bits h).2.2.1 rfl]; exact Nat.lt_succ_self _
theorem addName_len (wd : Wd) : ∀ (N : List (List Wd)), (addName wd N).length = N.length
  | [] => rfl
  | [_] => rfl
  | _ :: m :: N => congrArg (· + 1) (addName_len wd (m :: N))
theorem mu_eat {n a c k : Nat} (h : a < n) (hc : c ≤ 2) : 3 * (n - (a + 1)) + c < 3 * (n - a) + k := by
  rw [show n - a = (n - (a + 1)) + 1 from (Nat.succ_pred_eq_of_pos (Nat.sub_pos_of_lt h)).symm]
  exact Nat.lt_of_lt_of_le (Nat.add_lt_add_left (Nat.lt_succ_of_le hc) _) (Nat.le_add_right _ _)
theorem len_late {a b : Nat} {l S : List Sg} (h : l.length ≤ 7) : (l ++ S).length ≤ S.length + 1 + 6 := by rw [List.length_append]; omega
theorem mstep_inl {rl : Bool} {wl : List Wd} {st st' : St} (hf : ∀ p x, wl[p]? = some x → x ≠ .fin → p + 1 < wl.length) (I : InvM wl st) (h : mstep rl wl st = some (.inl st')) :
    InvM wl st' ∧ mu_ wl st' < mu_ wl st ∧ st'.stack.length ≤ st.stack.length + 6 ∧ st'.names.length ≤ st.names.length + 1 := by
  obtain ⟨a, S, N, R, l, lo⟩ := st
  have hlt : a < wl.length := ms_at h
  obtain ⟨ok, -, nm⟩ := I
  cases S with
  | nil => rw [ms_end rfl] at h; cases h
  | cons s S =>
  obtain ⟨wd, hwd⟩ : ∃ wd, wl[a]? = some wd := ⟨_, List.getElem?_eq_getElem hlt⟩
  have l1 : S.length ≤ (s :: S).length + 6 := Nat.le_trans (Nat.le_succ _) (Nat.le_add_right _ _)
  by_cases h1 : s = .right
  · subst h1
    rw [ms_right hwd] at h
    obtain rfl := Sum.inl.inj (Option.some.inj h)
    exact ⟨⟨okS_tail' ok, fun _ => hlt, nm⟩, Nat.add_lt_add_left (ok_right ok) _, l1, Nat.le_succ _⟩
  by_cases h2 : s = .made
  · subst h2
    cases hb : badMade rl wl ⟨a, .made :: S, N, R, l, lo⟩ with
    | true => rw [ms_made1 hwd hb] at h; cases h
    | false =>
      rw [ms_made0 hwd hb] at h
      obtain rfl := Sum.inl.inj (Option.some.inj h)
      exact ⟨⟨okS_tail' ok, fun _ => hlt, nm⟩, Nat.add_lt_add_left (ok_made ok) _, l1, Nat.le_succ _⟩
  cases hw : s.wide with
  | true =>
    cases hn : wanted s wd with
    | none => rw [ms_none hwd h1 h2 hw hn] at h; cases h
    | some late =>
      rw [ms_some hwd h1 h2 hw hn] at h
      obtain rfl := Sum.inl.inj (Option.some.inj h)
      obtain ⟨k1, k2, k3, k4⟩ := wanted_ok hn ok hw
      refine ⟨⟨k1, fun _ => hlt, ?_⟩, Nat.add_lt_add_left k2 _, len_late (a := 0) (b := 0) k3, ?_⟩
      · show (if s = .kind ∧ wd = .rule then N ++ [[]] else N) ≠ []
        split
        · exact fun e => absurd (congrArg List.length e) (by rw [List.length_append]; exact Nat.succ_ne_zero _)
        · exact nm
      · show (if s = .kind ∧ wd = .rule then N ++ [[]] else N).length ≤ N.length + 1
        split
        · rw [List.length_append]; exact Nat.le_refl _
        · exact Nat.le_succ _
  | false =>
    cases hc : (!isWord s wd || (decide (s = .name) && ((N.getLast?.getD []).contains wd))) with
    | true => rw [ms_bad hwd h1 h2 hw hc] at h; cases h
    | false =>
      rw [ms_ok hwd h1 h2 hw hc] at h
      obtain rfl := Sum.inl.inj (Option.some.inj h)
      have hiw : isWord s wd = true := by
        cases q : isWord s wd with
        | true => rfl
        | false => rw [wd_bad q] at hc; cases hc
      have hnl : (if s = .name then addName wd N else N).length = N.length := by
        split
        · exact addName_len wd N
        · rfl
      refine ⟨⟨okS_tail' ok, fun hne => ?_, fun e => nm ?_⟩, mu_eat hlt (topc_le S), l1, Nat.le_trans (Nat.le_of_eq hnl) (Nat.le_succ _)⟩
      · refine hf a wd hwd fun q => ?_
        subst q
        cases S with
        | nil => exact hne rfl
        | cons t S =>
          rcases isWord_fin hiw hw with rfl | rfl
          · exact absurd (ok_bits ok).1 (by decide)
          · exact (ok_bits ok).2.2.2 rfl
      · have e : (if s = .name then addName wd N else N) = [] := e
        rw [e] at hnl
        exact List.length_eq_zero_iff.mp hnl.symm
end
section
variable [OSC]
theorem bga_kind : builtinKind "BaseException.__getattribute__" = some .slot := by decide +kernel
theorem bga_split : splitId "BaseException.__getattribute__" = some ("BaseException", "__getattribute__") := by decide +kernel
theorem exc_getB {w : World} {h : Heap} {z : Shared} {tk : Nat} {A : Around} {E Q : Value → Shared → Prop} {C e de : Addr} {rv : Array Value} {sl : Array (Option Value)} {es : List DictEntry} {n : Nat} {v : Value} {name : Str} {attr : Option Value} {expr : Bool}
    (K : (KK w).In h) (he : h.get? e = some ⟨.ref C, some de, .fields rv, sl⟩) (hde : h.get? de = some (dictOf es n))
    (hga : findIn (KK w) (.ref C) "__getattribute__" = some (some (.builtin "BaseException.__getattribute__"))) (hhk : findIn (KK w) (.ref C) "__getattr__" = some none) (hs : subIn (KK w) (.ref C) (.type "BaseException") = some true)
    (hh : hasDictIn (KK w) C = true) (ha : findIn (KK w) (.ref C) name = some attr) (hn : noGet (KK w) attr = true) (hl : getL name es = some (some v)) (hv : handedIn v = true)
    (hq : Q v (S z h (tk + 1))) :
    wpAny (model PG w) A (getAttr (.ref e) name expr) Q E (S z h tk) := by
  have L0 : Looks (model PG w) h (typeOf (.ref e)) (.ref C) := (Looks.ld he).andThen .now
  have L1 : Looks (model PG w) h (typeLookup (.ref C) "__getattribute__") (some (.builtin "BaseException.__getattribute__")) := looks_findIn K hga
  have L2 : Looks (model PG w) h (typeLookup (.ref C) "__getattr__") none := looks_findIn K hhk
  have LS : Looks (model PG w) h (isInstance (.ref e) (.type "BaseException")) true := L0.andThen (looks_subIn K hs)
  have I : InstAt h e ⟨.ref C, some de, .fields rv, sl⟩ C (some (dictOf es n)) := ⟨he, rfl, rfl, hde⟩
  have L3 := looks_find (M := model PG w) K I (findObj_own (od := dictOf es n) hh ha hn hl)
  have ga := PySem.F.attrBase_Exception.ga
  unfold getAttr getAttrBy
  refine wpAny_bind (wpAny_mkText (wpAny_holding ?_))
  refine wpAny_bind (L0.at (wpAny_bind (L1.at ?_)))
  dsimp only
  rw [if_neg (show ¬ (onTheHeap (Value.ref C) && (Value.builtin "BaseException.__getattribute__" == Value.builtin "object.__getattribute__")) = true from by simp)]
  unfold getAttrByItsOwn hookBefore
  rw [if_pos (show onTheHeap (Value.ref C) = true from rfl)]
  refine wpAny_bind (L2.at ?_)
  refine wpAny_bind (wpAny_attempt (wpAny_holding ?_))
  unfold callGetattribute
  rw [if_neg (show ¬ (expr && onTheHeap (Value.builtin "BaseException.__getattribute__")) = true from by cases expr <;> (intro q; cases q))]
  unfold boundAndCalled
  rw [ga.bind]
  refine wpAny_bind (wpAny_pure ?_)
  show wpAny _ _ (call (.builtin "BaseException.__getattribute__") [.ref e, .str name tk]) _ _ _
  refine wpAny_call ?_
  refine codeAny_call_builtin ga.plain PySem.F.entry_bexc_ga ?_
  have hag := PySem.F.args_bexc_ga (.ref e) (.str name tk)
  with_reducible refine check_slot bga_kind bga_split ?_ hag ?_
  · exact LS
  unfold Builtin.«object.__getattribute__»
  refine wpAny_bind (wpAny_pure (wpAny_bind (wpAny_pure (wpAny_bind (L0.at (wpAny_bind (L3.at ?_)))))))
  refine wpAny_pure ?_
  show wpAny _ _ (handedOut v) _ _ _
  rw [handedOut_of hv]
  exact wpAny_pure hq
noncomputable def st0r : St := ⟨0, [.rule], [[]], false, [], []⟩
noncomputable def Bk (ws : List Wd) (p : Nat) (sg : List Sg) (R : Bool) (l lo : List Wd) : Prop := ∀ r, Rn true ws ⟨p, sg, [[]], R, l, lo⟩ r → Rn true ws st0r r
section
variable {ws : List Wd} {p p' i : Nat} {sg sg' S : List Sg} {R : Bool} {l lo acc : List Wd} {x : Wd}
theorem Bk.go (b : Bk ws p (sg ++ S) R l lo) (g : ∀ N, Go ws sg p N sg' p' N acc) : Bk ws p' (sg' ++ S) R (if R then l else l ++ acc) (if R then lo ++ acc else lo) := fun r hr => b r (g [[]] true S R l lo r (by cases R <;> simpa [addVars] using hr))
theorem Bk.bad (b : Bk ws p (sg ++ S) R l lo) (h : ∀ N, Bad ws sg p N i) : Rn true ws st0r (some i) := b _ (h [[]] true S R l lo)
theorem Bk.made (b : Bk ws p (.made :: S) R l lo) (hp : ws[p]? = some x) (h : badMade true ws ⟨p, .made :: S, [[]], R, l, lo⟩ = false) : Bk ws p S R l lo := fun r hr => b r (.go (ms_made0 hp h) hr)
theorem Bk.unmade (b : Bk ws p (.made :: S) R l lo) (hp : ws[p]? = some x) (h : badMade true ws ⟨p, .made :: S, [[]], R, l, lo⟩ = true) : Rn true ws st0r (some 0) := b _ (.stop (ms_made1 hp h))
theorem Bk.right (b : Bk ws p (.right :: S) R l lo) (hp : ws[p]? = some x) : Bk ws p S true l lo := fun r hr => b r (.go (ms_right hp) hr)
theorem Bk.start (hp : ws[0]? = some x) : Bk ws 0 [.op, .q .cl, .term, .q .ar, .right, .term, .needs] false [] [] := fun r hr => .go (ms_some hp (by decide) (by decide) rfl rfl) hr
end
noncomputable def needVars (nds : List (Tree × Tree)) : List Wd := nds.flatMap fun q => q.1.vars ++ q.2.vars
theorem bad_iff {ws : List Wd} {p : Nat} {left right : Tree} {nds : List (Tree × Tree)} {S : List Sg} (hp : 2 < p) (hv : isVarT left = (ws[2]?.map Wd.var).getD false) :
    badMade true ws ⟨p, S, [[]], true, left.vars, right.vars ++ needVars nds⟩ = (isVarT left || !(((right, right) :: nds).all (allIn left))) := by
  have h1 : ∀ nds : List (Tree × Tree), (needVars nds).any (fun n => !left.vars.contains n) = !(nds.all (allIn left)) := by
    intro nds
    induction nds with
    | nil => rfl
    | cons q nds ih =>
      show ((q.1.vars ++ q.2.vars) ++ needVars nds).any _ = _
      rw [List.any_append, ih, List.all_cons, Bool.not_and]
      congr 1
      unfold allIn
      rw [List.not_all_eq_any_not]
  have h2 : right.vars.any (fun n => !left.vars.contains n) = !(allIn left (right, right)) := by
    unfold allIn
    rw [List.not_all_eq_any_not, List.any_append, Bool.or_self]
  unfold badMade
  dsimp only
  rw [List.any_append, h1, h2, hv, List.all_cons, Bool.not_and, decide_eq_true hp, Bool.true_and, Bool.true_and]
section
variable (w : World)
theorem makes134 : makesIn (KK w) 134 = true ∧ findIn (KK w) (.ref 134) "__init__" = some (some (.ref 124)) ∧ isFn (KK w) (.ref 124) = true := ⟨by kernel_rfl, by kernel_rfl, by kernel_rfl⟩
theorem keep134 : keepIn (KK w) (.ref 134) = true := by kernel_rfl
theorem k88_what : findIn (KK w) (.ref 88) "__getattribute__" = some (some (.builtin "BaseException.__getattribute__")) ∧ findIn (KK w) (.ref 88) "__getattr__" = some none ∧ hasDictIn (KK w) 88 = true ∧ findIn (KK w) (.ref 88) "what" = some none ∧ noGet (KK w) none = true := ⟨by kernel_rfl, by kernel_rfl, by kernel_rfl, by kernel_rfl, by kernel_rfl⟩
theorem k76_spot : findIn (KK w) (.ref 76) "__getattribute__" = some (some (.builtin "BaseException.__getattribute__")) ∧ findIn (KK w) (.ref 76) "__getattr__" = some none ∧ hasDictIn (KK w) 76 = true ∧ findIn (KK w) (.ref 76) "spot" = some none ∧ noGet (KK w) none = true := ⟨by kernel_rfl, by kernel_rfl, by kernel_rfl, by kernel_rfl, by kernel_rfl⟩
end
section
variable {w : World} {mg mb : Str → Option Value} {h₀ h h' : Heap} {env : Env} {ns gs : List Str} {vs vs' : List (Option Value)} {mu nw fr : Led} {z : Shared} {tk : Nat} {A : Around} {E Q : Value → Shared → Prop} {outer : List Env} {x dx wl : Addr} {o : Obj} {mo : Int} {toks : List (Wd × Nat)}
theorem Room.mark {n : Nat} (e : Option Value) (h : Room A n) : Room (A.mark e) n := ⟨h.1, h.2⟩
theorem tc_out {mu₀ : Led} {p : Addr × Obj} {oL : Obj} (G : GS w mg mb h₀ env ns gs vs (p :: mu) nw h) (O : Out A outer fr mu₀) (hf : env.frame = some env.locals) (s : ∀ q ∈ mu₀, q ∈ mu) (hn : ∀ u, oL.data ≠ .fields u) (C : Addr) (args : List Value) :
    Out (tcU (A.deeper env) C args) (env :: outer) ((env.locals, oL) :: fr) ((env.locals, oL) :: mu) :=
  have O2 := ((BO.of O G.sc.kind hf).mono s).out hn
  ⟨O2.frames, O2.al, O2.sub, O2.hd⟩
theorem rule_spec (g : Good toks mo) (hlt : 0 < toks.length) (B : Bs w mg mb h₀) (G : Gh h₀ h ((dx, o) :: mu) nw) (hA : Room A 100) (hx : (x, instObj 258 dx) ∈ nw) (ho : IsRD w o wl (0 : Nat) (0 : Nat) mo) (hw : Toks nw wl toks) (O : Out A outer fr mu)
    (hq : ∀ z' h' tk' o' nw' v (p' : Nat) l lo, (∀ q ∈ nw, q ∈ nw') → IsRD w o' wl (p' : Nat) (0 : Nat) mo → Gh h₀ h' ((dx, o') :: mu) nw' → p' < toks.length → Bk (wsOf toks) p' [.fin] true l lo → Q v (S z' h' tk'))
    (hE : ∀ (i : Nat) (u : Wd × Nat), toks[i]? = some u → Rn true (wsOf toks) st0r (some i) → CXZ h₀ fr 76 (fun od => PayT od u.2) E) :
    wpAny (model PG w) A (call (.ref 236) [.ref x]) Q E (S z h tk) := by
  have hR : ∀ env, Room (A.deeper env) 99 := fun env => Room.deeper hA
  have hl40 := g.len
  have hEX : ∀ {L : Addr} {env : Env} (i : Nat) (u : Wd × Nat), toks[i]? = some u → Rn true (wsOf toks) st0r (some i) → env.scope.kind = .function → env.frame = some env.locals →
      EXZ h₀ env.locals fr 76 (fun od => PayT od u.2) (fun e s' => wpAny (model PG w) (A.deeper env) (leaving env e) (fun _ s'' => E e s'') (fun e' s'' => E e' s'') s') := fun i u hi hr h1 h2 => EXZ.of O h1 h2 (hE i u hi hr)
  obtain ⟨u0, hp0⟩ := tok_at hlt
  have b0 := Bk.start (ws_get hp0)
  refine enter ["self", "spot", "name", "left", "right", "needs", "fault"] ["Rule", "tuple", "RuleFault", "TextFault"] [some (.ref x), none, none, none, none, none, none] B G hA.depth rfl rfl rfl rfl ⟨rfl, by decide, by decide, by decide, by decide⟩ rfl ?_ rfl rfl (by decide)
  intro L h₁ tk' ev Av Qv Ev G
  let Gs := fun (vs : List (Option Value)) (mu nw : Led) (h : Heap) => G.same vs mu nw h
  refine wpAny_execs_cons ?_
  try k_fold
  refine Assign2 G O.hd ?_
  refine b_spot G rfl .head ((hR _).le (by omega)) hx ho hw hp0 ?_
  intro h2 tk2 t2 G
  try k_fold
  refine b_method (op_spec hp0) (keep_fn w).2.2.2.2.1 (fun q => rm_op G hx ho q) G rfl .head ((hR _).le (by omega)) hx ho hw (BO.of O rfl rfl) ?_ ?_
  rotate_left
  · rintro k ⟨hop, ek⟩
    subst ek
    exact (hEX (L := L) 0 u0 hp0 (b0.bad (sg := [.op]) fun N => Bad.miss (by decide) (ws_get hp0) (by first | exact decide_eq_true (op_of_plain hop (g.nlb hp0)) | exact decide_eq_false (op_of_plain hop (g.nlb hp0)) | exact (op_of_plain hop (g.nlb hp0)))) rfl rfl).ex
  rintro h3 tk3 o3 nw3 v3 p3 d3 hs3 ho G ⟨⟨t3, ev⟩, hop, ep, ed⟩
  subst v3 p3 d3
  have hx := hs3 _ hx
  have hw := hw.mono hs3
  refine ⟨h3, tk3, _, _, _, rfl, G, fun h4 G => ?_⟩
  walk_at "m:st"
  intro h5 tk5 G
  walk_at "m:st"
  intro h6 tk6 G
  have b1 : Bk (wsOf toks) 1 [.q .cl, .term, .q .ar, .right, .term, .needs] false [] [] := b0.go (sg := [.op]) (sg' := []) fun N => Go.eat (by decide) (ws_get hp0) (by first | exact decide_eq_true (plain_of_op hop) | exact decide_eq_false (plain_of_op hop) | exact (plain_of_op hop))
  have hlt1 := g.fin _ _ hp0 (ne_fin_of_op hop)
  obtain ⟨u1, hp1⟩ := tok_at hlt1
  refine wpAny_execs_cons ?_
  try k_fold
  refine wpAny_Expr ?_
  refine b_want (wd := .cl) rfl G rfl (by walk_at "m:at") ((hR _).le (by omega)) hx ho hw hp1 (BO.of O rfl rfl) ?_ ?_
  rotate_left
  · intro hne
    exact (hEX (L := L) _ u1 hp1 (b1.bad (sg := [.q .cl]) fun N => Bad.miss (by decide) (ws_get hp1) (by first | exact decide_eq_true hne | exact decide_eq_false hne | exact hne)) rfl rfl).ex
  intro hu1 h7 tk7 o7 ho G
  rw [if_neg (by decide)] at ho
  have b2 : Bk (wsOf toks) 2 [.term, .q .ar, .right, .term, .needs] false [] [] := b1.go (sg := [.q .cl]) (sg' := []) fun N => Go.eat (by decide) (ws_get hp1) (by first | exact decide_eq_true hu1 | exact decide_eq_false hu1 | exact hu1)
  have hlt2 := g.fin _ _ hp1 (by rw [hu1]; decide)
  refine wpAny_execs_cons ?_
  try k_fold
  refine wpAny_Assign_Name ?_
  try k_fold
  refine b_method (term_spec g 40 2 0 (by omega) hlt2 (by omega)) (keep_fn2 w).2.1 (fun q => rm_term G hx ho q) G rfl (by walk_at "m:at") ((hR _).le (by omega)) hx ho hw (BO.of O rfl rfl) ?_ ?_
  rotate_left
  · rintro k ⟨i, u, hi, ek, hbad⟩
    subst k
    exact (hEX (L := L) i u hi (b2.bad (sg := [.term]) hbad) rfl rfl).ex
  rintro h8 tk8 o8 nw8 lv p8 d8 hs8 ho G ⟨ed, hp8, hlt8, left, ⟨hlt8', hls, hlv⟩, hgo8⟩
  subst d8
  have hx := hs8 _ hx
  have hw := hw.mono hs8
  walk_at "m:st"
  intro h9 tk9 G
  have b3 : Bk (wsOf toks) p8 [.q .ar, .right, .term, .needs] false left.vars [] := b2.go (sg := [.term]) (sg' := []) hgo8
  obtain ⟨u8, hpt8⟩ := tok_at hlt8
  refine wpAny_execs_cons ?_
  try k_fold
  refine wpAny_Expr ?_
  refine b_want (wd := .ar) rfl G rfl (by walk_at "m:at") ((hR _).le (by omega)) hx ho hw hpt8 (BO.of O rfl rfl) ?_ ?_
  rotate_left
  · intro hne
    exact (hEX (L := L) _ u8 hpt8 (b3.bad (sg := [.q .ar]) fun N => Bad.miss (by decide) (ws_get hpt8) (by first | exact decide_eq_true hne | exact decide_eq_false hne | exact hne)) rfl rfl).ex
  intro hu8 h10 tk10 o10 ho G
  rw [if_neg (by decide)] at ho
  have b4 : Bk (wsOf toks) (p8 + 1) [.right, .term, .needs] false left.vars [] := by
    have := b3.go (sg := [.q .ar]) (sg' := []) (acc := []) (S := [.right, .term, .needs]) fun N => Go.eat (by decide) (ws_get hpt8) (by first | exact decide_eq_true hu8 | exact decide_eq_false hu8 | exact hu8)
    simpa using this
  have hlt9 := g.fin _ _ hpt8 (by rw [hu8]; decide)
  obtain ⟨u9, hpt9⟩ := tok_at hlt9
  have b5 := b4.right (ws_get hpt9)
  refine wpAny_execs_cons ?_
  try k_fold
  refine Assign2 G O.hd ?_
  try k_fold
  refine b_method (term_spec g 40 (p8 + 1) 0 (by omega) hlt9 (by omega)) (keep_fn2 w).2.1 (fun q => rm_term G hx ho q) G rfl (by walk_at "m:at") ((hR _).le (by omega)) hx ho hw (BO.of O rfl rfl) ?_ ?_
  rotate_left
  · rintro k ⟨i, u, hi, ek, hbad⟩
    subst k
    exact (hEX (L := L) i u hi (b5.bad (sg := [.term]) hbad) rfl rfl).ex
  rintro h11 tk11 o11 nw11 rv p11 d11 hs11 ho G ⟨ed, hp11, hlt11, right, ⟨hrt11, hrs, hrv⟩, hgo11⟩
  subst d11
  have hx := hs11 _ hx
  have hw := hw.mono hs11
  refine List_ ?_
  refine args_nil ?_
  refine r_listM (by show 0 ≤ 2 ^ 24; decide) G (fun D h12 G => ?_)
  have G := G.swap
  refine ⟨h12, tk11, _, _, _, rfl, G, fun h13 G => ?_⟩
  walk_at "m:st"
  intro h14 tk14 G
  walk_at "m:st"
  intro h15 tk15 G
  have b6 : Bk (wsOf toks) p11 [.needs] true left.vars right.vars := b5.go (sg := [.term]) (sg' := []) hgo11
  obtain ⟨u11, hpt11⟩ := tok_at hlt11
  have hl := hlt8'.mono hs11
  refine wpAny_execs_cons ?_
  try k_fold
  try k_fold
  refine wpAny_mono (Q := fun f s' => f = .next ∧ Ex8 fun h tk o p' ys nf nds nw' => Al9 (s' = S z h tk) (Gs [some (.ref x), some (.int u0.2 t2), some (.str u0.1.str t3), some lv, some rv, some (.ref D), none] ((dx, o) :: (D, lstO ys nf) :: mu) nw' h) (IsRD w o wl (p' : Nat) (0 : Nat) mo) ((∀ q ∈ nw11, q ∈ nw')) (2 < p') (p' < toks.length) (ys.length ≤ p') (Paired (NeedAt nw') ys nds) (Bk (wsOf toks) p' [.made, .fin] true left.vars (right.vars ++ needVars nds))) ?_ (fun f s' hs' => ?_) (fun _ _ x => x)
  try k_fold
  · refine wpAny_If ?_
    try k_fold
    refine wpAny_isTrue_Compare1 ?_
    refine b_word G rfl .head ((hR _).le (by omega)) hx ho hw hpt11 ?_
    intro h16 tk16 t16 G
    refine r_strN ?_
    refine PyProof.Rows.eq_str ?_
    refine wpAny_truthy_bool ?_
    change if (u11.1.str == Wd.ifw.str) = true then _ else _
    rw [Wd.beq]
    refine ifs (fun hb => ?_) (fun hb => ?_)
    rotate_left
    · have hni : u11.1 ≠ .ifw := by simpa using hb
      refine wpAny_execs_nil ?_
      refine ⟨rfl, h16, _, _, p11, [], _, [], nw11, rfl, G, ho, fun _ h => h, by omega, hlt11, by simp, .nil, ?_⟩
      rw [show right.vars ++ needVars [] = right.vars by simp [needVars]]
      have := b6.go (sg := [.needs]) (sg' := [.made, .fin]) (acc := []) (S := []) fun N => Go.open_ (by decide) (ws_get hpt11) (by first | exact if_pos hni | exact if_neg hni)
      simpa using this
    have hif : u11.1 = .ifw := of_decide_eq_true hb
    have hlt12 := g.fin _ _ hpt11 (by rw [hif]; decide)
    have b7 : Bk (wsOf toks) (p11 + 1) [.term, .sign, .term, .more] true left.vars right.vars := by
      have := b6.go (sg := [.needs]) (sg' := [.q .ifw, .term, .sign, .term, .more]) (acc := []) (S := []) fun N => Go.open_ (by decide) (ws_get hpt11) (by first | exact if_pos hif | exact if_neg hif)
      have := this.go (sg := [.q .ifw]) (sg' := []) (acc := []) (S := [.term, .sign, .term, .more]) fun N => Go.eat (by decide) (ws_get hpt11) (by first | exact decide_eq_true hif | exact decide_eq_false hif | exact hif)
      simpa using this
    refine wpAny_execs_cons ?_
    try k_fold
    refine wpAny_Expr ?_
    refine b_take G rfl .head ((hR _).le (by omega)) hx ho hw hpt11 ?_
    intro h17 tk17 o17 t18 ho G
    refine wpAny_execs_cons ?_
    try k_fold
    refine wpAny_Expr ?_
    refine b_append2 G rfl (by walk_at "m:at") (by show 0 ≤ 2 ^ 24; decide) ?_
    try k_fold
    refine b_method (need_spec g 40 (p11 + 1) 0 (by omega) hlt12 (by omega)) (keep_fn2 w).2.2.1 (fun q => rm_need G hx ho q) G rfl .head ((hR _).le (by omega)) hx ho hw ((BO.of O rfl rfl).mono fun _ h => .tail _ h) ?_ ?_
    rotate_left
    · rintro k ⟨i, u, hi, ek, hbad⟩
      subst k
      exact (hEX (L := L) i u hi (b7.bad (sg := [.term, .sign, .term]) hbad) rfl rfl).ex
    rintro h18 tk18 o18 nw18 v18 p18 d18 hs18 ho G ⟨ed, hp18, hlt18, tl, tr, kd, a18, n18, v1, v2, tt, ev, hm, hkd, ht1, ht2, hgo18⟩
    subst d18
    refine ⟨_, _, _, _, rfl, G, fun h19 m19 G => ?_⟩
    refine wpAny_execs_cons ?_
    try k_fold
    refine wpAny_While ?_
    try k_fold
    refine codeAny_whileLoop (fun n s => Ex8 fun h tk o p' ys nf nds nw' => Al10 (s = S z h tk) (Gs [some (.ref x), some (.int u0.2 t2), some (.str u0.1.str t3), some lv, some rv, some (.ref D), none] ((dx, o) :: (D, lstO ys nf) :: mu) nw' h) (IsRD w o wl (p' : Nat) (0 : Nat) mo) ((∀ q ∈ nw11, q ∈ nw')) (n = toks.length - p') (2 < p') (p' < toks.length) (ys.length ≤ p') (Paired (NeedAt nw') ys nds) (Bk (wsOf toks) p' [.more] true left.vars (right.vars ++ needVars nds))) ?_ (toks.length - p18) ?_
    · intro n s hI_
      try k_fold
      obtain ⟨h, tk, o, p', ys, nf, nds, nw', rfl, G, ho, hsn, hn, hpp, hlt', hys, hnd, hb⟩ := hI_
      have hx := hsn _ hx
      have hw := hw.mono hsn
      obtain ⟨u', hp'⟩ := tok_at hlt'
      refine wpAny_isTrue_Compare1 ?_
      refine b_word G rfl .head ((hR _).le (by omega)) hx ho hw hp' ?_
      intro h20 tk20 t20 G
      refine r_strN ?_
      refine PyProof.Rows.eq_str ?_
      refine wpAny_truthy_bool ?_
      change if (u'.1.str == Wd.cm.str) = true then _ else _
      rw [Wd.beq]
      refine ifs (fun hb' => ?_) (fun hb' => ?_)
      · have hcm : u'.1 = .cm := of_decide_eq_true hb'
        have hlt13 := g.fin _ _ hp' (by rw [hcm]; decide)
        have b8 : Bk (wsOf toks) (p' + 1) [.term, .sign, .term, .more] true left.vars (right.vars ++ needVars nds) := by
          have := hb.go (sg := [.more]) (sg' := [.q .cm, .term, .sign, .term, .more]) (acc := []) (S := []) fun N => Go.open_ (by decide) (ws_get hp') (by first | exact if_pos hcm | exact if_neg hcm)
          have := this.go (sg := [.q .cm]) (sg' := []) (acc := []) (S := [.term, .sign, .term, .more]) fun N => Go.eat (by decide) (ws_get hp') (by first | exact decide_eq_true hcm | exact decide_eq_false hcm | exact hcm)
          simpa using this
        refine wpAny_execs_cons ?_
        try k_fold
        refine wpAny_Expr ?_
        refine b_take G rfl .head ((hR _).le (by omega)) hx ho hw hp' ?_
        intro h22 tk22 o22 t22 ho G
        refine wpAny_execs_cons ?_
        try k_fold
        refine wpAny_Expr ?_
        refine b_append2 G rfl (by walk_at "m:at") (by show ys.length ≤ 2 ^ 24; omega) ?_
        try k_fold
        refine b_method (need_spec g 40 (p' + 1) 0 (by omega) hlt13 (by omega)) (keep_fn2 w).2.2.1 (fun q => rm_need G hx ho q) G rfl .head ((hR _).le (by omega)) hx ho hw ((BO.of O rfl rfl).mono fun _ h => .tail _ h) ?_ ?_
        rotate_left
        · rintro k ⟨i, u, hi, ek, hbad⟩
          subst k
          exact EX.loop (BO.of O rfl rfl) (hEX (L := L) i u hi (b8.bad (sg := [.term, .sign, .term]) hbad) rfl rfl).ex
        rintro h23 tk23 o23 nw23 v23 p23 d23 hs23 ho G ⟨ed, hp23, hlt23, tl', tr', kd', a23, n23, v1', v2', tt', ev', hm', hkd', ht1', ht2', hgo23⟩
        subst d23
        refine ⟨_, _, _, _, rfl, G, fun h24 m24 G => ?_⟩
        refine wpAny_execs_nil ?_
        refine ⟨_, ?_, h24, _, _, p23, ys ++ [v23], m24, nds ++ [(tl', tr')], nw23, rfl, G, ho, fun q hq => hs23 _ (hsn _ hq), rfl, by omega, hlt23, by simp; omega, paired_app (paired_mono hnd fun _ _ x => x.mono hs23) (.cons ⟨kd', a23, n23, tt', v1', v2', ev', hm', hkd', ht1', ht2'⟩ .nil), ?_⟩
        · omega
        · have := b8.go (sg := [.term, .sign, .term]) (sg' := []) (S := [.more]) hgo23
          simpa [needVars] using this
      · have hnc : u'.1 ≠ .cm := by simpa using hb'
        refine wpAny_execs_nil ?_
        refine wpAny_execs_nil ?_
        refine ⟨rfl, h20, _, _, p', ys, _, nds, nw', rfl, G, ho, hsn, hpp, hlt', hys, hnd, ?_⟩
        have := hb.go (sg := [.more]) (sg' := [.made, .fin]) (acc := []) (S := []) fun N => Go.open_ (by decide) (ws_get hp') (by first | exact if_pos hnc | exact if_neg hnc)
        simpa using this
    · refine ⟨h19, _, _, p18, [v18], m19, [(tl, tr)], nw18, rfl, G, ho, hs18, rfl, by omega, hlt18, by simp; omega, .cons ⟨kd, a18, n18, tt, v1, v2, ev, hm, hkd, ht1, ht2⟩ .nil, ?_⟩
      have := b7.go (sg := [.term, .sign, .term]) (sg' := []) (S := [.more]) hgo18
      simpa [needVars] using this
  obtain ⟨rfl, h, tk, o, p', ys, nf, nds, nw', rfl, G, ho, hsn, hpp, hlt', hys, hnd, hbk⟩ := hs'
  have hx := hsn _ hx
  have hl := hl.mono hsn
  have hr := hrt11.mono hsn
  obtain ⟨u', hp'⟩ := tok_at hlt'
  have hbad := bad_iff (ws := wsOf toks) (S := [.made, .fin]) (right := right) (nds := nds) hpp hlv
  refine wpAny_execs_cons ?_
  try k_fold
  refine wpAny_Try_except ?_
  refine wpAny_execs_cons ?_
  try k_fold
  refine wpAny_Return_some ?_
  refine Call_ ?_
  refine r_glo G (by walk_at "m:has") (g_Rule w) ?_
  refine callWith_K G.bs.K (keep134 w) ?_
  refine args_cons ?_
  walk_at "m:loc"
  refine args_cons ?_
  walk_at "m:loc"
  refine args_cons ?_
  walk_at "m:loc"
  refine args_cons ?_
  refine b_tuple G (by walk_at "m:has") (by walk_at "m:at") (List.mem_append_left _ (.tail _ (.head _))) (by show ys.length ≤ 2 ^ 24; omega) ?_
  intro T h25 G
  refine args_nil ⟨G.K, ?_⟩
  refine b_make G (makes134 w).1 (makes134 w).2.1 (makes134 w).2.2 fun xr dxr h26 G => ?_
  obtain ⟨oL, Gc, hn, back⟩ := G.call1
  have hoL := (Gc.has _ (.tail _ (.head _))).1
  have hbadT : ∀ {b : Prop}, (isVarT left = true ∨ ((right, right) :: nds).all (allIn left) = false) → badMade true (wsOf toks) ⟨p', [.made, .fin], [[]], true, left.vars, right.vars ++ needVars nds⟩ = true := fun h => by
    rw [hbad]
    rcases h with h | h <;> simp [h]
  refine rinit_spec (name := u0.1) (nn := 0) (nvs := ys) (nds := nds) (left := left) (right := right) G.bs Gc (Room.tc _ _ ((hR _).le (by omega))) (.head _) (tc_out G O rfl (fun _ h => .tail _ (.tail _ h)) hn _ _) ⟨hl.mono fun q hq => .tail _ (.tail _ hq), by omega⟩ ⟨hr.mono fun q hq => .tail _ (.tail _ hq), by omega⟩ (.tail _ (.head _))
    (paired_mono hnd fun _ _ x => x.mono fun q hq => .tail _ (.tail _ hq)) (by have := hnd.length; omega) ?_ ?_
  · intro hvar hall z27 h27 tk27 o27 nw27 hs27 G27
    refine ⟨rfl, ?_⟩
    have hb := hbk.made (ws_get hp') (by rw [hbad, hvar, hall]; rfl)
    have G28 := (back _ _ _ _ G27).G.lessM.swap.lessM
    exact hq z27 h27 tk27 o nw27 _ p' _ _ (fun q hq => hs27 _ (.tail _ (.tail _ (hsn _ (hs11 _ (hs8 _ (hs3 _ hq))))))) ho G28 hlt' hb
  · intro hb27 z27 h27 tk27 e de od X P27
    obtain ⟨s27, P27⟩ := P27
    try k_fold
    refine r_handle ((BO.of O rfl rfl).mono fun _ h => .tail _ (.tail _ (.tail _ h))) G hoL X (by walk_at "m:has") (g_RuleFault w) (exm w).1 (by walk_at "m:setat") (hEX (L := L) 0 u0 hp0 (hbk.unmade (ws_get hp') (hbadT (b := True) hb27)) rfl rfl) ?_
    intro rv27 sl27 fr27 h28 tk28 hS hnf hr2 G
    obtain ⟨hh1, k1, t1, n1, rfl⟩ := P27
    refine wpAny_execs_cons ?_
    try k_fold
    refine r_raiseH (hd := e) rfl ?_
    refine Call_ ?_
    refine r_glo G (by walk_at "m:has") (g_TextFault w) ?_
    refine callWith_K G.bs.K (keep76 w) ?_
    refine args_cons ?_
    refine Attribute_any_ ?_
    walk_at "m:loc"
    refine exc_getB (z := z27) (h := h28) G.K (G.G.get (.head _)) (G.G.get (.tail _ (.head _))) (k88_what w).1 (k88_what w).2.1 (sub88 w) (k88_what w).2.2.1 (k88_what w).2.2.2.1 (k88_what w).2.2.2.2 rfl rfl ?_
    refine args_cons ?_
    refine r_loc (h := h28) G (by walk_at "m:at") ?_
    refine args_nil ⟨G.K, ?_⟩
    refine raised_textH (fr := fr27) G (Room.mark _ ((hR _).le (by omega))) (.head _) rfl (hr2 rfl) (fun p hp => ⟨.tail _ (.tail _ hp), hnf p hp⟩) ?_
    intro h29 tk29 e2 de2 od2 oL2 m2 hns hn2 X2 P2
    exact ⟨z27, h29, tk29, e2, de2, od2, oL2, m2, true, rfl, rfl, hns, hn2, X2, P2⟩
end
end
section
variable [OSC]
section
variable {w : World} {mg mb : Str → Option Value} {h₀ h h' : Heap} {env : Env} {ns gs : List Str} {vs vs' : List (Option Value)} {mu nw fr : Led} {z : Shared} {tk : Nat} {A : Around} {E Q : Value → Shared → Prop}
theorem r_max {a b : Int} {t u : Tok} (hh : A.handled = none) (G : GS w mg mb h₀ env ns gs vs mu nw h) (hq : ∀ h' tk' t', GS w mg mb h₀ env ns gs vs mu nw h' → Q (.int (if b > a then b else a) t') (S z h' tk')) :
    wpAny (model PG w) A (call (.builtin "max") [.int a t, .int b u]) Q E (S z h tk) := by
  obtain ⟨m, F, hl⟩ := G.fr
  refine max_two_N (s := S z h tk) hh F G.news fun h' tk' F' N' => ?_
  exact hq _ _ _ (G.back F' hl N' G.G.nd G.G.apart)
theorem r_listlist {D : Addr} {ys : List Value} {n : Nat} (G : GS w mg mb h₀ env ns gs vs mu nw h) (hT : h.get? D = some (lstO ys n)) (hsz : ys.length ≤ 1000)
    (hq : ∀ D' h' n', GS w mg mb h₀ env ns gs vs mu ((D', lstO ys n') :: nw) h' → Q (.ref D') (S z h' tk)) : wpAny (model PG w) A (call (.type "list") [.ref D]) Q E (S z h tk) := by
  refine call_list_seq (s := S z h tk) D (T := "list") (.inl rfl) hT rfl rfl (fun h' c' hk hD => ?_) (by rw [List.size_toArray]; exact sl_small hsz (by decide))
  refine hq _ h' c' (G.fresh hk ?_ hD)
  cases e : h.get? h.objs.size with
  | none => rfl
  | some o => exact absurd (Heap.lt_size e) (Nat.lt_irrefl _)
theorem NoFin.take {a : List Wd} (h : NoFin a) (k : Nat) : NoFin (a.take k) := fun x hx => h x (List.mem_of_mem_take hx)
theorem NoFin.drop {a : List Wd} (h : NoFin a) (k : Nat) : NoFin (a.drop k) := fun x hx => h x (List.mem_of_mem_drop hx)
theorem bent_spec {pd : Addr} {o : Obj} {n : Nat} {v : Value} {ws : List Wd} (B : Bs w mg mb h₀) (G : Gh h₀ h ((pd, o) :: mu) nw) (hA : Room A 8) (hH : A.handled = none) (hp : IsPen w nw o n) (hn : n + 7 ≤ 900000) (hw : WdsAt nw v ws) (hl : ws.length ≤ 26) (hf : NoFin ws)
    (hq : ∀ h' tk' o' nw' n' v ws', (∀ q ∈ nw, q ∈ nw') → n' ≤ n + 7 → IsPen w nw' o' n' → Gh h₀ h' ((pd, o') :: mu) nw' → WdsAt nw' v ws' → ws'.length ≤ 28 → NoFin ws' → Q v (S z h' tk')) :
    wpAny (model PG w) A (call (.ref 319) [.ref pd, v]) Q E (S z h tk) := by
  have hR : ∀ env, Room (A.deeper env) 7 := fun env => Room.deeper hA
  try k_fold
  refine enter ["pen", "words", "lap", "way", "at", "late"] ["list", "range", "_law_deal", "max", "len", "_law_pool"] [some (.ref pd), some v, none, none, none, none] B G hA.depth rfl rfl rfl rfl ⟨rfl, by decide, by decide, by decide, by decide⟩ rfl ?_ rfl rfl (by decide)
  intro L h₁ tk' ev Av Qv Ev G
  let Gs := fun (vs : List (Option Value)) (mu nw : Led) (h : Heap) => G.same vs mu nw h
  obtain ⟨D, ys, m, rfl, hD, hfa⟩ := hw
  refine wpAny_execs_cons ?_
  try k_fold
  refine wpAny_Assign_Name ?_
  refine Call_ ?_
  refine r_blt G (by walk_at "m:has") (g_list w).1 (g_list w).2.1 (g_list w).2.2 ?_
  refine cw_t ?_
  refine args_cons ?_
  walk_at "m:loc"
  refine args_nil ?_
  refine r_listlist G (G.G.get hD) (by rw [fa2_len hfa]; omega) ?_
  intro D2 h2 n2 G
  walk_at "m:st"
  intro h3 tk3 G
  have hw2 : WdsAt ((D2, lstO ys n2) :: nw) (.ref D2) ws := ⟨D2, ys, n2, rfl, .head _, hfa⟩
  refine wpAny_execs_cons ?_
  try k_fold
  try k_fold
  refine r_for (x := "lap") G (A := A.deeper _) hH (fun i vs mu' nw' => Ex8 fun o' n' v ws' k1 k2 k3 k4 => Al8 (vs = [some (.ref pd), some v, k1, k2, k3, k4]) (mu' = (pd, o') :: mu) (IsPen w nw' o' n') (n' ≤ n + 1 + 3 * i) (WdsAt nw' v ws') (ws'.length ≤ 26 + i) (NoFin ws') (∀ q ∈ nw, q ∈ nw')) ?_ ?_
  · rintro i vs mu' nw' ⟨o', n', v, ws', k1, k2, k3, k4, rfl, -⟩ v'
    exact ⟨_, .tail (.tail .head)⟩
  refine Call_ ?_
  refine r_blt G (by walk_at "m:has") (g_range w).1 (g_range w).2.1 (g_range w).2.2 ?_
  refine cw_t ?_
  refine args_cons ?_
  refine b_deal G (by walk_at "m:has") .head ((hR _).le (by omega)) (hp.mono fun q hq => .tail _ hq) (by omega) (by decide) (dealc G) ?_
  intro h13 tk13 o13 r t13 r0 r1 hp13 G
  refine args_nil ?_
  refine call_range_1 (s := S z h13 tk13) ?_
  have hr : r = (r.toNat : Nat) := tn_eq r0
  rw [hr]
  have Gr := G.push { cls := .type "range", data := .fields #[.int 0 tk13, .int (r.toNat : Nat) t13, .int 1 (tk13 + 1)] } rfl
  try k_fold
  refine ⟨h13.objs.size, r.toNat, tk13, t13, tk13 + 1, _, _, _, _, _, rfl, rfl, Gr.G.get (.head _), by omega, ⟨o13, n + 1, _, ws, _, _, _, _, rfl, rfl, hp13.mono fun q hq => .tail _ hq, by omega, hw2.mono fun q hq => .tail _ hq, by omega, hf, fun q hq => .tail _ (.tail _ hq)⟩, Gr, ?_, ?_⟩
  · intro i vs mu' nw' h tk t vs' I io hi hI_ hset G
    try k_fold
    obtain ⟨o', n', v, ws', k1, k2, k3, k4, rfl, rfl, hp, hn', hw, hl, hf, hsub⟩ := hI_
    obtain ⟨hn0, hn1, hn2⟩ := bent_n hn hn' hi r1
    obtain ⟨hw0, hw1⟩ := bent_w hl hi r1
    have hrn : r.toNat ≤ 2 := by omega
    obtain rfl : vs' = [some (.ref pd), some v, some (.int (i : Nat) t), k2, k3, k4] := hset.at_ (k := 2) G.sc.nd rfl
    · have G := G.swap
      refine wpAny_execs_cons ?_
      try k_fold
      refine Assign2 G hH ?_
      refine b_deal G (by walk_at "m:has") .head ((hR _).le (by omega)) hp (by omega) (by decide) (dealc G) ?_
      intro h14 tk14 o14 way tw w0 w1 hp G
      refine b_deal (many := if (ws'.length : Int) > 1 then (ws'.length : Int) else 1) G (by walk_at "m:has") .head ((hR _).le (by omega)) hp (by omega) (by split <;> omega) ?_ ?_
      · refine Call_ ?_
        refine r_blt G (by walk_at "m:has") (g_max w).1 (g_max w).2.1 (g_max w).2.2 ?_
        refine cw_b ?_
        refine args_cons ?_
        refine r_intN ?_
        refine args_cons ?_
        refine Call_ ?_
        refine r_blt G (by walk_at "m:has") (g_len w).1 (g_len w).2.1 (g_len w).2.2 ?_
        refine cw_b ?_
        refine args_cons ?_
        walk_at "m:loc"
        refine args_nil ?_
        obtain ⟨D5, y5, n5, rfl, hD5, hfa5⟩ := hw
        refine r_lenlist G (List.mem_append_right _ hD5) (by rw [fa2_len hfa5]; omega) ?_
        intro t16 tk16
        refine args_nil ?_
        rw [fa2_len hfa5]
        refine r_max (A := A.deeper _) hH G ?_
        intro h17 tk17 t17 G
        exact ⟨_, _, _, rfl, rfl, G⟩
      intro h15 tk15 o15 at_ ta a0 a1 hp G
      refine ⟨h15, tk15, _, _, _, rfl, G, fun h16 G => ?_⟩
      walk_at "m:st"
      intro h17 tk17 G
      walk_at "m:st"
      intro h18 tk18 G
      obtain ⟨pl, pn, hpl, hpf⟩ := pool284 w
      refine wpAny_execs_cons ?_
      try k_fold
      refine wpAny_Assign_Name ?_
      refine Subscript_ ?_
      refine r_glo G (by walk_at "m:has") (g_law_pool w) ?_
      have h15l : pl.length = 15 := fa2_len hpf
      refine b_deal (many := 15) G (by walk_at "m:has") .head ((hR _).le (by omega)) hp (by omega) (by decide) ?_ ?_
      · refine Call_ ?_
        refine r_blt G (by walk_at "m:has") (g_len w).1 (g_len w).2.1 (g_len w).2.2 ?_
        refine cw_b ?_
        refine args_cons ?_
        refine r_glo G (by walk_at "m:has") (g_law_pool w) ?_
        refine args_nil ?_
        refine PyProof.Rows.len_tuple (s := S z h18 _) ⟨_, G.K _ _ hpl, rfl, pn, rfl⟩ (by simp [h15l]) ?_
        exact ⟨_, _, _, by rw [List.size_toArray, h15l]; rfl, rfl, G⟩
      intro h19 tk19 o19 r2 t19 r20 r21 hp G
      obtain ⟨vL, xL, hvL, hxL, tL, rfl⟩ := fa2_at hpf (i := r2.toNat) (tn_len h15l r20 r21)
      have hLf : xL ≠ .fin := by have := List.mem_of_getElem? hxL; rintro rfl; exact absurd this (by decide)
      refine r_item_tup (G.K _ _ hpl) (by omega) (by omega) (seqIx r20 (by rw [h15l]; omega)) hvL ?_
      walk_at "m:st"
      intro h20 tk20 G
      refine wpAny_execs_cons ?_
      try k_fold
      try k_fold
      refine wpAny_mono (Q := fun f s' => f = .next ∧ Ex5 fun h tk nw2 v2 ws2 => Al6 (s' = S z h tk) (Gs [some (.ref pd), some v2, some (.int (i : Nat) t), some (.int way tw), some (.int at_ ta), some (.str xL.str tL)] ((pd, o19) :: (I, io) :: mu) nw2 h) ((∀ q ∈ nw', q ∈ nw2)) (WdsAt nw2 v2 ws2) (ws2.length ≤ ws'.length + 1) (NoFin ws2)) ?_ (fun f s' hs' => ?_) (fun _ _ x => x)
      try k_fold
      · refine wpAny_If ?_
        try k_fold
        refine wpAny_isTrue_Compare1 ?_
        walk_at "m:loc"
        refine r_intN ?_
        refine eq_int ?_
        refine wpAny_truthy_bool ?_
        refine ifs (fun hb => ?_) (fun hb => ?_)
        · refine wpAny_execs_cons ?_
          try k_fold
          refine wpAny_Assign_Name ?_
          refine wpAny_BinOp ?_
          refine w_upto G (by walk_at "m:at") hw (by omega) a0 (r_loc G (by walk_at "m:at") ⟨_, _, rfl, rfl⟩) ?_
          intro v22 h22 nw22 tk22 hs22 G hw22
          refine w_from (k := at_ + 1) G (by walk_at "m:at") (hw.mono hs22) (by omega) (by omega) ?_ ?_
          · refine wpAny_BinOp ?_
            walk_at "m:loc"
            refine r_intN ?_
            refine r_addN ?_
            exact ⟨_, _, rfl, rfl⟩
          intro v23 h23 nw23 tk23 hs23 G hw23
          refine r_addwords G (hw22.mono hs23) hw23 (Nat.le_trans (cutA a0) hw0) ?_
          intro v24 h24 nw24 hs24 G hw24
          walk_at "m:st"
          intro h25 tk25 G
          refine wpAny_execs_nil ?_
          exact ⟨rfl, h25, _, nw24, v24, _, rfl, G, fun q hq => hs24 _ (hs23 _ (hs22 _ hq)), hw24, by rw [List.length_append]; exact Nat.le_succ_of_le (cutA a0), (hf.take _).app (hf.drop _)⟩
        refine wpAny_execs_cons ?_
        try k_fold
        refine wpAny_If ?_
        try k_fold
        refine wpAny_isTrue_Compare1 ?_
        walk_at "m:loc"
        refine r_intN ?_
        refine eq_int ?_
        refine wpAny_truthy_bool ?_
        refine ifs (fun hb1 => ?_) (fun hb1 => ?_)
        · refine wpAny_execs_cons ?_
          try k_fold
          refine wpAny_Assign_Name ?_
          refine wpAny_BinOp ?_
          refine wpAny_BinOp ?_
          refine w_upto G (by walk_at "m:at") hw (by omega) a0 (r_loc G (by walk_at "m:at") ⟨_, _, rfl, rfl⟩) ?_
          intro v22 h22 nw22 tk22 hs22 G hw22
          refine List_ ?_
          refine args_cons ?_
          walk_at "m:loc"
          refine args_nil ?_
          refine r_list (by show 1 ≤ 2 ^ 24; decide) G (fun D3 h26 G => ?_)
          refine r_addwords (ys := [xL]) G (hw22.mono fun q hq => .tail _ hq) (wdlist (.cons ⟨tL, rfl⟩ .nil)) (Nat.le_trans cutT hw1) ?_
          intro v27 h27 nw27 hs27 G hw27
          refine w_from G (by walk_at "m:at") (hw.mono fun q hq => hs27 _ (.tail _ (hs22 _ hq))) (by omega) a0 (r_loc G (by walk_at "m:at") ⟨_, _, rfl, rfl⟩) ?_
          intro v23 h23 nw23 tk23 hs23 G hw23
          refine r_addwords G (hw27.mono hs23) hw23 (Nat.le_trans cutB hw1) ?_
          intro v24 h24 nw24 hs24 G hw24
          walk_at "m:st"
          intro h25 tk25 G
          refine wpAny_execs_nil ?_
          refine wpAny_execs_nil ?_
          exact ⟨rfl, h25, _, nw24, v24, _, rfl, G, fun q hq => hs24 _ (hs23 _ (hs27 _ (.tail _ (hs22 _ hq)))), hw24, by rw [List.length_append]; exact cutB, ((hf.take _).app (fun x hx => by rw [List.mem_singleton.mp hx]; exact hLf)).app (hf.drop _)⟩
        refine wpAny_execs_cons ?_
        try k_fold
        refine wpAny_If ?_
        try k_fold
        refine wpAny_isTrue_Compare1 ?_
        walk_at "m:loc"
        refine r_intN ?_
        refine eq_int ?_
        refine wpAny_truthy_bool ?_
        refine ifs (fun hb2 => ?_) (fun hb2 => ?_)
        · refine wpAny_execs_cons ?_
          try k_fold
          refine wpAny_Assign_Name ?_
          refine wpAny_BinOp ?_
          refine wpAny_BinOp ?_
          refine w_upto G (by walk_at "m:at") hw (by omega) a0 (r_loc G (by walk_at "m:at") ⟨_, _, rfl, rfl⟩) ?_
          intro v22 h22 nw22 tk22 hs22 G hw22
          refine List_ ?_
          refine args_cons ?_
          walk_at "m:loc"
          refine args_nil ?_
          refine r_list (by show 1 ≤ 2 ^ 24; decide) G (fun D3 h26 G => ?_)
          refine r_addwords (ys := [xL]) G (hw22.mono fun q hq => .tail _ hq) (wdlist (.cons ⟨tL, rfl⟩ .nil)) (Nat.le_trans cutT hw1) ?_
          intro v27 h27 nw27 hs27 G hw27
          refine w_from (k := at_ + 1) G (by walk_at "m:at") (hw.mono fun q hq => hs27 _ (.tail _ (hs22 _ hq))) (by omega) (by omega) ?_ ?_
          · refine wpAny_BinOp ?_
            walk_at "m:loc"
            refine r_intN ?_
            refine r_addN ?_
            exact ⟨_, _, rfl, rfl⟩
          intro v23 h23 nw23 tk23 hs23 G hw23
          refine r_addwords G (hw27.mono hs23) hw23 (Nat.le_trans (cutC a0) hw1) ?_
          intro v24 h24 nw24 hs24 G hw24
          walk_at "m:st"
          intro h25 tk25 G
          refine wpAny_execs_nil ?_
          refine wpAny_execs_nil ?_
          refine wpAny_execs_nil ?_
          exact ⟨rfl, h25, _, nw24, v24, _, rfl, G, fun q hq => hs24 _ (hs23 _ (hs27 _ (.tail _ (hs22 _ hq)))), hw24, by rw [List.length_append]; exact cutC a0, ((hf.take _).app (fun x hx => by rw [List.mem_singleton.mp hx]; exact hLf)).app (hf.drop _)⟩
        · refine wpAny_execs_cons ?_
          try k_fold
          refine wpAny_Assign_Name ?_
          refine wpAny_BinOp ?_
          refine wpAny_BinOp ?_
          refine w_upto G (by walk_at "m:at") hw (by omega) a0 (r_loc G (by walk_at "m:at") ⟨_, _, rfl, rfl⟩) ?_
          intro v22 h22 nw22 tk22 hs22 G hw22
          have hea : ∃ an : Nat, at_ = an:= ⟨at_.toNat, tn_eq a0⟩
          obtain ⟨an, rfl⟩ := hea
          refine w_turned (n0 := an) G (by walk_at "m:at") (hw.mono hs22) (by omega) hf (fun tk => r_loc G (by walk_at "m:at") ⟨_, _, rfl, rfl⟩) (fun tk => ?_) ?_
          · refine wpAny_BinOp ?_
            walk_at "m:loc"
            refine r_intN ?_
            refine r_addN ?_
            exact ⟨_, _, rfl, rfl⟩
          intro v26 h26 nw26 tk26 wt hs26 G hw26 hft hlt
          refine r_addwords G (hw22.mono hs26) hw26 (Nat.le_trans (cutE hlt) hw0) ?_
          intro v27 h27 nw27 hs27 G hw27
          refine w_from (k := (an : Int) + 2) G (by walk_at "m:at") (hw.mono fun q hq => hs27 _ (hs26 _ (hs22 _ hq))) (by omega) (by omega) ?_ ?_
          · refine wpAny_BinOp ?_
            walk_at "m:loc"
            refine r_intN ?_
            refine r_addN ?_
            exact ⟨_, _, rfl, rfl⟩
          intro v23 h23 nw23 tk23 hs23 G hw23
          refine r_addwords G (hw27.mono hs23) hw23 (Nat.le_trans (cutD hlt) hw0) ?_
          intro v24 h24 nw24 hs24 G hw24
          walk_at "m:st"
          intro h25 tk25 G
          refine wpAny_execs_nil ?_
          refine wpAny_execs_nil ?_
          refine wpAny_execs_nil ?_
          exact ⟨rfl, h25, _, nw24, v24, _, rfl, G, fun q hq => hs24 _ (hs23 _ (hs27 _ (hs26 _ (hs22 _ hq)))), hw24, by rw [List.length_append]; exact Nat.le_succ_of_le (cutD hlt), ((hf.take _).app hft).app (hf.drop _)⟩
      obtain ⟨rfl, h, tk, nw2, v2, ws2, rfl, G, hs2, hw2, hl2, hf2⟩ := hs'
      refine wpAny_execs_nil ?_
      exact ⟨rfl, _, _, nw2, h, _, rfl, ⟨o19, _, v2, ws2, _, _, _, _, rfl, rfl, hp.mono hs2, bent_3 hn', hw2, bent_1 hl2 hl, hf2, fun q hq => hs2 _ (hsub _ hq)⟩, G.swap⟩
  · intro vs mu' nw' h tk hI_ G
    try k_fold
    obtain ⟨o', n', v, ws', k1, k2, k3, k4, rfl, rfl, hp, hn', hw, hl, hf, hsub⟩ := hI_
    refine wpAny_execs_cons ?_
    try k_fold
    refine wpAny_Return_some ?_
    walk_at "m:loc"
    exact hq _ _ _ nw' n' _ ws' hsub (bent_e hn' r1) hp G.G hw (Nat.le_trans hl (Nat.add_le_add_left (tn3 r1) _)) hf
end
end
section
variable [OSC]
/-- how a reading ends, by the law's own table; whatever has been drawn -/
structure ReadsZ (pcs : List (Wd × List Nat)) (o : Nat) (rl : Bool) (st : St) (h₀ : Heap) (fr : Led) (E : Value → Shared → Prop) : Prop where
  lb : ∀ k : Nat, lbAt pcs o = some k → CXZ h₀ fr 76 (fun od => PayT od k) E
  stop : lbAt pcs o = none → ∀ (i : Nat) (u : Wd × Nat), (toksOf pcs o)[i]? = some u → Rn rl (wsOf (toksOf pcs o)) st (some i) → CXZ h₀ fr 76 (fun od => PayT od u.2) E
theorem ReadsZ.reads {pcs : List (Wd × List Nat)} {o : Nat} {rl : Bool} {st : St} {h₀ : Heap} {fr : Led} {E : Value → Shared → Prop} {z : Shared} (h : ReadsZ pcs o rl st h₀ fr E) : Reads pcs o rl st h₀ z fr E :=
  ⟨fun k hk => (h.lb k hk).cx, fun hl i u hi hr => (h.stop hl i u hi hr).cx⟩
section
variable {w : World} {mg mb : Str → Option Value} {h₀ h : Heap} {mu nw fr : Led} {z : Shared} {tk : Nat} {A : Around} {E Q : Value → Shared → Prop} {outer : List Env} {text : Str} {t : Tok} {lead : List Nat} {pcs : List (Wd × List Nat)}
theorem readrule_spec (T : Text text lead pcs) (hl : pcs.length ≤ 39) (B : Bs w mg mb h₀) (G : Gh h₀ h mu nw) (hA : Room A 130) (O : Out A outer fr mu)
    (hq : lbAt pcs lead.length = none → Rn true (wsOf (toksOf pcs lead.length)) st0r none → ∀ z' h' tk' v nw', (∀ q ∈ nw, q ∈ nw') → Gh h₀ h' mu nw' → Q v (S z' h' tk'))
    (hE : ReadsZ pcs lead.length true st0r h₀ fr E) :
    wpAny (model PG w) A (call (.ref 276) [.str text t]) Q E (S z h tk) := by
  have hR : ∀ env, Room (A.deeper env) 129 := fun env => Room.deeper hA
  refine enter ["text", "reader", "found"] ["Reader"] [some (.str text t), none, none] B G hA.depth rfl rfl rfl rfl ⟨rfl, by decide, by decide, by decide, by decide⟩ rfl ?_ rfl rfl (by decide)
  intro L h₁ tk' ev Av Qv Ev G
  refine wpAny_execs_cons ?_
  try k_fold
  refine wpAny_Assign_Name ?_
  refine b_reader T G .head .head ((hR _).le (by omega)) (BO.of O rfl rfl) ?_ ?_
  rotate_left
  · intro k hk
    exact (EXZ.of O rfl rfl (hE.lb k hk)).ex
  intro hlb h2 tk2 x dx o2 wl nw2 hs2 hx G ho hw
  have g := good_toks (o := lead.length) (mo := 40) T.sep hl (by decide) hlb
  have ho : IsRD w o2 wl (0 : Nat) (0 : Nat) 40 := ho
  have hlen : 0 < (toksOf pcs lead.length).length := by rw [toksOf_len]; omega
  walk_at "m:st"
  intro h3 tk3 G
  refine wpAny_execs_cons ?_
  try k_fold
  refine wpAny_Assign_Name ?_
  refine mcall rfl ?_
  walk_at "m:loc"
  refine rm_rule G hx ho ?_
  refine callWith_K0 G.K (keep_fn2 w).2.2.2.1 ?_
  obtain ⟨oL, Gc, hn, back⟩ := G.call1
  refine rule_spec g hlen G.bs Gc ((hR _).le (by omega)) hx ho hw ((BO.of O rfl rfl).out hn) ?_ ?_
  rotate_left
  · intro i u hi hr
    exact (EXZ.of (E := E) O rfl rfl (hE.stop hlb i u hi hr)).cx hn
  intro z4 h4 tk4 o4 nw4 v4 p4 l4 lo4 hs4 ho G4 hlt4 hb
  have G := back _ _ _ _ G4
  have hx := hs4 _ hx
  have hw := hw.mono hs4
  try k_fold
  refine r_st (h := h4) G (by walk_at "m:setat") ?_
  intro h5 tk5 G
  obtain ⟨u, hp⟩ := tok_at hlt4
  refine wpAny_execs_cons ?_
  try k_fold
  refine wpAny_Expr ?_
  refine b_want (wd := .fin) rfl G rfl (by walk_at "m:at") ((hR _).le (by omega)) hx ho hw hp (BO.of O rfl rfl) ?_ ?_
  rotate_left
  · intro hne
    refine (EXZ.of O rfl rfl (hE.stop hlb p4 u hp ?_)).ex
    exact hb _ (Rn.miss (by decide) (ws_get hp) (by first | exact decide_eq_true hne | exact decide_eq_false hne | exact hne))
  intro hu h6 tk6 o6 ho G
  refine wpAny_execs_cons ?_
  try k_fold
  refine wpAny_Return_some ?_
  walk_at "m:loc"
  exact hq hlb (hb _ (Rn.eat (by decide) (ws_get hp) (by first | exact decide_eq_true hu | exact decide_eq_false hu | exact hu) (.done rfl))) _ _ _ _ nw4 (fun q hq => hs4 _ (hs2 _ hq)) G.G.lessM
end
end
section
noncomputable def begs : List (Wd × List Nat) → Nat → List Nat
  | [], _ => []
  | (w, s) :: r, o => o :: begs r (o + (chs w.str).length + s.length)
theorem laidC_app : ∀ (a b : List (Wd × List Nat)), laidC (a ++ b) = laidC a ++ laidC b
  | [], b => rfl
  | (w, s) :: r, b => by simp [laidC, laidC_app r b]
theorem begs_app : ∀ (a b : List (Wd × List Nat)) (o : Nat), begs (a ++ b) o = begs a o ++ begs b (o + (laidC a).length)
  | [], b, o => by simp [begs, laidC]
  | (w, s) :: r, b, o => by
    simp only [List.cons_append, begs, laidC, begs_app r b, List.length_append]
    congr 3
    omega
theorem begs_len : ∀ (a : List (Wd × List Nat)) (o : Nat), (begs a o).length = a.length
  | [], o => rfl
  | (w, s) :: r, o => by simp [begs, begs_len r]
theorem toks_begs : ∀ (pcs : List (Wd × List Nat)) (o : Nat), (toksOf pcs o).map (·.2) = begs pcs o ++ [o + (laidC pcs).length]
  | [], o => by simp [toksOf, begs, laidC]
  | (w, s) :: r, o => by
    simp only [toksOf, begs, laidC, List.map_cons, List.cons_append, toks_begs r, List.length_append]
    congr 3
    omega
theorem sepOk_of : ∀ (pcs : List (Wd × List Nat)), (∀ p ∈ pcs, p.1 ≠ .fin ∧ Blank p.2) → (∀ (i : Nat) p q, pcs[i]? = some p → pcs[i + 1]? = some q → p.1.op = true → q.1.op = true → p.2 ≠ []) → SepOk pcs
  | [], _, _ => trivial
  | [(w, s)], h, _ => h _ (.head _)
  | (w, s) :: (w', s') :: r, h, h2 => ⟨(h _ (.head _)).1, (h _ (.head _)).2, h2 0 _ _ rfl rfl, sepOk_of ((w', s') :: r) (fun p hp => h p (.tail _ hp)) fun i p q hp hq => h2 (i + 1) p q hp hq⟩
theorem lbAt_none_of : ∀ (pcs : List (Wd × List Nat)) (o : Nat), (∀ p ∈ pcs, p.1 ≠ .lb) → lbAt pcs o = none
  | [], o, _ => rfl
  | (w, s) :: r, o, h => by
    unfold lbAt
    rw [if_neg (h _ (.head _))]
    exact lbAt_none_of r _ fun p hp => h p (.tail _ hp)
theorem lbAt_index : ∀ (pcs : List (Wd × List Nat)) (o i : Nat), (pcs.map (·.1))[i]? = some .lb → (∀ j < i, (pcs.map (·.1))[j]? ≠ some .lb) → lbAt pcs o = (begs pcs o)[i]?
  | [], o, i, h, _ => by simp at h
  | (w, s) :: r, o, 0, h, _ => by
    simp at h
    simp [lbAt, begs, h]
  | (w, s) :: r, o, i + 1, h, h2 => by
    have h0 := h2 0 (Nat.succ_pos _)
    simp at h0
    unfold lbAt
    rw [if_neg h0]
    simp only [begs, List.getElem?_cons_succ]
    refine lbAt_index r _ i (by simpa using h) fun j hj => ?_
    have := h2 (j + 1) (by omega)
    simpa using this
theorem blank_app {a b : List Nat} (h : Blank a) (h' : Blank b) : Blank (a ++ b) := fun c hc => by
  rcases List.mem_append.mp hc with hc | hc
  · exact h c hc
  · exact h' c hc
end
section
variable [OSC]
theorem dict_nil {w : World} : IsD w { cls := .type "dict", data := .dict #[] } [] := by
  obtain ⟨o, ho, hd⟩ := Heap.dictOf_iff.mp (Heap.DictOf.new (knd := PySem.strKind PG w) (default : Heap))
  rw [Heap.get?_push_size _ rfl] at ho
  exact (Option.some.inj ho) ▸ hd
section
variable {w : World} {mg mb : Str → Option Value} {h₀ h h' : Heap} {env : Env} {ns gs : List Str} {vs vs' : List (Option Value)} {mu nw fr : Led} {z : Shared} {tk : Nat} {A : Around} {E Q : Value → Shared → Prop} {keys : List (Option Expr)} {values : List Expr} {pos : Pos}
theorem r_dictlit (hlit : strLits keys = true) (hall : keys.all (·.isSome) = true) (hl : keys.length = values.length) (h0 : keys ≠ []) (hlen : keys.length ≤ 15) (G : GS w mg mb h₀ env ns gs vs mu nw h)
    (hh : ∀ D o0 h1, GS w mg mb h₀ env ns gs vs ((D, o0) :: mu) nw h1 →
      wpAny (model PG w) A (evalPairs (pairTrees keys values env pos)) (fun ps s₁ => Ex4 fun h2 tk2 nw2 kvs => Al4 (s₁ = S z h2 tk2) (GS w mg mb h₀ env ns gs vs ((D, o0) :: mu) nw2 h2) (Carries (PySem.strKind PG w) ps kvs) (∀ h3 o' tk3, IsD w o' (merged [] kvs) → GS w mg mb h₀ env ns gs vs ((D, o') :: mu) nw2 h3 → Q (.ref D) (S z h3 tk3))) E (S z h1 tk)) :
    wpAny (model PG w) A (eval (.Dict keys values pos) env) Q E (S z h tk) := by
  obtain ⟨m, F, hlv⟩ := G.fr
  refine Dict_made_str hlit (s := S z h tk) F hall hl h0 hlen fun F' => ?_
  have Gp := G.pushM { cls := .type "dict", data := .dict #[] } rfl
  refine wpAny_mono (hh _ _ _ Gp) (fun ps s₁ hs => ?_) fun _ _ e => e
  obtain ⟨h2, tk2, nw2, kvs, rfl, G2, hc, hq⟩ := hs
  refine ⟨kvs, hc, G2.dict (.head _) dict_nil, fun h3 hd3 hs3 => ?_⟩
  obtain ⟨o', ho', hd'⟩ := Heap.dictOf_iff.mp hd3
  exact hq h3 o' _ hd' (G2.set1 hs3 ho')
end
/-- a method of what an expression gives -/
theorem mcallX {M : Model} {A : Around} {E Q : Value → Shared → Prop} {env : Env} {s : Shared} {name : Str} {args : List Expr} {o : Expr} {p2 p3 : Pos} (hl : (p2.endLine == p3.line) = true)
    (h : wpAny M A (eval o env) (fun ov s₁ => wpAny M A (getMethod ov name (do return (← importBound o env).getD true)) (fun fx s₂ => wpAny M A (callWith p3 fx.1 fx.2 (backTo p3 (starEach args env)) []) Q E s₂) E s₁) E s)
    (he : eval (.Call (.Attribute o name p2) args [] p3) env = (do
      let ov ← eval o env
      standAt p2.atName
      methodCall o name p2 p3 env ov (args.length + 0) (backTo p3 (starEach args env)) []) := by rfl)
    (hf : methodCallForm (args.length + 0) (backTo p3 (starEach args env)) [] = true := by rfl) :
    wpAny M A (eval (.Call (.Attribute o name p2) args [] p3) env) Q E s := by
  rw [he]
  refine wpAny_bind (wpAny_mono h (fun ov s₁ h₁ => wpAny_bind (wpAny_standAt ?_)) fun _ _ x => x)
  unfold methodCall calleeOf methodCallPos
  rw [hf, hl]
  simp only [if_true, Bool.not_true, Bool.false_or]
  refine wpAny_bind (wpAny_holding (wpAny_mono h₁ (fun fx s₂ h₂ => wpAny_bind (wpAny_pure h₂)) fun _ _ x => x))
noncomputable def Sg.str : Sg → Str
  | .term => "term" | .kids => "kids" | .papers => "papers" | .places => "places" | .paper => "paper" | .kind => "kind" | .rule => "rule" | .needs => "needs" | .more => "more"
  | .right => "right" | .made => "made" | .fin => "end" | .sign => "sign" | .name => "name" | .leaf => "leaf" | .op => "op" | .q .lp => "'(" | .q .rp => "')" | .q .cl => "':" | .q .ar => "'->" | .q .ifw => "'if" | .q .cm => "'," | .q _ => "'"
noncomputable def Sg.all : List Sg := [.term, .kids, .papers, .places, .paper, .kind, .rule, .needs, .more, .right, .made, .fin, .sign, .name, .leaf, .op, .q .lp, .q .rp, .q .cl, .q .ar, .q .ifw, .q .cm]
noncomputable abbrev IsG (v : Value) (s : Sg) : Prop := ∃ t, v = .str s.str t
inductive SgsAt (nw : Led) (v : Value) (l : List Sg) : Prop
  | mk (D : _) (vs : _) (n : _) (hyp1 : v = .ref D) (hyp2 : (D, lstO vs n) ∈ nw) (hyp3 : Fa2 IsG vs l) : SgsAt nw v l
theorem SgsAt.mono {nw nw' : Led} {v : Value} {l : List Sg} (h : SgsAt nw v l) (s : ∀ p ∈ nw, p ∈ nw') : SgsAt nw' v l := let ⟨D, vs, n, a, b, c⟩ := h; ⟨D, vs, n, a, s _ b, c⟩
theorem plain_str (x : Wd) : ((x.str != "") && (!(!(Builtin.Str.occurrences ("(),:" : Str) x.str 0 (Str.length "(),:") 1).isEmpty))) = x.plain :=
  (by decide +kernel : ∀ x ∈ Wd.all, ((x.str != "") && (!(!(Builtin.Str.occurrences ("(),:" : Str) x.str 0 (Str.length "(),:") 1).isEmpty))) = x.plain) x x.mem
theorem plain_fin {x : Wd} (h : (x.str != "") = false) : x.plain = false := (by decide +kernel : ∀ x ∈ Wd.all, (x.str != "") = false → x.plain = false) x x.mem h
theorem plain_in {x : Wd} (h : (x.str != "") = true) : (!(!(Builtin.Str.occurrences ("(),:" : Str) x.str 0 (Str.length "(),:") 1).isEmpty)) = x.plain := by rw [← plain_str, h, Bool.true_and]
end
section
variable [OSC]
theorem va_kids (a b c : Value) : valueAt (merged [] [(("kids" : Str), a), ("papers", b), ("places", c)]) Sg.kids.str = some a ∧ valueAt (merged [] [(("kids" : Str), a), ("papers", b), ("places", c)]) Sg.papers.str = some b ∧ valueAt (merged [] [(("kids" : Str), a), ("papers", b), ("places", c)]) Sg.places.str = some c := ⟨by kernel_rfl, by kernel_rfl, by kernel_rfl⟩
theorem va_kind (a b c d e f : Value) : ∀ x : Wd, valueAt (merged [] [(("same" : Str), a), ("told", b), ("rule", c), ("turn", d), ("join", e), ("under", f)]) x.str = (match x with | .same => some a | .told => some b | .rule => some c | .turn => some d | .join => some e | .under => some f | _ => none) := by
  intro x
  cases x <;> kernel_rfl
theorem sgw_eq {s : Sg} (hs : s.wide = true) {s' : Sg} (h' : s' ∈ Sg.wides) : (s.str == s'.str) = decide (s = s') :=
  (by decide +kernel : ∀ s ∈ Sg.wides, ∀ s' ∈ Sg.wides, (s.str == s'.str) = decide (s = s')) s (Sg.mem_wides hs) s' h'
theorem sgw_in3 {s : Sg} (hs : s.wide = true) : (List.any (["kids", "papers", "places"] : List Str) fun y => y == s.str) = decide (s = .kids ∨ s = .papers ∨ s = .places) :=
  (by decide +kernel : ∀ s ∈ Sg.wides, (List.any (["kids", "papers", "places"] : List Str) fun y => y == s.str) = decide (s = .kids ∨ s = .papers ∨ s = .places)) s (Sg.mem_wides hs)
theorem sgw_more {s : Sg} (hs : s.wide = true) (h : s ≠ .term ∧ ¬ (s = .kids ∨ s = .papers ∨ s = .places) ∧ s ≠ .paper ∧ s ≠ .kind ∧ s ≠ .rule ∧ s ≠ .needs) : s = .more :=
  (by decide +kernel : ∀ s ∈ Sg.wides, (s ≠ .term ∧ ¬ (s = .kids ∨ s = .papers ∨ s = .places) ∧ s ≠ .paper ∧ s ≠ .kind ∧ s ≠ .rule ∧ s ≠ .needs) → s = .more) s (Sg.mem_wides hs) h
theorem call_dict {ks : List (Option Expr)} {es : List Expr} {pd p2 p3 : Pos} {name : Str} {args : List Expr} {env : Env} : eval (.Call (.Attribute (.Dict ks es pd) name p2) args [] p3) env = (do
      let ov ← eval (.Dict ks es pd) env
      standAt p2.atName
      methodCall (.Dict ks es pd) name p2 p3 env ov (args.length + 0) (backTo p3 (starEach args env)) []) := rfl
theorem ifT {c : Bool} {X Y : Prop} (hc : c = true) (h : X) : if c = true then X else Y := by rw [if_pos hc]; exact h
theorem ifF {c : Bool} {X Y : Prop} (hc : c = false) (h : Y) : if c = true then X else Y := by rw [if_neg (by rw [hc]; decide)]; exact h
section
variable {w : World} {mg mb : Str → Option Value} {h₀ h h' : Heap} {env : Env} {ns gs : List Str} {vs vs' : List (Option Value)} {mu nw fr : Led} {z : Shared} {tk : Nat} {A : Around} {E Q : Value → Shared → Prop} {t1 t2 : Tok}
theorem r_getMd {pl : Sem Bool} {Q : Value × List Value → Shared → Prop} {d : Addr} {o : Obj} {kvs : List (Str × Value)} (G : GS w mg mb h₀ env ns gs vs mu nw h) (hm : (d, o) ∈ mu ++ nw) (hd : IsD w o kvs) (hq : Q (.builtin "dict.get", [.ref d]) (S z h tk)) :
    wpAny (model PG w) A (getMethod (.ref d) "get" pl) Q E (S z h tk) := by
  have hD := G.dict hm hd
  exact getMethod_builtin (s := S z h tk) hD.typeIs PySem.F.plainAttrs_dict PySem.F.slot_dict_get (by kernel_rfl) hD.mapOf.noDict hq
theorem Fa2.one {v : Value} {s : Sg} (h : IsG v s) : Fa2 IsG [v] [s] := .cons h .nil
local macro_rules | `(tactic| walk_at "w:test") => `(tactic| (refine wpAny_execs_cons ?_; try k_fold; refine wpAny_If ?_; try k_fold; refine wpAny_isTrue_Compare1 ?_; walk_at "m:loc"; refine r_strN ?_; refine PyProof.Rows.eq_str ?_; refine wpAny_truthy_bool ?_))
local macro_rules | `(tactic| walk_at "w:word") => `(tactic| (refine wpAny_isTrue_Compare1 ?_; walk_at "m:loc"; refine r_strN ?_; refine PyProof.Rows.eq_str ?_; refine wpAny_truthy_bool ?_))
local macro_rules | `(tactic| walk_at "w:strs") => `(tactic| ((repeat (with_reducible refine args_cons ?_; with_reducible refine r_strN ?_)); with_reducible refine args_nil ?_))
set_option hygiene false in
local macro_rules | `(tactic| walk_at "w:in3") => `(tactic| (refine wpAny_execs_cons ?_; try k_fold; refine wpAny_If ?_; try k_fold; refine wpAny_isTrue_Compare1 ?_; walk_at "m:loc"; refine Tuple_ ?_; walk_at "m:strs"; refine r_tup (by show 3 ≤ 2 ^ 24; decide) G (fun T hT G => ?_); refine in_tuple_strs (s := S z hT _) (ys := ["kids", "papers", "places"]) ⟨_, G.G.get (.head _), rfl, 0, rfl⟩ (.cons _ _ (.cons _ _ (.cons _ _ .nil))) ?_; refine wpAny_truthy_bool ?_))
local macro_rules | `(tactic| walk_at "w:pair") => `(tactic| (with_reducible refine pairTrees_cons_walk ?_; refine r_strN ?_; refine List_ ?_; walk_at "m:strs"))
set_option maxHeartbeats 1000000 in
theorem wanted_spec {s : Sg} {x : Wd} (B : Bs w mg mb h₀) (G : Gh h₀ h mu nw) (hA : Room A 2) (hs : s.wide = true)
    (hq : ∀ h' tk' nw' v, (∀ q ∈ nw, q ∈ nw') → Gh h₀ h' mu nw' → (match wanted s x with | none => v = .none | some l => SgsAt nw' v l) → Q v (S z h' tk')) :
    wpAny (model PG w) A (call (.ref 333) [.str s.str t1, .str x.str t2]) Q E (S z h tk) := by
  refine enter ["sign", "word", "is_plain", "late"] [] [some (.str s.str t1), some (.str x.str t2), none, none] B G hA.depth rfl rfl rfl rfl ⟨rfl, by decide, by decide, by decide, by decide⟩ rfl ?_ rfl rfl (by decide)
  intro L h₁ tk' ev Av Qv Ev G
  have sub1 : ∀ {D : Addr × Obj}, ∀ q ∈ nw, q ∈ D :: nw := fun q hq => .tail _ hq
  refine wpAny_execs_cons ?_
  try k_fold
  refine wpAny_Assign_Name ?_
  try k_fold
  refine wpAny_mono (Q := fun v s' => v = .bool x.plain ∧ ∃ tk, s' = S z h₁ tk) ?_ (fun v s' hv => ?_) (fun _ _ x => x)
  try k_fold
  · refine BoolOp_and ?_
    refine wpAny_Compare1 ?_
    walk_at "m:loc"
    refine r_strN ?_
    refine PyProof.Rows.ne_str ?_
    refine wpAny_truthy_bool ?_
    refine ifs (fun hc => ?_) (fun hc => ?_)
    · refine BoolOp_one ?_
      refine wpAny_Compare1 ?_
      walk_at "m:loc"
      refine r_strN ?_
      refine PyProof.Rows.notIn_str ?_
      exact ⟨by rw [plain_in hc], _, rfl⟩
    · exact ⟨by rw [hc, plain_fin hc], _, rfl⟩
  obtain ⟨rfl, tk2, rfl⟩ := hv
  walk_at "m:st"
  intro h3 tk3 G
  walk_at "w:test"
  change if (s.str == Sg.term.str) = true then _ else _
  rw [sgw_eq hs (by decide)]
  refine ifs (fun hb => ?_) (fun n1 => ?_)
  -- term
  · obtain rfl : s = .term := of_decide_eq_true hb
    refine wpAny_execs_cons ?_
    try k_fold
    refine wpAny_Return_some ?_
    refine wpAny_IfExp ?_
    walk_at "w:word"
    change if (x.str == Wd.lp.str) = true then _ else _
    rw [Wd.beq]
    refine ifs (fun hb => ?_) (fun hb => ?_)
    · have hx : x = .lp := of_decide_eq_true hb
      subst hx
      refine List_ ?_
      walk_at "m:strs"
      refine r_list (by show 4 ≤ 2 ^ 24; decide) G (fun D h4 G => ?_)
      exact hq _ _ _ _ sub1 G.G ⟨D, _, 0, rfl, .head _, by walk_at "m:fa"⟩
    · have hx : x ≠ .lp := of_decide_eq_false hb
      refine wpAny_IfExp ?_
      refine wpAny_isTrue_value ?_
      walk_at "m:loc"
      refine wpAny_truthy_bool ?_
      refine ifs (fun hc => ?_) (fun hc => ?_)
      · refine List_ ?_
        walk_at "m:strs"
        refine r_list (by show 1 ≤ 2 ^ 24; decide) G (fun D h4 G => ?_)
        refine hq _ _ _ _ sub1 G.G ?_
        rw [show wanted .term x = some [.leaf] by first | exact (if_neg hx).trans (if_pos hc) | exact (if_neg hx).trans (if_neg (by rw [hc]; exact Bool.false_ne_true))]
        exact ⟨D, _, 0, rfl, .head _, by walk_at "m:fa"⟩
      · refine wpAny_Constant_none ?_
        refine hq _ _ _ _ (fun _ h => h) G.G ?_
        rw [show wanted .term x = none by first | exact (if_neg hx).trans (if_pos hc) | exact (if_neg hx).trans (if_neg (by rw [hc]; exact Bool.false_ne_true))]
  refine wpAny_execs_nil ?_
  walk_at "w:in3"
  rw [sgw_in3 hs]
  have G := G.less
  refine ifs (fun hk => ?_) (fun n2 => ?_)
  -- kids papers places
  · have hk : s = .kids ∨ s = .papers ∨ s = .places := of_decide_eq_true hk
    · skip
      refine wpAny_execs_cons ?_
      try k_fold
      refine wpAny_If ?_
      try k_fold
      walk_at "w:word"
      change if (x.str == Wd.rp.str) = true then _ else _
      rw [Wd.beq]
      refine ifs (fun hb => ?_) (fun hb => ?_)
      · have hx : x = .rp := of_decide_eq_true hb
        subst hx
        refine wpAny_execs_cons ?_
        try k_fold
        refine wpAny_Return_some ?_
        refine List_ ?_
        walk_at "m:strs"
        refine r_list (by show 1 ≤ 2 ^ 24; decide) G (fun D h4 G => ?_)
        refine hq _ _ _ _ sub1 G.G ?_
        rcases hk with rfl | rfl | rfl <;> exact ⟨D, _, 0, rfl, .head _, by walk_at "m:fa"⟩
      · have hx : x ≠ .rp := of_decide_eq_false hb
        refine wpAny_execs_nil ?_
        refine wpAny_execs_cons ?_
        try k_fold
        refine wpAny_Assign_Name ?_
        with_reducible refine r_dictlit ?_ ?_ ?_ ?_ ?_ G ?_
        · rfl
        · rfl
        · rfl
        · simp
        · decide
        intro D o0 h5 G
        with_reducible refine pairTrees_cons_walk ?_
        refine r_strN ?_
        refine List_ ?_
        walk_at "m:strs"
        refine r_list (by show 2 ≤ 2 ^ 24; decide) G (fun D1 h6 G => ?_)
        with_reducible refine pairTrees_cons_walk ?_
        refine r_strN ?_
        refine List_ ?_
        walk_at "m:strs"
        refine r_list (by show 2 ≤ 2 ^ 24; decide) G (fun D2 h7 G => ?_)
        with_reducible refine pairTrees_cons_walk ?_
        refine r_strN ?_
        refine List_ ?_
        walk_at "m:strs"
        refine r_list (by show 3 ≤ 2 ^ 24; decide) G (fun D3 h8 G => ?_)
        with_reducible refine pairTrees_nil_walk ?_
        refine ⟨h8, _, _, [("kids", .ref D1), ("papers", .ref D2), ("places", .ref D3)], rfl, G, ⟨PySem.strKind_is PG w _ _, rfl, PySem.strKind_is PG w _ _, rfl, PySem.strKind_is PG w _ _, rfl, trivial⟩, fun h9 o9 tk9 hd G => ?_⟩
        walk_at "m:st"
        intro h10 tk10 G
        refine wpAny_execs_cons ?_
        try k_fold
        refine wpAny_Return_some ?_
        refine Subscript_ ?_
        walk_at "m:loc"
        walk_at "m:loc"
        rcases hk with rfl | rfl | rfl
        all_goals refine r_getdict G (List.mem_append_left _ (.head _)) hd (by first | with_reducible exact (va_kids _ _ _).1 | with_reducible exact (va_kids _ _ _).2.1 | with_reducible exact (va_kids _ _ _).2.2) ?_
        all_goals intro tk11
        all_goals refine hq _ _ _ _ (fun q hq => .tail _ (.tail _ (.tail _ hq))) G.G.lessM ?_
        all_goals first | rw [show wanted .kids x = some [.term, .kids] from if_neg hx] | rw [show wanted .papers x = some [.paper, .papers] from if_neg hx] | rw [show wanted .places x = some [.name, .term, .places] from if_neg hx]
        all_goals first
          | exact ⟨D1, _, 0, rfl, .tail _ (.tail _ (.head _)), by walk_at "m:fa"⟩
          | exact ⟨D2, _, 0, rfl, .tail _ (.head _), by walk_at "m:fa"⟩
          | exact ⟨D3, _, 0, rfl, .head _, by walk_at "m:fa"⟩
  refine wpAny_execs_nil ?_
  walk_at "w:test"
  change if (s.str == Sg.paper.str) = true then _ else _
  rw [sgw_eq hs (by decide)]
  refine ifs (fun hb => ?_) (fun n3 => ?_)
  -- paper
  · obtain rfl : s = .paper := of_decide_eq_true hb
    refine wpAny_execs_cons ?_
    try k_fold
    refine wpAny_Return_some ?_
    refine List_ ?_
    walk_at "m:strs"
    refine r_list (by show 2 ≤ 2 ^ 24; decide) G (fun D h4 G => ?_)
    exact hq _ _ _ _ sub1 G.G ⟨D, _, 0, rfl, .head _, by walk_at "m:fa"⟩
  refine wpAny_execs_nil ?_
  walk_at "w:test"
  change if (s.str == Sg.kind.str) = true then _ else _
  rw [sgw_eq hs (by decide)]
  refine ifs (fun hb => ?_) (fun n4 => ?_)
  -- kind
  · obtain rfl : s = .kind := of_decide_eq_true hb
    with_reducible refine wpAny_execs_cons ?_
    try k_fold
    with_reducible refine wpAny_Return_some ?_
    with_reducible refine mcallX ?_ ?_ call_dict ?_
    · rfl
    rotate_left
    · rfl
    with_reducible refine r_dictlit ?_ ?_ ?_ ?_ ?_ G ?_
    · rfl
    · rfl
    · rfl
    · simp
    · decide
    intro D o0 h5 G
    with_reducible refine pairTrees_cons_walk ?_
    with_reducible refine r_strN ?_
    with_reducible refine List_ ?_
    walk_at "m:strs"
    with_reducible refine r_list (l := _) ?_ G ?_
    · show 3 ≤ 2 ^ 24
      decide
    intro D1 h6 G
    with_reducible refine pairTrees_cons_walk ?_
    with_reducible refine r_strN ?_
    with_reducible refine List_ ?_
    walk_at "m:strs"
    with_reducible refine r_list (l := _) ?_ G ?_
    · show 3 ≤ 2 ^ 24
      decide
    intro D2 h6 G
    with_reducible refine pairTrees_cons_walk ?_
    with_reducible refine r_strN ?_
    with_reducible refine List_ ?_
    walk_at "m:strs"
    with_reducible refine r_list (l := _) ?_ G ?_
    · show 3 ≤ 2 ^ 24
      decide
    intro D3 h6 G
    with_reducible refine pairTrees_cons_walk ?_
    with_reducible refine r_strN ?_
    with_reducible refine List_ ?_
    walk_at "m:strs"
    with_reducible refine r_list (l := _) ?_ G ?_
    · show 3 ≤ 2 ^ 24
      decide
    intro D4 h6 G
    with_reducible refine pairTrees_cons_walk ?_
    with_reducible refine r_strN ?_
    with_reducible refine List_ ?_
    walk_at "m:strs"
    with_reducible refine r_list (l := _) ?_ G ?_
    · show 4 ≤ 2 ^ 24
      decide
    intro D5 h6 G
    with_reducible refine pairTrees_cons_walk ?_
    with_reducible refine r_strN ?_
    with_reducible refine List_ ?_
    walk_at "m:strs"
    with_reducible refine r_list (l := _) ?_ G ?_
    · show 3 ≤ 2 ^ 24
      decide
    intro D6 h6 G
    with_reducible refine pairTrees_nil_walk ?_
    refine ⟨h6, _, _, [("same", .ref D1), ("told", .ref D2), ("rule", .ref D3), ("turn", .ref D4), ("join", .ref D5), ("under", .ref D6)], rfl, G,
      ⟨PySem.strKind_is PG w _ _, rfl, PySem.strKind_is PG w _ _, rfl, PySem.strKind_is PG w _ _, rfl, PySem.strKind_is PG w _ _, rfl, PySem.strKind_is PG w _ _, rfl, PySem.strKind_is PG w _ _, rfl, trivial⟩, fun h9 o9 tk9 hd G => ?_⟩
    with_reducible refine r_getMd G (List.mem_append_left _ (List.mem_cons_self ..)) hd ?_
    refine cw_b ?_
    refine args_cons ?_
    walk_at "m:loc"
    refine args_nil ?_
    have hD := G.dict (List.mem_append_left _ (.head _)) hd
    refine call_meetsIn (s := S z h9 tk9) PySem.F.slot_dict_get hD.typeIs PySem.F.entry_dict_get (PySem.F.args_dict_get_2 _ _) (meets_dict_get (PySem.strKind PG w) D (PySem.strKind_is PG w x.str t2) (G.notMods (List.mem_append_left _ (.head _)))) ⟨_, hD.mapOf, ?_⟩
    refine hq _ _ _ _ (fun q hq => .tail _ (.tail _ (.tail _ (.tail _ (.tail _ (.tail _ hq)))))) G.G.lessM ?_
    rw [va_kind]
    cases x <;> first
      | exact (rfl : (Option.getD (none : Option Value) Value.none) = Value.none)
      | exact ⟨D1, _, 0, rfl, .tail _ (.tail _ (.tail _ (.tail _ (.tail _ (.head _))))), by walk_at "m:fa"⟩
      | exact ⟨D2, _, 0, rfl, .tail _ (.tail _ (.tail _ (.tail _ (.head _)))), by walk_at "m:fa"⟩
      | exact ⟨D3, _, 0, rfl, .tail _ (.tail _ (.tail _ (.head _))), by walk_at "m:fa"⟩
      | exact ⟨D4, _, 0, rfl, .tail _ (.tail _ (.head _)), by walk_at "m:fa"⟩
      | exact ⟨D5, _, 0, rfl, .tail _ (.head _), by walk_at "m:fa"⟩
      | exact ⟨D6, _, 0, rfl, .head _, by walk_at "m:fa"⟩
  refine wpAny_execs_nil ?_
  walk_at "w:test"
  change if (s.str == Sg.rule.str) = true then _ else _
  rw [sgw_eq hs (by decide)]
  refine ifs (fun hb => ?_) (fun n5 => ?_)
  -- rule
  · obtain rfl : s = .rule := of_decide_eq_true hb
    refine wpAny_execs_cons ?_
    try k_fold
    refine wpAny_Return_some ?_
    refine List_ ?_
    walk_at "m:strs"
    refine r_list (by show 7 ≤ 2 ^ 24; decide) G (fun D h4 G => ?_)
    exact hq _ _ _ _ sub1 G.G ⟨D, _, 0, rfl, .head _, by walk_at "m:fa"⟩
  refine wpAny_execs_nil ?_
  walk_at "w:test"
  change if (s.str == Sg.needs.str) = true then _ else _
  rw [sgw_eq hs (by decide)]
  refine ifs (fun hb => ?_) (fun n6 => ?_)
  -- needs
  · obtain rfl : s = .needs := of_decide_eq_true hb
    refine wpAny_execs_cons ?_
    try k_fold
    refine wpAny_Return_some ?_
    refine wpAny_IfExp ?_
    walk_at "w:word"
    change if (x.str == Wd.ifw.str) = true then _ else _
    rw [Wd.beq]
    refine ifs (fun hb => ?_) (fun hb => ?_)
    · have hx : x = .ifw := of_decide_eq_true hb
      subst hx
      refine List_ ?_
      walk_at "m:strs"
      refine r_list (by show 5 ≤ 2 ^ 24; decide) G (fun D h4 G => ?_)
      exact hq _ _ _ _ sub1 G.G ⟨D, _, 0, rfl, .head _, by walk_at "m:fa"⟩
    · have hx : x ≠ .ifw := of_decide_eq_false hb
      refine List_ ?_
      walk_at "m:strs"
      refine r_list (by show 2 ≤ 2 ^ 24; decide) G (fun D h4 G => ?_)
      refine hq _ _ _ _ sub1 G.G ?_
      first | rw [show wanted .needs x = some [.made, .fin] from if_neg hx] | rw [show wanted .more x = some [.made, .fin] from if_neg hx]
      exact ⟨D, _, 0, rfl, .head _, by walk_at "m:fa"⟩
  -- more
  · obtain rfl : s = .more := sgw_more hs ⟨of_decide_eq_false n1, of_decide_eq_false n2, of_decide_eq_false n3, of_decide_eq_false n4, of_decide_eq_false n5, of_decide_eq_false n6⟩
    refine wpAny_execs_nil ?_
    refine wpAny_execs_cons ?_
    try k_fold
    refine wpAny_Return_some ?_
    refine wpAny_IfExp ?_
    walk_at "w:word"
    change if (x.str == Wd.cm.str) = true then _ else _
    rw [Wd.beq]
    refine ifs (fun hb => ?_) (fun hb => ?_)
    · have hx : x = .cm := of_decide_eq_true hb
      subst hx
      refine List_ ?_
      walk_at "m:strs"
      refine r_list (by show 5 ≤ 2 ^ 24; decide) G (fun D h4 G => ?_)
      exact hq _ _ _ _ sub1 G.G ⟨D, _, 0, rfl, .head _, by walk_at "m:fa"⟩
    · have hx : x ≠ .cm := of_decide_eq_false hb
      refine List_ ?_
      walk_at "m:strs"
      refine r_list (by show 2 ≤ 2 ^ 24; decide) G (fun D h4 G => ?_)
      refine hq _ _ _ _ sub1 G.G ?_
      first | rw [show wanted .needs x = some [.made, .fin] from if_neg hx] | rw [show wanted .more x = some [.made, .fin] from if_neg hx]
      exact ⟨D, _, 0, rfl, .head _, by walk_at "m:fa"⟩
end
end
section
variable [OSC]
theorem Sg.sz (s : Sg) : s.str.length ≤ sizeLine := by
  refine Nat.le_trans (m := 6) ?_ (by decide)
  cases s <;> first | (rename_i w; cases w <;> decide +kernel) | decide +kernel
noncomputable def Sg.isQ : Sg → Bool
  | .q _ => true
  | _ => false
theorem sg_q (s : Sg) : (Txt.slice s.str none (some 1) == ("'" : Str)) = s.isQ := by
  cases s <;> first | (rename_i w; cases w <;> decide +kernel) | decide +kernel
theorem sg_rest {y : Wd} (h : Sg.q y ∈ Sg.all) : Txt.slice (Sg.q y).str (some 1) none = y.str :=
  (by decide +kernel : ∀ y ∈ Wd.all, Sg.q y ∈ Sg.all → Txt.slice (Sg.q y).str (some 1) none = y.str) y y.mem h
theorem wd_var (x : Wd) : (Txt.slice x.str none (some 1) == ("?" : Str)) = x.var := (by decide +kernel : ∀ x ∈ Wd.all, (Txt.slice x.str none (some 1) == ("?" : Str)) = x.var) x x.mem
theorem wd_sign (x : Wd) : (List.any (["=", "!="] : List Str) fun y => y == x.str) = isWord .sign x := (by decide +kernel : ∀ x ∈ Wd.all, (List.any (["=", "!="] : List Str) fun y => y == x.str) = isWord .sign x) x x.mem
section
variable {w : World} {mg mb : Str → Option Value} {h₀ h h' : Heap} {env : Env} {ns gs : List Str} {vs vs' : List (Option Value)} {mu nw fr : Led} {z : Shared} {tk : Nat} {A : Around} {E Q : Value → Shared → Prop} {t1 t2 : Tok}
local macro_rules | `(tactic| walk_at "w:ne") => `(tactic| (refine wpAny_execs_cons ?_; refine wpAny_If ?_; refine wpAny_isTrue_Compare1 ?_; walk_at "m:loc"; refine r_strN ?_; refine PyProof.Rows.eq_str ?_; refine wpAny_truthy_bool ?_; with_reducible refine ifF (by decide +kernel) ?_; refine wpAny_execs_nil ?_))
local macro_rules | `(tactic| walk_at "w:eq") => `(tactic| (refine wpAny_execs_cons ?_; refine wpAny_If ?_; refine wpAny_isTrue_Compare1 ?_; walk_at "m:loc"; refine r_strN ?_; refine PyProof.Rows.eq_str ?_; refine wpAny_truthy_bool ?_; with_reducible refine ifT (by decide +kernel) ?_))
theorem isword_spec {s : Sg} {x : Wd} (B : Bs w mg mb h₀) (G : Gh h₀ h mu nw) (hA : Room A 2) (hs : s ∈ Sg.all) (hw : s.wide = false) (hr : s ≠ .right) (hm : s ≠ .made)
    (hq : ∀ h' tk', Gh h₀ h' mu nw → Q (.bool (isWord s x)) (S z h' tk')) :
    wpAny (model PG w) A (call (.ref 340) [.str s.str t1, .str x.str t2]) Q E (S z h tk) := by
  refine enter ["sign", "word"] [] [some (.str s.str t1), some (.str x.str t2)] B G hA.depth rfl rfl rfl rfl ⟨rfl, by decide, by decide, by decide, by decide⟩ rfl ?_ rfl rfl (by decide)
  intro L h₁ tk' ev Av Qv Ev G
  refine wpAny_execs_cons ?_
  try k_fold
  refine wpAny_If ?_
  try k_fold
  refine wpAny_isTrue_Compare1 ?_
  refine Subscript_ ?_
  walk_at "m:loc"
  refine Slice_ns ?_
  refine r_intN ?_
  refine r_slice_ns G s.sz ?_
  intro h4 t4 tk4 G
  refine r_strN ?_
  refine PyProof.Rows.eq_str ?_
  refine wpAny_truthy_bool ?_
  rw [sg_q]
  refine ifs (fun hb => ?_) (fun hb => ?_)
  · obtain ⟨y, rfl⟩ : ∃ y, s = .q y:= by
      cases s <;> first | (cases hb; done) | exact ⟨_, rfl⟩
    refine wpAny_execs_cons ?_
    try k_fold
    refine wpAny_Return_some ?_
    refine wpAny_Compare1 ?_
    walk_at "m:loc"
    refine Subscript_ ?_
    walk_at "m:loc"
    refine Slice_sn ?_
    refine r_intN ?_
    refine r_slice_sn G (Sg.sz _) ?_
    intro h7 t7 tk7 G
    rw [sg_rest hs]
    refine PyProof.Rows.eq_str ?_
    rw [Wd.beq]
    exact hq _ _ G.G
  refine wpAny_execs_nil ?_
  cases s <;> first | (cases hb; done) | (cases hw; done) | exact absurd rfl hr | exact absurd rfl hm | skip
  -- fin, sign, name, leaf, op
  rotate_left
  · walk_at "w:eq"
    refine wpAny_execs_cons ?_
    try k_fold
    refine wpAny_Return_some ?_
    refine wpAny_Compare1 ?_
    walk_at "m:loc"
    refine Tuple_ ?_
    walk_at "m:strs"
    refine r_tup (by show 2 ≤ 2 ^ 24; decide) G (fun T h6 G => ?_)
    refine in_tuple_strs (s := S z h6 _) (ys := ["=", "!="]) ⟨_, G.G.get (.head _), rfl, 0, rfl⟩ (.cons _ _ (.cons _ _ .nil)) ?_
    rw [wd_sign]
    exact hq _ _ G.less.G
  · walk_at "w:ne"
    walk_at "w:eq"
    refine wpAny_execs_cons ?_
    try k_fold
    refine wpAny_Return_some ?_
    refine wpAny_Compare1 ?_
    refine Subscript_ ?_
    walk_at "m:loc"
    refine Slice_ns ?_
    refine r_intN ?_
    refine r_slice_ns G x.sz ?_
    intro h7 t7 tk7 G
    refine r_strN ?_
    refine PyProof.Rows.eq_str ?_
    rw [wd_var]
    exact hq _ _ G.G
  iterate 2
    · walk_at "w:ne"
      walk_at "w:ne"
      refine wpAny_execs_cons ?_
      try k_fold
      refine wpAny_Return_some ?_
      refine wpAny_IfExp ?_
      refine wpAny_isTrue_Compare1 ?_
      walk_at "m:loc"
      refine r_strN ?_
      refine PyProof.Rows.eq_str ?_
      refine wpAny_truthy_bool ?_
      with_reducible refine ifF (by decide +kernel) ?_
      refine BoolOp_and ?_
      refine wpAny_Compare1 ?_
      walk_at "m:loc"
      refine r_str ?_
      intro t7
      refine PyProof.Rows.ne_str ?_
      refine wpAny_truthy_bool ?_
      refine ifs (fun hc => ?_) (fun hc => ?_)
      · refine BoolOp_one ?_
        refine wpAny_Compare1 ?_
        walk_at "m:loc"
        refine r_strN ?_
        refine PyProof.Rows.notIn_str ?_
        rw [plain_in hc]
        exact hq _ _ G.G
      · rw [hc, ← plain_fin hc]
        exact hq _ _ G.G
  · walk_at "w:ne"
    walk_at "w:ne"
    refine wpAny_execs_cons ?_
    try k_fold
    refine wpAny_Return_some ?_
    refine wpAny_IfExp ?_
    refine wpAny_isTrue_Compare1 ?_
    walk_at "m:loc"
    refine r_strN ?_
    refine PyProof.Rows.eq_str ?_
    refine wpAny_truthy_bool ?_
    with_reducible refine ifT (by decide +kernel) ?_
    refine wpAny_Compare1 ?_
    walk_at "m:loc"
    refine r_str ?_
    intro t7
    refine PyProof.Rows.eq_str ?_
    have hxf : (x.str == ("" : Str)) = isWord .fin x := Wd.beq x .fin
    rw [hxf]
    exact hq _ _ G.G
end
end
section
variable [OSC]
inductive Kd where
  | term | rule | paper
noncomputable def Kd.str : Kd → Str
  | .term => "term" | .rule => "rule" | .paper => "paper"
noncomputable def Kd.rl : Kd → Bool
  | .rule => true
  | _ => false
noncomputable def Kd.st : Kd → St
  | .term => st0 .term
  | .rule => st0r
  | .paper => st0 .paper
/-- what a reading tells -/
noncomputable def Told (pcs : List (Wd × List Nat)) (o : Nat) (k : Kd) (v : Value) : Prop :=
  (∀ p : Nat, lbAt pcs o = some p → ∃ t, v = .int (p : Nat) t) ∧
  (lbAt pcs o = none → (v = .none ∧ Rn k.rl (wsOf (toksOf pcs o)) k.st none) ∨ Ex3 fun (i : Nat) (u : Wd × Nat) (t : Tok) => Al3 ((toksOf pcs o)[i]? = some u) (Rn k.rl (wsOf (toksOf pcs o)) k.st (some i)) (v = .int (u.2 : Nat) t))
theorem keep_reads (w : World) : keepIn (KK w) (.ref 269) = true ∧ keepIn (KK w) (.ref 276) = true ∧ keepIn (KK w) (.ref 283) = true := ⟨by kernel_rfl, by kernel_rfl, by kernel_rfl⟩
theorem slots_refl : ∀ fr : Led, SlotsOf fr fr
  | [] => .nil
  | (a, o) :: fr => .cons ⟨rfl, o.slots, rfl⟩ (slots_refl fr)
/-- the heap without one object -/
noncomputable def dropAt (h : Heap) (L : Addr) : Heap := h.update L fun o => { o with data := .freed }
theorem dropAt_self (h : Heap) (L : Addr) : (dropAt h L).get? L = none := by
  cases e : (dropAt h L).get? L with
  | none => rfl
  | some o =>
    obtain ⟨e1, e2⟩ := Heap.get?_some_iff.mp e
    unfold dropAt at e1
    cases h
    simp only [Heap.update, Array.getElem?_modify, if_true, Option.map_eq_some_iff] at e1
    obtain ⟨o', _, rfl⟩ := e1
    simp [Obj.isFreed] at e2
theorem dropAt_other (h : Heap) {L b : Addr} (hb : b ≠ L) : (dropAt h L).get? b = h.get? b := Heap.get?_update_other _ _ (Ne.symm hb)
theorem dropAt_mem {h : Heap} {L b : Addr} {o : Obj} (e : (dropAt h L).get? b = some o) : b ≠ L ∧ h.get? b = some o := by
  have hb : b ≠ L := fun q => by rw [q, dropAt_self] at e; cases e
  exact ⟨hb, (dropAt_other h hb).symm.trans e⟩
theorem dropAt_size (h : Heap) (L : Addr) : (dropAt h L).objs.size = h.objs.size := Heap.size_after_update _ _ _
section
variable {w : World} {mg mb : Str → Option Value} {h₀ h h' : Heap} {env : Env} {ns gs : List Str} {vs vs' : List (Option Value)} {mu nw fr : Led} {z : Shared} {tk : Nat} {A : Around} {E Q : Value → Shared → Prop} {outer : List Env} {text : Str} {t tk1 : Tok} {lead : List Nat} {pcs : List (Wd × List Nat)}
/-- a call that may only lean on what stands: all but the frame of the caller -/
theorem rebase (G : GS w mg mb h₀ env ns gs vs mu nw h) : ∃ oL, (∀ u, oL.data ≠ .fields u) ∧ Bs w mg mb (dropAt h env.locals) ∧ Gh (dropAt h env.locals) h [(env.locals, oL)] [] ∧ ∀ h' oL', (∃ sl, oL' = { oL with slots := sl }) → h'.get? env.locals = some oL' → (∀ b o, (dropAt h env.locals).get? b = some o → h'.get? b = some o) → GS w mg mb h₀ env ns gs vs mu nw h':= by
  obtain ⟨m, ⟨o, es, ep, ho, hd, hk, hf⟩, hl⟩ := G.ns_
  have up : ∀ b ob, h₀.get? b = some ob → (dropAt h env.locals).get? b = some ob := fun b ob e =>
    (dropAt_other h (Nat.ne_of_lt (Nat.lt_of_lt_of_le (Heap.lt_size e) G.above))).trans (G.G.stays b ob e)
  refine ⟨o, (fun u e => by rw [hd] at e; cases e), G.bs.keep up, ⟨fun b ob e => (dropAt_mem e).2, Nat.le_of_eq (dropAt_size _ _), fun p hp => ?_, by simp, fun p _ q hq => nomatch hq⟩, fun h' oL' hsl ho' keep => ?_⟩
  · rcases List.mem_cons.mp hp with rfl | hp
    · exact ⟨ho, dropAt_self _ _⟩
    · cases hp
  · obtain ⟨sl, rfl⟩ := hsl
    refine ⟨G.bs, G.sc, G.eg, G.eb, ⟨m, ⟨_, es, ep, ho', hd, hk, hf⟩, hl⟩, G.above, ⟨fun b ob e => keep b ob (up b ob e), Nat.le_of_lt (Nat.lt_of_le_of_lt G.above (Heap.lt_size ho')), fun p hp => ⟨keep _ _ ((dropAt_other h (G.ne p hp)).trans (G.G.has p hp).1), (G.G.has p hp).2⟩, G.G.nd, G.G.apart⟩, G.ne⟩
theorem spot_catch {k : Int} {oL : Obj} {Q : Flow → Shared → Prop} {p1 p2 p3 p4 p5 : Pos} (O : BO A env outer fr mu) (G : GS w mg mb h₀ env ns gs vs mu nw h) (hoL : h.get? env.locals = some oL) (hg : Has gs "TextFault") (hset : ∀ e, ∃ vs', SetAt ns vs "fault" (.ref e) vs' ∧ At ns vs' "fault" (.ref e))
    (hq : ∀ z' h' tk' fr' t, SlotsOf fr fr' → (∀ p ∈ fr', h'.get? p.1 = some p.2) → (∀ b o, h₀.get? b = some o → h'.get? b = some o) → Q (.ret (.int k t)) (S z' h' tk')) :
    CXZ h₀ ((env.locals, oL) :: fr) 76 (fun od => PayT od k) (fun e s₁ => wpAny (model PG w) A (noteFrame e env) (fun _ s₂ => wpAny (model PG w) A (setFlight e none) (fun _ s₃ => wpAny (model PG w) A (handleBy e env
      [.ExceptHandler (some (.Name "TextFault" p1)) (some "fault") [.Return (some (.Attribute (.Name "fault" p2) "spot" p3)) p4] p5]) Q E s₃) E s₂) E s₁) := by
  intro z' h' tk' e de od X P
  obtain ⟨vs', hset, hat⟩ := hset e
  refine r_handle (P := fun _ => False) O G hoL X hg (g_TextFault w) (exm w).2 hset (fun _ _ _ _ _ _ _ _ _ _ hF => hF.elim) ?_
  intro rv sl fr' h2 tk2 hS hnf _ G4
  obtain ⟨hh1, hh2, k1, k2, v, t1, n1, rfl⟩ := P
  refine wpAny_execs_cons ?_
  try k_fold
  refine wpAny_Return_some ?_
  refine Attribute_any_ ?_
  refine r_loc G4 hat ?_
  refine exc_getB (z := z') (h := h2) G4.K (G4.G.get (.head _)) (G4.G.get (.tail _ (.head _))) (k76_spot w).1 (k76_spot w).2.1 (sub76 w) (k76_spot w).2.2.1 (k76_spot w).2.2.2.1 (k76_spot w).2.2.2.2 rfl rfl ?_
  exact ⟨z', h2, _, _, [], _, rfl, G4, fun h5 tk5 vs5 G5 => hq _ _ _ fr' t1 hS (fun p hp => G5.G.get (.tail _ (.tail _ hp))) G5.G.stays⟩
theorem lspot_spec {kd : Kd} (T : Text text lead pcs) (hl : pcs.length ≤ 39) (B : Bs w mg mb h₀) (G : Gh h₀ h mu nw) (hA : Room A 140) (O : Out A outer fr mu)
    (hq : ∀ z' h' tk' v fr', SlotsOf fr fr' → (∀ p ∈ fr', h'.get? p.1 = some p.2) → (∀ b o, h₀.get? b = some o → h'.get? b = some o) → Told pcs lead.length kd v → Q v (S z' h' tk')) :
    wpAny (model PG w) A (call (.ref 352) [.str kd.str tk1, .str text t]) Q E (S z h tk) := by
  have hR : ∀ env, Room (A.deeper env) 139 := fun env => Room.deeper hA
  have hrow : ∀ {h' : Heap} {p : Addr × Obj} {nw' : Led}, Gh h₀ h' (p :: mu) nw' → ∀ q ∈ fr, h'.get? q.1 = some q.2 := fun G' q hq => (G'.has q (List.mem_append_left _ (.tail _ (O.sub q hq).1))).1
  refine enter ["kind", "text", "fault"] ["read_paper", "read_rule", "read_term", "TextFault"] [some (.str kd.str tk1), some (.str text t), none] B G hA.depth rfl rfl rfl rfl ⟨rfl, by decide, by decide, by decide, by decide⟩ rfl ?_ rfl rfl (by decide)
  intro L h₁ tk' ev Av Qv Ev G
  obtain ⟨oL, Gc, hn, back⟩ := G.call
  have hoL := (Gc.has _ (.head _)).1
  have hfin : ∀ (v : Value), Told pcs lead.length kd v → ∀ z' h' tk' fr', SlotsOf fr fr' → (∀ p ∈ fr', h'.get? p.1 = some p.2) → (∀ b o, h₀.get? b = some o → h'.get? b = some o) → Q v (S z' h' tk') := fun v hT z' h' tk' fr' a b c => hq z' h' tk' v fr' a b c hT
  have hTlb : ∀ (k : Nat) (t : Tok), lbAt pcs lead.length = some k → Told pcs lead.length kd (.int (k : Nat) t) := fun k t hk =>
    ⟨fun p hp => by rw [hk] at hp; cases hp; exact ⟨t, rfl⟩, fun h => by rw [hk] at h; cases h⟩
  have hTst : ∀ (i : Nat) (u : Wd × Nat) (t : Tok), lbAt pcs lead.length = none → (toksOf pcs lead.length)[i]? = some u → Rn kd.rl (wsOf (toksOf pcs lead.length)) kd.st (some i) → Told pcs lead.length kd (.int (u.2 : Nat) t) := fun i u t hlb hi hr =>
    ⟨fun p hp => (by rw [hlb] at hp; cases hp), fun _ => .inr ⟨i, u, t, hi, hr, rfl⟩⟩
  have hTok : lbAt pcs lead.length = none → Rn kd.rl (wsOf (toksOf pcs lead.length)) kd.st none → Told pcs lead.length kd .none := fun hlb hr =>
    ⟨fun p hp => (by rw [hlb] at hp; cases hp), fun _ => .inl ⟨rfl, hr⟩⟩
  refine wpAny_execs_cons ?_
  try k_fold
  refine wpAny_Try_except ?_
  refine wpAny_execs_cons ?_
  try k_fold
  refine wpAny_If ?_
  try k_fold
  refine wpAny_isTrue_Compare1 ?_
  walk_at "m:loc"
  refine r_strN ?_
  refine PyProof.Rows.eq_str ?_
  refine wpAny_truthy_bool ?_
  cases kd with
  | paper =>
    refine ifs (fun _ => ?_) (fun hb => absurd hb (by decide))
    refine wpAny_execs_cons ?_
    try k_fold
    refine wpAny_Expr_any ?_
    refine Call_ ?_
    refine r_glo G (by walk_at "m:has") (g_read_paper w) ?_
    refine callWith_K G.bs.K (keep_reads w).2.2 ?_
    refine args_cons ?_
    walk_at "m:loc"
    refine args_nil ⟨G.K, ?_⟩
    refine readpaper_spec T hl G.bs Gc ((hR _).le (by omega)) ((BO.of O G.sc.kind rfl).out hn) ?_ (ReadsZ.reads ⟨fun k hk => ?_, fun hlb i u hi hr => ?_⟩)
    · intro hlb hr h5 tk5 v5 nw5 hs5 G5
      refine wpAny_execs_nil ?_
      refine wpAny_execs_cons ?_
      try k_fold
      refine wpAny_Return_some ?_
      refine wpAny_Constant_none ?_
      exact hfin _ (hTok hlb hr) z h5 _ fr (slots_refl fr) (hrow G5) G5.stays
    · exact spot_catch (BO.of O G.sc.kind rfl) G hoL (by walk_at "m:has") (fun e => ⟨_, .tail (.tail .head), .tail (.tail .head)⟩) fun z' h' tk' fr' t a b c => hfin _ (hTlb k t hk) z' h' tk' fr' a b c
    · exact spot_catch (BO.of O G.sc.kind rfl) G hoL (by walk_at "m:has") (fun e => ⟨_, .tail (.tail .head), .tail (.tail .head)⟩) fun z' h' tk' fr' t a b c => hfin _ (hTst i u t hlb hi hr) z' h' tk' fr' a b c
  | rule =>
    refine ifs (fun hb => absurd hb (by decide)) (fun _ => ?_)
    refine wpAny_execs_cons ?_
    try k_fold
    refine wpAny_If ?_
    try k_fold
    refine wpAny_isTrue_Compare1 ?_
    walk_at "m:loc"
    refine r_strN ?_
    refine PyProof.Rows.eq_str ?_
    refine wpAny_truthy_bool ?_
    refine ifs (fun _ => ?_) (fun hb => absurd hb (by decide))
    refine wpAny_execs_cons ?_
    try k_fold
    refine wpAny_Expr_any ?_
    refine Call_ ?_
    refine r_glo G (by walk_at "m:has") (g_read_rule w) ?_
    refine callWith_K G.bs.K (keep_reads w).2.1 ?_
    refine args_cons ?_
    walk_at "m:loc"
    refine args_nil ⟨G.K, ?_⟩
    refine readrule_spec T hl G.bs Gc ((hR _).le (by omega)) ((BO.of O G.sc.kind rfl).out hn) ?_ ⟨fun k hk => ?_, fun hlb i u hi hr => ?_⟩
    · intro hlb hr z5 h5 tk5 v5 nw5 hs5 G5
      refine wpAny_execs_nil ?_
      refine wpAny_execs_nil ?_
      refine wpAny_execs_cons ?_
      try k_fold
      refine wpAny_Return_some ?_
      refine wpAny_Constant_none ?_
      exact hfin _ (hTok hlb hr) z5 h5 _ fr (slots_refl fr) (hrow G5) G5.stays
    · exact spot_catch (BO.of O G.sc.kind rfl) G hoL (by walk_at "m:has") (fun e => ⟨_, .tail (.tail .head), .tail (.tail .head)⟩) fun z' h' tk' fr' t a b c => hfin _ (hTlb k t hk) z' h' tk' fr' a b c
    · exact spot_catch (BO.of O G.sc.kind rfl) G hoL (by walk_at "m:has") (fun e => ⟨_, .tail (.tail .head), .tail (.tail .head)⟩) fun z' h' tk' fr' t a b c => hfin _ (hTst i u t hlb hi hr) z' h' tk' fr' a b c
  | term =>
    refine ifs (fun hb => absurd hb (by decide)) (fun _ => ?_)
    refine wpAny_execs_cons ?_
    try k_fold
    refine wpAny_If ?_
    try k_fold
    refine wpAny_isTrue_Compare1 ?_
    walk_at "m:loc"
    refine r_strN ?_
    refine PyProof.Rows.eq_str ?_
    refine wpAny_truthy_bool ?_
    refine ifs (fun hb => absurd hb (by decide)) (fun _ => ?_)
    refine wpAny_execs_cons ?_
    try k_fold
    refine wpAny_Expr_any ?_
    refine Call_ ?_
    refine r_glo G (by walk_at "m:has") (g_read_term w) ?_
    refine callWith_K G.bs.K (keep_reads w).1 ?_
    refine args_cons ?_
    walk_at "m:loc"
    refine args_nil ⟨G.K, ?_⟩
    refine readterm_spec T hl G.bs Gc ((hR _).le (by omega)) ((BO.of O G.sc.kind rfl).out hn) ?_ (ReadsZ.reads ⟨fun k hk => ?_, fun hlb i u hi hr => ?_⟩)
    · intro hlb hr h5 tk5 v5 nw5 hs5 G5
      refine wpAny_execs_nil ?_
      refine wpAny_execs_nil ?_
      refine wpAny_execs_cons ?_
      try k_fold
      refine wpAny_Return_some ?_
      refine wpAny_Constant_none ?_
      exact hfin _ (hTok hlb hr) z h5 _ fr (slots_refl fr) (hrow G5) G5.stays
    · exact spot_catch (BO.of O G.sc.kind rfl) G hoL (by walk_at "m:has") (fun e => ⟨_, .tail (.tail .head), .tail (.tail .head)⟩) fun z' h' tk' fr' t a b c => hfin _ (hTlb k t hk) z' h' tk' fr' a b c
    · exact spot_catch (BO.of O G.sc.kind rfl) G hoL (by walk_at "m:has") (fun e => ⟨_, .tail (.tail .head), .tail (.tail .head)⟩) fun z' h' tk' fr' t a b c => hfin _ (hTst i u t hlb hi hr) z' h' tk' fr' a b c
end
end
section
variable [OSC]
inductive IsI (v : Value) (p : Nat) : Prop
  | mk (t : _) (hyp1 : v = .int (p : Nat) t) : IsI v p
theorem near_op {x : Wd} (h : (!(Builtin.Str.occurrences ("()[,:" : Str) x.str 0 (Str.length "()[,:") 1).isEmpty) = true) : x.op = false :=
  (by decide +kernel : ∀ x ∈ Wd.all, (!(Builtin.Str.occurrences ("()[,:" : Str) x.str 0 (Str.length "()[,:") 1).isEmpty) = true → x.op = false) x x.mem h
theorem chs_app (a b : Str) : chs (a ++ b) = chs a ++ chs b := by
  show (a.cps ++ b.cps).toList = _
  simp
inductive IsB (v : Value) (ne : Bool) : Prop
  | mk (y : _) (t : _) (hyp1 : v = .str y t) (hyp2 : Blank (chs y)) (hyp3 : y.length ≤ 2) (hyp4 : (ne = true → chs y ≠ [])) : IsB v ne
section
variable {w : World} {mg mb : Str → Option Value} {h₀ h h' : Heap} {env : Env} {ns gs : List Str} {vs vs' : List (Option Value)} {mu nw fr : Led} {z : Shared} {tk : Nat} {A : Around} {E Q : Value → Shared → Prop}
/-- (blanks)[_law_deal(pen, many)] -/
theorem r_blank {items : List Value} {ne : Bool} {many : Nat} {value slice : Expr} {T : Addr} {r : Int} {t : Tok} (hT : h.get? T = some (tup items)) (hl : items.length = many) (hm : many ≤ 3) (r0 : 0 ≤ r) (r1 : r < many)
    (hb : ∀ v ∈ items, IsB v ne) (hq : ∀ v, IsB v ne → Q v (S z h tk))
    (hs : subscripted slice false (.ref T) (.int r t) = operate [.ref T, .int r t] (getItem (.ref T) (.int r t)) := by with_unfolding_all rfl) :
    wpAny (model PG w) A (subscriptTail value slice (.ref T) (.int r t)) Q E (S z h tk) := by
  have hi : r.toNat < items.length := tn_len hl r0 r1
  refine r_item_tup hT (by omega) (by omega) (seqIx r0 (by rw [hl]; exact r1)) (List.getElem?_eq_getElem hi) ?_ hs
  exact hq _ (hb _ (List.getElem_mem hi))
theorem b_sp (t : Tok) (ne : Bool) : IsB (.str " " t) ne := ⟨_, t, rfl, by unfold Blank; decide, by decide, fun _ => by decide⟩
theorem b_em (t : Tok) : IsB (.str "" t) false := ⟨_, t, rfl, by unfold Blank; decide, by decide, fun h => by cases h⟩
theorem b_tb (t : Tok) (ne : Bool) : IsB (.str "\t " t) ne := ⟨_, t, rfl, by unfold Blank; decide, by decide, fun _ => by decide⟩
theorem laid_spec {pd : Addr} {o : Obj} {n : Nat} {v : Value} {ws : List Wd} (B : Bs w mg mb h₀) (G : Gh h₀ h ((pd, o) :: mu) nw) (hA : Room A 4) (hH : A.handled = none) (hp : IsPen w nw o n) (hn : n + 60 ≤ 900000) (hw : WdsAt nw v ws) (hl : ws.length ≤ 28) (hf : NoFin ws)
    (hq : ∀ h' tk' o' nw' n' text t lead pcs T D vs nn, (∀ q ∈ nw, q ∈ nw') → n' ≤ n + 60 → IsPen w nw' o' n' → Gh h₀ h' ((pd, o') :: mu) nw' → Text text lead pcs → pcs.map (·.1) = ws → (T, tupO [.str text t, .ref D] 0) ∈ nw' → (D, lstO vs nn) ∈ nw' →
      Fa2 IsI vs ((toksOf pcs lead.length).map (·.2)) → Q (.ref T) (S z h' tk')) :
    wpAny (model PG w) A (call (.ref 326) [.ref pd, v]) Q E (S z h tk) := by
  have hR : ∀ env, Room (A.deeper env) 3 := fun env => Room.deeper hA
  try k_fold
  refine enter ["pen", "words", "text", "begins", "k", "is_near"] ["_law_deal", "range", "len"] [some (.ref pd), some v, none, none, none, none] B G hA.depth rfl rfl rfl rfl ⟨rfl, by decide, by decide, by decide, by decide⟩ rfl ?_ rfl rfl (by decide)
  intro L h₁ tk' ev Av Qv Ev G
  let Gs := fun (vs : List (Option Value)) (mu nw : Led) (h : Heap) => G.same vs mu nw h
  obtain ⟨DW, ys, m, rfl, hDW, hfa⟩ := hw
  have hyl := fa2_len hfa
  refine wpAny_execs_cons ?_
  try k_fold
  refine Assign2 G hH ?_
  refine Subscript_ ?_
  refine Tuple_ ?_
  walk_at "m:strs"
  refine r_tup (by show 2 ≤ 2 ^ 24; decide) G (fun T0 h2 G => ?_)
  refine b_deal G (by walk_at "m:has") .head ((hR _).le (by omega)) (hp.mono fun q hq => .tail _ hq) (by omega) (by decide) (dealc G) ?_
  intro h3 tk3 o3 r t3 r0 r1 hp3 G
  refine r_blank (many := 2) (ne := false) (G.G.get (.head _)) rfl (by decide) r0 r1 (fun v hv => ?_) fun v hB => ?_
  · rcases List.mem_cons.mp hv with rfl | hv
    · exact b_em _
    · rw [List.mem_singleton.mp hv]; exact b_sp _ _
  obtain ⟨lead, tl, rfl, hbl, hll, _⟩ := hB
  refine List_ ?_
  refine args_nil ?_
  refine r_listM (by show 0 ≤ 2 ^ 24; decide) G (fun D h4 G => ?_)
  have G := G.swap
  refine ⟨h4, _, _, _, _, rfl, G, fun h5 G => ?_⟩
  walk_at "m:st"
  intro h6 tk6 G
  walk_at "m:st"
  intro h7 tk7 G
  generalize hNW : (T0, tup _) :: nw = NW at G hp3
  have hs1 : ∀ q ∈ nw, q ∈ NW := fun q hq => hNW ▸ List.mem_cons_of_mem _ hq
  have hDW1 := hs1 _ hDW
  refine wpAny_execs_cons ?_
  try k_fold
  try k_fold
  refine r_for (x := "k") G (A := A.deeper _) hH (fun i vs mu' nw' => Ex9 fun o' n' x t bs mb' pcs k1 k2 => Al11 (vs = [some (.ref pd), some (.ref DW), some (.str x t), some (.ref D), k1, k2]) (mu' = (pd, o') :: (D, lstO bs mb') :: mu) (IsPen w nw' o' n') (n' ≤ n + 1 + i) (chs x = chs lead ++ laidC pcs) (x.length ≤ 2 + 8 * i) (pcs.map (·.1) = ws.take i) ((∀ p ∈ pcs, p.1 ≠ .fin ∧ Blank p.2)) ((∀ (j : Nat) p w', pcs[j]? = some p → ws[j + 1]? = some w' → p.1.op = true → w'.op = true → p.2 ≠ [])) (Fa2 IsI bs (begs pcs (chs lead).length)) (∀ q ∈ NW, q ∈ nw')) ?_ ?_
  · rintro i vs mu' nw' ⟨o', n', x, t, bs, mb', pcs, k1, k2, rfl, -⟩ v'
    exact ⟨_, .tail (.tail (.tail (.tail .head)))⟩
  refine Call_ ?_
  refine r_blt G (by walk_at "m:has") (g_range w).1 (g_range w).2.1 (g_range w).2.2 ?_
  refine cw_t ?_
  refine args_cons ?_
  refine Call_ ?_
  refine r_blt G (by walk_at "m:has") (g_len w).1 (g_len w).2.1 (g_len w).2.2 ?_
  refine cw_b ?_
  refine args_cons ?_
  walk_at "m:loc"
  refine args_nil ?_
  refine r_lenlist G (List.mem_append_right _ hDW1) (by omega) ?_
  intro t8 tk8
  refine args_nil ?_
  rw [hyl]
  refine call_range_1 (s := S z h7 tk8) ?_
  have Gr := G.push { cls := .type "range", data := .fields #[.int 0 tk8, .int (ws.length : Nat) t8, .int 1 (tk8 + 1)] } rfl
  try k_fold
  refine ⟨h7.objs.size, ws.length, tk8, t8, tk8 + 1, _, _, _, _, _, rfl, rfl, Gr.G.get (.head _), by omega, ⟨o3, n + 1, lead, tl, [], _, [], _, _, rfl, rfl, hp3.mono fun q hq => .tail _ hq, by omega, by simp [laidC], by omega, by simp, (by intro p hp; cases hp), (by intro j p w' h; simp at h), Fa2.nil, (by intro q hq; exact List.mem_cons_of_mem _ hq)⟩, Gr, ?_, ?_⟩
  · intro i vs mu' nw' h tk t vs' I io hi hI_ hset G
    try k_fold
    obtain ⟨o', n', x, tx, bs, mb', pcs, k1, k2, rfl, rfl, hp, hn', hx, hxl, hpw, hpf, hps, hbs, hsub⟩ := hI_
    obtain rfl : vs' = [some (.ref pd), some (.ref DW), some (.str x tx), some (.ref D), some (.int (i : Nat) t), k2] := hset.at_ (k := 4) G.sc.nd rfl
    · have hDW := hsub _ hDW1
      obtain ⟨vw, wd, hvw, hwd, tw, rfl⟩ := fa2_at hfa (i := i) (by omega)
      have hwf : wd ≠ .fin := hf _ (List.mem_of_getElem? hwd)
      have hpl : pcs.length = i := by
        have := congrArg List.length hpw
        rw [List.length_map, List.length_take] at this
        omega
      have G := G.perm (mu' := (I, io) :: (D, lstO bs mb') :: (pd, o') :: mu) (.cons _ (.swap _ _ _))
      refine wpAny_execs_cons ?_
      try k_fold
      refine wpAny_Expr ?_
      refine b_append2 G rfl (by walk_at "m:at") (sl_small (m := 100) (by rw [fa2_len hbs, begs_len]; omega) (by decide)) ?_
      refine Call_ ?_
      refine r_blt G (by walk_at "m:has") (g_len w).1 (g_len w).2.1 (g_len w).2.2 ?_
      refine cw_b ?_
      refine args_cons ?_
      walk_at "m:loc"
      refine args_nil ?_
      refine PyProof.Rows.len_str (s := S z h _) (by omega) ?_
      refine ⟨_, _, _, _, rfl, G, fun h9 m9 G => ?_⟩
      have hxn : x.length = (chs lead).length + (laidC pcs).length := by rw [str_len, hx, List.length_append]
      obtain ⟨bs2, hbs2, G⟩ : ∃ bs2, Fa2 IsI bs2 (begs pcs (chs lead).length ++ [x.length]) ∧ Gs [some (.ref pd), some (.ref DW), some (.str x tx), some (.ref D), some (.int (i : Nat) t), k2] ((I, io) :: (D, lstO bs2 m9) :: (pd, o') :: mu) nw' h9:= ⟨_, fa2_app hbs (.cons ⟨_, rfl⟩ .nil), G⟩
      refine wpAny_execs_cons ?_
      try k_fold
      refine wpAny_Assign_Name ?_
      try k_fold
      refine wpAny_mono (Q := fun v s' => ∃ near tk, v = .bool near ∧ s' = S z h9 tk ∧ (near = true → ∀ w', ws[i + 1]? = some w' → wd.op = true → w'.op = true → False)) ?_ (fun v s' hv => ?_) (fun _ _ x => x)
      try k_fold
      · refine BoolOp_and ?_
        refine wpAny_Compare1 ?_
        refine wpAny_BinOp ?_
        refine r_loc (h := h9) G (by walk_at "m:at") ?_
        refine r_intN ?_
        refine r_addN ?_
        refine Call_ ?_
        refine r_blt G (by walk_at "m:has") (g_len w).1 (g_len w).2.1 (g_len w).2.2 ?_
        refine cw_b ?_
        refine args_cons ?_
        walk_at "m:loc"
        refine args_nil ?_
        refine r_lenlist G (List.mem_append_right _ hDW) (by omega) ?_
        intro t12 tk12
        refine PyProof.Rows.lt_int ?_
        refine wpAny_truthy_bool ?_
        refine ifs (fun hb => ?_) (fun hb => ⟨_, _, rfl, rfl, fun h => by rw [hb] at h; cases h⟩)
        have hlt : i + 1 < ws.length := by have := of_decide_eq_true hb; omega
        refine BoolOp_one ?_
        refine BoolOp_or ?_
        refine wpAny_Compare1 ?_
        refine Subscript_ ?_
        refine r_loc (h := h9) G (by walk_at "m:at") ?_
        walk_at "m:loc"
        refine r_item_list (G.G.get hDW) (by omega) (by omega) (v := .str wd.str tw) (by rw [Int.toNat_natCast]; exact hvw) ?_
        refine r_strN ?_
        refine PyProof.Rows.in_str ?_
        refine wpAny_truthy_bool ?_
        refine ifs (fun hb2 => ?_) (fun hb2 => ?_)
        · refine ⟨_, _, rfl, rfl, fun _ w' _ h1 _ => ?_⟩
          rw [near_op hb2] at h1
          cases h1
        obtain ⟨vw2, wd2, hvw2, hwd2, tw2, rfl⟩ := fa2_at hfa (i := i + 1) (by omega)
        refine BoolOp_one ?_
        refine wpAny_Compare1 ?_
        refine Subscript_ ?_
        refine r_loc (h := h9) G (by walk_at "m:at") ?_
        refine wpAny_BinOp ?_
        walk_at "m:loc"
        refine r_intN ?_
        refine r_addN ?_
        refine r_item_list (G.G.get hDW) (by omega) (by omega) (v := .str wd2.str tw2) (by rw [show ((i : Int) + 1).toNat = i + 1 by omega]; exact hvw2) ?_
        refine r_strN ?_
        refine PyProof.Rows.in_str ?_
        refine ⟨_, _, rfl, rfl, fun hb3 w' hw' _ h1 => ?_⟩
        rw [hwd2] at hw'
        cases hw'
        rw [near_op hb3] at h1
        cases h1
      obtain ⟨near, tk17, rfl, rfl, hnear⟩ := hv
      walk_at "m:st"
      intro h18 tk18 G
      have G := G.perm (mu' := (pd, o') :: (I, io) :: (D, lstO bs2 m9) :: mu) ((List.Perm.cons _ (.swap _ _ _)).trans (.swap _ _ _))
      refine wpAny_execs_cons ?_
      try k_fold
      refine wpAny_Assign_Name ?_
      refine wpAny_BinOp ?_
      refine wpAny_BinOp ?_
      walk_at "m:loc"
      refine Subscript_ ?_
      walk_at "m:loc"
      walk_at "m:loc"
      refine r_item_list (G.G.get hDW) (by omega) (by omega) (v := .str wd.str tw) (by rw [Int.toNat_natCast]; exact hvw) ?_
      have hwl := wd.len
      refine PyProof.Rows.add_str (s := S z h18 _) (fun t19 tk19 => ?_) (sl_small (m := 1000) (by omega) (by decide))
      try k_fold
      refine wpAny_mono (Q := fun v s' => IsB v (!near) ∧ Ex5 fun h tk o2 nw2 n2 => Al5 (s' = S z h tk) (Gs [some (.ref pd), some (.ref DW), some (.str x tx), some (.ref D), some (.int (i : Nat) t), some (.bool near)] ((pd, o2) :: (I, io) :: (D, lstO bs2 m9) :: mu) nw2 h) (IsPen w nw2 o2 n2) (n2 ≤ n' + 1) (∀ q ∈ nw', q ∈ nw2)) ?_ (fun v s' hv => ?_) (fun _ _ x => x)
      try k_fold
      · refine wpAny_IfExp ?_
        refine isTrue_not ?_
        refine wpAny_isTrue_value ?_
        refine r_loc (h := h18) G (by walk_at "m:at") ?_
        refine wpAny_truthy_bool ?_
        refine ifs (fun hb => ?_) (fun hb => ?_)
        · refine Subscript_ ?_
          refine Tuple_ ?_
          walk_at "m:strs"
          refine r_tup (by show 3 ≤ 2 ^ 24; decide) G (fun T1 h20 G => ?_)
          refine b_deal G (by walk_at "m:has") .head ((hR _).le (by omega)) (hp.mono fun q hq => .tail _ hq) (by omega) (by decide) (dealc G) ?_
          intro h21 tk21 o21 r2 t21 r20 r21 hp G
          refine r_blank (many := 3) (ne := !near) (G.G.get (.head _)) rfl (by decide) r20 r21 (fun v hv => ?_) fun v hB => ?_
          · rcases List.mem_cons.mp hv with rfl | hv
            · exact b_sp _ _
            rcases List.mem_cons.mp hv with rfl | hv
            · exact b_tb _ _
            · rw [List.mem_singleton.mp hv]; exact b_sp _ _
          exact ⟨hB, _, _, _, _, _, rfl, G, hp, by omega, fun q hq => .tail _ hq⟩
        · have hnt : (!near) = false := hb
          refine Subscript_ ?_
          refine Tuple_ ?_
          walk_at "m:strs"
          refine r_tup (by show 2 ≤ 2 ^ 24; decide) G (fun T1 h20 G => ?_)
          refine b_deal G (by walk_at "m:has") .head ((hR _).le (by omega)) (hp.mono fun q hq => .tail _ hq) (by omega) (by decide) (dealc G) ?_
          intro h21 tk21 o21 r2 t21 r20 r21 hp G
          refine r_blank (many := 2) (ne := !near) (G.G.get (.head _)) rfl (by decide) r20 r21 (fun v hv => ?_) fun v hB => ?_
          · rw [hnt]
            rcases List.mem_cons.mp hv with rfl | hv
            · exact b_em _
            · rw [List.mem_singleton.mp hv]; exact b_sp _ _
          exact ⟨hB, _, _, _, _, _, rfl, G, hp, by omega, fun q hq => .tail _ hq⟩
      obtain ⟨⟨y, ty, rfl, hby, hyl2, hyne⟩, h22, tk22, o22, nw22, n22, rfl, G, hp, hn22, hs22⟩ := hv
      refine PyProof.Rows.add_str (s := S z h22 _) (fun t23 tk23 => ?_) (sl_small (m := 1000) (by rw [strLen_append]; omega) (by decide))
      walk_at "m:st"
      intro h24 tk24 G
      refine wpAny_execs_nil ?_
      have G := G.perm (mu' := (I, io) :: (pd, o22) :: (D, lstO bs2 m9) :: mu) (.swap _ _ _)
      refine ⟨rfl, _, _, nw22, h24, _, rfl, ⟨o22, n22, _, t23, _, m9, pcs ++ [(wd, chs y)], _, _, rfl, rfl, hp, by omega, ?_, ?_, ?_, ?_, ?_, ?_, fun q hq => hs22 _ (hsub _ hq)⟩, G⟩
      · rw [chs_app, chs_app, hx, laidC_app]
        simp [laidC]
      · rw [strLen_append, strLen_append]; omega
      · rw [List.map_append, hpw, List.take_add_one, hwd]; rfl
      · intro p hp
        rcases List.mem_append.mp hp with hp | hp
        · exact hpf p hp
        · rw [List.mem_singleton.mp hp]; exact ⟨hwf, hby⟩
      · intro j p w' hj hw' h1 h2
        rcases Nat.lt_or_ge j pcs.length with hlt | hge
        · rw [List.getElem?_append_left hlt] at hj
          exact hps j p w' hj hw' h1 h2
        · rw [List.getElem?_append_right hge] at hj
          cases hjz : j - pcs.length with
          | succ k => rw [hjz] at hj; simp at hj
          | zero =>
            rw [hjz] at hj
            cases hj
            have : j = i := by omega
            subst this
            refine hyne ?_
            cases hnn : near with
            | false => rfl
            | true => exact (hnear hnn w' hw' h1 h2).elim
      · rw [begs_app, ← hxn]
        exact hbs2
  · intro vs mu' nw' h tk hI_ G
    try k_fold
    obtain ⟨o', n', x, tx, bs, mb', pcs, k1, k2, rfl, rfl, hp, hn', hx, hxl, hpw, hpf, hps, hbs, hsub⟩ := hI_
    rw [List.take_length] at hpw
    have hpl : pcs.length = ws.length := by rw [← hpw, List.length_map]
    refine wpAny_execs_cons ?_
    try k_fold
    refine wpAny_Return_some ?_
    refine Tuple_ ?_
    refine args_cons ?_
    walk_at "m:loc"
    refine args_cons ?_
    refine wpAny_BinOp ?_
    walk_at "m:loc"
    refine List_ ?_
    refine args_cons ?_
    refine Call_ ?_
    refine r_blt G (by walk_at "m:has") (g_len w).1 (g_len w).2.1 (g_len w).2.2 ?_
    refine cw_b ?_
    refine args_cons ?_
    walk_at "m:loc"
    refine args_nil ?_
    refine PyProof.Rows.len_str (s := S z h _) (by omega) ?_
    refine args_nil ?_
    refine r_list (h := h) (by show 1 ≤ 2 ^ 24; decide) G (fun D1 h9 G => ?_)
    refine r_addlists G (List.mem_append_left _ (.tail _ (.head _))) (List.mem_append_right _ (.head _)) (sl_small (m := 100) (by rw [fa2_len hbs, begs_len]; simp; omega) (by decide)) ?_
    intro D2 h10 G
    refine args_nil ?_
    refine r_tup (by show 2 ≤ 2 ^ 24; decide) G (fun T1 h11 G => ?_)
    have hxn : x.length = (chs lead).length + (laidC pcs).length := by rw [str_len, hx, List.length_append]
    refine hq _ _ _ _ n' x tx (chs lead) pcs T1 D2 _ 0 (fun q hq => .tail _ (.tail _ (.tail _ (hsub _ (hs1 _ hq))))) (by omega) (hp.mono fun q hq => .tail _ (.tail _ (.tail _ hq))) G.swap.lessM.G ⟨hx, hbl, sepOk_of pcs hpf fun j p q hj hq h1 h2 => hps j p q.1 hj (by rw [← hpw, List.getElem?_map, hq]; rfl) h1 h2, by omega⟩ hpw (.head _) (.tail _ (.head _)) ?_
    rw [toks_begs, ← hxn]
    exact fa2_app hbs (.cons ⟨_, rfl⟩ .nil)
end
end
section
variable [OSC]
theorem sg_eq {s s' : Sg} (h : s ∈ Sg.all) (h' : s' ∈ Sg.all) : (s.str == s'.str) = decide (s = s') :=
  (by decide +kernel : ∀ s ∈ Sg.all, ∀ s' ∈ Sg.all, (s.str == s'.str) = decide (s = s')) s h s' h'
theorem sg_wide {s : Sg} (h : s ∈ Sg.all) : (List.any (["term", "kids", "papers", "places", "paper", "kind", "rule", "needs", "more"] : List Str) fun y => y == s.str) = s.wide :=
  (by decide +kernel : ∀ s ∈ Sg.all, (List.any (["term", "kids", "papers", "places", "paper", "kind", "rule", "needs", "more"] : List Str) fun y => y == s.str) = s.wide) s h
theorem wanted_all {s : Sg} {x : Wd} {late : List Sg} (h : wanted s x = some late) : ∀ s' ∈ late, s' ∈ Sg.all := by
  have : ∀ x ∈ Wd.all, ((wanted s x).getD []).all (fun s' => decide (s' ∈ Sg.all)) = true := by
    cases s <;> first | (rename_i w; intro x _; rfl) | decide +kernel
  have := this x x.mem
  rw [h] at this
  intro s' hs'
  exact of_decide_eq_true (List.all_eq_true.mp this s' hs')
noncomputable def firstStr (rl : Bool) (wl : List Wd) (at_ : Nat) : Str := if rl && decide (2 < at_) then (wl[2]?.map Wd.str).getD "" else ""
theorem first_var (rl : Bool) (wl : List Wd) (at_ : Nat) : (Txt.slice (firstStr rl wl at_) none (some 1) == ("?" : Str)) = (rl && decide (2 < at_) && ((wl[2]?.map Wd.var).getD false)) := by
  unfold firstStr
  have e : (Txt.slice ("" : Str) none (some 1) == ("?" : Str)) = false := by decide +kernel
  cases h : (rl && decide (2 < at_)) with
  | false => rw [if_neg (by decide), e]; rfl
  | true =>
    rw [if_pos rfl]
    cases wl[2]? with
    | none => exact e
    | some x => exact wd_var x
theorem first_len (rl : Bool) (wl : List Wd) (at_ : Nat) : (firstStr rl wl at_).length ≤ 5 := by
  unfold firstStr
  split
  · cases wl[2]? with
    | none => exact Nat.zero_le _
    | some x => exact x.len
  · exact Nat.zero_le _
section
variable {w : World} {mg mb : Str → Option Value} {h₀ h h' : Heap} {env : Env} {ns gs : List Str} {vs vs' : List (Option Value)} {mu nw fr : Led} {z : Shared} {tk : Nat} {A : Around} {E Q : Value → Shared → Prop}
/-- stack[1:] -/
theorem s_tail {u : Str} {v : Value} {s : Sg} {S : List Sg} {kc : Nat} {p1 p2 p3 p4 : Pos} (G : GS w mg mb h₀ env ns gs vs mu nw h) (hs : At ns vs u v) (hw : SgsAt nw v (s :: S)) (hl : (s :: S).length ≤ 1000)
    (hq : ∀ v' h' nw' tk', (∀ q ∈ nw, q ∈ nw') → GS w mg mb h₀ env ns gs vs mu nw' h' → SgsAt nw' v' S → Q v' (Mine.S z h' tk')) :
    wpAny (model PG w) A (eval (.Subscript (.Name u p1) (.Slice (some (.Constant (.int 1) kc p4)) none none p2) p3) env) Q E (Mine.S z h tk) := by
  obtain ⟨D, ys, n, rfl, hD, hf⟩ := hw
  refine Subscript_ ?_
  refine r_loc G hs ?_
  refine Slice_sn ?_
  refine r_int ?_
  intro t
  refine r_slicelist G hD (by rw [fa2_len hf]; exact hl) (.int 1 t) .none .none (by simp) fun D2 h2 G2 => ?_
  refine hq _ h2 _ _ (fun q hq => .tail _ hq) G2 ⟨D2, _, 0, rfl, .head _, ?_⟩
  have e2 := slicePick_from' ys.toArray 1
  rw [show (((1 : Nat) : Int)) = (1 : Int) from rfl] at e2
  rw [e2]
  exact fa2_drop hf 1
theorem s_app {a b : Value} {xs ys : List Sg} (G : GS w mg mb h₀ env ns gs vs mu nw h) (hl : SgsAt nw a xs) (hb : SgsAt nw b ys) (hsz : xs.length + ys.length ≤ 1000)
    (hq : ∀ v h' nw', (∀ q ∈ nw, q ∈ nw') → GS w mg mb h₀ env ns gs vs mu nw' h' → SgsAt nw' v (xs ++ ys) → Q v (S z h' tk)) : wpAny (model PG w) A (binaryOp .Add a b) Q E (S z h tk) := by
  obtain ⟨D, v1, n1, rfl, m1, f1⟩ := hl
  obtain ⟨D2, v2, n2, rfl, m2, f2⟩ := hb
  have e1 := fa2_len f1
  have e2 := fa2_len f2
  refine r_addlists G (List.mem_append_right _ m1) (List.mem_append_right _ m2) (sl_small (m := 1000) (by omega) (by decide)) fun D3 h3 G3 => ?_
  exact hq _ h3 _ (fun q hq => .tail _ hq) G3 ⟨D3, _, 0, rfl, .head _, fa2_app f1 f2⟩
end
theorem keep_stop (w : World) : keepIn (KK w) (.ref 333) = true ∧ keepIn (KK w) (.ref 340) = true := ⟨by kernel_rfl, by kernel_rfl⟩
end
section
variable [OSC]
theorem fa2_strs {vs : List Value} {ws : List Wd} (h : Fa2 IsW vs ws) : StrsAre vs (ws.map Wd.str) := by
  induction h with
  | nil => exact .nil
  | cons a _ ih =>
    obtain ⟨t, rfl⟩ := a
    exact .cons _ t ih
theorem any_str {ws : List Wd} {x : Wd} : (ws.map Wd.str).any (· == x.str) = ws.contains x := by
  induction ws with
  | nil => rfl
  | cons a l ih =>
    rw [List.map_cons, List.any_cons, ih, Wd.beq, List.contains_cons]
    congr 1
    by_cases h : a = x
    · subst h; simp
    · have : ¬ x = a := fun q => h q.symm
      simp [h, this]
theorem lost_any {lo l : List Wd} {ovs : List Value} (h : Fa2 IsW ovs lo) : (!(ovs.filter (lostP (l.map Wd.str))).isEmpty) = lo.any fun n => !l.contains n := by
  have e := lost_empty (ks := l.map Wd.str) (fa2_strs h)
  cases hb : (lo.any fun n => !l.contains n) with
  | true =>
    rw [List.any_eq_true] at hb
    obtain ⟨n, hn, hc⟩ := hb
    cases hf : (ovs.filter (lostP (l.map Wd.str))).isEmpty with
    | false => rfl
    | true =>
      have := e.mp hf n.str (List.mem_map.mpr ⟨n, hn, rfl⟩)
      obtain ⟨y, hy, ey⟩ := List.mem_map.mp this
      rw [Wd.inj ey] at hy
      simp [hy] at hc
  | false =>
    rw [List.any_eq_false] at hb
    have : (ovs.filter (lostP (l.map Wd.str))).isEmpty = true := e.mpr fun k hk => by
      obtain ⟨n, hn, rfl⟩ := List.mem_map.mp hk
      have := hb n hn
      refine List.mem_map.mpr ⟨n, ?_, rfl⟩
      simpa using this
    rw [this]; rfl
theorem last_addName (wd : Wd) : ∀ {N : List (List Wd)}, N ≠ [] → (addName wd N).getLast?.getD [] = N.getLast?.getD [] ++ [wd]
  | [], h => absurd rfl h
  | [l], _ => rfl
  | l :: m :: r, _ => by
    have ih := last_addName wd (N := m :: r) (by simp)
    simp only [addName]
    cases hr : addName wd (m :: r) with
    | nil => cases r <;> simp [addName] at hr
    | cons a b =>
      rw [hr] at ih
      rw [List.getLast?_cons_cons, List.getLast?_cons_cons]
      exact ih
section
variable {w : World} {mg mb : Str → Option Value} {h₀ h h' : Heap} {env : Env} {ns gs : List Str} {vs vs' : List (Option Value)} {mu nw fr : Led} {z : Shared} {tk : Nat} {A : Around} {E Q : Value → Shared → Prop}
/-- names[-1] -/
theorem r_last {value slice : Expr} {a : Addr} {l : List Value} {n : Nat} {v : Value} {u : Tok} (hl : h.get? a = some (lstO (l ++ [v]) n)) (hsz : l.length ≤ 1000) (hq : Q v (S z h tk))
    (hs : subscripted slice false (.ref a) (.int (-1) u) = operate [.ref a, .int (-1) u] (getItem (.ref a) (.int (-1) u)) := by with_unfolding_all rfl) :
    wpAny (model PG w) A (subscriptTail value slice (.ref a) (.int (-1) u)) Q E (S z h tk) := by
  have hl' : h.IsList a (l ++ [v]).toArray := ⟨_, hl, rfl, n, rfl⟩
  refine tail_any hl'.typeIs slot_list_getitem.lookup (wpAny_getItem_list_neg hl' (by decide) ?_ ?_ ?_ hq) hs
  · simp; omega
  · decide
  · have e : ((-1 : Int) + ((l ++ [v]).toArray.size : Nat)).toNat = l.length := by simp; omega
    rw [e]
    simp
/-- (a list).append(e) -/
theorem append_call {D : Addr} {ys : List Value} {m : Nat} {v : Value} (G : GS w mg mb h₀ env ns gs vs ((D, lstO ys m) :: mu) nw h) (hsz : ys.length ≤ sizeLine)
    (hq : ∀ h' m', GS w mg mb h₀ env ns gs vs ((D, lstO (ys ++ [v]) m') :: mu) nw h' → Q .none (S z h' tk)) :
    wpAny (model PG w) A (call (.builtin "list.append") [.ref D, v]) Q E (S z h tk) := by
  refine append_at (s := S z h tk) (G.getM (.head _)) (fun h2 hs2 ho2 => ?_) (by rw [List.size_toArray]; exact hsz)
  rw [List.push_toArray] at ho2
  exact hq _ _ (G.set1 hs2 ho2)
inductive SInv (kd : Kd) (wl : List Wd) (kv wv : Value) (DL DO cL : Addr) (mu0 nw0 : Led) (vs : List (Option Value)) (mu nw : Led) (st : St) : Prop
  | mk (ta : Tok) (sv : Value) (DNs : Addr) (tf : Tok) (k1 k2 k3 : Option Value) (DN : Addr) (nvs : List Value) (nn : Nat) (lvs : List Value) (ln : Nat) (ovs : List Value) (on : Nat) (ons : List Value) (m : Nat) (oc : Obj) (hyp1 : vs = [some kv, some wv, some (.int (st.at_ : Nat) ta), some sv, some (.ref DNs), some (.bool st.isR), some (.ref DO), some (.str (firstStr kd.rl wl st.at_) tf), k1, k2, k3]) (hyp2 : mu = (DN, lstO nvs nn) :: (DL, lstO lvs ln) :: (DO, lstO ovs on) :: mu0) (hyp3 : (∀ q ∈ nw0, q ∈ nw)) (hyp4 : SgsAt nw sv st.stack) (hyp5 : (DNs, lstO (ons ++ [.ref DN]) m) ∈ nw) (hyp6 : (cL, oc) ∈ nw) (hyp7 : oc.data = .cell (some (.ref DL))) (hyp8 : Fa2 IsW nvs (st.names.getLast?.getD [])) (hyp9 : Fa2 IsW lvs st.left) (hyp10 : Fa2 IsW ovs st.lost) (hyp11 : InvM wl st) (hyp12 : (∀ s ∈ st.stack, s ∈ Sg.all)) (hyp13 : st.stack.length + 6 * mu_ wl st ≤ 600) (hyp14 : nvs.length + mu_ wl st ≤ 100) (hyp15 : lvs.length + mu_ wl st ≤ 100) (hyp16 : ovs.length + mu_ wl st ≤ 100) (hyp17 : ons.length + mu_ wl st ≤ 100) (hyp18 : (∀ r, Rn kd.rl wl st r → Rn kd.rl wl kd.st r)) : SInv kd wl kv wv DL DO cL mu0 nw0 vs mu nw st
end
end
section
variable [OSC]
section
variable {w : World} {mg mb : Str → Option Value} {h₀ h h' : Heap} {env : Env} {ns gs : List Str} {vs vs' : List (Option Value)} {mu nw fr : Led} {z : Shared} {tk : Nat} {A : Around} {E Q : Value → Shared → Prop} {t1 : Tok}
theorem kd_st (kd : Kd) : kd.st.at_ = 0 ∧ kd.st.names = [[]] ∧ kd.st.isR = false ∧ kd.st.left = [] ∧ kd.st.lost = [] ∧ kd.st.stack.length ≤ 2 ∧ okS kd.st.stack = true ∧ (∀ s ∈ kd.st.stack, s ∈ Sg.all) ∧ topc kd.st.stack ≤ 2 := by
  cases kd <;> exact ⟨rfl, rfl, rfl, rfl, rfl, by decide, by decide, by decide, topc_le _⟩
theorem kd_rule (kd : Kd) : (kd.str == ("rule" : Str)) = kd.rl := by cases kd <;> kernel_rfl
theorem call_sub {v sl : Expr} {ps p2 p3 : Pos} {name : Str} {args : List Expr} {env : Env} : eval (.Call (.Attribute (.Subscript v sl ps) name p2) args [] p3) env = (do
      let ov ← eval (.Subscript v sl ps) env
      standAt p2.atName
      methodCall (.Subscript v sl ps) name p2 p3 env ov (args.length + 0) (backTo p3 (starEach args env)) []) := rfl
theorem call_ife {c x y : Expr} {ps p2 p3 : Pos} {name : Str} {args : List Expr} {env : Env} : eval (.Call (.Attribute (.IfExp c x y ps) name p2) args [] p3) env = (do
      let ov ← eval (.IfExp c x y ps) env
      standAt p2.atName
      methodCall (.IfExp c x y ps) name p2 p3 env ov (args.length + 0) (backTo p3 (starEach args env)) []) := rfl
theorem first_next (rl : Bool) (wl : List Wd) (a : Nat) {wd : Wd} (hw : wl[a]? = some wd) : firstStr rl wl (a + 1) = (if rl && decide (a = 2) then wd.str else firstStr rl wl a) := by
  unfold firstStr
  cases rl with
  | false => simp
  | true =>
    by_cases h : a = 2
    · subst h; simp [hw]
    · have e1 : decide (a = 2) = false := by simpa using h
      have e2 : decide (2 < a + 1) = decide (2 < a) := by
        by_cases h2 : 2 < a
        · simp [h2]; omega
        · have h3 : ¬ 2 < a + 1 := by omega
          simp [h2, h3]
      rw [e1, e2]; simp
theorem size_next {wl : List Wd} {st st' : St} (hst : st'.stack.length ≤ st.stack.length + 6) (hmu : mu_ wl st' < mu_ wl st) (hz : st.stack.length + 6 * mu_ wl st ≤ 600) : st'.stack.length + 6 * mu_ wl st' ≤ 600 := by omega
set_option maxHeartbeats 4000000 in
theorem stop_spec {kd : Kd} {v : Value} {ws : List Wd} (B : Bs w mg mb h₀) (G : Gh h₀ h mu nw) (hA : Room A 10) (hH : A.handled = none) (hw : WdsAt nw v ws) (hl : ws.length ≤ 28) (hf : NoFin ws)
    (hq : ∀ h' tk' v nw' (r : Option Nat), (∀ q ∈ nw, q ∈ nw') → Gh h₀ h' mu nw' → (r = none ∧ v = .none ∨ ∃ i t, r = some i ∧ v = .int (i : Nat) t) → Rn kd.rl (ws ++ [.fin]) kd.st r → Q v (S z h' tk')) :
    wpAny (model PG w) A (call (.ref 345) [.str kd.str t1, v]) Q E (S z h tk) := by
  have hR : ∀ env, Room (A.deeper env) 9 := fun env => Room.deeper hA
  obtain ⟨D0, ys, m0, rfl, hD0, hfa⟩ := hw
  have hyl := fa2_len hfa
  refine wpAny_call ?_
  refine enterCodeC ["kind", "words", "at", "stack", "names", "is_right", "lost", "first", "sign", "word", "late"] ["list", "_law_wanted", "_law_is_word"] [some (.str kd.str t1), some (.ref D0), none, none, none, none, none, none, none, none, none] "left" B G hA.depth rfl rfl rfl rfl ⟨rfl, by decide, by decide, by decide, by decide⟩ (fun n => rfl) rfl ?_ rfl rfl
  intro L oL h₁ tk' hoL ev Av Qv Ev G
  let Gs := fun (vs : List (Option Value)) (mu nw : Led) (h : Heap) => G.same vs mu nw h
  refine wpAny_execs_cons ?_
  try k_fold
  refine Assign3 G hH ?_
  refine wpAny_BinOp ?_
  refine Call_ ?_
  refine r_blt G (by walk_at "m:has") (g_list w).1 (g_list w).2.1 (g_list w).2.2 ?_
  refine cw_t ?_
  refine args_cons ?_
  walk_at "m:loc"
  refine args_nil ?_
  refine r_listlist G (G.G.get hD0) (by omega) ?_
  intro D1 h2 n2 G
  refine List_ ?_
  refine args_cons ?_
  refine r_str ?_
  intro t2
  refine args_nil ?_
  refine r_list (by show 1 ≤ 2 ^ 24; decide) G (fun D2 h3 G => ?_)
  refine r_addwords (xs := ws) (ys := [.fin]) G ⟨D1, ys, n2, rfl, .tail _ (.head _), hfa⟩ (wdlist (.cons ⟨t2, rfl⟩ .nil)) (by simp; omega) ?_
  intro v4 h4 nw4 hs4 G hw4
  have hs4 : ∀ q ∈ nw, q ∈ nw4 := fun q hq => hs4 _ (.tail _ (.tail _ hq))
  refine r_int ?_
  intro t5
  try k_fold
  refine wpAny_mono (Q := fun v3 s3 => Ex3 fun h tk nw' => Al4 (s3 = S z h tk) (Gs [some (.str kd.str t1), some (.ref D0), none, none, none, none, none, none, none, none, none] ((L + 1, oL) :: mu) nw' h) ((∀ q ∈ nw4, q ∈ nw')) (SgsAt nw' v3 kd.st.stack)) ?_ (fun v3 s3 hv3 => ?_) (fun _ _ x => x)
  try k_fold
  · refine wpAny_IfExp ?_
    refine wpAny_isTrue_Compare1 ?_
    walk_at "m:loc"
    refine r_strN ?_
    refine PyProof.Rows.ne_str ?_
    refine wpAny_truthy_bool ?_
    cases kd with
    | rule =>
      with_reducible refine ifF (by decide +kernel) ?_
      refine List_ ?_
      refine args_cons ?_
      walk_at "m:loc"
      refine args_nil ?_
      refine r_list (by show 1 ≤ 2 ^ 24; decide) G (fun D7 h7 G => ?_)
      exact ⟨_, _, _, rfl, G, fun q hq => .tail _ hq, ⟨D7, _, 0, rfl, .head _, .cons ⟨t1, rfl⟩ .nil⟩⟩
    | term =>
      with_reducible refine ifT (by decide +kernel) ?_
      refine List_ ?_
      refine args_cons ?_
      walk_at "m:loc"
      refine args_cons ?_
      refine r_str ?_
      intro t7
      refine args_nil ?_
      refine r_list (by show 2 ≤ 2 ^ 24; decide) G (fun D7 h7 G => ?_)
      exact ⟨_, _, _, rfl, G, fun q hq => .tail _ hq, ⟨D7, _, 0, rfl, .head _, .cons ⟨t1, rfl⟩ (.cons ⟨t7, rfl⟩ .nil)⟩⟩
    | paper =>
      with_reducible refine ifT (by decide +kernel) ?_
      refine List_ ?_
      refine args_cons ?_
      walk_at "m:loc"
      refine args_cons ?_
      refine r_str ?_
      intro t7
      refine args_nil ?_
      refine r_list (by show 2 ≤ 2 ^ 24; decide) G (fun D7 h7 G => ?_)
      exact ⟨_, _, _, rfl, G, fun q hq => .tail _ hq, ⟨D7, _, 0, rfl, .head _, .cons ⟨t1, rfl⟩ (.cons ⟨t7, rfl⟩ .nil)⟩⟩
  obtain ⟨h8, tk8, nw8, rfl, G, hs8, hsv⟩ := hv3
  refine ⟨h8, tk8, _, _, _, rfl, G, fun h9 G => ?_⟩
  walk_at "m:st"
  intro h10 tk10 G
  walk_at "m:st"
  intro h11 tk11 G
  walk_at "m:st"
  intro h12 tk12 G
  obtain ⟨DW, wvs, wn, rfl, hDW, hwf⟩ := hw4.mono hs8
  refine wpAny_execs_cons ?_
  try k_fold
  refine PyProof.Rows.Assign_Tuple ?_
  refine Tuple_ ?_
  refine args_cons ?_
  refine List_ ?_
  refine args_cons ?_
  refine List_ ?_
  refine args_nil ?_
  refine r_listM (by show 0 ≤ 2 ^ 24; decide) G (fun DN h13 G => ?_)
  refine args_nil ?_
  refine r_list (by show 1 ≤ 2 ^ 24; decide) G (fun DNs h14 G => ?_)
  refine args_cons ?_
  refine wpAny_Constant_bool ?_
  refine args_cons ?_
  refine List_ ?_
  refine args_nil ?_
  refine r_listM (h := h14) (by show 0 ≤ 2 ^ 24; decide) G (fun DL h15 G => ?_)
  refine args_cons ?_
  refine List_ ?_
  refine args_nil ?_
  refine r_listM (by show 0 ≤ 2 ^ 24; decide) G (fun DO h16 G => ?_)
  refine args_cons ?_
  refine r_str ?_
  intro t17
  refine args_nil ?_
  refine r_tup (by show 5 ≤ 2 ^ 24; decide) G (fun T h18 G => ?_)
  refine wpAny_assign_Tuple (s := S z h18 _) hH ⟨_, G.G.get (.head _), rfl, 0, rfl⟩ rfl rfl fun h19 he19 => ?_
  have G := (G.Ns_keep fun b o e => he19 b o (Nat.ne_of_lt (Heap.lt_size e)) e).less
  show wpAny _ _ (assignInOrder [assign (.Name "names" _) _, assign (.Name "is_right" _) _, assign (.Name "left" _) _, assign (.Name "lost" _) _, assign (.Name "first" _) _] [.ref DNs, .bool false, .ref DL, .ref DO, .str "" t17]) _ _ _
  refine assignInOrder_cons ?_
  refine wpAny_assign_Name ?_
  refine r_st (h := h19) G (by walk_at "m:setat") ?_
  intro h20 tk20 G
  refine assignInOrder_cons ?_
  refine wpAny_assign_Name ?_
  walk_at "m:st"
  intro h21 tk21 G
  refine assignInOrder_cons ?_
  refine wpAny_assign_Name ?_
  have G := G.perm (mu' := (L + 1, oL) :: (DN, lst []) :: (DL, lst []) :: (DO, lst []) :: mu) (by
    refine (List.perm_append_comm (l₁ := [(DO, lst []), (DL, lst []), (DN, lst [])]) (l₂ := [(L + 1, oL)])).append_right mu |>.trans ?_
    exact .cons _ ((List.reverse_perm [(DN, lst []), (DL, lst []), (DO, lst [])]).append_right mu))
  refine st_cell (h := h21) G rfl rfl hoL ?_
  intro h22 oc hoc G
  have G := G.settle
  refine assignInOrder_cons ?_
  refine wpAny_assign_Name ?_
  refine r_st (h := h22) G (by walk_at "m:setat") ?_
  intro h23 tk23 G
  refine assignInOrder_cons ?_
  refine wpAny_assign_Name ?_
  walk_at "m:st"
  intro h24 tk24 G
  refine assignInOrder_nil ?_
  generalize hwl : ws ++ [Wd.fin] = wl at hwf hq
  have hwll : wl.length = ws.length + 1 := by rw [← hwl]; simp
  have hfin : ∀ (p : Nat) x, wl[p]? = some x → x ≠ .fin → p + 1 < wl.length := fun p x hp hx => by
    rw [hwll]
    rw [← hwl] at hp
    rcases Nat.lt_or_ge p ws.length with h | h
    · omega
    · rw [List.getElem?_append_right h] at hp
      cases hz : p - ws.length with
      | zero => rw [hz] at hp; cases hp; exact absurd rfl hx
      | succ k => rw [hz] at hp; simp at hp
  have hK := kd_st kd
  refine wpAny_execs_cons ?_
  try k_fold
  refine wpAny_While ?_
  try k_fold
  refine codeAny_whileLoop (fun n s => Ex6 fun h tk vs mu' nw' st => Al4 (s = S z h tk) (SInv kd wl (.str kd.str t1) (.ref DW) DL DO (L + 1) mu nw8 vs mu' nw' st) (Gs vs mu' nw' h) (n = mu_ wl st)) ?_ (mu_ wl kd.st) ?_
  rotate_left
  · refine ⟨h24, _, _, _, _, kd.st, rfl, ⟨t5, _, DNs, t17, none, none, none, DN, [], _, [], _, [], _, [], 0, oc, ?_, rfl, fun q hq => .tail _ (.tail _ hq), hsv.mono fun q hq => .tail _ (.tail _ hq), .tail _ (.head _), .head _, hoc, ?_, ?_, ?_, ⟨hK.2.2.2.2.2.2.1, fun _ => ?_, ?_⟩, hK.2.2.2.2.2.2.2.1, ?_, ?_, ?_, ?_, ?_, fun r h => h⟩, G, rfl⟩
    · rw [hK.1, hK.2.2.1]
      unfold firstStr
      rw [show (kd.rl && decide (2 < 0)) = false by simp]
      rfl
    · rw [hK.2.1]; exact .nil
    · rw [hK.2.2.2.1]; exact .nil
    · rw [hK.2.2.2.2.1]; exact .nil
    · rw [hK.1]; omega
    · rw [hK.2.1]; simp
    all_goals (unfold mu_; have := hK.2.2.2.2.2.1; have := hK.2.2.2.2.2.2.2.2; rw [hK.1]; (try simp only [List.length_nil]); omega)
  intro n s0 hI_
  try k_fold
  obtain ⟨h, tk, vs, mu', nw', st, rfl, hI, G, hn⟩ := hI_
  obtain ⟨ta, sv, DNs, tf, k1, k2, k3, DN, nvs, nn, lvs, ln, ovs, on, ons, m, oc, rfl, rfl, hsub, hsv, hDNs, hcl, hoc, hnv, hlv, hov, I, hall, hz1, hz2, hz3, hz4, hz5, hback⟩ := hI
  obtain ⟨a, stk, N, R, l, lo⟩ := st
  dsimp only at G hsv hnv hlv hov hall hz1
  obtain ⟨Dk, kvs, kn, rfl, hDk, hkf⟩ := hsv
  refine wpAny_isTrue_Compare1 ?_
  walk_at "m:loc"
  refine List_ ?_
  refine args_nil ?_
  refine r_list (by show 0 ≤ 2 ^ 24; decide) G (fun De he G => ?_)
  refine ne_nil (s := S z he _) (G.G.get (.tail _ hDk)) (G.G.get (.head _)) (hR _).units ?_
  refine wpAny_truthy_bool ?_
  have G := G.less
  cases stk with
  | nil =>
    cases hkf
    refine ifF (by rfl) ?_
    refine wpAny_execs_nil ?_
    refine wpAny_execs_cons ?_
    try k_fold
    refine wpAny_Return_some ?_
    refine wpAny_Constant_none ?_
    exact hq _ _ _ nw' none (fun q hq => hsub _ (hs8 _ (hs4 _ hq))) G.G.lessM.lessM.lessM (.inl ⟨rfl, rfl⟩) (hback none (.done rfl))
  | cons s Sk =>
  obtain ⟨ts, kvs', rfl, hkf'⟩ : ∃ ts kvs', kvs = .str s.str ts :: kvs' ∧ Fa2 IsG kvs' Sk:= by
    cases hkf with
    | cons a b => obtain ⟨ts, rfl⟩ := a; exact ⟨ts, _, rfl, b⟩
  refine ifT (by rfl) ?_
  have hs : s ∈ Sg.all := hall s (.head _)
  have hlt : a < wl.length := I.lt (by simp)
  have hkl : (s :: Sk).length ≤ 1000 := by omega
  obtain ⟨vw, wd, hvw, hwd, tw, rfl⟩ := fa2_at hwf (i := a) (by rw [fa2_len hwf]; exact hlt)
  have hsv : SgsAt nw' (.ref Dk) (s :: Sk) := ⟨Dk, _, kn, rfl, hDk, .cons ⟨ts, rfl⟩ hkf'⟩
  refine wpAny_execs_cons ?_
  try k_fold
  refine Assign2 G hH ?_
  refine Subscript_ ?_
  walk_at "m:loc"
  refine r_intN ?_
  refine r_item_list (G.G.get hDk) (by decide) (by decide) (v := .str s.str ts) rfl ?_
  refine Subscript_ ?_
  refine r_loc (h := he) G (by walk_at "m:at") ?_
  walk_at "m:loc"
  refine r_item_list (G.G.get (hsub _ hDW)) (by omega) (by omega) (v := .str wd.str tw) (by rw [Int.toNat_natCast]; exact hvw) ?_
  refine ⟨he, _, _, _, _, rfl, G, fun h3 G => ?_⟩
  walk_at "m:st"
  intro h4 tk4 G
  walk_at "m:st"
  intro h5 tk5 G
  refine wpAny_execs_cons ?_
  try k_fold
  try k_fold
  refine wpAny_mono (Q := fun f s' => Ex5 fun h tk vs mu' nw' => Al3 (s' = S z h tk) (Gs vs mu' nw' h) (((f = .next ∧ ∃ st', SInv kd wl (.str kd.str t1) (.ref DW) DL DO (L + 1) mu nw8 vs mu' nw' st' ∧ mu_ wl st' < mu_ wl ⟨a, s :: Sk, N, R, l, lo⟩) ∨
    (Ex5 fun (i : Nat) (t : Tok) (p1 p2 p3 : Addr × Obj) => Al4 (f = .ret (.int (i : Nat) t)) (Rn kd.rl wl kd.st (some i)) ((∀ q ∈ nw8, q ∈ nw')) (mu' = p1 :: p2 :: p3 :: mu))))) ?_ (fun f s' hs' => ?_) (fun _ _ x => x)
  try k_fold
  rotate_left
  · obtain ⟨h6, tk6, vs6, mu6, nw6, rfl, G, hor⟩ := hs'
    rcases hor with ⟨rfl, st', hI, hmu⟩ | ⟨i, t, p1, p2, p3, rfl, hr, hs6, rfl⟩
    · refine wpAny_execs_nil ?_
      exact ⟨_, by rw [hn]; exact hmu, h6, tk6, vs6, mu6, nw6, st', rfl, hI, G, rfl⟩
    · exact hq _ _ _ nw6 (some i) (fun q hq => hs6 _ (hs8 _ (hs4 _ hq))) G.G.lessM.lessM.lessM (.inr ⟨i, t, rfl, rfl⟩) hr
  -- right
  refine wpAny_If ?_
  try k_fold
  refine wpAny_isTrue_Compare1 ?_
  walk_at "m:loc"
  refine r_strN ?_
  refine PyProof.Rows.eq_str ?_
  refine wpAny_truthy_bool ?_
  change if (s.str == Sg.right.str) = true then _ else _
  rw [sg_eq hs (by decide)]
  refine ifs (fun hb => ?_) (fun hnr => ?_)
  · have e : s = .right := of_decide_eq_true hb
    subst e
    refine wpAny_execs_cons ?_
    try k_fold
    refine Assign2 G hH ?_
    refine wpAny_Constant_bool ?_
    refine s_tail G (by walk_at "m:at") hsv hkl ?_
    intro v6 h6 nw6 tk6 hs6 G hv6
    refine ⟨h6, _, _, _, _, rfl, G, fun h7 G => ?_⟩
    walk_at "m:st"
    intro h8 tk8 G
    walk_at "m:st"
    intro h9 tk9 G
    refine wpAny_execs_nil ?_
    have hm : mstep kd.rl wl ⟨a, .right :: Sk, N, R, l, lo⟩ = some (.inl ⟨a, Sk, N, true, l, lo⟩) := ms_right hwd
    obtain ⟨I', hmu, hst, hnm⟩ := mstep_inl hfin I hm
    exact ⟨h9, _, _, _, nw6, rfl, G, .inl ⟨rfl, ⟨a, Sk, N, true, l, lo⟩, ⟨ta, v6, DNs, tf, _, _, _, DN, nvs, nn, lvs, ln, ovs, on, ons, m, oc, rfl, rfl, fun q hq => hs6 _ (hsub _ hq), hv6, hs6 _ hDNs, hs6 _ hcl, hoc, hnv, hlv, hov, I', fun s' hs' => hall s' (.tail _ hs'), size_next hst hmu hz1, by omega, by omega, by omega, by omega, fun r hr => hback r (.go hm hr)⟩, hmu⟩⟩
  -- made
  have hnr : s ≠ .right := of_decide_eq_false hnr
  refine wpAny_execs_cons ?_
  try k_fold
  refine wpAny_If ?_
  try k_fold
  refine wpAny_isTrue_Compare1 ?_
  walk_at "m:loc"
  refine r_str ?_
  intro t7
  refine PyProof.Rows.eq_str ?_
  refine wpAny_truthy_bool ?_
  change if (s.str == Sg.made.str) = true then _ else _
  rw [sg_eq hs (by decide)]
  refine ifs (fun hb => ?_) (fun hnm => ?_)
  · have e : s = .made := of_decide_eq_true hb
    subst e
    refine wpAny_execs_cons ?_
    try k_fold
    try k_fold
    refine wpAny_mono (Q := fun f s' => Ex3 fun h tk nw2 => Al4 (s' = S z h tk) (Gs [some (.str kd.str t1), some (.ref DW), some (.int (a : Nat) ta), some (.ref Dk), some (.ref DNs), some (.bool R), some (.ref DO), some (.str (firstStr kd.rl wl a) tf), some (.str Sg.made.str ts), some (.str wd.str tw), k3] ((DN, lstO nvs nn) :: (DL, lstO lvs ln) :: (DO, lstO ovs on) :: mu) nw2 h) ((∀ q ∈ nw', q ∈ nw2)) (((f = .next ∧ badMade kd.rl wl ⟨a, .made :: Sk, N, R, l, lo⟩ = false) ∨ ∃ t, f = .ret (.int 0 t) ∧ badMade kd.rl wl ⟨a, .made :: Sk, N, R, l, lo⟩ = true))) ?_ (fun f s' hs' => ?_) (fun _ _ x => x)
    try k_fold
    · refine wpAny_If ?_
      try k_fold
      try k_fold
      refine wpAny_mono (Q := fun c s' => c = badMade kd.rl wl ⟨a, .made :: Sk, N, R, l, lo⟩ ∧ Ex3 fun h tk nw2 => Al3 (s' = S z h tk) (Gs [some (.str kd.str t1), some (.ref DW), some (.int (a : Nat) ta), some (.ref Dk), some (.ref DNs), some (.bool R), some (.ref DO), some (.str (firstStr kd.rl wl a) tf), some (.str Sg.made.str ts), some (.str wd.str tw), k3] ((DN, lstO nvs nn) :: (DL, lstO lvs ln) :: (DO, lstO ovs on) :: mu) nw2 h) ((∀ q ∈ nw', q ∈ nw2))) ?_ (fun c s' hc => ?_) (fun _ _ x => x)
      try k_fold
      · refine wpAny_isTrue_BoolOp ?_
        refine wpAny_allTrue_Or_cons ?_
        refine wpAny_isTrue_Compare1 ?_
        refine Subscript_ ?_
        walk_at "m:loc"
        refine Slice_ns ?_
        refine r_intN ?_
        refine r_slice_ns G (Nat.le_trans (first_len _ _ _) (by decide)) ?_
        intro h9 t9 tk9 G
        refine r_strN ?_
        refine PyProof.Rows.eq_str ?_
        refine wpAny_truthy_bool ?_
        rw [first_var]
        refine ifs (fun hc => ?_) (fun hc => ?_)
        · exact ⟨by unfold badMade; dsimp only; rw [hc]; rfl, _, _, _, rfl, G, fun _ h => h⟩
        have hbm : badMade kd.rl wl ⟨a, .made :: Sk, N, R, l, lo⟩ = (!(ovs.filter (lostP (l.map Wd.str))).isEmpty) := by
          rw [lost_any hov]
          unfold badMade
          dsimp only
          rw [hc]; rfl
        have hcell := G.G.get hcl
        have hDLg := G.getM (.tail _ (.head _))
        have hval : ∀ v ∈ ovs, ∃ k t, v = .str k t ∧ k ∈ lo.map Wd.str:= fun v hv => StrsAre.mem (fa2_strs hov) hv
        refine wpAny_allTrue_Or_cons ?_
        refine wpAny_isTrue_Compare1 ?_
        try k_fold
        refine r_compZ (cl := [("left", L + 1)]) (A := A.deeper _) G hH rfl (by decide) rfl (by decide) rfl ?_
        walk_at "m:loc"
        try k_fold
        refine ⟨lostP (l.map Wd.str), fun v y => y = v, DO, ovs, on, h9, _, z, _, _, rfl, rfl, G, List.mem_append_left _ (.tail _ (.tail _ (.head _))), sl_small (m := 200) (by omega) (by decide), ?_, ?_, ?_⟩
        · intro C v s₃ m₃ E' hv hn hm hk
          obtain ⟨k, t, rfl, hkm⟩ := hval v hv
          refine wpAny_tests_one ?_
          refine wpAny_isTrue_Compare1 ?_
          refine with_cs ["name"] [] [some (.str k t)] (G.bs.keep fun b o e => hk _ _ (G.G.stays _ _ e)) (Sc.of rfl rfl rfl (by decide) (by decide)) rfl rfl ⟨m₃, hn, hm, trivial⟩ fun cs => ?_
          refine c_loc cs .head ?_
          refine c_cell cs rfl rfl (hk _ _ hcell) hoc rfl ?_
          refine notin_list_strs (ys := l.map Wd.str) ⟨_, hk _ _ hDLg, rfl, ln, rfl⟩ (fa2_strs hlv) ?_
          refine wpAny_truthy_bool ?_
          exact ⟨rfl, s₃.heap, s₃.toks, rfl, fun _ _ e => e⟩
        · intro C v s₃ m₃ E' hv _ hn hm hk
          refine with_cs ["name"] [] [some v] (G.bs.keep fun b o e => hk _ _ (G.G.stays _ _ e)) (Sc.of rfl rfl rfl (by decide) (by decide)) rfl rfl ⟨m₃, hn, hm, trivial⟩ fun cs => ?_
          refine c_loc cs .head ?_
          exact ⟨rfl, s₃.heap, s₃.toks, rfl, fun _ _ e => e⟩
        · intro D20 h20 tk20 rs n20 G _ hrs
          have hrs := paired_eq hrs
          subst hrs
          refine List_ ?_
          refine args_nil ?_
          refine r_list (by show 0 ≤ 2 ^ 24; decide) G (fun D22 h22 G => ?_)
          refine ne_nil (s := S z h22 _) (G.G.get (.tail _ (.head _))) (G.G.get (.head _)) (hR _).units ?_
          refine wpAny_truthy_bool ?_
          refine ifs (fun hd => ?_) (fun hd => ?_)
          · exact ⟨by rw [hbm, hd], _, _, _, rfl, G, fun q hq => .tail _ (.tail _ hq)⟩
          · refine wpAny_allTrue_Or_nil ?_
            exact ⟨by rw [hbm, hd], _, _, _, rfl, G, fun q hq => .tail _ (.tail _ hq)⟩
      · obtain ⟨hc, h23, tk23, nw23, rfl, G, hs23⟩ := hc
        refine ifs (fun hd => ?_) (fun hd => ?_)
        · refine wpAny_execs_cons ?_
          try k_fold
          refine wpAny_Return_some ?_
          refine r_intN ?_
          exact ⟨_, _, _, rfl, G, hs23, .inr ⟨_, rfl, by rw [← hc]; exact hd⟩⟩
        · refine wpAny_execs_nil ?_
          exact ⟨_, _, _, rfl, G, hs23, .inl ⟨rfl, by rw [← hc]; exact hd⟩⟩
    · obtain ⟨h25, tk25, nw25, rfl, G, hs25, hor⟩ := hs'
      rcases hor with ⟨rfl, hbm⟩ | ⟨t, rfl, hbm⟩
      · refine wpAny_execs_cons ?_
        try k_fold
        refine wpAny_Assign_Name ?_
        refine s_tail G (by walk_at "m:at") (hsv.mono hs25) hkl ?_
        intro v6 h6 nw6 tk6 hs6 G hv6
        walk_at "m:st"
        intro h9 tk9 G
        refine wpAny_execs_nil ?_
        refine wpAny_execs_nil ?_
        have hm : mstep kd.rl wl ⟨a, .made :: Sk, N, R, l, lo⟩ = some (.inl ⟨a, Sk, N, R, l, lo⟩) := ms_made0 hwd hbm
        obtain ⟨I', hmu, hst, hnm⟩ := mstep_inl hfin I hm
        have hs6 : ∀ q ∈ nw', q ∈ nw6 := fun q hq => hs6 _ (hs25 _ hq)
        exact ⟨h9, _, _, _, nw6, rfl, G, .inl ⟨rfl, ⟨a, Sk, N, R, l, lo⟩, ⟨ta, v6, DNs, tf, _, _, _, DN, nvs, nn, lvs, ln, ovs, on, ons, m, oc, rfl, rfl, fun q hq => hs6 _ (hsub _ hq), hv6, hs6 _ hDNs, hs6 _ hcl, hoc, hnv, hlv, hov, I', fun s' hs' => hall s' (.tail _ hs'), size_next hst hmu hz1, by omega, by omega, by omega, by omega, fun r hr => hback r (.go hm hr)⟩, hmu⟩⟩
      · have hm : mstep kd.rl wl ⟨a, .made :: Sk, N, R, l, lo⟩ = some (.inr 0) := ms_made1 hwd hbm
        exact ⟨h25, _, _, _, nw25, rfl, G, .inr ⟨0, t, _, _, _, rfl, hback _ (.stop hm), fun q hq => hs25 _ (hsub _ hq), rfl⟩⟩
  -- a sign that opens
  have hnm : s ≠ .made := of_decide_eq_false hnm
  refine wpAny_execs_cons ?_
  try k_fold
  refine wpAny_If ?_
  try k_fold
  refine wpAny_isTrue_Compare1 ?_
  walk_at "m:loc"
  refine Tuple_ ?_
  walk_at "m:strs"
  refine r_tup (by show 9 ≤ 2 ^ 24; decide) G (fun T6 h6 G => ?_)
  refine in_tuple_strs (s := S z h6 _) (ys := ["term", "kids", "papers", "places", "paper", "kind", "rule", "needs", "more"]) ⟨_, G.G.get (.head _), rfl, 0, rfl⟩ (.cons _ _ (.cons _ _ (.cons _ _ (.cons _ _ (.cons _ _ (.cons _ _ (.cons _ _ (.cons _ _ (.cons _ _ .nil))))))))) ?_
  refine wpAny_truthy_bool ?_
  have G := G.less
  rw [sg_wide hs]
  refine ifs (fun hwd' => ?_) (fun hnw => ?_)
  · refine wpAny_execs_cons ?_
    try k_fold
    refine wpAny_Assign_Name ?_
    refine Call_ ?_
    refine r_glo G (by walk_at "m:has") (g_law_wanted w) ?_
    refine callWith_K G.bs.K (keep_stop w).1 ?_
    refine args_cons ?_
    walk_at "m:loc"
    refine args_cons ?_
    walk_at "m:loc"
    refine args_nil ⟨G.K, ?_⟩
    obtain ⟨oF, Gc, hnf, back⟩ := G.call
    refine wanted_spec G.bs Gc ((hR _).le (by omega)) hwd' ?_
    intro h7 tk7 nw7 lv hs7 G7 hlate
    have G := back _ _ _ G7
    refine r_st (h := h7) G (by walk_at "m:setat") ?_
    intro h8 tk8 G
    refine wpAny_execs_cons ?_
    try k_fold
    refine wpAny_If ?_
    try k_fold
    refine wpAny_isTrue_Compare1 ?_
    walk_at "m:loc"
    refine wpAny_Constant_none ?_
    refine is_none_gen ?_
    refine wpAny_truthy_bool ?_
    cases hwt : wanted s wd with
    | none =>
      rw [hwt] at hlate
      subst hlate
      refine ifT (by rfl) ?_
      refine wpAny_execs_cons ?_
      try k_fold
      refine wpAny_Return_some ?_
      walk_at "m:loc"
      have hm : mstep kd.rl wl ⟨a, s :: Sk, N, R, l, lo⟩ = some (.inr a) := ms_none hwd hnr hnm hwd' hwt
      exact ⟨h8, _, _, _, nw7, rfl, G, .inr ⟨a, ta, _, _, _, rfl, hback _ (.stop hm), fun q hq => hs7 _ (hsub _ hq), rfl⟩⟩
    | some late =>
    rw [hwt] at hlate
    have hlate : SgsAt nw7 lv late := hlate
    obtain ⟨Dl, lvs', lln, rfl, hDl, hlf⟩ := id hlate
    refine ifF (by rfl) ?_
    refine wpAny_execs_nil ?_
    obtain ⟨hok, htc, hll, hlne⟩ := wanted_ok hwt I.ok hwd'
    have hm : mstep kd.rl wl ⟨a, s :: Sk, N, R, l, lo⟩ = some (.inl ⟨a, late ++ Sk, if s = .kind ∧ wd = .rule then N ++ [[]] else N, R, l, lo⟩) := ms_some hwd hnr hnm hwd' hwt
    obtain ⟨I', hmu, hst, hnm'⟩ := mstep_inl hfin I hm
    refine wpAny_execs_cons ?_
    try k_fold
    try k_fold
    refine wpAny_mono (Q := fun f s' => f = .next ∧ Ex9 fun h tk nw2 DNs2 DN2 nvs2 nn2 ons2 m2 => Al7 (s' = S z h tk) (Gs [some (.str kd.str t1), some (.ref DW), some (.int (a : Nat) ta), some (.ref Dk), some (.ref DNs2), some (.bool R), some (.ref DO), some (.str (firstStr kd.rl wl a) tf), some (.str s.str ts), some (.str wd.str tw), some (.ref Dl)] ((DN2, lstO nvs2 nn2) :: (DL, lstO lvs ln) :: (DO, lstO ovs on) :: mu) nw2 h) ((∀ q ∈ nw7, q ∈ nw2)) ((DNs2, lstO (ons2 ++ [.ref DN2]) m2) ∈ nw2) (Fa2 IsW nvs2 ((if s = .kind ∧ wd = .rule then N ++ [[]] else N).getLast?.getD [])) (nvs2.length ≤ nvs.length) (ons2.length ≤ ons.length + 1)) ?_ (fun f s' hs' => ?_) (fun _ _ x => x)
    try k_fold
    · refine wpAny_If ?_
      try k_fold
      try k_fold
      refine wpAny_mono (Q := fun c s' => c = decide (s = .kind ∧ wd = .rule) ∧ ∃ tk, s' = S z h8 tk) ?_ (fun c s' hc => ?_) (fun _ _ x => x)
      try k_fold
      · refine wpAny_isTrue_BoolOp ?_
        refine wpAny_allTrue_And_cons ?_
        refine wpAny_isTrue_Compare1 ?_
        walk_at "m:loc"
        refine r_str ?_
        intro t9
        refine PyProof.Rows.eq_str ?_
        refine wpAny_truthy_bool ?_
        change if (s.str == Sg.kind.str) = true then _ else _
        rw [sg_eq hs (by decide)]
        refine ifs (fun hb => ?_) (fun hb => ?_)
        · have e : s = .kind := of_decide_eq_true hb
          refine wpAny_allTrue_And_cons ?_
          refine wpAny_isTrue_Compare1 ?_
          refine r_loc (h := h8) G (by walk_at "m:at") ?_
          refine r_strN ?_
          refine PyProof.Rows.eq_str ?_
          refine wpAny_truthy_bool ?_
          change if (wd.str == Wd.rule.str) = true then _ else _
          rw [Wd.beq]
          refine ifs (fun hc => ?_) (fun hc => ?_)
          · have e2 : wd = .rule := of_decide_eq_true hc
            refine wpAny_allTrue_And_nil ?_
            exact ⟨by simp [e, e2], _, rfl⟩
          · have e2 : wd ≠ .rule := of_decide_eq_false hc
            exact ⟨by simp [e2], _, rfl⟩
        · have e : s ≠ .kind := of_decide_eq_false hb
          exact ⟨by simp [e], _, rfl⟩
      obtain ⟨hc, tk11, rfl⟩ := hc
      refine ifs (fun hd => ?_) (fun hd => ?_)
      · have hkr : s = .kind ∧ wd = .rule := of_decide_eq_true (hc ▸ hd)
        refine wpAny_execs_cons ?_
        try k_fold
        refine wpAny_Assign_Name ?_
        refine wpAny_BinOp ?_
        refine r_loc (h := h8) G (by walk_at "m:at") ?_
        refine List_ ?_
        refine args_cons ?_
        refine List_ ?_
        refine args_nil ?_
        refine r_listM (h := h8) (by show 0 ≤ 2 ^ 24; decide) G (fun DN2 h12 G => ?_)
        refine args_nil ?_
        refine r_list (by show 1 ≤ 2 ^ 24; decide) G (fun D13 h13 G => ?_)
        refine r_addlists G (List.mem_append_right _ (.tail _ (hs7 _ hDNs))) (List.mem_append_right _ (.head _)) (sl_small (m := 1000) (by simp; omega) (by decide)) ?_
        intro D14 h14 G
        refine r_st (h := h14) G (by walk_at "m:setat") ?_
        intro h15 tk15 G
        refine wpAny_execs_nil ?_
        have G := G.swap.lessM
        refine ⟨rfl, h15, _, _, D14, DN2, [], _, ons ++ [.ref DN], _, rfl, G, fun q hq => .tail _ (.tail _ hq), .head _, ?_, Nat.zero_le _, by simp⟩
        rw [if_pos hkr]
        simp
        exact .nil
      · have hkr : ¬ (s = .kind ∧ wd = .rule) := of_decide_eq_false (hc ▸ hd)
        refine wpAny_execs_nil ?_
        refine ⟨rfl, h8, _, nw7, DNs, DN, nvs, nn, ons, m, rfl, G, fun _ h => h, hs7 _ hDNs, ?_, Nat.le_refl _, by omega⟩
        rw [if_neg hkr]
        exact hnv
    obtain ⟨rfl, h16, tk16, nw16, DNs2, DN2, nvs2, nn2, ons2, m2, rfl, G, hs16, hDNs2, hnv2, hnl2, hol2⟩ := hs'
    refine wpAny_execs_cons ?_
    try k_fold
    refine wpAny_Assign_Name ?_
    refine wpAny_BinOp ?_
    walk_at "m:loc"
    refine s_tail (h := h16) G (by walk_at "m:at") (hsv.mono fun q hq => hs16 _ (hs7 _ hq)) hkl ?_
    intro v17 h17 nw17 tk17 hs17 G hv17
    refine s_app G (hlate.mono fun q hq => hs17 _ (hs16 _ hq)) hv17 (by have := hz1; simp only [List.length_cons] at this; omega) ?_
    intro v18 h18 nw18 hs18 G hv18
    walk_at "m:st"
    intro h19 tk19 G
    refine wpAny_execs_nil ?_
    refine wpAny_execs_nil ?_
    refine wpAny_execs_nil ?_
    have hsA : ∀ q ∈ nw7, q ∈ nw18 := fun q hq => hs18 _ (hs17 _ (hs16 _ hq))
    have hsB : ∀ q ∈ nw', q ∈ nw18 := fun q hq => hsA _ (hs7 _ hq)
    refine ⟨h19, _, _, _, nw18, rfl, G, .inl ⟨rfl, ⟨a, late ++ Sk, if s = .kind ∧ wd = .rule then N ++ [[]] else N, R, l, lo⟩, ⟨ta, v18, DNs2, tf, _, _, _, DN2, nvs2, nn2, lvs, ln, ovs, on, ons2, m2, oc, rfl, rfl, fun q hq => hsB _ (hsub _ hq), hv18, hs18 _ (hs17 _ hDNs2), hsB _ hcl, hoc, hnv2, hlv, hov, I', fun s' hs' => ?_, size_next hst hmu hz1, by omega, by omega, by omega, by omega, fun r hr => hback r (.go hm hr)⟩, hmu⟩⟩
    rcases List.mem_append.mp hs' with hs' | hs'
    · exact wanted_all hwt s' hs'
    · exact hall s' (.tail _ hs')
  -- a sign that eats
  refine wpAny_execs_cons ?_
  try k_fold
  refine wpAny_If ?_
  try k_fold
  try k_fold
  refine wpAny_mono (Q := fun c s' => c = (!isWord s wd || (decide (s = .name) && ((N.getLast?.getD []).contains wd))) ∧ ∃ h tk, s' = S z h tk ∧ Gs [some (.str kd.str t1), some (.ref DW), some (.int (a : Nat) ta), some (.ref Dk), some (.ref DNs), some (.bool R), some (.ref DO), some (.str (firstStr kd.rl wl a) tf), some (.str s.str ts), some (.str wd.str tw), k3] ((DN, lstO nvs nn) :: (DL, lstO lvs ln) :: (DO, lstO ovs on) :: mu) nw' h) ?_ (fun c s' hc => ?_) (fun _ _ x => x)
  try k_fold
  · refine wpAny_isTrue_BoolOp ?_
    refine wpAny_allTrue_Or_cons ?_
    refine isTrue_not ?_
    refine wpAny_isTrue_value ?_
    refine Call_ ?_
    refine r_glo G (by walk_at "m:has") (g_law_is_word w) ?_
    refine callWith_K G.bs.K (keep_stop w).2 ?_
    refine args_cons ?_
    walk_at "m:loc"
    refine args_cons ?_
    walk_at "m:loc"
    refine args_nil ⟨G.K, ?_⟩
    obtain ⟨oF, Gc, hnf, back⟩ := G.call
    refine isword_spec G.bs Gc ((hR _).le (by omega)) hs hnw hnr hnm ?_
    intro h7 tk7 G7
    have G := back _ _ _ G7
    refine wpAny_truthy_bool ?_
    refine ifs (fun hb => ?_) (fun hb => ?_)
    · exact ⟨by rw [hb]; rfl, _, _, rfl, G⟩
    refine wpAny_allTrue_Or_cons ?_
    refine wpAny_isTrue_BoolOp ?_
    refine wpAny_allTrue_And_cons ?_
    refine wpAny_isTrue_Compare1 ?_
    refine r_loc (h := h7) G (by walk_at "m:at") ?_
    refine r_strN ?_
    refine PyProof.Rows.eq_str ?_
    refine wpAny_truthy_bool ?_
    change if (s.str == Sg.name.str) = true then _ else _
    rw [sg_eq hs (by decide)]
    refine ifs (fun hd => ?_) (fun hd => ?_)
    · refine wpAny_allTrue_And_cons ?_
      refine wpAny_isTrue_Compare1 ?_
      refine r_loc (h := h7) G (by walk_at "m:at") ?_
      refine Subscript_ ?_
      refine r_loc (h := h7) G (by walk_at "m:at") ?_
      refine wpAny_UnaryOp ?_
      refine r_int (h := h7) ?_
      intro t9
      refine PyProof.Rows.neg_int (s := S z h7 _) ?_
      refine r_last (h := h7) (G.G.get hDNs) (by omega) ?_
      refine in_list_strs (s := S z h7 _) (ys := (N.getLast?.getD []).map Wd.str) ⟨_, G.getM (.head _), rfl, nn, rfl⟩ (fa2_strs hnv) ?_
      refine wpAny_truthy_bool ?_
      rw [any_str]
      refine ifs (fun he => ?_) (fun he => ?_)
      · refine wpAny_allTrue_And_nil ?_
        refine ifT (by rfl) ?_
        exact ⟨by rw [hb, hd, he]; rfl, _, _, rfl, G⟩
      · refine ifF (by rfl) ?_
        refine wpAny_allTrue_Or_nil ?_
        exact ⟨by rw [hb, hd, he]; rfl, _, _, rfl, G⟩
    · refine ifF (by rfl) ?_
      refine wpAny_allTrue_Or_nil ?_
      exact ⟨by rw [hb, hd]; rfl, _, _, rfl, G⟩
  obtain ⟨hc, h10, tk10, rfl, G⟩ := hc
  refine ifs (fun hd => ?_) (fun hd => ?_)
  · rw [hc] at hd
    refine wpAny_execs_cons ?_
    try k_fold
    refine wpAny_Return_some ?_
    walk_at "m:loc"
    have hm : mstep kd.rl wl ⟨a, s :: Sk, N, R, l, lo⟩ = some (.inr a) := ms_bad hwd hnr hnm hnw hd
    exact ⟨h10, _, _, _, nw', rfl, G, .inr ⟨a, ta, _, _, _, rfl, hback _ (.stop hm), hsub, rfl⟩⟩
  rw [hc] at hd
  have hm : mstep kd.rl wl ⟨a, s :: Sk, N, R, l, lo⟩ = some (.inl ⟨a + 1, Sk, if s = .name then addName wd N else N, R, if s = .leaf && wd.var && !R then l ++ [wd] else l, if s = .leaf && wd.var && R then lo ++ [wd] else lo⟩) := ms_ok hwd hnr hnm hnw hd
  obtain ⟨I', hmu, hst, hnm'⟩ := mstep_inl hfin I hm
  have hNne : N ≠ [] := I.nm
  refine wpAny_execs_cons ?_
  try k_fold
  try k_fold
  refine wpAny_mono (Q := fun f s' => f = .next ∧ Ex4 fun h tk nvs2 nn2 => Al4 (s' = S z h tk) (Gs [some (.str kd.str t1), some (.ref DW), some (.int (a : Nat) ta), some (.ref Dk), some (.ref DNs), some (.bool R), some (.ref DO), some (.str (firstStr kd.rl wl a) tf), some (.str s.str ts), some (.str wd.str tw), k3] ((DN, lstO nvs2 nn2) :: (DL, lstO lvs ln) :: (DO, lstO ovs on) :: mu) nw' h) (Fa2 IsW nvs2 ((if s = .name then addName wd N else N).getLast?.getD [])) (nvs2.length ≤ nvs.length + 1)) ?_ (fun f s' hs' => ?_) (fun _ _ x => x)
  try k_fold
  · refine wpAny_If ?_
    try k_fold
    refine wpAny_isTrue_Compare1 ?_
    walk_at "m:loc"
    refine r_strN ?_
    refine PyProof.Rows.eq_str ?_
    refine wpAny_truthy_bool ?_
    change if (s.str == Sg.name.str) = true then _ else _
    rw [sg_eq hs (by decide)]
    refine ifs (fun hb => ?_) (fun hb => ?_)
    · have e : s = .name := of_decide_eq_true hb
      refine wpAny_execs_cons ?_
      try k_fold
      refine wpAny_Expr ?_
      refine mcallX ?_ ?_ call_sub ?_
      · rfl
      rotate_left
      · rfl
      refine Subscript_ ?_
      refine r_loc (h := h10) G (by walk_at "m:at") ?_
      refine wpAny_UnaryOp ?_
      refine r_int (h := h10) ?_
      intro t12
      refine PyProof.Rows.neg_int (s := S z h10 _) ?_
      refine r_last (h := h10) (G.G.get hDNs) (by omega) ?_
      refine Calls.getMethod_list_append (s := S z h10 _) (G.getM (.head _)) rfl rfl ?_
      refine cw_b ?_
      refine args_cons ?_
      refine r_loc (h := h10) G (by walk_at "m:at") ?_
      refine args_nil ?_
      refine append_call G (sl_small (m := 200) (by omega) (by decide)) ?_
      intro h13 m13 G
      refine wpAny_execs_nil ?_
      refine ⟨rfl, h13, _, _, _, rfl, G, ?_, by simp⟩
      rw [if_pos e, last_addName wd hNne]
      exact fa2_app hnv (.cons ⟨tw, rfl⟩ .nil)
    · have e : s ≠ .name := of_decide_eq_false hb
      refine wpAny_execs_nil ?_
      refine ⟨rfl, h10, _, nvs, nn, rfl, G, ?_, by omega⟩
      rw [if_neg e]
      exact hnv
  obtain ⟨rfl, h14, tk14, nvs2, nn2, rfl, G, hnv2, hnl2⟩ := hs'
  refine wpAny_execs_cons ?_
  try k_fold
  try k_fold
  refine wpAny_mono (Q := fun f s' => f = .next ∧ Ex6 fun h tk lvs2 ln2 ovs2 on2 => Al6 (s' = S z h tk) (Gs [some (.str kd.str t1), some (.ref DW), some (.int (a : Nat) ta), some (.ref Dk), some (.ref DNs), some (.bool R), some (.ref DO), some (.str (firstStr kd.rl wl a) tf), some (.str s.str ts), some (.str wd.str tw), k3] ((DN, lstO nvs2 nn2) :: (DL, lstO lvs2 ln2) :: (DO, lstO ovs2 on2) :: mu) nw' h) (Fa2 IsW lvs2 (if s = .leaf && wd.var && !R then l ++ [wd] else l)) (Fa2 IsW ovs2 (if s = .leaf && wd.var && R then lo ++ [wd] else lo)) (lvs2.length ≤ lvs.length + 1) (ovs2.length ≤ ovs.length + 1)) ?_ (fun f s' hs' => ?_) (fun _ _ x => x)
  try k_fold
  · refine wpAny_If ?_
    try k_fold
    try k_fold
    refine wpAny_mono (Q := fun c s' => c = (decide (s = .leaf) && wd.var) ∧ ∃ h tk, s' = S z h tk ∧ Gs [some (.str kd.str t1), some (.ref DW), some (.int (a : Nat) ta), some (.ref Dk), some (.ref DNs), some (.bool R), some (.ref DO), some (.str (firstStr kd.rl wl a) tf), some (.str s.str ts), some (.str wd.str tw), k3] ((DN, lstO nvs2 nn2) :: (DL, lstO lvs ln) :: (DO, lstO ovs on) :: mu) nw' h) ?_ (fun c s' hc => ?_) (fun _ _ x => x)
    try k_fold
    · refine wpAny_isTrue_BoolOp ?_
      refine wpAny_allTrue_And_cons ?_
      refine wpAny_isTrue_Compare1 ?_
      walk_at "m:loc"
      refine r_strN ?_
      refine PyProof.Rows.eq_str ?_
      refine wpAny_truthy_bool ?_
      change if (s.str == Sg.leaf.str) = true then _ else _
      rw [sg_eq hs (by decide)]
      refine ifs (fun hb => ?_) (fun hb => ⟨by rw [hb]; rfl, _, _, rfl, G⟩)
      refine wpAny_allTrue_And_cons ?_
      refine wpAny_isTrue_Compare1 ?_
      refine Subscript_ ?_
      refine r_loc (h := h14) G (by walk_at "m:at") ?_
      refine Slice_ns ?_
      refine r_int (h := h14) ?_
      intro t16
      refine r_slice_ns G wd.sz ?_
      intro h17 t17 tk17 G
      refine r_strN ?_
      refine PyProof.Rows.eq_str ?_
      refine wpAny_truthy_bool ?_
      rw [wd_var]
      refine ifs (fun hc => ?_) (fun hc => ⟨by rw [hb, hc]; rfl, _, _, rfl, G⟩)
      refine wpAny_allTrue_And_nil ?_
      exact ⟨by rw [hb, hc]; rfl, _, _, rfl, G⟩
    obtain ⟨hc, h19, tk19, rfl, G⟩ := hc
    refine ifs (fun hd => ?_) (fun hd => ?_)
    · rw [hc] at hd
      refine wpAny_execs_cons ?_
      try k_fold
      refine wpAny_Expr ?_
      refine mcallX ?_ ?_ call_ife ?_
      · rfl
      rotate_left
      · rfl
      refine wpAny_IfExp ?_
      refine wpAny_isTrue_value ?_
      refine r_loc (h := h19) G (by walk_at "m:at") ?_
      refine wpAny_truthy_bool ?_
      try rw [hd]
      cases R with
      | true =>
        refine ifT (by rfl) ?_
        refine r_loc (h := h19) G (by walk_at "m:at") ?_
        refine Calls.getMethod_list_append (s := S z h19 _) (G.getM (.tail _ (.tail _ (.head _)))) rfl rfl ?_
        refine cw_b ?_
        refine args_cons ?_
        refine r_loc (h := h19) G (by walk_at "m:at") ?_
        refine args_nil ?_
        have G := G.perm (mu' := (DO, lstO ovs on) :: (DN, lstO nvs2 nn2) :: (DL, lstO lvs ln) :: mu) ((List.Perm.cons _ (.swap _ _ _)).trans (.swap _ _ _))
        refine append_call G (sl_small (m := 200) (by omega) (by decide)) ?_
        intro h20 m20 G
        refine wpAny_execs_nil ?_
        have G := G.perm (mu' := (DN, lstO nvs2 nn2) :: (DL, lstO lvs ln) :: (DO, lstO (ovs ++ [.str wd.str tw]) m20) :: mu) ((List.Perm.swap _ _ _).trans (.cons _ (.swap _ _ _)))
        exact ⟨rfl, h20, _, lvs, ln, _, m20, rfl, G, by rw [hd]; exact hlv, by rw [hd]; exact fa2_app hov (.cons ⟨tw, rfl⟩ .nil), by omega, by simp⟩
      | false =>
        refine ifF (by rfl) ?_
        refine wpAny_Name (wpAny_loadName_cell (s := S z h19 _) (c := L + 1) rfl rfl rfl ⟨_, G.G.get hcl, hoc⟩ ?_) rfl
        refine Calls.getMethod_list_append (s := S z h19 _) (G.getM (.tail _ (.head _))) rfl rfl ?_
        refine cw_b ?_
        refine args_cons ?_
        refine r_loc (h := h19) G (by walk_at "m:at") ?_
        refine args_nil ?_
        refine append_call G.swap (sl_small (m := 200) (by omega) (by decide)) ?_
        intro h20 m20 G
        refine wpAny_execs_nil ?_
        exact ⟨rfl, h20, _, _, m20, ovs, on, rfl, G.swap, by rw [hd]; exact fa2_app hlv (.cons ⟨tw, rfl⟩ .nil), by rw [hd]; exact hov, by simp, by omega⟩
    · rw [hc] at hd
      refine wpAny_execs_nil ?_
      refine ⟨rfl, h19, _, lvs, ln, ovs, on, rfl, G, ?_, ?_, by omega, by omega⟩
      · rw [hd]; exact hlv
      · rw [hd]; exact hov
  obtain ⟨rfl, h21, tk21, lvs2, ln2, ovs2, on2, rfl, G, hlv2, hov2, hll2, hol2⟩ := hs'
  refine wpAny_execs_cons ?_
  try k_fold
  try k_fold
  refine wpAny_mono (Q := fun f s' => f = .next ∧ ∃ h tk tf2, s' = S z h tk ∧ Gs [some (.str kd.str t1), some (.ref DW), some (.int (a : Nat) ta), some (.ref Dk), some (.ref DNs), some (.bool R), some (.ref DO), some (.str (firstStr kd.rl wl (a + 1)) tf2), some (.str s.str ts), some (.str wd.str tw), k3] ((DN, lstO nvs2 nn2) :: (DL, lstO lvs2 ln2) :: (DO, lstO ovs2 on2) :: mu) nw' h) ?_ (fun f s' hs' => ?_) (fun _ _ x => x)
  try k_fold
  · have hfn := first_next kd.rl wl a hwd
    refine wpAny_If ?_
    try k_fold
    try k_fold
    refine wpAny_mono (Q := fun c s' => c = (kd.rl && decide (a = 2)) ∧ ∃ tk, s' = S z h21 tk) ?_ (fun c s' hc => ?_) (fun _ _ x => x)
    try k_fold
    · refine wpAny_isTrue_BoolOp ?_
      refine wpAny_allTrue_And_cons ?_
      refine wpAny_isTrue_Compare1 ?_
      walk_at "m:loc"
      refine r_strN ?_
      refine PyProof.Rows.eq_str ?_
      refine wpAny_truthy_bool ?_
      have hkr := kd_rule kd
      rw [hkr]
      refine ifs (fun hb => ?_) (fun hb => ⟨by rw [hb]; rfl, _, rfl⟩)
      refine wpAny_allTrue_And_cons ?_
      refine wpAny_isTrue_Compare1 ?_
      refine r_loc (h := h21) G (by walk_at "m:at") ?_
      refine r_intN ?_
      refine PyProof.Rows.eq_int ?_
      refine wpAny_truthy_bool ?_
      have ha2 : (((a : Nat) : Int) == 2) = decide (a = 2) := by
        by_cases h : a = 2
        · subst h; rfl
        · rw [decide_eq_false h]
          simp; omega
      rw [ha2]
      refine ifs (fun hc => ?_) (fun hc => ⟨by rw [hb, hc]; rfl, _, rfl⟩)
      refine wpAny_allTrue_And_nil ?_
      exact ⟨by rw [hb, hc]; rfl, _, rfl⟩
    obtain ⟨hc, tk24, rfl⟩ := hc
    refine ifs (fun hd => ?_) (fun hd => ?_)
    · rw [hc] at hd
      rw [if_pos hd] at hfn
      refine wpAny_execs_cons ?_
      try k_fold
      refine wpAny_Assign_Name ?_
      refine r_loc (h := h21) G (by walk_at "m:at") ?_
      refine r_st (h := h21) G (by walk_at "m:setat") ?_
      intro h25 tk25 G
      refine wpAny_execs_nil ?_
      exact ⟨rfl, h25, _, tw, rfl, by rw [hfn]; exact G⟩
    · rw [hc] at hd
      rw [if_neg (by rw [hd]; decide)] at hfn
      refine wpAny_execs_nil ?_
      exact ⟨rfl, h21, _, tf, rfl, by rw [hfn]; exact G⟩
  obtain ⟨rfl, h26, tk26, tf2, rfl, G⟩ := hs'
  refine wpAny_execs_cons ?_
  try k_fold
  refine Assign2 G hH ?_
  refine wpAny_BinOp ?_
  walk_at "m:loc"
  refine r_intN ?_
  refine r_add ?_
  intro t28
  refine s_tail G (by walk_at "m:at") hsv hkl ?_
  intro v29 h29 nw29 tk29 hs29 G hv29
  refine ⟨h29, _, _, _, _, rfl, G, fun h30 G => ?_⟩
  walk_at "m:st"
  intro h31 tk31 G
  walk_at "m:st"
  intro h32 tk32 G
  refine wpAny_execs_nil ?_
  refine wpAny_execs_nil ?_
  refine wpAny_execs_nil ?_
  refine wpAny_execs_nil ?_
  exact ⟨h32, _, _, _, nw29, rfl, G, .inl ⟨rfl, ⟨a + 1, Sk, if s = .name then addName wd N else N, R, if s = .leaf && wd.var && !R then l ++ [wd] else l, if s = .leaf && wd.var && R then lo ++ [wd] else lo⟩, ⟨t28, v29, DNs, tf2, _, _, _, DN, nvs2, nn2, lvs2, ln2, ovs2, on2, ons, m, oc, rfl, rfl, fun q hq => hs29 _ (hsub _ hq), hv29, hs29 _ hDNs, hs29 _ hcl, hoc, hnv2, hlv2, hov2, I', fun s' hs' => hall s' (.tail _ hs'), size_next hst hmu hz1, by omega, by omega, by omega, by omega, fun r hr => hback r (.go hm hr)⟩, hmu⟩⟩
end
end
section
variable [OSC]
section
variable {w : World} {mg mb : Str → Option Value} {h₀ h h' : Heap} {env : Env} {ns gs : List Str} {vs vs' : List (Option Value)} {mu nw fr : Led} {z : Shared} {tk : Nat} {A : Around} {E Q : Value → Shared → Prop} {x : Str} {v : Value} {pos : Pos}
theorem c_blt {M : Model} {s : Shared} (C : CS w mg mb env ns gs vs s.heap) (hx : Has gs x) (e : nsIn (KK w) mainGlobals x = some none) (hv : bootBuiltins x = some v) (hn : x ≠ "__name__") (hq : Q v s) : wpAny M A (eval (.Name x pos) env) Q E s :=
  Name_function_global C.sc.kind (C.sc.glo x hx.mem) (loadGlobal_builtin (by rw [C.eg]; exact C.bs.T.g) (mg_none_of C.bs.K C.bs.T.g e) (by rw [C.eb]; exact C.bs.T.b) ((C.bs.T.builtins x hn).trans hv) hq) (C.sc.db x (List.mem_append_right _ hx.mem))
/-- a slice of a list that stands in the base -/
theorem r_sliceup {value slice : Expr} {l : Addr} {ys : List Value} {vl vu vk : Value} {lo hi st : Option Int} {ops : List Value} (G : GS w mg mb h₀ env ns gs vs mu nw h) (il : h.IsList l ys.toArray) (hsz : ys.length ≤ 1000) (pl : IsPart vl lo) (pu : IsPart vu hi) (pk : IsPart vk st) (h0 : st ≠ some 0)
    (hq : ∀ D h', GS w mg mb h₀ env ns gs vs mu ((D, lst (slicePick ys.toArray lo hi st).toList) :: nw) h' → Q (.ref D) (S z h' tk))
    (hs : subscripted slice false (.ref l) (.ref h.objs.size) = operate ops (getItem (.ref l) (.ref h.objs.size)) := by with_unfolding_all rfl) :
    wpAny (model PG w) A (subscriptTail value slice (.ref l) (.ref h.objs.size)) Q E (S z (h.push { cls := .type "slice", data := .fields #[vl, vu, vk] }) tk) := by
  obtain ⟨m, F, hlv⟩ := G.fr
  have N := G.news
  refine tail_any (Heap.IsList.typeIs (s := S z (h.push { cls := .type "slice", data := .fields #[vl, vu, vk] }) tk) (il.push _)) list_getitem_lookup
    (wpAny_getItem_list_slice (il.push _) (Heap.IsSliceOf.new ..) pl pu pk h0 ?_ (by rw [List.size_toArray]; exact sl_small hsz (by decide))) hs
  have N1 := News.push (F.push { cls := .type "slice", data := .fields #[vl, vu, vk] }) (N.grown fun _ _ e => Heap.get?_push_of_some _ e) { cls := .type "list", data := .seq (slicePick ys.toArray lo hi st) }
  have hge : h.objs.size ≤ (h.push { cls := .type "slice", data := .fields #[vl, vu, vk] }).objs.size := by rw [Heap.size_push]; exact Nat.le_succ _
  exact hq _ _ (G.lib ((F.push _).push _) hlv (by simpa using N1) hge)
theorem g_abs (w : World) : nsIn (KK w) mainGlobals "abs" = some none ∧ bootBuiltins "abs" = some (.builtin "abs") ∧ ("abs" : Str) ≠ "__name__" := ⟨by kernel_rfl, by decide +kernel, by decide⟩
theorem turnsT {w : World} {A : Around} (hh : A.handled = none) (I l : Addr) (hne : l ≠ I) (items : Array Value) (x : Str) (px : Pos) :
    KTurns PG w A (.Name x px) I [I, l] [I] items.size (fun i v _ => items[i]? = some v) (fun i v h => items[i]? = some v ∧ (h.IsTupleIter I l (i + 1) ∧ h.IsTuple l items)) (fun i h => h.IsTupleIter I l i ∧ h.IsTuple l items) :=
  KTurns.ofWalks (Walks.tuple hh I l hne items) fun i v s Q E st hq => by
    cases v with
    | ref T => exact wpAny_pure hq
    | _ => exact wpAny_pure hq
end
theorem good_post {a : WData} : PySem.Challenge.rw_pq0119_01.row.claim.post [a] (.bool true) [a] = true := by
  first | kernel_rfl | decide | (with_unfolding_all rfl) | (simp [OpenRow.claim]; done)
theorem law_go {w : World} {mg mb : Str → Option Value} {h₀ h₁ : Heap} {env : Env} {ns gs : List Str} {vs : List (Option Value)} {z : Shared} {tk : Nat} {A : Around} {Q : Flow → Shared → Prop} {E : Value → Shared → Prop} {body : List Stmt} {m : Str → Option Value}
    (B : Bs w mg mb h₀) (hsc : Sc env.scope ns gs) (eg : env.globals = mainGlobals) (eb : env.builtins = builtinsNs) (hL : env.locals = h₀.objs.size) (F : Fr h₀ h₀.objs.size h₁ m) (hl : LV ns vs m)
    (hh : let ev := env; let Av := A; let Qv := Q; let Ev := E; GS w mg mb h₀ ev ns gs vs [] [] h₁ → wpAny (model PG w) Av (execs body ev) Qv Ev (S z h₁ tk)) : wpAny (model PG w) A (execs body env) Q E (S z h₁ tk) :=
  hh ⟨B, hsc, eg, eb, ⟨m, by rw [hL]; exact F.ns, hl⟩, Nat.le_of_eq hL.symm, ⟨F.keep, Nat.le_of_lt F.ns.lt, fun p hp => (nomatch hp), List.nodup_nil, fun p hp => (nomatch hp)⟩, fun p hp => (nomatch hp)⟩
theorem good_true {cl : Str → Option Addr} {mean : ExcName → Option Value} {a : WData} {s₁ : Shared} {h : Heap} {d : Drawn} {tk : Nat} (hk : ∀ b o, s₁.heap.get? b = some o → h.get? b = some o) (hg : s₁.gens = #[]) :
    GoodW PySem.Challenge.rw_pq0119_01.row.claim cl mean [a] s₁ (.ok (.ret (.bool true))) ⟨h, s₁.gens, d, tk, s₁.os⟩ :=
  ⟨.inl ⟨.bool true, .bool true, [], rfl, fun _ => rfl, .bool true, good_post, fun _ => ⟨.nil, fun _ h => nomatch h⟩⟩, hk, rfl, hg⟩
end
section
variable [OSC]
section
variable {w : World} {mg mb : Str → Option Value} {h₀ h h' : Heap} {env : Env} {ns gs : List Str} {vs vs' : List (Option Value)} {mu nw fr : Led} {z : Shared} {tk : Nat} {A : Around} {E : Value → Shared → Prop} {v : Value} {x : Str} {px pos : Pos} {iter : Expr} {body : List Stmt}
theorem words_index {Q : Value → Shared → Prop} {l : Addr} {vs : List Value} {ws : List Wd} {n : Nat} {t : Tok} (hl : h.get? l = some (lstO vs n)) (hf : Fa2 IsW vs ws) (hm : Wd.lb ∈ ws) (hsz : ws.length ≤ 1000) (hq : ∀ t' tk', Q (.int (ws.idxOf .lb : Nat) t') (S z h tk')) :
    wpAny (model PG w) A (call (.builtin "list.index") [.ref l, .str "[" t]) Q E (S z h tk) := by
  have hj : ws.idxOf .lb < ws.length := List.idxOf_lt_length_iff.mpr hm
  have hlen := fa2_len hf
  have hat : ∀ (j : Nat) (hjs : j < vs.length), PyProof.Rows.isStrOf "[" vs[j] = decide (ws[j]? = some .lb) := fun j hjs => by
    obtain ⟨a, b, ha, hb, tt, rfl⟩ := fa2_at hf hjs
    rw [List.getElem?_eq_getElem hjs] at ha
    rw [Option.some.inj ha, hb]
    show (b.str == Wd.lb.str) = _
    rw [Wd.beq]
    simp
  refine call_meets (s := S z h tk) PySem.F.slot_list_index ⟨_, hl, rfl⟩ PySem.F.entry_list_index (PySem.F.args_list_index_2 _ _)
    (MeetsSeq.list_index l vs.toArray n (.str "[" t) (PyProof.Rows.isStrOf "[") (fun y hy => eq_isStrOf "[" t (fa2_strs hf) y (by simpa using hy)) (ws.idxOf .lb) (by simpa [hlen] using hj) (by omega) ?_ ?_) ⟨hl, hq _ _⟩
  · show PyProof.Rows.isStrOf "[" vs[ws.idxOf .lb] = true
    rw [hat _ (by omega), List.getElem?_eq_getElem hj, List.getElem_idxOf hj]
    rfl
  · intro j hjs hlt
    show PyProof.Rows.isStrOf "[" vs[j] = false
    rw [hat _ (by simpa using hjs)]
    refine decide_eq_false fun e => ?_
    have hjw : j < ws.length := by omega
    have := List.not_of_lt_findIdx (p := (· == Wd.lb)) (xs := ws) (i := j) hlt
    rw [List.getElem?_eq_getElem hjw] at e
    rw [Option.some.inj e] at this
    simp at this
/-- for x in range(n), whatever is drawn in the turns -/
theorem r_forZ {Q : Flow → Shared → Prop} (G₀ : GS w mg mb h₀ env ns gs vs mu nw h) (hh : A.handled = none) (J : Nat → List (Option Value) → Led → Led → Prop)
    (hset : ∀ i vs mu nw, J i vs mu nw → ∀ v, ∃ vs', SetAt ns vs x v vs')
    (hi : wpAny (model PG w) A (eval iter env) (fun xv s₁ => Ex10 fun (r : Addr) (n : Nat) (t u t' : Tok) (h : Heap) (tk : Nat) (vs : List (Option Value)) (mu nw : Led) => Al8 (xv = .ref r) (s₁ = S z h tk) (IsRange h r 0 n 1 t u t') (n ≤ 1000) (J 0 vs mu nw) (GS w mg mb h₀ env ns gs vs mu nw h) ((∀ i vs mu nw h tk t vs' I io z, i < n → J i vs mu nw → SetAt ns vs x (.int (i : Nat) t) vs' → GS w mg mb h₀ env ns gs vs' ((I, io) :: mu) nw h →
        wpAny (model PG w) A (execs body env) (fun f s' => f = .next ∧ Ex6 fun z' vs'' mu' nw' h' tk' => Al3 (s' = S z' h' tk') (J (i + 1) vs'' mu' nw') (GS w mg mb h₀ env ns gs vs'' ((I, io) :: mu') nw' h')) (notedBy (model PG w) A env fun e s' => cameBackBy (model PG w) A env E e s') (S z h tk))) ((∀ vs mu nw h tk z, J n vs mu nw → GS w mg mb h₀ env ns gs vs mu nw h → Q .next (S z h tk)))) E (S z h tk))
    (hs : ∀ x, foldedSetIterable iter env x = pure x := by intro _; rfl) :
    wpAny (model PG w) A (exec (.For (.Name x px) iter body [] pos) env) Q E (S z h tk) := by
  refine wpAny_For (wpAny_mono hi (fun xv s₁ h1 => ?_) fun _ _ e => e) hs
  obtain ⟨r, n, t, u, t', h1, tk1, vs1, mu1, nw1, rfl, rfl, hr, hn, hJ, G, step, fin⟩ := h1
  have hsz : Builtin.Range.rangeSize 0 n 1 = n := by rw [rangeSize_one]; split <;> omega
  refine wpAny_pyIter_range (s := S z h1 tk1) hr (small_one (by omega) (by omega) (by omega) (by omega)) ?_
  rw [hsz]
  have G1 := G.pushM (rgO 0 n) rfl
  refine codeAny_forLoop (fun k s => Ex7 fun z i vs mu nw h tk => Al5 (s = S z h tk) (k = n + 1 - i) (i ≤ n) (J i vs mu nw) (GS w mg mb h₀ env ns gs vs ((h1.objs.size, rgO (i : Nat) ((n : Int) - i)) :: mu) nw h)) ?_ (n + 1) ?_
  · intro k s hI_
    try k_fold
    obtain ⟨z, i, vs2, mu2, nw2, h2, tk2, rfl, hk, hin, hJ2, G2⟩ := hI_
    rcases Nat.lt_or_ge i n with hlt | hge
    · refine wpAny_pyNext_range_item (s := S z h2 tk2) (G2.getM (.head _)) (by omega) fun h3 hit hs3 => ?_
      have G3 := G2.set1 hs3 hit
      dsimp only
      obtain ⟨vs3, hvs3⟩ := hset _ _ _ _ hJ2 (.int (i : Nat) tk2)
      refine wpAny_assign_Name ?_
      refine r_st G3 hvs3 fun h4 tk4 G4 => ?_
      refine wpAny_mono (step i vs2 mu2 nw2 h4 tk4 _ _ _ _ z hlt hJ2 hvs3 G4) (fun f s' hf => ?_) fun _ _ e => e
      obtain ⟨rfl, z5, vs5, mu5, nw5, h5, tk5, rfl, hJ5, G5⟩ := hf
      refine ⟨n + 1 - (i + 1), nsub_up' (by assumption) (by assumption), z5, i + 1, vs5, mu5, nw5, h5, tk5, rfl, rfl, by omega, hJ5, ?_⟩
      have e1 : (((i + 1 : Nat) : Int)) = (i : Int) + 1 := rfl
      have e2 : (n : Int) - ((i + 1 : Nat) : Int) = (n : Int) - i - 1 := (Int.sub_sub (n : Int) i 1).symm
      rw [e2, e1]
      exact G5
    · have : i = n := by omega
      subst this
      refine wpAny_pyNext_range_end (s := S z h2 tk2) hh (G2.getM (.head _)) (by omega) fun h3 k3 => ?_
      dsimp only
      refine wpAny_execs_nil ?_
      exact fin _ _ _ h3 tk2 z hJ2 (G2.ext1 k3)
  · exact ⟨z, 0, vs1, mu1, nw1, _, tk1, rfl, rfl, Nat.zero_le _, hJ, by simpa using G1⟩
theorem paired_memR {α β : Type} {F : α → β → Prop} {l : List α} {m : List β} (hp : Paired F l m) : ∀ {b : β}, b ∈ m → ∃ a ∈ l, F a b := by
  induction hp with
  | nil => intro b h; cases h
  | cons f t ih =>
    intro b h
    rcases List.mem_cons.mp h with rfl | h
    · exact ⟨_, .head _, f⟩
    · obtain ⟨a, ha, r⟩ := ih h
      exact ⟨a, .tail _ ha, r⟩
theorem ints_mem {vs : List Value} {ns : List Int} (h : IntsAre vs ns) : ∀ v ∈ vs, ∃ i t, v = .int i t:= by
  induction h with
  | nil => intro v hv; cases hv
  | cons =>
    rename_i ih
    intro v hv
    rcases List.mem_cons.mp hv with rfl | hv
    · exact ⟨_, _, rfl⟩
    · exact ih v hv
theorem rn_lt {rl : Bool} {wl : List Wd} {st : St} {r : Option Nat} (h : Rn rl wl st r) : ∀ i, r = some i → i < wl.length := by
  induction h with
  | done _ => intro i e; cases e
  | @stop st r hm =>
    intro i e
    cases e
    have hlt := ms_at hm
    obtain ⟨a, S, N, R, l, lo⟩ := st
    have h0 : 0 < wl.length := Nat.lt_of_le_of_lt (Nat.zero_le _) hlt
    cases S with
    | nil => rw [ms_end rfl] at hm; cases hm
    | cons s S =>
    obtain ⟨wd, hwd⟩ : ∃ wd, wl[a]? = some wd := ⟨_, List.getElem?_eq_getElem hlt⟩
    rw [ms_step hwd] at hm
    unfold mstepB at hm
    repeat' (split at hm)
    all_goals first | (obtain rfl := Sum.inr.inj (Option.some.inj hm); first | exact h0 | exact hlt) | cases Option.some.inj hm
  | go _ _ ih => exact ih
theorem va_pen (a b : Value) : merged [] [(("cells" : Str), a), ("at", b)] = [(("cells" : Str), a), (("at" : Str), b)] := by
  simp (config := { decide := true }) [merged, stored]
theorem keep_law3 (w : World) : keepIn (KK w) (.ref 319) = true ∧ keepIn (KK w) (.ref 326) = true ∧ keepIn (KK w) (.ref 345) = true ∧ keepIn (KK w) (.ref 352) = true := ⟨by kernel_rfl, by kernel_rfl, by kernel_rfl, by kernel_rfl⟩
end
end
section
local macro_rules | `(tactic| k_qdec) => `(tactic| decide +kernel)
set_option maxHeartbeats 8000000 in
theorem law_holds : PySem.Challenge.rw_pq0119_01.Holds := Mine.hd ⟨left, by
  k_go0
  rename_i w s₀ s₁ mg mb Gr Yx fa of pm doc kV hof hg KX Xm Vl GL T BT TE TW w9 w8 M w7 w6 hcd nsI hsh hlay0 hL1 hr1 hl2 w4 w3 sl vals ww hL ra w1 r0 hI hr hc1 hc2 K0 hD h₁ F N0
  letI : OSC := ⟨s₁.gens, s₁.os⟩
  have B : Bs w mg mb s₁.heap := ⟨KX, topRead_of T⟩
  change wpAny (model PG w) _ _ _ _ (S s₁ h₁ _)
  with_reducible refine law_go (z := s₁) (ns := ["script", "pen", "lap", "kind", "words", "text", "begins", "stop", "due", "told"]) (gs := ["range", "_law_rule_words", "_law_term_words", "_law_paper_words", "_law_bent", "_law_laid", "_law_stop", "_law_spot"]) (vs := [some (.ref sl), none, none, none, none, none, none, none, none, none]) B ?_ ?_ ?_ ?_ F ?_ ?_
  · exact Sc.of rfl rfl rfl (by decide) (by decide)
  · rfl
  · rfl
  · rfl
  · exact ⟨rfl, rfl, rfl, rfl, rfl, rfl, rfl, rfl, rfl, rfl, trivial⟩
  intro ev Av Qv Ev G
  let Gs := fun (vs : List (Option Value)) (mu nw : Led) (h : Heap) => G.same vs mu nw h
  have hvl : vals.length ≤ 63 := by have := hI.length; omega
  have hRm : ∀ env, Room (callerA.deeper env) 200 := fun env => ⟨by show 1 + claimMargin + 1 + 200 < 900; decide, by show 4 + 3 + 8 * 200 < 7900; decide⟩
  have hHn : ∀ env, (callerA.deeper env).handled = none := fun env => rfl
  refine wpAny_execs_cons ?_
  try k_fold
  refine wpAny_Assign_Name ?_
  with_reducible refine r_dictlit ?_ ?_ ?_ ?_ ?_ G ?_
  · rfl
  · rfl
  · rfl
  · simp
  · decide
  intro D o0 h2 G
  with_reducible refine pairTrees_cons_walk ?_
  refine r_strN ?_
  try k_fold
  refine r_compZ (cl := []) G rfl rfl (by decide) rfl (by decide) rfl ?_
  refine Subscript_ ?_
  walk_at "m:loc"
  refine Slice_ns ?_
  refine r_int ?_
  intro t2
  refine r_sliceup G (hL.at fun o e => G.G.stays _ _ e) (by omega) .none (.int 63 t2) .none (by simp) ?_
  intro D2 h3 G
  have hcut : (slicePick vals.toArray none (some 63) none).toList.length ≤ 63 := by
    have h1 := slicePick_size_le vals.toArray none (some 63) none
    have h2 : vals.toArray.size = vals.length := by simp
    rw [Array.length_toList]; omega
  have hint : ∀ v ∈ (slicePick vals.toArray none (some 63) none).toList, ∃ i t, v = .int i t:= fun v hv => by
    have := mem_pick hv
    exact ints_mem hI v (by simpa using this)
  generalize (slicePick vals.toArray none (some 63) none).toList = cut at G hcut hint
  refine ⟨fun _ => true, fun v y => ∃ i t, y = .int i t, D2, cut, 0, h3, _, s₁, _, _, rfl, rfl, G, List.mem_append_right _ (.head _), sl_small (m := 100) (by omega) (by decide), ?_, ?_, ?_⟩
  · intro C v s₃ m₃ E' hv hn hm hk
    exact wpAny_tests_nil ⟨rfl, s₃.heap, s₃.toks, rfl, fun _ _ e => e⟩
  · intro C v s₃ m₃ E' hv _ hn hm hk
    obtain ⟨i, ti, rfl⟩ := hint v hv
    refine with_cs ["cell"] ["abs"] [some (.int i ti)] (G.bs.keep fun b o e => hk _ _ (G.G.stays _ _ e)) (Sc.of rfl rfl rfl (by decide) (by decide)) rfl rfl ⟨m₃, hn, hm, trivial⟩ fun cs => ?_
    refine wpAny_BinOp ?_
    refine Call_ ?_
    refine c_blt cs .head (g_abs w).1 (g_abs w).2.1 (g_abs w).2.2 ?_
    refine cw_b ?_
    refine args_cons ?_
    refine c_loc cs .head ?_
    refine args_nil ?_
    refine call_abs_int (fun u tk => ?_)
    refine wpAny_Constant_int ?_
    refine PyProof.Rows.mod_int (by decide) ?_
    exact ⟨⟨_, _, rfl⟩, s₃.heap, _, rfl, fun _ _ e => e⟩
  intro D3 h4 tk4 rs n4 G hk4 hP
  have hfe : cut.filter (fun _ => true) = cut := List.filter_eq_self.mpr fun _ _ => rfl
  rw [hfe] at hP
  have hrs : ∀ y ∈ rs, ∃ i t, y = .int i t:= fun y hy => by
    obtain ⟨_, _, r⟩ := paired_memR hP hy
    exact r
  have hrl : rs.length ≤ 63 := by
    have := hP.length
    omega
  with_reducible refine pairTrees_cons_walk ?_
  refine r_strN ?_
  refine r_int ?_
  intro t6
  with_reducible refine pairTrees_nil_walk ?_
  refine ⟨h4, _, _, [("cells", .ref D3), ("at", .int 0 t6)], rfl, G, ⟨PySem.strKind_is PG w _ _, rfl, PySem.strKind_is PG w _ _, rfl, trivial⟩, fun h7 o7 tk7 hd G => ?_⟩
  rw [va_pen] at hd
  walk_at "m:st"
  intro h8 tk8 G
  have hpen : IsPen w ((D3, lstO rs n4) :: (D2, lst cut) :: []) o7 0 := ⟨D3, rs, n4, t6, hd, .head _, hrl, hrs⟩
  refine wpAny_execs_cons ?_
  try k_fold
  try k_fold
  refine r_forZ (x := "lap") G rfl (fun i vs mu' nw' => Ex10 fun o' n' k1 k2 k3 k4 k5 k6 k7 k8 => Al4 (vs = [some (.ref sl), some (.ref D), k1, k2, k3, k4, k5, k6, k7, k8]) (mu' = [(D, o')]) (IsPen w nw' o' n') (n' ≤ 900 * i)) ?_ ?_
  · rintro i vs mu' nw' ⟨o', n', k1, k2, k3, k4, k5, k6, k7, k8, rfl, -⟩ v'
    exact ⟨_, .tail (.tail .head)⟩
  refine Call_ ?_
  refine r_blt G (by walk_at "m:has") (g_range w).1 (g_range w).2.1 (g_range w).2.2 ?_
  refine cw_t ?_
  refine args_cons ?_
  refine r_int ?_
  intro t9
  refine args_nil ?_
  refine call_range_1 (s := S s₁ h8 _) ?_
  have Gr := G.push { cls := .type "range", data := .fields #[.int 0 (tk8 + 1), .int 2 t9, .int 1 (tk8 + 1 + 1)] } rfl
  refine ⟨h8.objs.size, 2, tk8 + 1, t9, tk8 + 1 + 1, _, _, _, _, _, rfl, rfl, Gr.G.get (.head _), by omega, ⟨o7, 0, _, _, _, _, _, _, _, _, rfl, rfl, hpen.mono fun q hq => .tail _ hq, by omega⟩, Gr, ?_, ?_⟩
  rotate_left
  · intro vs mu' nw' h tk z hI_ G
    try k_fold
    obtain ⟨o', n', k1, k2, k3, k4, k5, k6, k7, k8, rfl, rfl, hp, hn'⟩ := hI_
    refine wpAny_execs_cons ?_
    try k_fold
    refine wpAny_Return_some ?_
    refine wpAny_Constant_bool ?_
    exact good_true G.G.stays hg
  intro i vs mu' nw' h tk t vs' I io z hi hI_ hset G
  try k_fold
  obtain ⟨o', n', k1, k2, k3, k4, k5, k6, k7, k8, rfl, rfl, hp, hn'⟩ := hI_
  obtain rfl : vs' = [some (.ref sl), some (.ref D), some (.int (i : Nat) t), k2, k3, k4, k5, k6, k7, k8] := hset.at_ (k := 2) G.sc.nd rfl
  refine wpAny_execs_cons ?_
  try k_fold
  refine wpAny_For ?_
  try k_fold
  refine Tuple_ ?_
  refine args_cons ?_
  refine r_str ?_
  intro ta
  refine args_cons ?_
  refine r_str ?_
  intro tb
  refine args_cons ?_
  refine r_str ?_
  intro tc
  refine args_nil ?_
  refine r_tup (by show 3 ≤ 2 ^ 24; decide) G (fun T h10 G => ?_)
  have hTg := G.G.get (.head _)
  refine wpAny_pyIter_tuple (s := S z h10 _) ⟨_, hTg, rfl, 0, rfl⟩ ?_
  have hltT : T < h10.objs.size := Heap.lt_size hTg
  have G := G.pushM { cls := .type "tuple_iterator", data := .fields #[.ref T, .int 0 0] } rfl
  have hIt := G.getM (.head _)
  refine r_forT (own := [(h10.objs.size, { cls := .type "tuple_iterator", data := .fields #[.ref T, .int 0 0] })]) (keep := [(T, tup [.str "term" ta, .str "rule" tb, .str "paper" tc])])
    (J := fun j vs mu2 nw2 hh => Ex9 fun o2 n2 k2 k3 k4 k5 k6 k7 k8 => Al5 (vs = [some (.ref sl), some (.ref D), some (.int (i : Nat) t), k2, k3, k4, k5, k6, k7, k8]) (mu2 = [(I, io), (D, o2)]) (IsPen w nw2 o2 n2) (n2 ≤ n' + 300 * j) ((T, tup [.str "term" ta, .str "rule" tb, .str "paper" tc]) ∈ nw2))
    ?_ ?_ (turnsT (A := callerA.deeper _) rfl h10.objs.size T (Nat.ne_of_lt hltT) [Value.str "term" ta, .str "rule" tb, .str "paper" tc].toArray "kind" _) ?_ ?_ rfl ⟨⟨_, hIt, rfl, rfl⟩, ⟨_, Heap.get?_push_of_some _ hTg, rfl, 0, rfl⟩⟩ ⟨o', n', _, _, _, _, _, _, _, rfl, rfl, hp.mono fun q hq => .tail _ hq, by omega, .head _⟩ G ?_ ?_
  · rintro j vs mu nw hh hh' hk x; exact x
  · rintro j vs mu nw hh ⟨o2, n2, k2, k3, k4, k5, k6, k7, k8, e1, e2, e3, e4, e5⟩ p hp
    rw [List.mem_singleton.mp hp]; exact e5
  · rintro j hh ⟨⟨oi, hoi, hic, hid⟩, _⟩ b hb
    rw [List.mem_singleton.mp hb]
    exact ⟨_, hoi, fun ⟨_, _, e⟩ => by rw [e] at hid; cases hid⟩
  · intro b hb
    rcases List.mem_cons.mp hb with rfl | hb
    · exact .inl (.head _)
    · rw [List.mem_singleton.mp hb]; exact .inr ⟨_, .head _⟩
  rotate_left
  · intro vs mu2 nw2 h11 tk11 z11 hI_ G
    try k_fold
    obtain ⟨o2, n2, k2, k3, k4, k5, k6, k7, k8, rfl, rfl, hp2, hn2, hT2⟩ := hI_
    refine wpAny_execs_nil ?_
    refine ⟨rfl, z11, _, _, _, h11, tk11, rfl, ⟨o2, n2, _, _, _, _, _, _, _, _, rfl, rfl, hp2, ?_⟩, G⟩
    simp at hn2; omega
  intro j v vs mu2 nw2 own h11 tk11 z11 hj how hP hI_ G
  try k_fold
  obtain ⟨o2, n2, k2, k3, k4, k5, k6, k7, k8, rfl, rfl, hp, hn2, hT2⟩ := hI_
  have hkd : ∃ (kd : Kd) (tt : Tok), v = .str kd.str tt:= by
    have hP' : [Value.str "term" ta, .str "rule" tb, .str "paper" tc][j]? = some v := by simpa using hP
    cases j with
    | zero => cases hP'; exact ⟨.term, ta, rfl⟩
    | succ j => cases j with
      | zero => cases hP'; exact ⟨.rule, tb, rfl⟩
      | succ j => cases j with
        | zero => cases hP'; exact ⟨.paper, tc, rfl⟩
        | succ j => simp at hP'
  obtain ⟨kd, tt, rfl⟩ := hkd
  have hj3 : j ≤ 2 := by have : j < 3 := hj; omega
  have hi2 : i < 2 := hi
  have G := G.perm (mu' := (D, o2) :: (I, io) :: own) ((List.perm_append_comm).trans (.swap _ _ _))
  refine wpAny_assign_Name ?_
  refine r_st (h := h11) G (by walk_at "m:setat") ?_
  intro h12 tk12 G
  refine wpAny_execs_cons ?_
  try k_fold
  refine wpAny_Assign_Name ?_
  try k_fold
  refine wpAny_mono (Q := fun v1 s' => Ex5 fun h tk o3 nw3 n3 => Al6 (s' = S z11 h tk) (Gs [some (.ref sl), some (.ref D), some (.int (i : Nat) t), some (.str kd.str tt), k3, k4, k5, k6, k7, k8] ((D, o3) :: (I, io) :: own) nw3 h) ((∀ q ∈ nw2, q ∈ nw3)) (IsPen w nw3 o3 n3) (n3 ≤ n2 + 50) (((kd.rl = false ∧ v1 = .none) ∨ (kd.rl = true ∧ ∃ ws, WdsAt nw3 v1 ws ∧ ws.length ≤ 26 ∧ NoFin ws)))) ?_ (fun v1 s' hv1 => ?_) (fun _ _ x => x)
  try k_fold
  · refine wpAny_IfExp ?_
    refine wpAny_isTrue_Compare1 ?_
    walk_at "m:loc"
    refine r_strN ?_
    refine PyProof.Rows.eq_str ?_
    refine wpAny_truthy_bool ?_
    rw [kd_rule]
    refine ifs (fun hb => ?_) (fun hb => ?_)
    · refine Call_ ?_
      refine r_glo G (by walk_at "m:has") (g_law_rule_words w) ?_
      refine callWith_K G.bs.K (keep_law w).2.2.1 ?_
      refine args_cons ?_
      walk_at "m:loc"
      refine args_nil ⟨G.K, ?_⟩
      obtain ⟨oF, Gc, hnf, back⟩ := G.call1
      refine rw_spec w G.bs Gc ((hRm _).le (by omega)) rfl hp (by omega) ?_
      intro h14 tk14 o14 nw14 n14 v14 ws14 hs14 hn14 hp14 G14 hw14 hl14 hf14
      exact ⟨h14, tk14, o14, nw14, n14, rfl, back _ _ _ _ G14, hs14, hp14, by omega, .inr ⟨hb, ws14, hw14, by omega, hf14⟩⟩
    · refine wpAny_Constant_none ?_
      exact ⟨_, _, _, _, n2, rfl, G, fun _ h => h, hp, by omega, .inl ⟨hb, rfl⟩⟩
  obtain ⟨h15, tk15, o3, nw3, n3, rfl, G, hs3, hp, hn3, hor⟩ := hv1
  refine r_st (h := h15) G (by walk_at "m:setat") ?_
  intro h16 tk16 G
  refine wpAny_execs_cons ?_
  try k_fold
  try k_fold
  refine wpAny_mono (Q := fun f s' => f = .next ∧ Ex7 fun v2 ws h tk o4 nw4 n4 => Al8 (s' = S z11 h tk) (Gs [some (.ref sl), some (.ref D), some (.int (i : Nat) t), some (.str kd.str tt), some v2, k4, k5, k6, k7, k8] ((D, o4) :: (I, io) :: own) nw4 h) ((∀ q ∈ nw2, q ∈ nw4)) (IsPen w nw4 o4 n4) (n4 ≤ n2 + 100) (WdsAt nw4 v2 ws) (ws.length ≤ 26) (NoFin ws)) ?_ (fun f s' hs' => ?_) (fun _ _ x => x)
  try k_fold
  · refine wpAny_If ?_
    try k_fold
    refine wpAny_isTrue_Compare1 ?_
    walk_at "m:loc"
    refine wpAny_Constant_none ?_
    refine is_none_gen ?_
    refine wpAny_truthy_bool ?_
    rcases hor with ⟨hb, rfl⟩ | ⟨hb, ws, hw, hl, hf⟩
    · refine ifT (by rfl) ?_
      refine wpAny_execs_cons ?_
      try k_fold
      refine wpAny_Assign_Name ?_
      refine wpAny_IfExp ?_
      refine wpAny_isTrue_Compare1 ?_
      walk_at "m:loc"
      refine r_strN ?_
      refine PyProof.Rows.eq_str ?_
      refine wpAny_truthy_bool ?_
      refine ifs (fun hc => ?_) (fun hc => ?_)
      · refine b_gen2 (i := 2) (tw_spec w 2 (by decide)) G (by walk_at "m:has") (g_law_term_words w) (keep_law w).2.1 (by walk_at "m:at") ((hRm _).le (by omega)) rfl hp (by show n3 + 14 ≤ 900000; omega) (dealc G) ?_
        intro h18 tk18 o18 nw18 n18 v18 ws18 hs18 hn18 hp18 G hw18 hl18 hf18
        refine r_st (h := h18) G (by walk_at "m:setat") ?_
        intro h19 tk19 G
        refine wpAny_execs_nil ?_
        exact ⟨rfl, v18, ws18, h19, _, o18, nw18, n18, rfl, G, fun q hq => hs18 _ (hs3 _ hq), hp18, by have : n18 ≤ n3 + 14 := hn18; omega, hw18, Nat.le_trans hl18 (by decide), hf18⟩
      · refine b_gen2 (i := 1) (pw_spec w 1 (by decide)) G (by walk_at "m:has") (g_law_paper_words w) (keep_law w).2.2.2.1 (by walk_at "m:at") ((hRm _).le (by omega)) rfl hp (by show n3 + 25 ≤ 900000; omega) (dealc G) ?_
        intro h18 tk18 o18 nw18 n18 v18 ws18 hs18 hn18 hp18 G hw18 hl18 hf18
        refine r_st (h := h18) G (by walk_at "m:setat") ?_
        intro h19 tk19 G
        refine wpAny_execs_nil ?_
        exact ⟨rfl, v18, ws18, h19, _, o18, nw18, n18, rfl, G, fun q hq => hs18 _ (hs3 _ hq), hp18, by have : n18 ≤ n3 + 25 := hn18; omega, hw18, Nat.le_trans hl18 (by decide), hf18⟩
    · obtain ⟨Dw, wv, wn, rfl, hDw, hwf⟩ := id hw
      refine ifF (by rfl) ?_
      refine wpAny_execs_nil ?_
      exact ⟨rfl, _, ws, h16, _, o3, nw3, n3, rfl, G, hs3, hp, by omega, hw, hl, hf⟩
  obtain ⟨rfl, v2, ws, h20, tk20, o4, nw4, n4, rfl, G, hs4, hp, hn4, hw, hl, hf⟩ := hs'
  refine wpAny_execs_cons ?_
  try k_fold
  refine wpAny_Assign_Name ?_
  refine Call_ ?_
  refine r_glo G (by walk_at "m:has") (g_law_bent w) ?_
  refine callWith_K G.bs.K (keep_law3 w).1 ?_
  refine args_cons ?_
  walk_at "m:loc"
  refine args_cons ?_
  walk_at "m:loc"
  refine args_nil ⟨G.K, ?_⟩
  obtain ⟨oF, Gc, hnf, back⟩ := G.call1
  refine bent_spec G.bs Gc ((hRm _).le (by omega)) rfl hp (by omega) hw hl hf ?_
  intro h21 tk21 o5 nw5 n5 v5 ws5 hs5 hn5 hp G5 hw5 hl5 hf5
  have G := back _ _ _ _ G5
  refine r_st (h := h21) G (by walk_at "m:setat") ?_
  intro h22 tk22 G
  refine wpAny_execs_cons ?_
  try k_fold
  refine PyProof.Rows.Assign_Tuple ?_
  refine Call_ ?_
  refine r_glo G (by walk_at "m:has") (g_law_laid w) ?_
  refine callWith_K G.bs.K (keep_law3 w).2.1 ?_
  refine args_cons ?_
  walk_at "m:loc"
  refine args_cons ?_
  walk_at "m:loc"
  refine args_nil ⟨G.K, ?_⟩
  obtain ⟨oF2, Gc2, hnf2, back2⟩ := G.call1
  refine laid_spec G.bs Gc2 ((hRm _).le (by omega)) rfl hp (by omega) hw5 hl5 hf5 ?_
  intro h23 tk23 o6 nw6 n6 text tx lead pcs T6 D6 vs6 nn6 hs6 hn6 hp G6 hT6 hpcs hT6m hD6m hbeg
  have G := back2 _ _ _ _ G6
  refine wpAny_assign_Tuple (s := S z11 h23 tk23) rfl ⟨_, G.G.get hT6m, rfl, 0, rfl⟩ rfl rfl fun h24 he24 => ?_
  have G := G.Ns_keep fun b o e => he24 b o (Nat.ne_of_lt (Heap.lt_size e)) e
  show wpAny _ _ (assignInOrder [assign (.Name "text" _) _, assign (.Name "begins" _) _] [.str text tx, .ref D6]) _ _ _
  refine assignInOrder_cons ?_
  refine wpAny_assign_Name ?_
  refine r_st (h := h24) G (by walk_at "m:setat") ?_
  intro h25 tk25 G
  refine assignInOrder_cons ?_
  refine wpAny_assign_Name ?_
  walk_at "m:st"
  intro h26 tk26 G
  refine assignInOrder_nil ?_
  have hw6 := hw5.mono hs6
  refine wpAny_execs_cons ?_
  try k_fold
  refine wpAny_Assign_Name ?_
  refine Call_ ?_
  refine r_glo G (by walk_at "m:has") (g_law_stop w) ?_
  refine callWith_K G.bs.K (keep_law3 w).2.2.1 ?_
  refine args_cons ?_
  walk_at "m:loc"
  refine args_cons ?_
  walk_at "m:loc"
  refine args_nil ⟨G.K, ?_⟩
  obtain ⟨oF3, Gc3, hnf3, back3⟩ := G.call
  refine stop_spec (kd := kd) G.bs Gc3 ((hRm _).le (by omega)) rfl hw6 hl5 hf5 ?_
  intro h27 tk27 sv nw7 r hs7 G7 hsv hrn
  have G := back3 _ _ _ G7
  refine r_st (h := h27) G (by walk_at "m:setat") ?_
  intro h28 tk28 G
  have hlenp : pcs.length = ws5.length := by rw [← hpcs, List.length_map]
  have htl : (toksOf pcs lead.length).length = ws5.length + 1 := by rw [toksOf_len, hlenp]
  have htw : wsOf (toksOf pcs lead.length) = ws5 ++ [.fin] := by rw [toksOf_ws, hpcs]
  have hbl := fa2_len hbeg
  rw [List.length_map, htl] at hbl
  have hbat : ∀ (q : Nat), q < ws5.length + 1 → ∃ u tq, (toksOf pcs lead.length)[q]? = some u ∧ vs6[q]? = some (.int (u.2 : Nat) tq):= fun q hq => by
    obtain ⟨a, b, ha, hb, tq, rfl⟩ := fa2_at hbeg (i := q) (by omega)
    rw [List.getElem?_map] at hb
    cases hu : (toksOf pcs lead.length)[q]? with
    | none => rw [hu] at hb; cases hb
    | some u =>
      rw [hu] at hb
      cases hb
      exact ⟨u, tq, rfl, ha⟩
  have hD7 := hs7 _ hD6m
  have hw7 := hw6.mono hs7
  refine wpAny_execs_cons ?_
  try k_fold
  refine wpAny_Assign_Name ?_
  try k_fold
  refine wpAny_mono (Q := fun dv s' => (∃ tk, s' = S z11 h28 tk) ∧ ((r = none ∧ dv = .none) ∨ Ex3 fun (q : Nat) (u : Wd × Nat) (td : Tok) => Al3 (r = some q) ((toksOf pcs lead.length)[q]? = some u) (dv = .int (u.2 : Nat) td))) ?_ (fun dv s' hdv => ?_) (fun _ _ x => x)
  try k_fold
  · refine wpAny_IfExp ?_
    refine wpAny_isTrue_Compare1 ?_
    walk_at "m:loc"
    refine wpAny_Constant_none ?_
    refine is_none_gen ?_
    refine wpAny_truthy_bool ?_
    rcases hsv with ⟨hr, rfl⟩ | ⟨q, tq, hr, rfl⟩
    · refine ifT (by rfl) ?_
      refine wpAny_Constant_none ?_
      exact ⟨⟨_, rfl⟩, .inl ⟨hr, rfl⟩⟩
    · refine ifF (by rfl) ?_
      have hql := rn_lt hrn q hr
      simp at hql
      obtain ⟨u, tb2, hu, hvb⟩ := hbat q hql
      refine Subscript_ ?_
      walk_at "m:loc"
      walk_at "m:loc"
      refine r_item_list (G.G.get hD7) (by omega) (by omega) (v := .int (u.2 : Nat) tb2) (by rw [Int.toNat_natCast]; exact hvb) ?_
      exact ⟨⟨_, rfl⟩, .inr ⟨q, u, tb2, hr, hu, rfl⟩⟩
  obtain ⟨⟨tk29, rfl⟩, hdor⟩ := hdv
  try k_fold
  refine r_st (h := h28) G (by walk_at "m:setat") ?_
  intro h30 tk30 G
  obtain ⟨Dw, wv, wn, rfl, hDw, hwf⟩ := id hw7
  refine wpAny_execs_cons ?_
  try k_fold
  try k_fold
  refine wpAny_mono (Q := fun f s' => f = .next ∧ Ex3 fun dv2 h tk => Al4 (s' = S z11 h tk) (Gs [some (.ref sl), some (.ref D), some (.int (i : Nat) t), some (.str kd.str tt), some (.ref Dw), some (.str text tx), some (.ref D6), some sv, some dv2, k8] ((D, o6) :: (I, io) :: own) nw7 h) ((Wd.lb ∈ ws5 → ∃ (p : Nat) (td : Tok), lbAt pcs lead.length = some p ∧ dv2 = .int (p : Nat) td)) ((Wd.lb ∉ ws5 → (r = none ∧ dv2 = .none) ∨ Ex3 fun (q : Nat) (u : Wd × Nat) (td : Tok) => Al3 (r = some q) ((toksOf pcs lead.length)[q]? = some u) (dv2 = .int (u.2 : Nat) td)))) ?_ (fun f s' hs' => ?_) (fun _ _ x => x)
  try k_fold
  · refine wpAny_If ?_
    try k_fold
    refine wpAny_isTrue_Compare1 ?_
    refine r_strN ?_
    walk_at "m:loc"
    refine in_list_strs (s := S z11 h30 _) (ys := ws5.map Wd.str) ⟨_, G.G.get hDw, rfl, wn, rfl⟩ (fa2_strs hwf) ?_
    refine wpAny_truthy_bool ?_
    rw [show ((ws5.map Wd.str).any fun y => y == ("[" : Str)) = ws5.contains .lb from any_str (ws := ws5) (x := Wd.lb)]
    refine ifs (fun hb => ?_) (fun hb => ?_)
    · have hm : Wd.lb ∈ ws5 := by simpa using hb
      have hix : ws5.idxOf .lb < ws5.length := List.idxOf_lt_length_iff.mpr hm
      obtain ⟨u, tb2, hu, hvb⟩ := hbat (ws5.idxOf .lb) (by omega)
      refine wpAny_execs_cons ?_
      try k_fold
      refine wpAny_Assign_Name ?_
      refine Subscript_ ?_
      walk_at "m:loc"
      refine mcall rfl ?_
      walk_at "m:loc"
      refine getMethod_list_of (s := S z11 h30 _) PySem.F.slot_list_index PySem.F.type_list_index (items := wv.toArray) ⟨_, G.G.get hDw, rfl, wn, rfl⟩ ⟨_, G.G.get hDw, rfl⟩ ?_
      refine cw_b ?_
      refine args_cons ?_
      refine r_strN ?_
      refine args_nil ?_
      refine words_index (G.G.get hDw) hwf hm (by omega) ?_
      intro t33 tk33
      refine r_item_list (h := h30) (G.G.get hD7) (by omega) (by omega) (v := .int (u.2 : Nat) tb2) (by rw [Int.toNat_natCast]; exact hvb) ?_
      refine r_st (h := h30) G (by walk_at "m:setat") ?_
      intro h34 tk34 G
      refine wpAny_execs_nil ?_
      refine ⟨rfl, _, h34, _, rfl, G, fun _ => ⟨u.2, tb2, ?_, rfl⟩, fun h => absurd hm h⟩
      rw [lbAt_index pcs lead.length (ws5.idxOf .lb) (by rw [hpcs, List.getElem?_eq_getElem hix, List.getElem_idxOf hix]) (fun q hq e => by
        rw [hpcs] at e
        have hql : q < ws5.length := by omega
        have := List.not_of_lt_findIdx (p := (· == Wd.lb)) (xs := ws5) (i := q) hq
        rw [List.getElem?_eq_getElem hql] at e
        rw [Option.some.inj e] at this
        simp at this)]
      have hmap : ((toksOf pcs lead.length).map (·.2))[ws5.idxOf .lb]? = some u.2 := by rw [List.getElem?_map, hu]; rfl
      rw [toks_begs, List.getElem?_append_left (by rw [begs_len, hlenp]; exact hix)] at hmap
      exact hmap
    · have hm : Wd.lb ∉ ws5 := by simpa using hb
      refine wpAny_execs_nil ?_
      exact ⟨rfl, _, h30, _, rfl, G, fun h => absurd h hm, fun _ => hdor⟩
  obtain ⟨rfl, dv2, h35, tk35, rfl, G, hd1, hd2⟩ := hs'
  refine wpAny_execs_cons ?_
  try k_fold
  refine wpAny_Assign_Name ?_
  refine Call_ ?_
  refine r_glo G (by walk_at "m:has") (g_law_spot w) ?_
  refine callWith_K G.bs.K (keep_law3 w).2.2.2 ?_
  refine args_cons ?_
  walk_at "m:loc"
  refine args_cons ?_
  walk_at "m:loc"
  refine args_nil ⟨G.K, ?_⟩
  obtain ⟨oL, hnL, BL, GL, backL⟩ := rebase G
  refine lspot_spec (kd := kd) (fr := [(s₁.heap.objs.size, oL)]) hT6 (by omega) BL GL ((hRm _).le (by omega)) ⟨Around.frames_deeper rfl, ⟨(by intro q; cases q), rfl, trivial⟩, fun p hp => ?_, rfl⟩ ?_
  · rw [List.mem_singleton.mp hp]; exact ⟨.head _, hnL⟩
  intro z36 h36 tk36 v36 fr36 hS36 hrow36 hk36 hT36
  cases hS36 with
  | @cons _ p36 _ _ f36 hS36 =>
  cases hS36
  obtain ⟨pe36, hsl36⟩ := f36
  have hr36 := hrow36 _ (.head _)
  rw [pe36] at hr36
  have G := backL h36 p36.2 hsl36 hr36 hk36
  refine r_st (h := h36) G (by walk_at "m:setat") ?_
  intro h37 tk37 G
  refine wpAny_execs_cons ?_
  try k_fold
  refine wpAny_If ?_
  try k_fold
  refine wpAny_isTrue_Compare1 ?_
  walk_at "m:loc"
  walk_at "m:loc"
  have hend : ∀ A : Around, wpAny (model PG w) A (compareOp .NotEq v36 dv2) (fun v s => v = .bool false ∧ s = S z36 h37 tk37) (fun _ _ => False) (S z36 h37 tk37) := fun A => by
    by_cases hm : Wd.lb ∈ ws5
    · obtain ⟨p, td, hlb, rfl⟩ := hd1 hm
      obtain ⟨tq, rfl⟩ := hT36.1 p hlb
      refine PyProof.Rows.ne_int ?_
      exact ⟨by simp, rfl⟩
    · have hlb : lbAt pcs lead.length = none := lbAt_none_of pcs _ fun p hp e => hm (by rw [← hpcs]; exact List.mem_map.mpr ⟨p, hp, e⟩)
      have h1 := hT36.2 hlb
      rw [htw] at h1
      rcases h1 with ⟨rfl, hr1⟩ | ⟨q1, u1, tq1, hu1, hr1, rfl⟩
      · have hrr := hrn.det hr1
        rcases hd2 hm with ⟨_, rfl⟩ | ⟨q, u, td, hq, _, _⟩
        · refine PySem.EqNone.ne_none_none ?_
          exact ⟨rfl, rfl⟩
        · rw [hrr] at hq; cases hq
      · have hrr := hrn.det hr1
        rcases hd2 hm with ⟨hq, _⟩ | ⟨q, u, td, hq, hu, rfl⟩
        · rw [hrr] at hq; cases hq
        · rw [hrr] at hq
          cases hq
          rw [hu1] at hu
          cases hu
          refine PyProof.Rows.ne_int ?_
          exact ⟨by simp, rfl⟩
  try k_fold
  refine wpAny_mono (hend _) (fun v s hv => ?_) (fun _ _ h => h.elim)
  obtain ⟨rfl, rfl⟩ := hv
  refine wpAny_truthy_bool ?_
  refine ifF (by rfl) ?_
  refine wpAny_execs_nil ?_
  refine wpAny_execs_nil ?_
  have G := G.perm (mu' := own ++ [(I, io), (D, o6)]) (((List.Perm.swap _ _ _).trans (List.perm_append_comm (l₁ := [(I, io), (D, o6)]) (l₂ := own))))
  refine ⟨rfl, z36, _, _, nw7, h37, tk37, rfl, ⟨o6, n6, _, _, _, _, _, _, _, rfl, rfl, hp.mono hs7, by omega, ?_⟩, G⟩
  exact hs7 _ (hs6 _ (hs5 _ (hs4 _ hT2)))⟩
end
end Mine
theorem PySem.Challenge.cw_pq0119_01_holds : PySem.Challenge.rw_pq0119_01.Holds :=
  Mine.law_holds
